import PyProof.Rows.All
import Wide.All
import OpenK.AllK
import Wide.FinOn
import KE.KNestM
import KE.KPairAssign
import KE.KPairComp
import PyProof.ExcInit
import PyProof.InstStoreFacts
import Lean
import PySem.Challenge.RW_pq0817_01
set_option maxHeartbeats 0
set_option maxRecDepth 100000
set_option linter.all false
set_option tactic.hygienic false
set_option genCtorIdx false
set_option genInjectivity false
set_option genSizeOf false
set_option genSizeOfSpec false
set_option bootstrap.genMatcherCode false
set_option compiler.extract_closed false
set_option backward.match.sparseCases false
namespace Mine
local macro_rules (kind:=Lean.Parser.Command.mutual)|s=>if s[1][0][0].getArgs.size>6 then Lean.Macro.throwUnsupported else return s[1].rewriteBottomUp λx=>let x:=x.setInfo .none;if x[1][0].getAtomVal.length % 7>2 && x[0].getArgs.size>6 then x.setArg 0 (x[0].setArg 4 x[1]) else x
namespace Internal
mutual
open Option renaming some->H,none->T,isNone_iff_eq_none->Sn,isSome_iff_exists->pV
open List renaming mem_map->sQ,range->ib,map_cons->dQ,all_eq_true->eU,mem_cons->bF,mem_singleton->bW,lookup_cons->fI,length_eq_zero_iff->sV,append_nil->hz,size_toArray->gJ,filterMap_cons->xx,length_take->pK,length_drop->Ea,any_cons->pN,length->Eb,contains_iff_mem->xC,mem_of_getElem?->cD,nodup_cons->gd,isEmpty_iff->lg,dropLast_eq_take->Sk,all_cons->xH,any_eq_false->Sl,nodup_append->ml,zip_cons_cons->xK,drop_eq_getElem_cons->xM,getElem?_eq_getElem->iQ,length_map->cb,reverse_cons->Sq,mem_filterMap->Sr,replicate->EB,getElem?_map->hD,drop_length->Sv,forIn_nil->xP,forIn_cons->xQ,cons_append->tn,append_assoc->hE,mem_map_of_mem->mm,take_append_drop->nH,zip_append->EF,of_mem_zip->EG,mem_of_mem_take->xR,map_fst_zip->EH,take_of_length_le->EI,nil_append->nI,length_append->eJ,getElem?_append_right->tq,zip_nil_right->SA,drop_left->EL,mem_append_left->gg,mem_append_right->eK,not_mem_nil->xS,contains_cons->pY,contains_nil->SJ,toArray->S4,map_inj_left->S6,drop_drop->Fd,map_append->jn,mem_append->gh,mem_cons_of_mem->dz,sublist_cons_self->nP,countP_eq_zero->S9,countP_cons_of_pos->Ta,nodup_nil->Tc,countP_cons->tC,length_cons->fM,perm_middle->ij,getElem?_eq_none->Fh,take->To,map_take->x_,map_drop->Tr,mem_of_mem_drop->Fo,countP_append->ya,Perm->lr,perm_iff_count->Fq,count_cons->Fs,range'->Ft,getElem?_append_left->Fu,range_eq_range'->Ts,map_nil->Tt
open Eq renaming symm->aW,mp->xq,mpr->aj
open Option.some renaming inj->bf,injEq->Uc
open Prod.mk renaming inj->xm
open List.cons renaming inj->sR,injEq->TV
open Except renaming ok->Rv
open Except.ok renaming inj->TU
open Bool renaming false->N,true->I,noConfusion->DR,false_or->DZ,false_and->RJ,and_eq_true->eI,or_eq_false_iff->D_,and_false->tc,or_eq_true->pP,false_ne_true->jY,false_eq_true->tm,or_false->xT,not_eq_true'->EU,or_true->E3,or_eq_true_iff->S3,and_eq_true_iff->Fb
open Nat renaming le_of_add_le_add_right->DS,le_trans->ai,add_le_add_left->gZ,lt_irrefl->jT,lt_of_lt_of_le->bE,beq->cC,noConfusion->Rw,le_refl->aT,not_lt->de,ne_of_gt->dN,ne_of_lt->cA,succ_le_succ->hy,zero_le->jV,lt_of_le_of_lt->dH,add_le_add_right->dt,mul_le_mul_left->eA,min_le_left->D1,min_le_right->xu,le_zero->D7,le_of_add_right_le->dg,sub_le_of_le_add->RX,le_succ->dX,le_add_right->bZ,le_succ_of_le->jX,le_of_eq->bh,add_le_add->bK,min_eq_left->Em,le_of_lt->ig,zero_add->th,eq_of_beq_eq_true->hC,lt_succ_self->fw,add_right_comm->tp,add_comm->Sy,add_sub_cancel->Sz,add_assoc->SD,le_of_succ_le->nJ,lt_succ_of_lt->tv,succ_pos->mq,not_lt_zero->S1,le_add_left->ab,lt_of_not_le->nM,ble->ih,le_of_ble_eq_true->fL,lt_succ_of_le->Fc,add_sub_of_le->S7,le_of_lt_succ->tw,reduceLeDiff->Fe,le_of_succ_le_succ->S_,not_le->tx,le_sub_of_add_le->Td,add_le_of_le_sub->Te,ble_eq->Tf,le_of_add_left_le->qc,succ_ne_zero->tE,lt_or_ge->qd,lt_trans->Tn,mod_lt->Tq,le_antisymm->Tv,le_of_sub_eq_zero->Tw
open Int renaming lt_of_lt_of_le->la,le_trans->fp,add_le_add_left->DT,lt_of_le_of_lt->pJ,ofNat_le->dO,sub_zero->RU,ofNat_lt->jk,not_lt->jl,natCast_nonneg->hA,not_le->pM,neg_le_neg->RY,toNat_of_nonneg->sZ,le_antisymm->Su,le_of_lt->SK,mul_one->nN,add_le_add->nO,le_add_of_nonneg_right->Ff,sub_eq_zero->Tg,sub_pos->Th,ne_of_lt->Tj,toNat->Fi,fmod_eq_emod_of_nonneg->tF,emod_nonneg->Tp,ofNat_ne_zero->Fj
open PySem renaming Str->ae,Addr->Z,Value->ah,NameKind->fq,Stmt->bM,Scope->ia,CmpOp->sS,IntMulOk->bg,Const->md,Expr->aD,Keyword->pG,Arguments->DV,foldedForSure->DW,constantsAlone->DX,ExceptHandler->DY,Obj->cT,sizeLine->dr,World->aM,sysModules->ie,strKind->gH,intKind->pH,DictEntry->jU,Heap->aX,Env->aA,mainGlobals->ha,builtinsNs->jj,rawInt->gI,Around->bu,Shared->az,wpAny->av,model->ak,eval->cP,execs->iM,notedBy->pI,codeAny->gc,call->dG,binaryOp->sU,concat_meets->RC,noFill_tuple_add->RD,seq_tuple_add->RE,cLine->sW,truthy->D2,wpAny_truthy_bool->D3,valueAt->fJ,compareOp->iN,wpAny_notIn_of->RQ,wpAny_loadName_local->RR,wpAny_loadName_cell->RS,starEach->eV,spliced->sX,backTo->fK,wpAny_items_nil->D4,wpAny_items_cons->xv,wpAny_mono->ej,isTrue->mf,standAt->D5,wpAny_bind->aF,wpAny_field->iO,wpAny_pure->bp,getItem->D8,wpAny_holding->xy,wpAny_newObj_type->pL,slot_list_getitem->R0,wpAny_Constant_str->R1,wpAny_UnaryOp->R3,wpAny_evalPart_none->R4,wpAny_loadPart->mi,wpAny_askSetting->Ee,wpAny_mkText->Ef,aRefKeyMayBeTheName_at->Eg,wpAny_updatePart->Eh,wpAny_lookBehind->R8,pastItsLine_dict->R9,setAttr->xE,stored->Ei,wpAny_setItem_pairs->Sa,getMethod->pO,typeOf->td,getMethod_builtin->xG,call_meets->El,KeyKind->Sg,call_meetsIn->Si,callWith->nG,wpAny_standAt->tg,merged->xJ,evalPairs->Ep,pairTrees->Er,storeName->Es,assignInOrder->lh,bindName->Et,assignEach->ti,assign->fv,wpAny_assign_Name->xN,swapsWith->Ex,wpAny_Expr_any->Ey,wpAny_Return_some->So,wpAny_Assign_Name->Sp,swappedStores->Ez,wpAny_Assign_stores->EA,wpAny_setField->tj,noteFrame->EE,pyIter->pS,wpAny_execs_nil->pT,Result->j_,codeAny_of_tree->Sw,cellsFrom->lj,pushCells->lk,newFunctionEnv->tk,bindArgs->EJ,wpAny_ite_false->EK,FuncData->pU,pushCells_keeps->EN,cellsFrom_ok->SG,mem_of_lookup->EO,recursionLimit->SI,wpAny_call->mn,closureFor->EY,relabel->ts,compEnvC->nK,newList->EZ,codeAny_mono->SM,wpAny_comprehension_free->SN,isInstance->E0,GenState->E1,OsState->E2,ExcBaseFacts->xV,checkBuiltinCall->SS,wpAny_loadPart_at->xW,wpAny_isSubtype_exc->E4,wpAny_madeBy_exc->SU,wpAt_bind->SW,wpAt_of_wpAny->SX,codeAny_call_builtin->SY,refuseLoop_ref->S0,opaqueClassAbove->E7,wpAny_execs_cons->pZ,bootBuiltins->E8,Params->xY,intBits_le_64->S8
open Inhabited renaming default->bD
open PySem.Str renaming ofString->U,ofString_eq_toList->Ry
open PySem.PyData renaming strOk->DU,canLayAll0->RK,depthAll->D0,eqv->jW,eqvAll->RL,keyHash->dY
open Pure renaming pure->aS
open Decidable renaming decide->aP
open UInt8 renaming ofNat->me
open PySem.Value renaming ref->ic,type->cX,isStrOf->RM,str->R5,isStr->R6,none->jZ,builtin->dR
open False renaming elim->Rx
open Char renaming toNat->xn
open LawfulBEq renaming eq_of_beq->sT
open And renaming left->gG,right->Rz
open PySem.W renaming instObj->fs,dictOf->ft,kla_obj->xo,tabObj->xp,lookIn->s_,Frag->aU,findIn->cY,hasDictIn->nF,plainOver->xB,typeIn->iP,keepIn->jm,takerIn->Ec,putName_dict->mh,looks_clsIn->ta,set_plain->xF,Looks->hb,callWith_of->xI,kas_attr->xO,makesIn->EP,looks_findIn->tr,bind_fn->ER,plainGet->ES,mroIn->pW,specialIn->pX,takesIn->ET,kia_one->lp,looks_typeIn->SP,clsIn->nL,looks_mroIn->E5,hideAll_get->p_,hideAll_none->S5,WData->qa,WellAll->qb,of_hideAll->E9
open PySem.Heap renaming lt_size->g_,get?_push_of_some->nE,get?_push_size->RB
open Ne renaming symm->fu
open PySem.Value.type renaming inj->RA
open PySem.F renaming slot_tuple_add->RF,entry_tuple_add->RG,args_tuple_add_2->RH,slot_list_append->Sb,slot_list_insert->Sd,slot_list_pop->Se,plainAttrs_dict->Ej,slot_dict_get->te,type_dict_get->Ek,entry_dict_get->Sj,excBase_Exception->S2
open PySem.Builtin renaming divisionGoesByPylong->RI
open PySem.Reads renaming tuple->xr,list->xt
open PySem.SeqAt renaming EqAt->RN,compareEq_reads->RO,compareNe_reads->RP
open PySem.SeqAt.RcAt renaming tuples->TX,lists->TZ,lists_lengths->T2
open PySem.SeqAt.RcNeAt renaming tuples->TY,lists->T1,lists_lengths->T3
open PySem.Builtin.Slice renaming sliceApplied->T4,sliceAdjust->D6,slicePlaces->xw
open PyProof.Rows renaming slicePart_none->RT,slot_tuple_getitem->sY,subscriptTail->RZ,tail_any->mg,assignInOrder_nil->Eu,assignInOrder_cons->Ew,len_list->T_
open Array renaming getElem?_eq_getElem->RW,length_toList->D9,any_toList->xD,getElem?_eq_some_iff->pR
open PySem.Builtin.Tuple renaming tupleItemsOf->T5,tupleExact->xA
open PySem.W.FB renaming slot_bytes_getitem->T6
open PySem.Heap.IsSliceOf renaming new->T7
open PySem.DictEntry renaming refKey->R7
open PySem.Obj renaming putName->hB,mapSeq->mj,data_mapFields->EC,mapFields->gf,isFreed_of_fields->ED
open PySem.IsL renaming update->R_
open PySem.Builtin.List renaming listFitsIndex->Sf
open PySem.Calls renaming evalArgs_plain->En
open PySem.W.Looks renaming ld->Eo,of_pure->xX
open PySem.Flow renaming next->pQ
open PySem.EntryCells renaming newEntry->T8
open PySem.Builtin.Range renaming rangeSize->Ss
open PySem.NameKind renaming cell->Sx,free->EW
open PySem.Around renaming deeper->EM,under->SE
open PySem.Code renaming builtin->ll,quiet_builtin->SQ
open List.Pairwise renaming nil->SH
open PySem.Value.ref renaming injEq->T9
open ForInStep renaming yield->Ua
open LawfulMonad renaming pure_bind->xU
open PySem.Builtin.ObjectAttr renaming storeInDict->Ub,storeInOwnDict->E6
open PySem.W.WData renaming bool->E_,list->xZ
open Classical renaming byContradiction->Ud,typeDecidableEq->Fp
open Prod renaming fst->hG,snd->mr
open List.Sublist renaming countP_le->Tb,cons₂->tD,append_left->Ti,cons_cons->Ue
open List.Perm renaming swap->Fg,cons->mu,append_left->Tu
open Int.ofNat renaming inj->lq
section
open PySem
theorem aL {b:Prop}(h:p/\q)(k:p->q->b):b:=k h.1 h.2
theorem dI {b:Prop}(h:p/\q/\r)(k:p->q->r->b):b:=k h.1 h.2.1 h.2.2
theorem hJ {b:Prop}(h:p/\q/\r/\s)(k:p->q->r->s->b):b:=k h.1 h.2.1 h.2.2.1 h.2.2.2
theorem iw {b:Prop}(h:p/\q/\r/\s/\t)(k:p->q->r->s->t->b):b:=k h.1 h.2.1 h.2.2.1 h.2.2.2.1 h.2.2.2.2
theorem aC {a:Sort u}{p:a->Prop}{b:Prop}(h:∃x,p x)(k:∀x,p x->b):b:=h.elim λx h=>k x h
theorem aK {a:Sort u}{p q:a->Prop}{b:Prop}(h:∃x,p x/\q x)(k:∀x,p x->q x->b):b:=h.elim λx h=>k x h.1 h.2
theorem cK {a:Sort u}{p q r:a->Prop}{b:Prop}(h:∃x,p x/\q x/\r x)(k:∀x,p x->q x->r x->b):b:=h.elim λx h=>k x h.1 h.2.1 h.2.2
theorem ly {a:Sort u}{p q r s:a->Prop}{b:Prop}(h:∃x,p x/\q x/\r x/\s x)(k:∀x,p x->q x->r x->s x->b):b:=h.elim λx h=>k x h.1 h.2.1 h.2.2.1 h.2.2.2
theorem dx {a:Sort u}{c:Sort v}{p:a->c->Prop}{b:Prop}(h:∃x y,p x y)(k:∀x y,p x y->b):b:=h.elim λx h=>h.elim λy h=>k x y h
theorem hg {a:Sort u}{c:Sort v}{p q:a->c->Prop}{b:Prop}(h:∃x y,p x y/\q x y)(k:∀x y,p x y->q x y->b):b:=h.elim λx h=>h.elim λy h=>k x y h.1 h.2
theorem du {a:Sort u}{c:Sort v}{p q r:a->c->Prop}{b:Prop}(h:∃x y,p x y/\q x y/\r x y)(k:∀x y,p x y->q x y->r x y->b):b:=h.elim λx h=>h.elim λy h=>k x y h.1 h.2.1 h.2.2
theorem jB {a:Sort u}{c:Sort v}{p q r s:a->c->Prop}{b:Prop}(h:∃x y,p x y/\q x y/\r x y/\s x y)(k:∀x y,p x y->q x y->r x y->s x y->b):b:=h.elim λx h=>h.elim λy h=>k x y h.1 h.2.1 h.2.2.1 h.2.2.2
theorem fe {a:Sort u}{c:Sort v}{p q r s t:a->c->Prop}{b:Prop}(h:∃x y,p x y/\q x y/\r x y/\s x y/\t x y)(k:∀x y,p x y->q x y->r x y->s x y->t x y->b):b:=h.elim λx h=>h.elim λy h=>k x y h.1 h.2.1 h.2.2.1 h.2.2.2.1 h.2.2.2.2
theorem mZ {a:Sort u}{c:Sort v}{d:Sort w}{p q:a->c->d->Prop}{b:Prop}(h:∃x y z,p x y z/\q x y z)(k:∀x y z,p x y z->q x y z->b):b:=h.elim λx h=>h.elim λy h=>h.elim λz h=>k x y z h.1 h.2
theorem kv {a:Sort u}{c:Sort v}{d:Sort w}{p q r:a->c->d->Prop}{b:Prop}(h:∃x y z,p x y z/\q x y z/\r x y z)(k:∀x y z,p x y z->q x y z->r x y z->b):b:=h.elim λx h=>h.elim λy h=>h.elim λz h=>k x y z h.1 h.2.1 h.2.2
theorem mL {a:Sort u}{c:Sort v}{d:Sort w}{p q r s:a->c->d->Prop}{b:Prop}(h:∃x y z,p x y z/\q x y z/\r x y z/\s x y z)(k:∀x y z,p x y z->q x y z->r x y z->s x y z->b):b:=h.elim λx h=>h.elim λy h=>h.elim λz h=>k x y z h.1 h.2.1 h.2.2.1 h.2.2.2
theorem zb {c:Type u}{d:Type v}{o:Option c}{f:c->Option d}{r:d}{b:Prop}(h:o.bind f=H r)(k:∀a,o=H a->f a=H r->b):b:=aK (Option.bind_eq_some_iff.mp h) k
theorem zm {c:Type u}{d:Type v}{o:Option c}{f:c->d}{r:d}{b:Prop}(h:o.map f=H r)(k:∀a,o=H a->f a=r->b):b:=aK (Option.map_eq_some_iff.mp h) k
theorem zl {c:Type u}{d:Type v}{l:List c}{f:c->d}{r:d}{b:Prop}(h:r∈l.map f)(k:∀a,a∈l->f a=r->b):b:=aK (sQ.mp h) k
@[elab_as_elim] theorem rT {c:Sort u}{p:c->Prop}{a b:c}(h:b=a)(m:p b):p a:=h▸m
@[elab_as_elim] theorem J {c:Sort u}{p:c->Prop}{a b:c}(h:a=b)(m:p b):p a:=aW h▸m
theorem aG {c:Type u}{a b:c}{P:Prop}(h:H a=H b)(k:a=b->P):P:=k<|bf h
theorem kN {e:Type u}{f:Type v}{a c:e}{b d:f}{P:Prop}(h:H (a,b)=H (c,d))(k:a=c->b=d->P):P:=k (xm<|bf h).1 (xm<|bf h).2
theorem jL {e:Type u}{f:Type v}{a c:e}{b d:f}{P:Prop}(h:(a,b)=(c,d))(k:a=c->b=d->P):P:=k (xm h).1 (xm h).2
theorem O0 {e:Type u}{a c:e}{b d:List e}{P:Prop}(h:a::b=c::d)(k:a=c->b=d->P):P:=k (sR h).1 (sR h).2
theorem nv {i:Type u}{j:Type v}{l:Type w}{a c:i}{b d:j}{e f:l}{P:Prop}(h:H (a,b,e)=H (c,d,f))(k:a=c->b=d->e=f->P):P:=kN h λm g=>jL g λg n=>k m g n
theorem Tx {c:Type u}{d:Type v}{a b:c}{P:Prop}(h:(Rv a:Except d c)=Rv b)(k:a=b->P):P:=k<|TU h
theorem HA {c:Type u}{a b:c}{P:Prop}(h:H a=H b)(k:b=a->P):P:=k (bf h).symm
theorem TS {e:Type u}{f:Type v}{a c:e}{b d:f}{P:Prop}(h:H (a,b)=H (c,d))(k:c=a->d=b->P):P:=kN h λx y=>k x.symm y.symm
theorem TG {e:Type u}{f:Type v}{a c:e}{b d:f}{P:Prop}(h:(a,b)=(c,d))(k:c=a->d=b->P):P:=jL h λx y=>k x.symm y.symm
theorem TL {e:Type u}{a c:e}{b d:List e}{P:Prop}(h:a::b=c::d)(k:c=a->d=b->P):P:=O0 h λx y=>k x.symm y.symm
theorem TM {g:Type u}{i:Type v}{j:Type w}{a c:g}{b d:i}{e f:j}{P:Prop}(h:H (a,b,e)=H (c,d,f))(k:c=a->d=b->f=e->P):P:=nv h λx y z=>k x.symm y.symm z.symm
theorem ff {P:Prop}(h:N=I):P:=DR h
theorem ao {a:Type}{x:a}{P:Prop}(h:T=H x):P:=nomatch h
theorem bl (h:(a && b)=I):a=I:=by
 cases a with
 |true=>rfl
 |false=>exact h
theorem tf {P:Prop} (b)(h:b=I->P)(k:b=N->P):P:=by
 cases b with
 |true=>exact h rfl
 |false=>exact k rfl
theorem br (h:(a && b)=I):b=I:=by
 cases a with
 |true=>exact h
 |false=>exact ff h
theorem ay {a b x y:Nat}(h:a<=b)(e:x+b<=y+a):x<=y:=DS<|ai e<|gZ h y
theorem uG (h:a<=b)(e:b+1<=a):False:=jT _<|bE e h
theorem TH {a b:Int}(h:a<=b)(e:b+1<=a):False:=Int.lt_irrefl _<|la e h
theorem mG {a b x y:Nat}(h:a=b)(e:x+b=y+a):x=y:=Nat.add_right_cancel<|h▸e
theorem fx {a b x y:Int}(h:a<=b)(e:x+b<=y+a):x<=y:=Int.le_of_add_le_add_right<|fp e<|DT h y
theorem TK {a b x y:Int}(h:a=b)(e:x+b=y+a):x=y:=(Int.add_left_inj a).mp<|h▸e
theorem TQ {e:Type} [Add e]{a b c d:e}(h:a=b)(k:c=d):a+c=b+d:=h▸k▸rfl
def one {a:Type}:List a->Option a
 |[]=>T
 |v::r=>match r with
  |[]=>H v
  |_::_=>T
theorem hP {a:List b}{v:b}(h:one a=H v):a=[v]:=by
 cases a with
 |nil=>exact ao h
 |cons u r=>cases r with
  |nil=>exact congrArg (·::[])<|bf h
  |cons=>exact ao h
set_option genCtorIdx true in
inductive E where
 |none
 |bool (b:Bool)
 |int (i:Int)
 |str (s:ae)
 |dk (b:Array UInt8)
 |tup (a:List E)
 |lst (a:List E)
 |inst (c:Z) (d:List<|ae×E)
 |aa (e:List<|ae×E)
 |ag (v:ah)
 |bR (k:Nat) (f:List<|ae×E)
 |loc (l:Nat)
deriving Inhabited
set_option genCtorIdx true in
inductive au where
 |lst (b:List E)
 |inst (c:Z) (d:List<|ae×E)
 |aa (a:List<|ae×E)
 |tab (a:List<|Int×E)
deriving Inhabited
def au.tree:au->E
 |.lst a=>.lst a
 |.inst c b=>.inst c b
 |.aa d=>.aa d
 |.tab _=>.none
def au.len:au->Nat
 |.lst b=>b.length
 |.inst _ c=>c.length
 |.aa a=>a.length
 |.tab a=>a.length
structure R where
 get:Nat->Option au
 next:Nat
def R.set (a:R)(l:Nat)(o:au):R:={a with get:=λx=>if x=l then H o else a.get x}
def R.free (a:R)(l:Nat):R:={a with get:=λx=>if x=l then T else a.get x}
def R.alloc (a:R)(o:au):R:={get:=λx=>if x=a.next then H o else a.get x,next:=a.next+1}
def R.wipe (a:R):R:={get:=λ_=>T,next:=a.next}
inductive ek where
 |t
 |p (c:Prop)
def ek.and:ek->ek->ek
 |.t,d=>d
 |.p c,d=>match d with
  |.t=>.p c
  |.p d=>.p<|c/\d
def ek.on (c:ek)(P:Prop):Prop:=match c with
 |.t=>P
 |.p c=>c/\P
def ek.ok:ek->Prop
 |.t=>True
 |.p c=>c
inductive aY (b:Type) where
 |stuck
 |ok (c:ek) (a:b)
def aY.bind (r:aY e)(f:e->aY g):aY g:=match r with
 |.stuck=>.stuck
 |.ok c a=>match f a with
  |.stuck=>.stuck
  |.ok d b=>.ok (c.and d) b
noncomputable instance:Monad aY where
 pure a:=.ok .t a
 bind:=aY.bind
def ask (c:Prop):aY Unit:=.ok (.p c) ()
def oo (x:Option b):aY b:=match x with|H a=>.ok .t a|T=>.stuck
def gM (b:Bool):aY Unit:=if b then .ok .t () else .stuck
structure Y where
 vals:List<|ae×E
 own:Option<|ae×au
 scope:List<|ae×fq
 sealed:List ae
 depth:Nat
 tab:Option Z
def bc (x:ae)(v:E):List (ae×E)->List (ae×E)
 |[]=>[(x,v)]
 |(y,u)::r=>if y=x then (y,v)::r else (y,u)::bc x v r
def aI (x:ae):List (ae×E)->Option E
 |[]=>T
 |(y,u)::r=>if y=x then H u else aI x r
def eM (x:Int)(v:E):List (Int×E)->List (Int×E)
 |[]=>[(x,v)]
 |(y,u)::r=>if y=x then (y,v)::r else (y,u)::eM x v r
def cZ (x:Int):List (Int×E)->Option E
 |[]=>T
 |(y,u)::r=>if y=x then H u else cZ x r
theorem hT:aI x ((y,u)::r)=if y=x then H u else aI x r:=rfl
theorem ra:bc x v ((y,u)::r)=if y=x then (y,v)::r else (y,u)::bc x v r:=rfl
theorem OJ:∀{v},aI x a=H v->(x,v)∈a:=by
 induction a with
 |nil=>
  intro _ h
  exact ao h
 |cons b r c=>
  obtain ⟨y,u⟩:=b
  intro v h
  by_cases e:y=x
  .exact e▸(bf<|(if_pos e).symm.trans h)▸.head _
  .exact .tail _<|c<|(if_neg e).symm.trans h
theorem kS (x y) (v):∀a,aI y (bc x v a)=if x=y then H v else aI y a
 |[]=>rfl
 |(z,u)::r=>by
  refine J ra ?_
  by_cases e:z=x
  .refine J (if_pos e) ?_;refine J hT ?_;refine J hT ?_;refine J e ?_
   by_cases q:x=y
   .refine J (if_pos q) ?_;exact J (if_pos q) rfl
   .refine J (if_neg q) ?_;refine J (if_neg q) ?_;exact J (if_neg q) rfl
  .refine J (if_neg e) ?_;refine J hT ?_;refine J hT ?_;refine J (kS x y v r) ?_
   by_cases q:z=y
   .refine J (if_pos q) ?_;refine J (if_pos q) ?_;exact J (if_neg λh=>e<|q.trans h.symm) rfl
   .refine J (if_neg q) ?_;exact J (if_neg q) rfl
theorem ni:cZ x ((y,u)::r)=if y=x then H u else cZ x r:=rfl
theorem vA:eM x v ((y,u)::r)=if y=x then (y,v)::r else (y,u)::eM x v r:=rfl
inductive Fl where
 |next
 |ret (v:E)
inductive RV where
 |val (v:E)
 |fresh (o:au)
def Pos.key (p:Pos):Nat:=p.line*1000000+p.col*1000+p.endCol
def hv (n:Nat):List Nat->Bool
 |[]=>N
 |x::r=>cC n x||hv n r
theorem Nw:hv n (x::r)=(cC n x||hv n r):=rfl
theorem Lo:hv n []=N:=rfl
def Pos.is (p:Pos)(l:List Nat):Bool:=hv (Pos.key p) l
def iu:List Nat:=[290012014,318012102,347012014,738012014,759010022,765012014,775012014,795011013,158021023,159023025,451020022,457026028,458021023,459021023,684019040,713011027,733012071,757011055,830019021,868011062,873035037,873048050,873052054,879030055,891010012]
def hu:List Nat:=[293022027,324011016,355017022,748011016,763060063,763021024,772074079,772033038,789011016,876024040,877021025,888060067,889056063,892028033,897036049,897073076,899082095,899119122]
structure jJ where
 params:List ae
 hk:List E
 body:List bM
 scope:ia
 tab:Option Z
def aH (i:Nat):bM:=PySem.Challenge.pw_pq0817_01.main.body.getD i bD
def I5:bM->List ae
 |.FunctionDef _ a ..=>a.args.map (·.arg)
 |_=>[]
def sF:bM->List bM
 |.FunctionDef _ _ b ..=>b
 |_=>[]
def ML:bM->ia
 |.FunctionDef _ _ _ _ _ _ s ..=>s
 |_=>bD
def cf:bM->List bM
 |.ClassDef _ _ _ b ..=>b
 |_=>[]
def aJ (s:bM)(d:List E):jJ:=⟨I5 s,d,sF s,ML s,T⟩
def lz:List<|Z×jJ:=[
 (36,aJ ((cf<|aH 2).getD 0 bD) [.int<|-1]),
 (43,aJ ((cf<|aH 2).getD 1 bD) []),
 (75,aJ ((cf<|aH 5).getD 0 bD) []),
 (82,aJ ((cf<|aH 5).getD 1 bD) []),
 (89,aJ ((cf<|aH 5).getD 2 bD) []),
 (96,aJ ((cf<|aH 5).getD 3 bD) []),
 (103,aJ ((cf<|aH 5).getD 4 bD) []),
 (110,aJ ((cf<|aH 5).getD 5 bD) []),
 (117,aJ ((cf<|aH 5).getD 6 bD) []),
 (124,aJ ((cf<|aH 5).getD 7 bD) []),
 (131,aJ ((cf<|aH 5).getD 8 bD) []),
 (138,aJ ((cf<|aH 5).getD 9 bD) []),
 (145,aJ ((cf<|aH 5).getD 10 bD) []),
 (152,aJ ((cf<|aH 5).getD 11 bD) []),
 (166,aJ (aH 6) []),
 (173,aJ (aH 7) []),
 (180,aJ (aH 8) []),
 (187,aJ (aH 9) []),
 (201,aJ ((cf<|aH 12).getD 0 bD) []),
 (223,aJ ((cf<|aH 13).getD 0 bD) [.bool N]),
 (244,aJ ((cf<|aH 14).getD 0 bD) []),
 (265,aJ ((cf<|aH 15).getD 0 bD) []),
 (272,aJ ((cf<|aH 15).getD 1 bD) []),
 (286,aJ (aH 16) []),
 (293,aJ (aH 17) []),
 (300,aJ (aH 18) []),
 (305,aJ (aH 19) []),
 (320,aJ ((cf<|aH 21).getD 0 bD) [.none,.none]),
 (327,aJ ((cf<|aH 21).getD 1 bD) []),
 (334,aJ ((cf<|aH 21).getD 2 bD) []),
 (355,aJ ((cf<|aH 22).getD 0 bD) []),
 (362,aJ ((cf<|aH 22).getD 1 bD) []),
 (369,aJ ((cf<|aH 22).getD 2 bD) []),
 (376,aJ ((cf<|aH 22).getD 3 bD) []),
 (383,aJ ((cf<|aH 22).getD 4 bD) []),
 (388,aJ ((cf<|aH 22).getD 5 bD) []),
 (407,aJ ((cf<|aH 24).getD 0 bD) []),
 (414,aJ ((cf<|aH 24).getD 1 bD) []),
 (421,aJ ((cf<|aH 24).getD 2 bD) []),
 (428,aJ ((cf<|aH 24).getD 3 bD) []),
 (435,aJ ((cf<|aH 24).getD 4 bD) []),
 (440,aJ ((cf<|aH 24).getD 5 bD) []),
 (454,aJ (aH 25) []),
 (461,aJ (aH 26) []),
 (477,aJ ((cf<|aH 28).getD 0 bD) [.tup []]),
 (491,aJ (aH 29) []),
 (498,aJ (aH 30) []),
 (505,aJ (aH 31) []),
 (512,aJ (aH 32) []),
 (519,aJ (aH 33) []),
 (526,aJ (aH 34) []),
 (533,aJ (aH 35) []),
 (540,aJ (aH 36) []),
 (547,aJ (aH 37) []),
 (554,aJ (aH 38) []),
 (561,aJ (aH 39) []),
 (568,aJ (aH 40) []),
 (573,aJ (aH 41) []),
 (580,{aJ (aH 42) [] with tab:=H 575}),
 (587,{aJ (aH 43) [] with tab:=H 582}),
 (601,aJ ((cf<|aH 45).getD 0 bD) []),
 (615,aJ (aH 46) []),
 (622,aJ (aH 47) []),
 (630,aJ (aH 48) [.none]),
 (637,aJ (aH 49) []),
 (642,aJ (aH 50) []),
 (649,aJ (aH 51) []),
 (656,aJ (aH 52) []),
 (663,aJ (aH 53) []),
 (670,aJ (aH 54) []),
 (677,aJ (aH 55) []),
 (684,aJ (aH 56) []),
 (689,aJ (aH 57) []),
 (696,aJ (aH 58) []),
 (701,aJ (aH 59) []),
 (708,aJ (aH 60) []),
 (736,aJ ((cf<|aH 76).getD 0 bD) [.none,.none]),
 (743,aJ ((cf<|aH 76).getD 1 bD) []),
 (757,aJ (aH 77) []),
 (764,aJ (aH 78) []),
 (771,aJ (aH 79) []),
 (778,aJ (aH 80) []),
 (785,aJ (aH 81) []),
 (792,aJ (aH 82) []),
 (799,aJ (aH 83) []),
 (806,aJ (aH 84) []),
 (813,aJ (aH 85) []),
 (818,aJ (aH 86) []),
 (825,aJ (aH 87) []),
 (832,aJ (aH 88) []),
 (839,aJ (aH 89) []),
 (846,aJ (aH 90) []),
 (853,aJ (aH 91) []),
 (860,aJ (aH 92) []),
 (867,aJ (aH 93) []),
 (874,aJ (aH 94) []),
 (879,aJ (aH 95) []),
 (886,aJ (aH 96) []),
 (893,aJ (aH 97) []),
 (898,aJ (aH 98) []),
 (905,aJ (aH 99) []),
 (919,aJ ((cf<|aH 101).getD 0 bD) []),
 (924,aJ ((cf<|aH 101).getD 1 bD) []),
 (936,aJ (aH 103) []),
 (943,aJ (aH 104) []),
 (948,aJ (aH 105) []),
 (953,aJ (aH 106) []),
 (958,aJ (aH 107) []),
 (965,aJ (aH 108) []),
 (970,aJ (aH 109) []),
 (977,aJ (aH 110) []),
 (984,aJ (aH 111) []),
 (991,aJ (aH 112) []),
 (998,aJ (aH 113) []),
 (1005,aJ (aH 114) []),
 (1010,aJ (aH 115) []),
 (1017,aJ (aH 116) []),
 (1024,aJ (aH 117) []),
 (1031,aJ (aH 118) []),
 (1038,aJ (aH 119) []),
 (1043,{aJ (aH 120) [] with tab:=H 1040})]
def d_ (a:Z):Option jJ:=lz.lookup a
def rV:List<|Z×Z:=[(155,75),(204,201),(226,223),(247,244),(275,265),(391,320),(443,407),(480,477),(604,601),(746,736),(927,919)]
def gB (c:Z):Option Z:=rV.lookup c
def TO (c:Z):Bool:=match c with
 |391=>I
 |604=>I
 |746=>I
 |_=>N
def Cx:List<|Z×List (ae×Z):=[
 (155,[(U "plus",82),(U "minus",89),(U "times",96),(U "compared",110),(U "told",138)]),
 (275,[(U "pair",272)]),
 (391,[(U "fetch",327),(U "get",334),(U "put",355),(U "add",362)]),
 (443,[(U "times",414),(U "applied",421),(U "parts",435),(U "told",440)])]
def pE (c:Z):List<|ae×Z:=(Cx.lookup c).getD []
def yY:List<|Z×List ae:=[
 (155,[U "top",U "places"]),
 (204,[U "text"]),
 (226,[U "octets",U "is_hex"]),
 (247,[U "head",U "octets"]),
 (275,[U "number",U "generation"]),
 (391,[U "table",U "trailer"]),
 (443,[U "a",U "b",U "c",U "d",U "e",U "f"]),
 (480,[U "parts"]),
 (604,[U "matrix",U "clips",U "fill",U "stroke",U "values"]),
 (746,[U "shelf",U "resources",U "opener",U "state",U "pile",U "floor",U "path",U "rule",U "text",U "skips",U "open_forms",U "marks",U "clips"]),
 (927,[U "word",U "operands"])]
def DO (c:Z):List ae:=(yY.lookup c).getD []
def fo (c:Z)(a:ae):Bool:=(DO c).contains a
def globals:List<|ae×E:=[
 (U "PaintFault",.ag<|.ref 59),
 (U "Exception",.ag<|.type "Exception"),
 (U "Decimal",.ag<|.ref 155),
 (U "sign_text",.ag<|.ref 166),
 (U "sign_of",.ag<|.ref 173),
 (U "decimal_of",.ag<|.ref 180),
 (U "at_one_scale",.ag<|.ref 187),
 (U "MOST_HOPS",.int 30),
 (U "Name",.ag<|.ref 204),
 (U "String",.ag<|.ref 226),
 (U "Stream",.ag<|.ref 247),
 (U "Reference",.ag<|.ref 275),
 (U "kind_of",.ag<|.ref 286),
 (U "is_number",.ag<|.ref 293),
 (U "told_plain",.ag<|.ref 300),
 (U "told",.ag<|.ref 305),
 (U "Lookup",.ag<|.ref 337),
 (U "Shelf",.ag<|.ref 391),
 (U "Matrix",.ag<|.ref 443),
 (U "identity",.ag<|.ref 454),
 (U "translation",.ag<|.ref 461),
 (U "Path",.ag<|.ref 480),
 (U "pair_of",.ag<|.ref 491),
 (U "is_shut",.ag<|.ref 498),
 (U "current_point",.ag<|.ref 505),
 (U "drawn_parts",.ag<|.ref 512),
 (U "move_to",.ag<|.ref 519),
 (U "path_with",.ag<|.ref 526),
 (U "line_to",.ag<|.ref 533),
 (U "curve_to",.ag<|.ref 540),
 (U "curve_from",.ag<|.ref 547),
 (U "curve_into",.ag<|.ref 554),
 (U "close_path",.ag<|.ref 561),
 (U "rectangle",.ag<|.ref 568),
 (U "each_point",.ag<|.ref 573),
 (U "transformed",.ag<|.ref 580),
 (U "told_path",.ag<|.ref 587),
 (U "State",.ag<|.ref 604),
 (U "first_colour",.ag<|.ref 615),
 (U "first_values",.ag<|.ref 622),
 (U "first_state",.ag<|.ref 630),
 (U "copied_state",.ag<|.ref 637),
 (U "numbers_of",.ag<|.ref 642),
 (U "name_of",.ag<|.ref 649),
 (U "choice_of",.ag<|.ref 656),
 (U "colour_parts",.ag<|.ref 663),
 (U "device_count",.ag<|.ref 670),
 (U "own_colour",.ag<|.ref 677),
 (U "set_colour",.ag<|.ref 684),
 (U "set_dash",.ag<|.ref 689),
 (U "set_line",.ag<|.ref 696),
 (U "set_named",.ag<|.ref 701),
 (U "set_text",.ag<|.ref 708),
 (U "MOST_FORMS",.int 8),
 (U "STATE_WORDS",.tup [.str<|U "q",.str<|U "Q",.str<|U "cm"]),
 (U "LINE_WORDS",.tup [.str<|U "w",.str<|U "J",.str<|U "j",.str<|U "M",.str<|U "d",.str<|U "ri",.str<|U "i",.str<|U "gs"]),
 (U "PATH_WORDS",.tup [.str<|U "m",.str<|U "l",.str<|U "c",.str<|U "v",.str<|U "y",.str<|U "h",.str<|U "re"]),
 (U "CLIP_WORDS",.tup [.str<|U "W",.str<|U "W*"]),
 (U "PAINT_WORDS",.tup [.str<|U "S",.str<|U "s",.str<|U "f",.str<|U "F",.str<|U "f*",.str<|U "B",.str<|U "B*",.str<|U "b",.str<|U "b*",.str<|U "n"]),
 (U "COLOUR_WORDS",.tup [.str<|U "g",.str<|U "G",.str<|U "rg",.str<|U "RG",.str<|U "k",.str<|U "K",.str<|U "cs",.str<|U "CS",.str<|U "sc",.str<|U "SC",.str<|U "scn",.str<|U "SCN"]),
 (U "TEXT_WORDS",.tup [.str<|U "Tc",.str<|U "Tw",.str<|U "Tz",.str<|U "TL",.str<|U "Ts",.str<|U "Tr",.str<|U "Tf"]),
 (U "PLACE_WORDS",.tup [.str<|U "Td",.str<|U "TD",.str<|U "Tm",.str<|U "T*"]),
 (U "SHOW_WORDS",.tup [.str<|U "Tj",.str<|U "TJ",.str<|U "'",.str<|U "\""]),
 (U "NOTE_WORDS",.tup [.str<|U "MP",.str<|U "DP",.str<|U "BMC",.str<|U "BDC",.str<|U "EMC"]),
 (U "FILLS",.aa [(U "f",.str<|U "nonzero"),(U "F",.str<|U "nonzero"),(U "B",.str<|U "nonzero"),(U "b",.str<|U "nonzero"),(U "f*",.str<|U "evenodd"),(U "B*",.str<|U "evenodd"),(U "b*",.str<|U "evenodd")]),
 (U "STROKES",.tup [.str<|U "S",.str<|U "s",.str<|U "B",.str<|U "B*",.str<|U "b",.str<|U "b*"]),
 (U "CLOSERS",.tup [.str<|U "s",.str<|U "b",.str<|U "b*"]),
 (U "Painter",.ag<|.ref 746),
 (U "paint_all",.ag<|.ref 757),
 (U "put_mark",.ag<|.ref 764),
 (U "check_place",.ag<|.ref 771),
 (U "perform",.ag<|.ref 778),
 (U "do_other",.ag<|.ref 785),
 (U "do_state",.ag<|.ref 792),
 (U "matrix_of",.ag<|.ref 799),
 (U "named",.ag<|.ref 806),
 (U "do_line",.ag<|.ref 813),
 (U "do_path",.ag<|.ref 818),
 (U "do_clip",.ag<|.ref 825),
 (U "do_paint",.ag<|.ref 832),
 (U "add_clip",.ag<|.ref 839),
 (U "move_line",.ag<|.ref 846),
 (U "do_place",.ag<|.ref 853),
 (U "octets_of_row",.ag<|.ref 860),
 (U "do_show",.ag<|.ref 867),
 (U "do_object",.ag<|.ref 874),
 (U "form_numbers",.ag<|.ref 879),
 (U "enter_form",.ag<|.ref 886),
 (U "do_form",.ag<|.ref 893),
 (U "told_colour",.ag<|.ref 898),
 (U "told_mark",.ag<|.ref 905),
 (U "Operation",.ag<|.ref 927),
 (U "_law_source",.ag<|.ref 936),
 (U "_law_take",.ag<|.ref 943),
 (U "_law_six",.ag<|.ref 948),
 (U "_law_deed",.ag<|.ref 953),
 (U "_law_deeds",.ag<|.ref 958),
 (U "_law_names",.ag<|.ref 965),
 (U "_law_form",.ag<|.ref 970),
 (U "_law_laid",.ag<|.ref 977),
 (U "_law_entries",.ag<|.ref 984),
 (U "_law_operations",.ag<|.ref 991),
 (U "_law_spot",.ag<|.ref 998),
 (U "_law_outline",.ag<|.ref 1005),
 (U "_law_grid",.ag<|.ref 1010),
 (U "_law_gray",.ag<|.ref 1017),
 (U "_law_entered",.ag<|.ref 1024),
 (U "_law_painted",.ag<|.ref 1031),
 (U "_law_is_let",.ag<|.ref 1038),
 (U "law",.ag<|.ref 1043),
 (U "len",.ag<|.builtin "len"),
 (U "isinstance",.ag<|.builtin "isinstance"),
 (U "abs",.ag<|.builtin "abs"),
 (U "max",.ag<|.builtin "max"),
 (U "min",.ag<|.builtin "min"),
 (U "tuple",.ag<|.type "tuple"),
 (U "list",.ag<|.type "list"),
 (U "int",.ag<|.type "int"),
 (U "bool",.ag<|.type "bool"),
 (U "str",.ag<|.type "str"),
 (U "dict",.ag<|.type "dict"),
 (U "bytes",.ag<|.type "bytes"),
 (U "range",.ag<|.type "range")]
end
mutual
noncomputable def E.isData:Nat->E->Bool
 |_,.none=>I
 |_,.int _=>I
 |_,.str s=>DU s
 |n+1,.tup a=>E.cu n a
 |n+1,.lst a=>E.cu n a
 |_,_=>N
noncomputable def E.cu:Nat->List E->Bool
 |_,[]=>I
 |n,x::r=>E.isData n x && E.cu n r
end
mutual
noncomputable def E.beq:E->E->Bool
 |.none,.none=>I
 |.int i,.int j=>i==j
 |.str s,.str t=>s==t
 |.tup a,.tup b=>E.gk a b
 |.lst a,.lst b=>E.gk a b
 |_,_=>N
noncomputable def E.gk:List E->List E->Bool
 |[],[]=>I
 |x::a,y::b=>E.beq x y && E.gk a b
 |_,_=>N
end
mutual
open Mine
theorem lD {b:E->Prop}(c:b .none)(e:∀i,b<|.int i)(f:∀s,DU s=I->b (.str s))(g:∀m a,n=m+1->E.cu m a=I->b (.tup a))(h:∀m a,n=m+1->E.cu m a=I->b (.lst a))(d:x.isData n=I):b x:=by
 cases n with
 |zero=>
  cases x with
  |none=>exact c
  |int i=>exact e i
  |str s=>exact f s d
  |_=>exact ff d
 |succ n=>
  cases x with
  |none=>exact c
  |int i=>exact e i
  |str s=>exact f s d
  |tup a=>exact g n a rfl d
  |lst a=>exact h n a rfl d
  |_=>exact ff d
theorem qx {P:Nat->E->Prop}{L:Nat->List E->Prop}(c:∀n,P n .none)(f:∀n i,P n<|.int i)(g:∀n s,DU s=I->P n (.str s))(k:∀n a,L n a->E.cu n a=I->P (n+1) (.tup a))(l:∀n a,L n a->E.cu n a=I->P (n+1) (.lst a))(p:∀n,L n [])(q:∀n x a,P n x->L n a->L n (x::a)) (n):
  (∀x,x.isData n=I->P n x)/\∀a,E.cu n a=I->L n a:=by
 have h:∀n,(∀x,x.isData n=I->P n x)->(∀x,x.isData n=I->P n x)/\∀a,E.cu n a=I->L n a:=by
  refine λn j=>⟨j,λa=>?_⟩
  induction a with
  |nil=>exact λ_=>p n
  |cons x a b=>exact λd=>q n x a (j x<|bl d)<|b<|br d
 induction n with
 |zero=>exact h 0 λx=>lD (c 0) (f 0) (g 0) (λ_ _ e=>Rw e) λ_ _ e=>Rw e
 |succ n b=>exact h (n+1) λx=>lD (c _) (f _) (g _) (λm a e d=>by cases e;exact k n a (b.2 a d) d) λm a e d=>by cases e;exact l n a (b.2 a d) d
theorem E.TJ:E.cu n (x::r)=(E.isData n x && E.cu n r):=rfl
theorem E.TP:E.gk (x::a) (y::b)=(E.beq x y && E.gk a b):=rfl
def fh (l:Nat):Option au->E
 |H o=>match o with
  |.lst a=>.lst a
  |.inst c b=>.inst c b
  |.aa d=>.aa d
  |.tab _=>.loc l
 |T=>.loc l
def res (a:R)(v:E):E:=match v with
 |.loc l=>fh l<|a.get l
 |v=>v
theorem hi {a b:E}{P:Prop}(h:a=b)(n:(a.ctorIdx==b.ctorIdx)=N):P:=ff<|n.symm.trans<|h▸beq_self_eq_true a.ctorIdx
theorem xe {a b:au}{P:Prop}(h:a=b)(n:(a.ctorIdx==b.ctorIdx)=N):P:=ff<|n.symm.trans<|h▸beq_self_eq_true a.ctorIdx
theorem TA {a b:au}{P:Prop}(h:H a=H b)(n:(a.ctorIdx==b.ctorIdx)=N):P:=xe (bf h) n
def cR:E->Option Int
 |.int i=>H i
 |_=>T
theorem ea (h:cR v=H i):v=.int i:=by
 cases v<;>first|exact congrArg E.int<|bf h|exact ao h
def kZ:E->Option ae
 |.str i=>H i
 |_=>T
theorem mT (h:kZ v=H i):v=.str i:=by
 cases v<;>first|exact congrArg E.str<|bf h|exact ao h
def DM:E->Option Bool
 |.bool i=>H i
 |_=>T
theorem M1 (h:DM v=H i):v=.bool i:=by
 cases v<;>first|exact congrArg E.bool<|bf h|exact ao h
def vH:E->Option (List E)
 |.tup i=>H i
 |_=>T
theorem yD (h:vH v=H i):v=.tup i:=by
 cases v<;>first|exact congrArg E.tup<|bf h|exact ao h
def mO:E->Option (List E)
 |.lst i=>H i
 |_=>T
theorem uM (h:mO v=H i):v=.lst i:=by
 cases v<;>first|exact congrArg E.lst<|bf h|exact ao h
def sz:Option au->Option (List<|Int×E)
 |H o=>match o with
  |.tab a=>H a
  |_=>T
 |T=>T
def isNone:E->Bool
 |.none=>I
 |_=>N
def jF:E->Bool
 |.ag _=>I
 |_=>N
def vt (b a:List E):Option Bool:=match b with
 |[]=>H a.isEmpty
 |x::r=>match a with
  |[]=>H N
  |y::q=>match E.cu 30 (x::r) && E.cu 30 (y::q) with
   |I=>H<|E.gk (x::r)<|y::q
   |N=>T
def pd (a b:E):Option Bool:=match a with
 |.bool x=>(DM b).map λy=>x==y
 |.int i=>(cR b).map λj=>i==j
 |.str s=>(kZ b).map λt=>s==t
 |.tup c=>(vH b).bind λd=>vt c d
 |.lst c=>(mO b).bind λd=>vt c d
 |_=>T
def kT (x:E)(a:List E):Option Bool:=match x.isData 30 && E.cu 30 a with
 |I=>H<|a.any λy=>E.beq y x
 |N=>T
def oD (d:R)(x c:E):Option Bool:=match c with
 |.tup a=>kT x a
 |.lst a=>kT x a
 |.aa b=>(kZ x).map λk=>(aI k b).isSome
 |.loc l=>(sz<|d.get l).bind λb=>(cR x).map λk=>(cZ k b).isSome
 |_=>T
def qY (a b:E):Option Bool:=match isNone b && !jF a with
 |I=>H<|isNone a
 |N=>T
def kE (f:Int->Int->Bool)(a b:E):Option Bool:=(cR a).bind λi=>(cR b).map λj=>f i j
def qI (x:Option Bool):aY Bool:=do let r <-oo x;aS !r
def ax (c:R)(d:sS)(a b:E):aY Bool:=match d with
 |.Eq=>oo<|pd (res c a)<|res c b
 |.NotEq=>qI<|pd (res c a)<|res c b
 |.Is=>oo<|qY a b
 |.IsNot=>oo<|(qY a b).map not
 |.In=>oo<|oD c a<|res c b
 |.NotIn=>qI<|oD c a<|res c b
 |.Lt=>oo<|kE (λi j=>aP<|i<j) a b
 |.LtE=>oo<|kE (λi j=>aP<|i<=j) a b
 |.Gt=>oo<|kE (λi j=>aP<|j<i) a b
 |.GtE=>oo<|kE (λi j=>aP<|j<=i) a b
def Io:E->Option Bool
 |.none=>H N
 |.bool b=>H b
 |.int i=>H<|i !=0
 |.lst a=>H !a.isEmpty
 |.tup a=>H !a.isEmpty
 |_=>T
def truthy (a:R)(v:E):aY Bool:=oo<|Io<|res a v
def bJ {b c:Type}(o:Option b)(f:b->aY c):aY c:=match o with
 |H a=>f a
 |T=>.stuck
def er (b:Bool)(r:aY a):aY a:=match b with
 |I=>r
 |N=>.stuck
def mK (f:Int->Int->aY RV)(a b:E):aY RV:=bJ (cR a) λi=>bJ (cR b) λj=>f i j
def vB (a b:E):aY RV:=match a with
 |.int i=>bJ (cR b) λj=>aS<|.val<|.int<|i+j
 |.str s=>bJ (kZ b) λt=>do ask<|s.length+t.length<=1000;aS<|.val<|.str<|s++t
 |.tup c=>bJ (vH b) λd=>do ask<|c.length+d.length<=1000000;aS<|.val<|.tup<|c++d
 |.lst c=>bJ (mO b) λd=>do ask<|c.length+d.length<=1000000;aS<|.fresh<|.lst<|c++d
 |_=>.stuck
def binop (c:R)(d:Operator)(a b:E):aY RV:=match d with
 |.Add=>vB (res c a)<|res c b
 |.Sub=>mK (λi j=>aS<|.val<|.int<|i - j) (res c a)<|res c b
 |.Mult=>mK (λi j=>do ask<|bg i j;aS<|.val<|.int<|i*j) (res c a)<|res c b
 |.FloorDiv=>mK (λi j=>do ask<|j≠0/\j.natAbs<2 ^ 64;aS<|.val<|.int<|i.fdiv j) (res c a)<|res c b
 |.Mod=>mK (λi j=>do ask<|j≠0;aS<|.val<|.int<|i.fmod j) (res c a)<|res c b
 |.Pow=>mK (λi j=>do ask<|0<=j/\j<=1000/\i.natAbs<2 ^ 64;aS<|.val<|.int<|i ^ j.toNat) (res c a)<|res c b
 |_=>.stuck
def iJ (i:Int)(n:Nat):Option Nat:=
 if 0<=i then if i<n then H i.toNat else T else if 0<=i+n then H (i+n).toNat else T
def tJ (a:List E)(i:E):aY E:=bJ (cR i) λk=>do let p <-oo<|iJ k a.length;oo a[p]?
def tW (o i:E):aY E:=match o with
 |.tup a=>tJ a i
 |.lst a=>tJ a i
 |.dk b=>bJ (cR i) λk=>er (aP<|0<=k/\k<b.size/\b.size<=1000)<|aS<|.int (b.toList.getD k.toNat 0).toNat
 |.str s=>bJ (cR i) λk=>er (aP<|s.cps.size<=1000) do let p <-oo<|iJ k s.cps.size;let x <-oo s.cps[p]?;aS<|.str ⟨#[x]⟩
 |.aa c=>bJ (kZ i) λk=>oo<|aI k c
 |_=>.stuck
def aO (a:R)(o i:E):aY E:=tW (res a o) i
def rH (c:Bool)(v:RV):Option RV:=match c with
 |I=>H v
 |N=>T
theorem uZ {P:Prop}(h:rH c v=H x)(k:c=I->x=v->P):P:=by
 cases c with
 |true=>exact k rfl (bf h).symm
 |false=>exact ao h
def yL (c:List E)(e d:E):Option Int->Option RV
 |H a=>rH (isNone d && aP (1<=a/\a<=c.length))<|.val<|.tup<|c.drop a.toNat
 |T=>(cR d).bind λb=>rH (isNone e && aP (b=-1/\1<=c.length))<|.val<|.tup<|c.take<|c.length - 1
def vx (o a d:E):Option RV:=match o with
 |.tup c=>yL c a d<|cR a
 |.lst c=>(cR d).bind λb=>rH (isNone a && aP (0<=b))<|.fresh<|.lst<|c.take b.toNat
 |_=>T
def DN (a:R)(o b c:E):aY RV:=oo<|vx (res a o) b c
def yq:E->Option ah
 |.none=>H<|.type "NoneType"
 |.bool _=>H<|.type "bool"
 |.int _=>H<|.type "int"
 |.str _=>H<|.type "str"
 |.dk _=>H<|.type "bytes"
 |.tup _=>H<|.type "tuple"
 |.lst _=>H<|.type "list"
 |.aa _=>H<|.type "dict"
 |.inst c _=>H<|.ref c
 |_=>T
def nB (a:R)(v:E):Option ah:=yq<|res a v
def qM:E->Option (List<|ae×E)
 |.aa i=>H i
 |_=>T
theorem Jz (h:qM v=H i):v=.aa i:=by
 cases v<;>first|exact congrArg E.aa<|bf h|exact ao h
def Ar:E->Option ah
 |.ag i=>H i
 |_=>T
theorem PG (h:Ar v=H i):v=.ag i:=by
 cases v<;>first|exact congrArg E.ag<|bf h|exact ao h
def l_:E->Option (List E)
 |.tup a=>H a
 |.lst a=>H a
 |_=>T
def lS {a:Type}:List a->Option (a×a)
 |[]=>T
 |v::r=>(one r).map λu=>(v,u)
theorem oL {a:List b}{v u:b}(h:lS a=H (v,u)):a=[v,u]:=by
 cases a with
 |nil=>exact ao h
 |cons x r=>
  refine zm h λy c h=>?_
  cases h
  exact hP c▸rfl
def wY:List E->Option (E×E)
 |[]=>T
 |k::r=>match r with
  |[]=>H (k,.none)
  |d::r=>match r with
   |[]=>H (k,d)
   |_::_=>T
theorem Af (h:wY a=H (k,d)):a=[k]/\d=.none\/a=[k,d]:=by
 cases a with
 |nil=>exact ao h
 |cons x r=>cases r with
  |nil=>cases h;exact .inl ⟨rfl,rfl⟩
  |cons y r=>cases r with
   |nil=>cases h;exact .inr rfl
   |cons=>exact ao h
def rh (a:ae):E->Option E
 |.inst c b=>match fo c a with
  |I=>aI a b
  |N=>T
 |_=>T
def zD (b:R)(o:E)(a:ae):Option E:=rh a<|res b o
def qT:md->Option E
 |.none=>H .none
 |.bool b=>H<|.bool b
 |.int i=>H<|.int i
 |.str s=>H<|.str s
 |.bytes b=>H<|.dk b.toArray
 |_=>T
def aZ (x:ae):List (ae×fq)->Option fq
 |[]=>T
 |(y,k)::r=>if y=x then H k else aZ x r
theorem nh:aZ x ((y,k)::r)=if y=x then H k else aZ x r:=rfl
def wV (a:Y)(x:ae):Option fq->Option E
 |H k=>match k with
  |.local=>aI x a.vals
  |.cell=>aI x a.vals
  |.free=>aI x a.vals
  |.globalImplicit=>aI x globals
  |_=>T
 |T=>T
def gT (a:Y)(x:ae):Option E:=wV a x<|aZ x a.scope
def fW (a:Y)(x:ae):Option au:=match a.own with
 |H (y,o)=>if y=x then H o else T
 |T=>T
inductive EV where
 |name (x:ae) (p:Pos)
 |call (f:aD) (a:List aD) (b:List pG) (p:Pos)
 |const (c:md) (k:Nat) (p:Pos)
 |tuple (d:List aD) (k:Nat) (p:Pos)
 |other
def EV.of:aD->EV
 |.Name x p=>.name x p
 |.Call f a b p=>.call f a b p
 |.Constant c k p=>.const c k p
 |.Tuple d k p=>.tuple d k p
 |_=>.other
def EV.is:EV->aD->Prop
 |.name x p,e=>e=.Name x p
 |.call f a b p,e=>e=.Call f a b p
 |.const c k p,e=>e=.Constant c k p
 |.tuple d k p,e=>e=.Tuple d k p
 |.other,_=>True
theorem EV.ok (e):(EV.of e).is e:=by
 cases e<;>first|exact rfl|exact trivial
def EV.nm:EV->Option (ae×Pos)
 |.name x p=>H (x,p)
 |_=>T
def EV.ca:EV->Option (aD×List aD×List pG)
 |.call f a b _=>H (f,a,b)
 |_=>T
def EV.co:EV->Option md
 |.const c _ _=>H c
 |_=>T
def EV.tu:EV->Option (List aD)
 |.tuple a _ _=>H a
 |_=>T
def sJ (e:aD):Option<|ae×Pos:=(EV.of e).nm
theorem Cs (h:sJ e=H (x,p)):e=.Name x p:=by
 have go:∀v:EV,v.nm=H (x,p)->v.is e->e=.Name x p:=λv h o=>by
  cases v with
  |name y q=>cases h;exact o
  |_=>exact ao h
 exact go _ h<|EV.ok e
def hr (e:aD):Option ae:=(sJ e).map (·.1)
theorem oB (h:hr e=H x):∃p,e=.Name x p:=by
 refine zm h ?_;rintro ⟨y,p⟩ a b
 exact ⟨p,Cs<|a.trans<|congrArg (λz=>H (z,p)) b⟩
def oc (e:aD):Option<|aD×List aD×List pG:=(EV.of e).ca
theorem Ci (h:oc e=H (f,a,b)):∃p,e=.Call f a b p:=by
 have go:∀v:EV,v.ca=H (f,a,b)->v.is e->∃p,e=.Call f a b p:=λv h o=>by
  cases v with
  |call c d g q=>cases h;exact ⟨q,o⟩
  |_=>exact ao h
 exact go _ h<|EV.ok e
def q_ (d:R)(l:Nat)(a:ae)(v:E):Option au->Option R
 |H o=>match o with
  |.inst c b=>match fo c a && aP (b.length<=100) with
   |I=>H<|d.set l<|.inst c<|bc a v b
   |N=>T
  |_=>T
 |T=>T
def yo (b:R)(o:E)(a:ae)(v:E):Option R:=match o with
 |.loc l=>q_ b l a v<|b.get l
 |_=>T
def setField (b:R)(o:E)(a:ae)(v:E):aY R:=oo<|yo b o a v
def sO (o:au)(i v:E):Option au:=match o with
 |.lst b=>(cR i).bind λk=>match aP<|0<=k/\k<b.length with
  |I=>H<|.lst<|b.set k.toNat v
  |N=>T
 |.aa a=>(kZ i).map λk=>.aa<|bc k v a
 |.tab a=>(cR i).map λk=>.tab<|eM k v a
 |.inst _ _=>T
def mF (b:R)(l:Nat)(i v:E):Option au->aY R
 |H a=>do let c <-oo<|sO a i v;ask<|a.len<=1000000;aS<|b.set l c
 |T=>.stuck
def setItem (a:R)(o i v:E):aY R:=match o with
 |.loc l=>mF a l i v<|a.get l
 |_=>.stuck
def lX (m:ae)(b:List E)(a:List E):Option<|List E×E:=match aP<|m=U "append" with
 |I=>(one b).map λv=>(a++[v],.none)
 |N=>match aP<|m=U "insert" with
  |I=>(lS b).bind λp=>(cR p.1).bind λi=>match aP<|0<=i/\i<=a.length with
   |I=>H (a.take i.toNat++p.2::a.drop i.toNat,.none)
   |N=>T
  |N=>match aP (m=U "pop") && b.isEmpty with
   |I=>a.getLast?.map λv=>(a.dropLast,v)
   |N=>T
def ja (c:Z)(m:ae):Option Z:=
 let rec go:List (ae×Z)->Option Z
  |[]=>T
  |(y,f)::r=>if y=m then H f else go r
 go<|pE c
def qw (e:aD):Option md:=(EV.of e).co
theorem BE (h:qw e=H c):∃k p,e=.Constant c k p:=by
 have go:∀v:EV,v.co=H c->v.is e->∃k p,e=.Constant c k p:=λv h o=>by
  cases v with
  |const a k p=>cases h;exact ⟨k,p,o⟩
  |_=>exact ao h
 exact go _ h<|EV.ok e
def w_:md->Option ae
 |.str s=>H s
 |_=>T
theorem I_ (h:w_ c=H s):c=.str s:=by
 cases c<;>first|exact congrArg Const.str<|bf h|exact ao h
def rj (e:aD):Option ae:=(qw e).bind w_
theorem CQ (h:e.bind rj=H s):∃k p,e=H (.Constant (.str s) k p):=by
 refine zb h ?_;rintro e rfl h
 have h:(qw e).bind w_=H s:=h
 refine zb h λc a h=>?_
 refine dx (BE a) ?_;rintro k p rfl
 exact ⟨k,p,by exact J (I_ h) rfl⟩
def rB:List (Option aD)->Option (List ae)
 |[]=>H []
 |e::r=>(e.bind rj).bind λs=>(rB r).map (s::·)
def pz:List ae->List E->List (ae×E)->List (ae×E)
 |k::b,v::c,a=>pz b c<|bc k v a
 |_,_,a=>a
section
def dn:aD->Bool
 |.Starred ..=>N
 |.Set ..=>N
 |_=>I
def mN (x:ae):Bool:=x.cps[1]? !=H 95
def rq:aD->Bool
 |.Call (.Name _ _) [] [] _=>N
 |_=>I
def QJ (f:aD)(b:List aD)(c:List pG):Option<|ae×aD:=(hr f).bind λx=>match c.isEmpty with
 |I=>(one b).map λa=>(x,a)
 |N=>T
def r_ (e:aD):Option<|ae×aD:=(oc e).bind λp=>QJ p.1 p.2.1 p.2.2
def ju (v:E):aY<|List E:=bJ (cR v) λn=>do ask<|0<=n/\n<=1000000;aS<|(ib n.toNat).map λ(i:Nat)=>E.int i
def hj:E->aY (List E)
 |.tup a=>aS a
 |.lst a=>aS a
 |.str s=>er (s.cps.all (·<128))<|aS<|s.cps.toList.map λc=>.str ⟨#[c]⟩
 |.aa b=>aS<|b.map λp=>.str p.1
 |_=>.stuck
def Cv (n:Nat)(v:E):Option<|List E:=(l_ v).bind λa=>match aP<|a.length=n with
 |I=>H a
 |N=>T
def gy (a:R)(v:E)(n:Nat):aY<|List E:=oo<|Cv n<|res a v
def oH:List ah:=[.type "NoneType",.type "bool",.type "int",.type "str",.type "bytes",.type "tuple",.type "list",.type "dict",.ref 155,.ref 204,.ref 226,.ref 247,.ref 275,.ref 391,.ref 443,.ref 480,.ref 604,.ref 746,.ref 927]
def sg:List ah:=[.type "bool",.type "int",.type "str",.type "list",.type "dict",.ref 155,.ref 204,.ref 226,.ref 247,.ref 275]
def kB (v:ah):Bool:=oH.contains v
def lK (v:ah):Bool:=sg.contains v
def jP (a:E->aY E):List E->aY E
 |[v]=>a v
 |_=>.stuck
def nV (a:E->E->aY E):List E->aY E
 |[v,w]=>a v w
 |_=>.stuck
def uH (a:R)(v:E):aY E:=bJ (l_<|res a v) λb=>aS<|.int b.length
def MH (a t:ah):Bool:=kB a && lK t && !(a==.type "bool" && t==.type "int")
def Bf (b:R)(v w:E):aY E:=bJ (Ar w) λt=>do let a <-oo<|nB b v;gM<|MH a t;aS<|.bool<|a==t
def jC (f:Int->aY E)(v:E):aY E:=match cR v with
 |H i=>f i
 |T=>.stuck
def xd (f:Int->Int->aY E)(v w:E):aY E:=match cR v with
 |H i=>jC (f i) w
 |T=>.stuck
def zi (a:R)(v:E):aY E:=bJ (l_<|res a v) λb=>aS<|.tup b
def CG (v:E):aY E:=bJ (mO v) λa=>jP (jC λi=>do ask<|0<=i/\i<256;aS<|.dk #[me i.toNat]) a
def K4 (b:R)(n:String)(a:List E):aY E:=if n= "len" then jP (uH b) a else if n= "isinstance" then nV (Bf b) a else if n= "abs" then jP (jC λi=>aS<|.int i.natAbs) a
  else if n= "max" then nV (xd λi j=>aS<|.int<|if i<j then j else i) a else if n= "min" then nV (xd λi j=>aS<|.int<|if j<i then j else i) a else .stuck
def FH (b:R)(n:String)(a:List E):aY E:=if n= "int" then jP (jC λi=>aS<|.int i) a else if n= "str" then jP (jC λi=>do ask<|0<=i/\i<=1000;aS<|.str<|U<|toString i) a
  else if n= "tuple" then jP (zi b) a else if n= "bytes" then jP CG a else .stuck
def dB (a:R)(f:ah)(b:List E):aY E:=match f with
 |.builtin n=>K4 a n b
 |.type n=>FH a n b
 |_=>.stuck
def oy:ah->Option Z
 |.ref a=>H a
 |_=>T
theorem qm (h:oy v=H a):v=.ref a:=by
 cases v<;>first|exact congrArg ic<|bf h|exact ao h
def C2:ah->Option String
 |.type n=>H n
 |_=>T
theorem Nd (h:C2 v=H n):v=.type n:=by
 cases v<;>first|exact congrArg cX<|bf h|exact ao h
def zO (a:R)(f:ah)(v:E):aY au:=bJ (C2 f) λn=>match aP<|n= "list" with
 |I=>bJ (l_<|res a v) λc=>aS<|.lst c
 |N=>er (aP<|n= "dict")<|bJ (qM<|res a v) λb=>er (aP<|b.length<=1000)<|aS<|.aa b
def FD:E->Bool
 |.bR _ _=>I
 |_=>N
def qi (m:ae):Option au->Bool
 |H o=>match o with
  |.lst _=>m=U "append" ||m=U "insert" ||m=U "pop"
  |.aa _=>m=U "get"
  |.tab _=>m=U "get"
  |.inst _ _=>N
 |T=>N
def qf (a:R)(b:E)(m:ae):Bool:=match b with
 |.loc l=>qi m<|a.get l
 |.aa _=>m=U "get"
 |.str _=>m=U "lower"
 |_=>N
def qR (p:Pos):Nat:=p.line*1000+p.col
def kg (a:Y):List (ae×fq)->Option (List<|ae×E)
 |[]=>H []
 |(x,.free)::r=>if aZ x a.scope==H .cell then do
  let v <-aI x a.vals
  let b <-kg a r
  aS<|(x,v)::b else T
 |_::r=>kg a r
def fZ (a:Y):List (ae×fq)->Option (List<|ae×E)
 |[]=>H []
 |(x,.free)::r=>if aZ x a.scope==H .cell||aZ x a.scope==H .free then do
  let v <-aI x a.vals
  let b <-fZ a r
  aS<|(x,v)::b else T
 |_::r=>fZ a r
theorem Ma:kg a ((x,.free)::r)=if aZ x a.scope==H .cell then do
  let v <-aI x a.vals
  let b <-kg a r
  aS<|(x,v)::b else T:=rfl
theorem H_:fZ a ((x,.free)::r)=if aZ x a.scope==H .cell||aZ x a.scope==H .free then do
  let v <-aI x a.vals
  let b <-fZ a r
  aS<|(x,v)::b else T:=rfl
def cS:List (ae×fq)->List ae
 |[]=>[]
 |(x,.free)::r=>x::cS r
 |_::r=>cS r
structure ps where
 params:List ae
 body:aD
 scope:List<|ae×fq
def uq (e:aD):Option ps:=match e with
 |.Lambda a b s _=>H ⟨a.args.map (·.arg),b,s.names⟩
 |_=>T
def od (n:Nat)(e:aD):aD:=match e with
 |.Call _ a _ _=>a.getD n bD
 |.Attribute (.Call _ a _ _) _ _=>a.getD n bD
 |_=>bD
def valueAt (s:bM):aD:=match s with
 |.Return (H e) _=>e
 |.Assign _ e _=>e
 |_=>bD
def mw (k:Nat):Option ps:=
 if k=295028 then uq<|od 1<|valueAt<|(sF<|aH 42).getD 0 bD
 else if k=297028 then uq<|od 1<|valueAt<|(sF<|aH 43).getD 0 bD
 else if k=890040 then uq<|od 2<|valueAt<|(sF<|aH 120).getD 12 bD
 else T
abbrev dp (a:DV)(b:ia):Prop:=
 a.posonlyargs=[]/\
 a.kwonlyargs=[]/\
 a.vararg=T/\
 a.kwarg=T/\
 a.defaults=[]/\
 a.kw_defaults=[]/\
 b.isCoroutine=N/\
 b.isGenerator=N/\
 b.kind=.function/\
 (∀x∈b.names,x.2≠.cell)/\
 (a.args.map (·.arg)).Nodup/\
 (∀x∈a.args.map (·.arg),aZ x b.names=H .local)/\
 ∀x∈b.names,x.2=.free->aZ x.1 b.names=H .free
theorem dp.pos (h:dp a b):a.posonlyargs=[]:=h.1
theorem dp.vo (h:dp a b):a.kwonlyargs=[]:=h.2.1
theorem dp.va (h:dp a b):a.vararg=T:=h.2.2.1
theorem dp.ka (h:dp a b):a.kwarg=T:=h.2.2.2.1
theorem dp.df (h:dp a b):a.defaults=[]:=h.2.2.2.2.1
theorem dp.kd (h:dp a b):a.kw_defaults=[]:=h.2.2.2.2.2.1
theorem dp.co (h:dp b a):a.isCoroutine=N:=h.2.2.2.2.2.2.1
theorem dp.gen (h:dp b a):a.isGenerator=N:=h.2.2.2.2.2.2.2.1
theorem dp.kind (h:dp b a):a.kind=.function:=h.2.2.2.2.2.2.2.2.1
theorem dp.jH (h:dp b a):∀x∈a.names,x.2≠.cell:=h.2.2.2.2.2.2.2.2.2.1
theorem dp.nodup (h:dp a b):(a.args.map (·.arg)).Nodup:=h.2.2.2.2.2.2.2.2.2.2.1
theorem dp.params (h:dp a b):∀x∈a.args.map (·.arg),aZ x b.names=H .local:=h.2.2.2.2.2.2.2.2.2.2.2.1
theorem dp.free (h:dp b a):∀x∈a.names,x.2=.free->aZ x.1 a.names=H .free:=h.2.2.2.2.2.2.2.2.2.2.2.2
def K7 (a:DV)(c:aD)(b:ia)(d:Pos):Prop:=
 mw (qR d)=H ⟨a.args.map (·.arg),c,b.names⟩/\dp a b
def lU (a:Z):Option<|Nat×Nat×ae:=if a=575 then H (295,28,U "transformed.<locals>.<lambda>") else
 if a=582 then H (297,28,U "told_path.<locals>.<lambda>") else
 if a=1040 then H (890,40,U "law.<locals>.<lambda>") else T
theorem Iz (e:lU a=H r):a=575/\H (295,28,U "transformed.<locals>.<lambda>")=H r\/
  a=582/\H (297,28,U "told_path.<locals>.<lambda>")=H r\/a=1040/\H (890,40,U "law.<locals>.<lambda>")=H r:=by
 by_cases b:a=575
 .exact .inl ⟨b,(if_pos b).symm.trans e⟩
 .have e:=(if_neg b).symm.trans e
  by_cases c:a=582
  .exact .inr<|.inl ⟨c,(if_pos c).symm.trans e⟩
  .have e:=(if_neg c).symm.trans e
   by_cases d:a=1040
   .exact .inr<|.inr ⟨d,(if_pos d).symm.trans e⟩
   .exact ao<|(if_neg d).symm.trans e
def wQ (a:List<|ae×E)(b:List E):Option E:=(wY b).bind λp=>(kZ p.1).map λk=>(aI k a).getD p.2
def CY (a:List<|Int×E)(b:List E):Option E:=(wY b).bind λp=>(cR p.1).map λk=>(cZ k a).getD p.2
def qh (a:R)(l:Nat)(m:ae)(b:List E):Option au->aY (E×R)
 |H o=>match o with
  |.lst d=>bJ (lX m b d) λp=>do ask<|p.1.length<=1000000;aS (p.2,a.set l<|.lst p.1)
  |.aa c=>er (aP<|m=U "get")<|bJ (wQ c b) λv=>aS (v,a)
  |.tab c=>er (aP<|m=U "get")<|bJ (CY c b) λv=>aS (v,a)
  |.inst _ _=>.stuck
 |T=>.stuck
def qC (a:R)(c:E)(m:ae)(b:List E):aY<|E×R:=match c with
 |.loc l=>qh a l m b<|a.get l
 |.aa d=>er (aP<|m=U "get")<|bJ (wQ d b) λv=>aS (v,a)
 |.str s=>er (aP (m=U "lower") && aP (s=U "g") && b.isEmpty)<|aS (.str s,a)
 |_=>.stuck
def sM:E->Bool
 |.ag (.ref a)=>(d_ a).isSome||(gB a).isSome
 |.ag (.builtin _)=>I
 |.ag (.type _)=>I
 |.bR _ _=>I
 |_=>N
def Qy:E->Bool
 |.ag (.type t)=>t== "list" ||t== "dict"
 |_=>N
def iT:aD->Bool
 |.ListComp ..=>N
 |.SetComp ..=>N
 |.DictComp ..=>N
 |_=>I
def pC (a:Y)(b:Nat):List aD->Option (List ae)
 |[]=>H []
 |e::r=>(sJ e).bind λq=>match aZ q.1 a.scope==H .local && cC q.2.line b with
  |I=>(pC a b r).map (q.1::·)
  |N=>T
set_option genCtorIdx true in
inductive k_ where
 |inOrder|back (a:List ae)|odd
def nk (e:aD):Option<|List aD:=(EV.of e).tu
def lu (d:Y)(a b:List aD):k_:=match !(a.length==2||a.length==3) with
 |I=>.inOrder
 |N=>match b.length !=a.length||!b.all dn||b.all (DW 8)||b.all (DX 8) with
  |I=>.odd
  |N=>match pC d ((a.head?.map (·.pos.line)).getD 0) a with
   |H c=>match c.eraseDups.length==c.length with
    |I=>.back c
    |N=>.odd
   |T=>.odd
def pq (a:Y)(b:List aD)(c:aD):k_:=match nk c with
 |H d=>lu a b d
 |T=>.inOrder
def DQ:aD->Bool
 |.Attribute ..=>I
 |.Subscript ..=>I
 |_=>N
def TC:k_->Bool
 |.odd=>N
 |_=>I
inductive SV where
 |expr (e:aD) (p:Pos)
 |ret (e:Option aD) (p:Pos)
 |other
def SV.of:bM->SV
 |.Expr e p=>.expr e p
 |.Return e p=>.ret e p
 |_=>.other
def SV.is:SV->bM->Prop
 |.expr e p,t=>t=.Expr e p
 |.ret e p,t=>t=.Return e p
 |.other,_=>True
theorem SV.ok (t):(SV.of t).is t:=by
 cases t<;>first|exact rfl|exact trivial
def SV.ex:SV->Option aD
 |.expr e _=>H e
 |_=>T
def SV.re:SV->Option aD
 |.ret e _=>e
 |_=>T
def tP (t:bM):Option aD:=(SV.of t).ex
def xh (t:bM):Option aD:=(SV.of t).re
def yl:DY->Option (aD×bM)
 |.ExceptHandler t n b _=>t.bind λf=>match n with
  |T=>(one b).map λr=>(f,r)
  |H _=>T
def uW (a:List DY):Option<|aD×bM:=(one a).bind yl
def vN (p:aD×List aD×List pG):Option<|ae×aD:=(hr p.1).bind λx=>match p.2.2.isEmpty with
 |I=>(one p.2.1).map λm=>(x,m)
 |N=>T
def ro (e c:Option aD):Option<|ae×aD:=match c with
 |T=>(e.bind oc).bind vN
 |H _=>T
def BZ (p:aD×bM)(s:bM):Option<|aD×ae×md:=(tP s).bind λe=>(hr p.1).bind λx=>(xh p.2).bind λv=>(qw v).map λc=>(e,x,c)
def qV (b:List bM)(a:List DY)(c d:List bM):Option<|aD×ae×md:=match c.isEmpty && d.isEmpty with
 |I=>(uW a).bind λp=>(one b).bind<|BZ p
 |N=>T
theorem Rf (h:tP t=H e):∃p,t=.Expr e p:=by
 have go:∀v:SV,v.ex=H e->v.is t->∃p,t=.Expr e p:=λv h o=>by
  cases v with
  |expr a p=>cases h;exact ⟨p,o⟩
  |_=>exact ao h
 exact go _ h<|SV.ok t
theorem PB (h:xh t=H e):∃p,t=.Return (H e) p:=by
 have go:∀v:SV,v.re=H e->v.is t->∃p,t=.Return (H e) p:=λv h o=>by
  cases v with
  |ret a p=>cases h;exact ⟨p,o⟩
  |_=>exact ao h
 exact go _ h<|SV.ok t
theorem J5 (h:vN p=H (x,m)):∃q,p=(.Name x q,[m],[]):=by
 obtain ⟨f,b,c⟩:=p
 refine zb h λy d h=>?_
 refine aC (oB<|show hr f=_ from d) ?_;rintro q rfl
 cases c with
 |cons=>exact ao h
 |nil=>
  refine zm (show (one b).map _=_ from h) λa e h=>?_
  cases h
  exact ⟨q,by exact J (hP e) rfl⟩
theorem LX (h:ro e c=H (x,m)):∃p q,e=H (.Call (.Name x p) [m] [] q)/\c=T:=by
 cases c with
 |some c=>exact ao h
 |none=>
  refine zb (show (e.bind oc).bind vN=_ from h) ?_;rintro ⟨f,d,g⟩ a h
  refine aC (J5 h) λp b=>?_
  cases b
  refine zb a ?_;rintro e rfl a
  refine aC (Ci a) ?_;rintro q rfl
  exact ⟨_,_,rfl,rfl⟩
theorem Pc (h:uW c=H (f,r)):∃p,c=[.ExceptHandler (H f) T [r] p]:=by
 refine zb (show (one c).bind yl=_ from h) λa d h=>?_
 obtain ⟨t,n,b,p⟩:=a
 refine zb (show t.bind _=_ from h) ?_;rintro g rfl h
 cases n with
 |some=>exact ao h
 |none=>
  refine zm (show (one b).map _=_ from h) λi e h=>?_
  cases h
  exact ⟨p,by refine J (hP d) ?_;exact J (hP e) rfl⟩
theorem OR (h:BZ p s=H (e,x,c)):∃a b k d g,s=.Expr e a/\p=(.Name x b,.Return (H<|.Constant c k d) g):=by
 obtain ⟨f,r⟩:=p
 refine zb (show (tP s).bind _=_ from h) λA m i=>?_
 clear h
 refine zb i λy n j=>?_
 clear i
 refine zb j λv q l=>?_
 clear j
 refine zm l λB t z=>?_
 clear l
 refine aC (Rf m) ?_;rintro a rfl
 refine aC (oB<|show hr f=_ from n) ?_;rintro b rfl
 refine aC (PB<|show xh r=_ from q) ?_;rintro g rfl
 refine dx (BE t) ?_;rintro k d rfl
 cases z
 exact ⟨_,_,_,_,_,rfl,rfl⟩
theorem LJ (h:qV b j l m=H (e,x,c)):
  ∃a d k f g i,b=[.Expr e a]/\j=[.ExceptHandler (H<|.Name x d) T [.Return (H<|.Constant c k f) g] i]/\l=[]/\m=[]:=by
 cases l with
 |cons=>exact ao h
 |nil=>cases m with
  |cons=>exact ao h
  |nil=>
   refine zb (show (uW j).bind _=_ from h) λp n h=>?_
   refine zb h λs q h=>?_
   refine dx (OR h) ?_;intro a d zz;refine mZ zz ?_;clear zz;rintro k f g rfl rfl
   refine aC (Pc n) ?_;rintro i rfl
   refine J (hP q) ?_
   exact ⟨a,d,k,f,g,i,rfl,rfl,rfl,rfl⟩
def xb (b:List ae)(a:List E):Option E:=match aP<|b.length<a.length with
 |I=>a[a.length - (b.length+1)]?
 |N=>T
def hq:List ae->List E->List E->Option (List<|ae×E)
 |[],_,a=>match a with
  |[]=>H []
  |_::_=>T
 |p::b,c,a=>match a with
  |v::e=>(hq b c e).map λr=>(p,v)::r
  |[]=>(xb b c).bind λd=>(hq b c []).map λr=>(p,d)::r
end
end
mutual
open Mine
def wp (r:aY b)(d:b->Prop):Prop:=match r with
 |.stuck=>False
 |.ok c a=>c.on<|d a
section
variable {c b:Type}{a:c->Prop}
theorem ek.GN {e d:ek}:(e.and d).on P=e.on (d.on P):=by
 cases e with
 |t=>rfl
 |p e=>cases d with
  |t=>rfl
  |p d=>exact propext and_assoc
theorem ek.uQ {d:ek}(h:d.on P):d.ok/\P:=by
 cases d with
 |t=>exact ⟨trivial,h⟩
 |p d=>exact h
theorem ek.mk {d:ek}(h:d.ok)(k:P):d.on P:=by
 cases d with
 |t=>exact k
 |p d=>exact ⟨h,k⟩
theorem pA {x:aY b}:wp (x>>=f) a=wp x λe=>wp (f e) a:=by
 cases x with
 |stuck=>rfl
 |ok g e=>
  show wp (match f e with|.stuck=>.stuck|.ok d i=>.ok (g.and d) i) a=g.on (wp (f e) a)
  cases f e with
  |stuck=>exact propext ⟨Rx,λh=>(ek.uQ h).2⟩
  |ok d i=>exact ek.GN
end
end
mutual
open Mine
theorem zf:∀(a b:List Char),a.map xn=b.map xn->a=b
 |[],[],_=>rfl
 |[],_::_,h=>nomatch h
 |_::_,[],h=>nomatch h
 |x::a,y::b,h=>by
  rw [dQ,dQ,TV] at h
  exact zf a b h.2▸(Char.ext<|UInt32.toNat_inj.mp h.1)▸rfl
theorem zL:(U a=U b)=(a=b):=by
 apply propext
 constructor
 .intro h
  rw [Ry,Ry,Str.mk.injEq] at h
  have c:a.toList.map xn=b.toList.map xn:=by simpa using congrArg Array.toList h
  exact String.toList_inj.mp<|zf _ _ c
 .intro h;exact J h rfl
inductive cL where
 |fn (f:Z)
 |bR (g:E)
 |blt
structure Or where
 call:Nat->E->List E->R->(E->R->Prop)->Prop->Prop
 aE:Nat->E->ae->cL->List E->R->(E->R->Prop)->Prop->Prop
 ec:Y->R->aD->List bM->(Fl->Y->R->Prop)->Prop->Prop
 bH:aD->List bM->List E->Y->R->(Fl->Y->R->Prop)->Prop->Prop
 comp:aD->aD->List E->Y->R->(List E->R->Prop)->Prop->Prop
def vr (c:Nat->E->List E->R->(E->R->Prop)->Prop->Prop)(d:Nat)(e:E)(m:ae)(h:cL)(a:List E)(b:R)(k:E->R->Prop)(X:Prop):Prop:=match h with
 |.fn f=>c d (.ag<|.ref f) (e::a) b k X
 |.bR g=>c d g a b k X
 |.blt=>wp (qC b e m a) λr=>k r.1 r.2
def lQ (a:List<|ae×E)(m:ae)(b:Bool):Option Z->aY cL
 |H f=>if (aI m a).isNone then aS<|.fn f else .stuck
 |T=>do
   gM b
   let g <-oo<|aI m a
   gM<|FD g
   aS<|.bR g
def qU (m:ae)(b:Bool):E->aY cL
 |.inst c a=>lQ a m (fo c m)<|ja c m
 |_=>do
  gM b
  aS .blt
def aV (a:R)(b:E)(m:ae):aY cL:=qU m (qf a b m)<|res a b
def bw {b:Type}(x:Option b)(k:b->Prop):Prop:=match x with
 |H a=>k a
 |T=>False
def cj (b:Bool)(P:Prop):Prop:=match b with
 |I=>P
 |N=>False
section
variable {c a:Type}{b:c->Prop}{X d:Prop}
theorem xj (h:wp r P)(k:∀e,P e->b e):wp r b:=by
 cases r with
 |stuck=>exact h
 |ok f e=>exact ek.mk (ek.uQ h).1<|k e (ek.uQ h).2
theorem AS {x:Option a}(h:bw x k):∃e,x=H e/\k e:=by
 cases x with
 |none=>exact h.elim
 |some e=>exact ⟨e,rfl,h⟩
theorem zo {x:Option a}{e:Prop}(h:bw x k)(g:∀f,x=H f->k f->e):e:=aK (AS h) g
theorem mU (h:cj e P):e=I/\P:=by
 cases e with
 |true=>exact ⟨rfl,h⟩
 |false=>exact h.elim
end
end
mutual
open Mine
def vi (a:Y)(x:ae)(v:E):Option fq->Option Y
 |H k=>match k with
  |.local=>H {a with vals:=bc x v a.vals}
  |.cell=>H {a with vals:=bc x v a.vals}
  |_=>T
 |T=>T
def eD (a:Y)(x:ae)(v:E):Option Y:=match a.sealed.contains x||(fW a x).isSome with
 |I=>T
 |N=>vi a x v<|aZ x a.scope
def kF:Y->List aD->List E->Option Y
 |a,[],[]=>H a
 |a,t::b,v::c=>(hr t).bind λx=>(eD a x v).bind λa=>kF a b c
 |_,_,_=>T
def oi:Y->List ae->List E->Option Y
 |a,[],[]=>H a
 |a,x::b,v::c=>(eD a x v).bind λa=>oi a b c
 |_,_,_=>T
def iG (a:List E):Nat->Nat->List E
 |_,0=>[]
 |i,n+1=>a.getD i .none::iG a (i+1) n
theorem Qw:iG a i (n+1)=a.getD i .none::iG a (i+1) n:=rfl
def jb (b c:Bool)(a:R):RV->aY (E×R)
 |.val v=>aS (v,a)
 |.fresh o=>if b then if c then match o with
   |.aa []=>aS (.loc a.next,a.alloc<|.tab [])
   |_=>.stuck else aS (.loc a.next,a.alloc o) else aS (o.tree,a)
def lJ (p:Pos):Bool:=cC (Pos.key p) 158021023
def Au (a:R)(l:Nat):Option au->aY (E×R)
 |H o=>match o with
  |.inst _ _=>.stuck
  |.tab _=>.stuck
  |o=>aS (o.tree,a.free l)
 |T=>.stuck
def bG (a:R):E->aY (E×R)
 |.loc l=>Au a l<|a.get l
 |v=>aS (v,a)
def aw (b:R)(c:E)(a:ae):aY E:=do
 let v <-oo<|zD b c a
 gM !jF v
 aS v
def IM:E->aY E
 |.int i=>aS<|.int<|-i
 |_=>.stuck
def qJ:E->aY Unit
 |.str _=>aS ()
 |_=>.stuck
def kM (b c:Bool)(a:R)(f v:E):aY<|E×R:=match f with
 |.ag f=>do let o <-zO a f v;jb b c a<|.fresh o
 |_=>.stuck
def bA (d e:Bool)(c:R)(f:Operator)(a b:E):aY<|E×R:=do let r <-binop c f a b;jb d e c r
def sy (d e:Bool)(c:R)(o a b:E):aY<|E×R:=do let r <-DN c o a b;jb d e c r
def mV (s:ia):Bool:=(match s.kind with|.function=>I|_=>N) && s.names.all λx=>x.2 !=.cell && (x.2 !=.local||aZ x.1 s.names==H .local) && (x.2 !=.free||aZ x.1 s.names==H .free)
def bQ (n:Nat):aY Unit:=gM<|aP<|n<100
def fH (a:Z):List bM:=match d_ a with
 |H b=>b.body
 |T=>[]
def iZ:Nat->List bM->List (aD×List bM×Nat)
 |0,_=>[]
 |_,[]=>[]
 |n+1,.For t _ b _ p::r=>(t,b,p.line*1000+p.col)::iZ n b++iZ n r
 |n+1,.If _ a b _::r=>iZ n a++iZ n b++iZ n r
 |n+1,.While _ b _ _::r=>iZ n b++iZ n r
 |n+1,_::r=>iZ n r
def iV:Nat->List bM->List (aD×List bM)
 |0,_=>[]
 |_,[]=>[]
 |n+1,.For _ _ b _ _::r=>iV n b++iV n r
 |n+1,.If _ a b _::r=>iV n a++iV n b++iV n r
 |n+1,.While t b _ _::r=>(t,b)::iV n b++iV n r
 |n+1,_::r=>iV n r
end
mutual
noncomputable def fc:Nat->aD->List (aD×aD×Nat×List (ae×fq))
 |0,_=>[]
 |n+1,e=>match e with
  |.ListComp h (g::_) s p=>(h,g.target,p.line*1000+p.col,s.names)::fc n h
  |.Call f j _ _=>fc n f++nj n j
  |.BinOp l _ r _=>fc n l++fc n r
  |.Compare l _ k _=>fc n l++nj n k
  |.Tuple d _ _=>nj n d
  |.List d _=>nj n d
  |.IfExp a b c _=>fc n a++fc n b++fc n c
  |.BoolOp _ d _=>nj n d
  |.Subscript o i _=>fc n o++fc n i
  |.Attribute o _ _=>fc n o
  |_=>[]
noncomputable def nj:Nat->List aD->List (aD×aD×Nat×List (ae×fq))
 |0,_=>[]
 |_,[]=>[]
 |n+1,e::r=>fc n e++nj n r
end
mutual
open Mine
def kP:Nat->List bM->List (aD×aD×Nat×List (ae×fq))
 |0,_=>[]
 |_,[]=>[]
 |n+1,s::r=>(match s with
  |.Expr e _=>fc 30 e
  |.Return (H e) _=>fc 30 e
  |.Assign _ e _=>fc 30 e
  |.If t a b _=>fc 30 t++kP n a++kP n b
  |.For _ i b _ _=>fc 30 i++kP n b
  |.While t b _ _=>fc 30 t++kP n b
  |_=>[])++kP n r
def cN (a:Z)(i:Nat):aD:=((iZ 50<|fH a).getD i bD).1
def cB (a:Z)(i:Nat):List bM:=((iZ 50<|fH a).getD i bD).2.1
def uy (a:Z)(i:Nat):aD:=((iV 50<|fH a).getD i bD).1
def uj (a:Z)(i:Nat):List bM:=((iV 50<|fH a).getD i bD).2
def cp (a:Z)(i:Nat):aD:=((kP 50<|fH a).getD i bD).1
def cw (a:Z)(i:Nat):aD:=((kP 50<|fH a).getD i bD).2.1
def Qt (a:Z)(i:Nat):List<|ae×fq:=((kP 50<|fH a).getD i bD).2.2.2
def mz (a:Z):aD:=match a with
 |1043=>od 2<|valueAt<|(fH 1043).getD 12 bD
 |a=>od 1<|valueAt<|(fH a).getD 0 bD
def fr (a d:Nat)(c:List<|ae×E):Y:=⟨c,T,match d_ a with|H b=>b.scope.names|T=>[],[],d+1,match d_ a with|H b=>b.tab|T=>T⟩
def bI (a i d:Nat)(b:List<|ae×E):Y:=⟨b,T,Qt a i,[],d+1,T⟩
def zV:List Nat:=[739004,163008,291004,333004,348004,464004,766004,776004,791004,831004,874004,881004]
def yA:List Nat:=[722011,722061,730022,751012,292027,292050,336011,657022,687032,709012,733012,867014,868011,897007,897054,899011,899018,899100,229021,386028,386069]
def ki (e:aD)(b:Option Z):Prop:=match e with
 |.Lambda c d f a=>K7 c d f a/\∃P q,b=H P/\lU P=H (a.line,a.col,q)
 |_=>False
section
variable (O:Or)(a:Y->R->aD->(E->Y->R->Prop)->Prop->Prop)(b:Y->R->List bM->(Fl->Y->R->Prop)->Prop->Prop)
def dS:Y->R->List aD->(List E->Y->R->Prop)->Prop->Prop
 |c,d,[],k,_=>k [] c d
 |c,d,e::r,k,X=>cj (dn e)<|a c d e (λv c d=>dS c d r (λf c d=>k (v::f) c d) X) X
def se (f:BoolOp):Y->R->List aD->(E->Y->R->Prop)->Prop->Prop
 |_,_,[],_,_=>False
 |d,c,[e],k,X=>a d c e k X
 |d,c,e::r,k,X=>a d c e (λv d c=>wp (truthy c v) λt=>match f with
  |.And=>match t with|I=>se f d c r k X|N=>k v d c
  |.Or=>match t with|I=>k v d c|N=>se f d c r k X) X
def nT (e:Y)(d:R)(l:aD)(f:List sS)(g:List aD)(k:Bool->Y->R->Prop)(X:Prop):Prop:=
 bw (one f) λh=>bw (one g) λr=>cj (dn r)<|a e d l (λi e d=>a e d r (λj e d=>wp (ax d h i j) λc=>k c e d) X) X
def wK (f:Y)(e:R)(l:aD)(h:List sS)(i:List aD)(k:Bool->Y->R->Prop)(X:Prop):Prop:=
 bw (lS h) λo=>bw (lS i) λr=>cj (dn r.2)<|a f e l (λj f e=>a f e r.1 (λg f e=>wp (ax e o.1 j g) λc=>match c with
  |I=>a f e r.2 (λd f e=>wp (ax e o.2 g d) λc=>k c f e) X
  |N=>k N f e) X) X
end
mutual
noncomputable def hR:Nat->Y->R->aD->(Bool->Y->R->Prop)->Prop->Prop
 |0,_,_,_,_,_=>False
 |n+1,d,c,e,k,X=>match e with
  |.BoolOp f j _=>oO n f d c j k X
  |.UnaryOp .Not x _=>hR n d c x (λg d c=>k (!g) d c) X
  |.Compare l h i _=>match (one h).isSome with
   |I=>nT a d c l h i k X
   |N=>wK a d c l h i k X
  |.IfExp _ _ _ _=>False
  |e=>a d c e (λv d c=>wp (truthy c v) λg=>k g d c) X
noncomputable def oO:Nat->BoolOp->Y->R->List aD->(Bool->Y->R->Prop)->Prop->Prop
 |_,f,d,c,[],k,_=>k (match f with|.And=>I|.Or=>N) d c
 |0,_,_,_,_::_,_,_=>False
 |n+1,f,d,c,e::r,k,X=>hR n d c e (λg d c=>match f with
  |.And=>match g with|I=>oO n f d c r k X|N=>k N d c
  |.Or=>match g with|I=>k I d c|N=>oO n f d c r k X) X
end
mutual
open Mine
def qO (c:Y)(d:R)(e:aD)(k:List E->Y->R->Prop)(X:Prop):Prop:=
 cj (dn e)<|a c d e (λv c d=>wp (hj v) λf=>k f c d) X
def BN (c:Y)(d:R)(e:aD)(k:List E->Y->R->Prop)(X:Prop):Option (ae×aD)->Prop
 |H (x,f)=>match aP<|x=U "range" with
  |I=>cj (aZ x c.scope==H .globalImplicit && dn f)<|a c d f (λv c d=>wp (ju v) λg=>k g c d) X
  |N=>qO a c d e k X
 |T=>qO a c d e k X
def o_ (c:Y)(d:R)(e:aD)(k:List E->Y->R->Prop)(X:Prop):Prop:=BN a c d e k X<|r_ e
def eu (d:Y)(e:R)(t:aD)(v:E)(k:Y->Prop):Prop:=match t with
 |.Name x _=>bw (eD d x v) k
 |.Tuple c _ _=>cj (c.all dn)<|wp (gy e v c.length) λf=>bw (kF d c<|iG f 0 c.length) k
 |_=>False
def iA (d e:aD):List E->Y->R->(List E->R->Prop)->Prop
 |[],_,c,k=>k [] c
 |x::r,f,c,k=>eu f c e x λg=>a g c d (λv _ c=>iA d e r f c λh c=>k (v::h) c) False
def iy (e:aD)(f:List bM):List E->Y->R->(Fl->Y->R->Prop)->Prop->Prop
 |[],c,d,k,_=>k .next c d
 |x::r,c,d,k,X=>eu c d e x λc=>b c d f (λg c d=>match g with
  |.next=>iy e f r c d k X
  |.ret v=>k (.ret v) c d) X
def kO (e:Bool)(v:E)(c:Y)(d:R)(k:E->Y->R->Prop):Prop:=match e with
 |N=>k v c d
 |I=>wp (bG d v) λr=>k r.1 c r.2
def gz (p:Pos)(v:E)(c:Y)(d:R)(k:E->Y->R->Prop):Prop:=kO (Pos.is p hu) v c d k
def C1 (f c:Bool)(x:ae)(v:E)(d:Y)(e:R)(k:E->Y->R->Prop):Prop:=match f with
 |N=>k v d e
 |I=>cj c<|wp (bG e v) λr=>k r.1 {d with vals:=bc x r.1 d.vals} r.2
def nU (f c:Bool)(o:au)(e:Y)(d:R)(k:E->Y->R->Prop):Prop:=match f with
 |N=>k o.tree e d
 |I=>match c with
  |N=>k (.loc d.next) e<|d.alloc o
  |I=>match o with|.aa []=>k (.loc d.next) e<|d.alloc<|.tab []|_=>False
def oX (p:Pos)(o:au)(c:Y)(d:R)(k:E->Y->R->Prop):Prop:=nU (Pos.is p iu) (lJ p) o c d k
def yW:Option fq->Bool
 |H .local=>I
 |H .cell=>I
 |_=>N
def z_ (h:Bool)(c d:aD)(e:List E)(f:Y)(g:R)(k:List E->R->Prop)(X:Prop):Prop:=match h with
 |I=>O.comp c d e f g k X
 |N=>iA a c d e f g k
def Qz (h:Bool)(c:aD)(d:List bM)(e:List E)(f:Y)(g:R)(k:Fl->Y->R->Prop)(X:Prop):Prop:=match h with
 |I=>O.bH c d e f g k X
 |N=>iy b c d e f g k X
def wD (c:Y)(d:R)(e:Option aD)(k:E->Y->R->Prop)(X:Prop):Prop:=match e with
 |H e=>a c d e k X
 |T=>k .none c d
def dJ (d:Y)(h:R)(e:aD)(k:E->Y->R->Prop)(X:Prop):Prop:=match e with
 |.Constant c _ p=>cj !Pos.is p hu<|bw (qT c) λv=>k v d h
 |.Name x p=>cj (mN x && (fW d x).isNone)<|bw (gT d x) λv=>C1 (Pos.is p hu) (yW<|aZ x d.scope) x v d h k
 |.BinOp l P r p=>cj !(Pos.is p hu && Pos.is p iu)<|a d h l (λA d h=>a d h r (λs d h=>wp (bA (Pos.is p iu) (lJ p) h P A s) λr=>gz p r.1 d r.2 k) X) X
 |.UnaryOp .USub x p=>cj !Pos.is p hu<|a d h x (λv d h=>wp (IM v) λv=>k v d h) X
 |.UnaryOp .Not x p=>cj !Pos.is p hu<|a d h x (λv d h=>wp (truthy h v) λs=>k (.bool !s) d h) X
 |.BoolOp P n p=>cj !Pos.is p hu<|se a P d h n k X
 |.Compare l a1 rs p=>cj !Pos.is p hu<|nT a d h l a1 rs (λs d h=>k (.bool s) d h) X
 |.IfExp t A s p=>hR a 20 d h t (λc d h=>match c with
  |I=>a d h A (λv d h=>gz p v d h k) X
  |N=>a d h s (λv d h=>gz p v d h k) X) X
 |.Call f q [] p=>match f with
  |.Attribute o m ap=>cj (rq o && q.all dn && aP (q.length<30) && ap.endLine==p.line)<|a d h o (λy d h=>wp (aV h y m) λa2=>dS a d h q (λj d h=>O.aE d.depth y m a2 j h (λv h=>gz p v d h k) X) X) X
  |.Name x _=>cj (mN x && (fW d x).isNone && q.all dn)<|bw (gT d x) λB=>match B with
   |.ag (.type t)=>match t== "list" ||t== "dict" with
    |I=>dS a d h q (λj d h=>match j with
     |[v]=>cj !(Pos.is p hu && Pos.is p iu)<|wp (kM (Pos.is p iu) (lJ p) h (.ag<|.type t) v) λr=>gz p r.1 d r.2 k
     |_=>False) X
    |N=>dS a d h q (λj d h=>O.call d.depth (.ag<|.type t) j h (λv h=>gz p v d h k) X) X
   |.ag u=>cj (sM<|.ag u)<|dS a d h q (λj d h=>O.call d.depth (.ag u) j h (λv h=>gz p v d h k) X) X
   |B=>wp (gM<|sM B && !Qy B) λ_=>dS a d h q (λj d h=>O.call d.depth B j h (λv h=>gz p v d h k) X) X
  |_=>False
 |.Attribute o A p=>cj (rq o)<|a d h o (λy d h=>wp (aw h y A) λv=>gz p v d h k) X
 |.Subscript o i p=>match i with
  |.Slice lo a3 T _=>cj !(Pos.is p hu && Pos.is p iu)<|a d h o (λy d h=>wD a d h lo (λA d h=>wD a d h a3 (λs d h=>wp (sy (Pos.is p iu) (lJ p) h y A s) λr=>gz p r.1 d r.2 k) X) X) X
  |.Slice _ _ (H _) _=>False
  |i=>a d h o (λy d h=>a d h i (λa4 d h=>wp (aO h y a4) λv=>gz p v d h k) X) X
 |.Tuple n _ p=>cj (aP (n.length<=1000) && !Pos.is p hu)<|dS a d h n (λj d h=>k (.tup j) d h) X
 |.List n p=>cj (aP<|n.length<=1000)<|dS a d h n (λj d h=>oX p (.lst j) d h k) X
 |.Dict M n p=>cj (M.length==n.length && aP (n.length<=15))<|bw (rB M) λM=>dS a d h n (λj d h=>oX p (.aa<|pz M j []) d h k) X
 |.ListComp a5 [g] z p=>cj (g.ifs.isEmpty && g.is_async==0 && (fZ d z.names).isSome && mV z)<|o_ a d h g.iter (λxs d h=>bw (fZ d z.names) λa6=>wp (ask<|xs.length<=1000000) λ_=>
  z_ O a (hv (p.line*1000+p.col) yA) a5 g.target xs ⟨a6,T,z.names,[],d.depth,T⟩ h (λj h=>oX p (.lst j) d h k) X) X
 |.Lambda q a7 z a0=>cj (d.own.isNone && !Pos.is a0 hu)<|bw (kg d z.names) λa8=>wp (ask<|ki (.Lambda q a7 z a0) d.tab) λ_=>k (.bR (qR a0) a8) {d with sealed:=cS z.names++d.sealed} h
 |_=>False
def BD (d:Y)(c:R)(o:aD)(e:ae)(v:E)(k:Y->R->Prop)(X:Prop):Prop:=a d c o (λf d c=>wp (setField c f e v) λc=>k d c) X
def yJ (e:Y)(f:R)(o:aD)(d:ae)(v:E)(y:ae)(w:Option au)(k:Y->R->Prop)(X:Prop):Prop:=match w with
 |H h=>match h with
  |.inst c g=>cj (fo c d && mN y && aP (g.length<=100))<|k {e with own:=H (y,.inst c<|bc d v g)} f
  |_=>False
 |T=>BD a e f o d v k X
def yT (c:Y)(d:R)(o:aD)(e:ae)(v:E)(y:Option ae)(k:Y->R->Prop)(X:Prop):Prop:=match y with
 |H y=>yJ a c d o e v y (fW c y) k X
 |T=>BD a c d o e v k X
def rL (c:Y)(d:R)(t:aD)(v:E)(k:Y->R->Prop)(X:Prop):Prop:=match t with
 |.Name x _=>bw (eD c x v) λc=>k c d
 |.Attribute o e _=>yT a c d o e v (hr o) k X
 |.Subscript o i _=>a c d o (λf c d=>a c d i (λg c d=>wp (setItem d f g v) λd=>k c d) X) X
 |_=>False
def ot:Y->R->List aD->List E->(Y->R->Prop)->Prop->Prop
 |c,d,[],[],k,_=>k c d
 |c,d,t::e,v::f,k,X=>rL a c d t v (λc d=>ot c d e f k X) X
 |_,_,_,_,_,_=>False
def C8 (c:Y)(d:R)(r:Option<|ae×aD)(X:Prop):Prop:=match r with
 |H (x,m)=>cj (aP (x=U "PaintFault") && aZ x c.scope==H .globalImplicit && dn m)<|wp (bQ c.depth) λ_=>a c d m (λv _ _=>wp (qJ v) λ_=>X) X
 |T=>False
def CU (d:Y)(f:R)(r:Option<|aD×ae×md)(k:Fl->Y->R->Prop)(X:Prop):Prop:=match r with
 |H (e,x,c)=>cj (aP (x=U "PaintFault") && aZ x d.scope==H .globalImplicit && iT e)<|a d f e (λ_ d f=>k .next d f)<|bw (qT c) λv=>k (.ret v) ⟨[],T,[],[],d.depth,T⟩ f.wipe
 |T=>False
def De (c:Y)(d:R)(e:List aD)(g:aD)(k:Fl->Y->R->Prop)(X:Prop):k_->Prop
 |.inOrder=>a c d g (λv c d=>wp (gy d v e.length) λf=>ot a c d e (iG f 0 e.length) (λc d=>k .next c d) X) X
 |.back h=>a c d g (λv c d=>wp (gy d v e.length) λf=>bw (oi c h.reverse (iG f 0 e.length).reverse) λc=>k .next c d) X
 |.odd=>False
def fV (d:Y)(f:R)(s:bM)(k:Fl->Y->R->Prop)(X:Prop):Prop:=match s with
 |.Expr e _=>cj (iT e)<|a d f e (λ_ d f=>k .next d f) X
 |.Return (H e) _=>a d f e (λv d f=>k (.ret v) d f) X
 |.Return T _=>k (.ret .none) d f
 |.Assign [t] g _=>match t with
  |.Name x _=>match iT g with
   |I=>a d f g (λv d f=>bw (eD d x v) λd=>k .next d f) X
   |N=>dJ O a d f g (λv d f=>bw (eD d x v) λd=>k .next d f) X
  |.Tuple h _ _=>cj (iT g && h.all dn)<|De a d f h g k X<|pq d h g
  |t=>cj (iT g && DQ t)<|a d f g (λv d f=>rL a d f t v (λd f=>k .next d f) X) X
 |.If t l i _=>hR a 20 d f t (λc d f=>match c with
  |I=>b d f l k X
  |N=>b d f i k X) X
 |.While t j [] _=>O.ec d f t j k X
 |.For m n j [] p=>o_ a d f n (λq d f=>Qz O b (hv (p.line*1000+p.col) zV) m j q d f k X) X
 |.Raise e c _=>C8 a d f (ro e c) X
 |.Try i r y z _=>CU a d f (qV i r y z) k X
 |_=>False
def hh:Y->R->List bM->(Fl->Y->R->Prop)->Prop->Prop
 |c,d,[],k,_=>k .next c d
 |c,d,s::r,k,X=>fV O a b c d s (λe c d=>match e with
  |.next=>hh c d r k X
  |.ret v=>k (.ret v) c d) X
end
end
mutual
open Mine
def ei (O:Or):Nat->Y->R->aD->(E->Y->R->Prop)->Prop->Prop
 |0,_,_,_,_,_=>False
 |n+1,a,b,e,k,X=>dJ O (ei O n) a b e k X
def dT (O:Or):Nat->Y->R->List bM->(Fl->Y->R->Prop)->Prop->Prop
 |0,_,_,_,_,_=>False
 |n+1,a,c,b,k,X=>hh O (ei O n) (dT O n) a c b k X
def ql:Fl->E
 |.next=>.none
 |.ret v=>v
def bB (O:Or)(a j:Nat)(c:Y)(b:R)(k:E->R->Prop)(X:Prop):Prop:=hh O (ei O 39) (dT O 39) c b ((fH a).drop j) (λd _ b=>k (ql d) b) X
def eO (O:Or)(a j:Nat)(k:E->R->Prop)(X:Prop)(c:Fl)(d:Y)(b:R):Prop:=match c with
 |.next=>bB O a j d b k X
 |.ret v=>k v b
def eN (O:Or)(a i:Nat)(x:E)(b:Y)(c:R)(k:Fl->Y->R->Prop)(X:Prop):Prop:=eu b c (cN a i) x λb=>dT O 39 b c (cB a i) k X
def fO (O:Or)(a i:Nat)(x:E)(c:Y)(b:R)(k:E->R->Prop):Prop:=eu c b (cw a i) x λc=>ei O 38 c b (cp a i) (λv _ b=>k v b) False
def pv (c:Y->R->List bM->(Fl->Y->R->Prop)->Prop->Prop)(d:Nat)(a:jJ)(e:List E)(b:R)(k:E->R->Prop)(X:Prop):Prop:=
 bw (hq a.params a.hk e) λf=>c ⟨f,T,a.scope.names,[],d+1,a.tab⟩ b a.body (λg _ b=>k (ql g) b) X
def vh (a:ae)(k:E->R->Prop)(b:Fl)(d:Y)(e:R):Prop:=match b with
 |.ret _=>False
 |.next=>match d.own with
  |T=>False
  |H (y,.inst c f)=>match aP<|y=a with
   |I=>k (.inst c f) e
   |N=>False
  |H _=>False
def uF (e:Y->R->List bM->(Fl->Y->R->Prop)->Prop->Prop)(c d:Nat)(a:jJ)(f:List E)(g:R)(k:E->R->Prop)(X:Prop):Prop:=bw a.params.head? λb=>
 cj (aZ b a.scope.names==H .local)<|bw (hq a.params.tail a.hk f) λh=>e ⟨h,H (b,.inst c []),a.scope.names,[],d+1,a.tab⟩ g a.body (vh b k) X
def aN (O:Or)(a:Z)(d:Nat)(b:List E)(c:R)(k:E->R->Prop)(X:Prop):Prop:=bw (d_ a) λe=>pv (dT O 40) d e b c k X
def hX (O:Or)(a d:Nat)(b:List E)(c:R)(k:E->R->Prop)(X:Prop):Prop:=bw (gB a) λi=>bw (d_ i) λe=>uF (dT O 40) a d e b c k X
def oh (O:Or)(c:Nat)(e:List<|ae×E)(d:Nat)(f:List E)(a:R)(k:E->R->Prop)(X:Prop):Prop:=bw (mw c) λb=>
 bw (hq b.params [] f) λg=>ei O 40 ⟨g++e,T,b.scope,[],d+1,T⟩ a b.body (λv _ a=>k v a) X
theorem C6 {x:Option c}{k b:c->Prop}(h:bw x k)(q:∀a,k a->b a):bw x b:=by
 cases x with
 |none=>exact h.elim
 |some a=>exact q a h
theorem nX (h:eu a b t v k)(q:∀a,k a->d a):eu a b t v d:=by
 cases t with
 |Name x p=>exact C6 (show bw (eD a x v) k from h) q
 |Tuple f c p=>
  refine aL (mU h) λe h=>?_
  show cj (f.all dn) _
  simp only [e]
  exact xj h λg h=>C6 h q
 |_=>exact h.elim
abbrev hc (a:ia):Prop:=
 a.kind=.function/\
 (∀x∈a.names,x.2≠.cell)/\
 (∀x∈a.names,x.2=.local->aZ x.1 a.names=H .local)/\
 ∀x∈a.names,x.2=.free->aZ x.1 a.names=H .free
theorem hc.kind (h:hc a):a.kind=.function:=h.1
theorem hc.jH (h:hc a):∀x∈a.names,x.2≠.cell:=h.2.1
theorem hc.loc (h:hc a):∀x∈a.names,x.2=.local->aZ x.1 a.names=H .local:=h.2.2.1
theorem hc.free (h:hc a):∀x∈a.names,x.2=.free->aZ x.1 a.names=H .free:=h.2.2.2
theorem A_ (h:mV s=I):hc s:=by
 have c:∀x∈s.names,(x.2 !=.cell && (x.2 !=.local||aZ x.1 s.names==H .local) && (x.2 !=.free||aZ x.1 s.names==H .free))=I:=eU.mp<|br h
 have d:∀{k a:fq} {o},(k !=a||o==H a)=I->k=a->o=H a:=λ{k a o} h q=>by
  subst q
  rw [bne_self_eq_false,DZ] at h
  exact sT h
 refine ⟨?_,λx b q=>bne_iff_ne.mp (bl<|bl<|c x b) q,λx b q=>d (br<|bl<|c x b) q,λx b q=>d (br<|c x b) q⟩
 have e:=bl h
 cases q:s.kind with
 |function=>rfl
 |_=>rw [q] at e;exact ff e
abbrev Le (g O:Or):Prop:=
 (∀{d f i a k X},g.call d f i a k X->O.call d f i a k X)/\
 (∀{d j m l n a k X},g.aE d j m l n a k X->O.aE d j m l n a k X)/\
 (∀{c a t b k X},g.ec c a t b k X->O.ec c a t b k X)/\
 (∀{t b h c a k X},g.bH t b h c a k X->O.bH t b h c a k X)/\
 ∀{e t h c a k X},g.comp e t h c a k X->O.comp e t h c a k X
theorem Le.call (h:Le c O):∀{d f a b k X},c.call d f a b k X->O.call d f a b k X:=@gG _ _ h
theorem Le.aE (h:Le f O):∀{d a m b c e k X},f.aE d a m b c e k X->O.aE d a m b c e k X:=@gG _ _ h.2
theorem Le.ec (h:Le d O):∀{a c t b k X},d.ec a c t b k X->O.ec a c t b k X:=@gG _ _ h.2.2
theorem Le.bH (h:Le e O):∀{t b a c d k X},e.bH t b a c d k X->O.bH t b a c d k X:=@gG _ _ h.2.2.2
theorem Le.comp (h:Le d O):∀{e t a b c k X},d.comp e t a b c k X->O.comp e t a b c k X:=@Rz _ _ h.2.2.2
abbrev dd (O:Or):Prop:=
 (∀{h a d l f k X},Le h O->d<100->aN h a d l f k X->O.call d (.ag<|.ref a) l f k X)/\
 (∀{h a d l f k X},Le h O->d<100->hX h a d l f k X->O.call d (.ag<|.ref a) l f k X)/\
 (∀{h a i d l f k X},Le h O->d<100->gB a=H i->aN h i d (.loc f.next::l) (f.alloc<|.inst a []) (λv B=>isNone v=I/\k (.loc f.next) B) X->O.call d (.ag<|.ref a) l f k X)/\
 (∀{h j y d l f k X},Le h O->d<100->oh h j y d l f k X->O.call d (.bR j y) l f k X)/\
 (∀{v d l f k X},wp (dB f v l) (λr=>k r f)->O.call d (.ag v) l f k X)/\
 (∀{d z m A q f k X},vr O.call d z m A q f k X->O.aE d z m A q f k X)/\
 (∀{h n g f t b k X} {V:(Fl->Y->R->Prop)->Prop->Y->R->Prop},Le h O->(∀{k X g f},V k X g f->O.ec g f t b k X)->hR (ei h n) 20 g f t (λc g f=>match c with
  |I=>dT h n g f b (λs g f=>match s with
   |.next=>V k X g f
   |.ret v=>k (.ret v) g f) X
  |N=>k .next g f) X->O.ec g f t b k X)/\
 (∀{h n t b p g f k X},Le h O->iy (dT h n) t b p g f k X->O.bH t b p g f k X)/\
 (∀{h n e t p g f k X},Le h O->iA (ei h n) e t p g f k->O.comp e t p g f k X)/\
 (∀{t b g f k X},k .next g f->O.bH t b [] g f k X)/\
 (∀{h n t b x r g f k X},Le h O->eu g f t x (λg=>dT h n g f b (λs g f=>match s with
  |.next=>O.bH t b r g f k X
  |.ret v=>k (.ret v) g f) X)->O.bH t b (x::r) g f k X)/\
 (∀{e t g f k X},k [] f->O.comp e t [] g f k X)/\
 ∀{h n e t x r g f k X},Le h O->eu g f t x (λM=>ei h n M f e (λv _ f=>O.comp e t r g f (λq f=>k (v::q) f) X) False)->O.comp e t (x::r) g f k X
theorem dd.body (h:dd O):∀{b a d c e k X},Le b O->d<100->aN b a d c e k X->O.call d (.ag<|.ref a) c e k X:=@gG _ _ h
theorem dd.init (h:dd O):∀{b a d c e k X},Le b O->d<100->hX b a d c e k X->O.call d (.ag<|.ref a) c e k X:=@gG _ _ h.2
theorem dd.inst (h:dd O):∀{c a i d e b k X},Le c O->d<100->gB a=H i->aN c i d (.loc b.next::e) (b.alloc<|.inst a []) (λv f=>isNone v=I/\k (.loc b.next) f) X->O.call d (.ag<|.ref a) e b k X:=@gG _ _ h.2.2
theorem dd.bR (h:dd O):∀{a j b d c e k X},Le a O->d<100->oh a j b d c e k X->O.call d (.bR j b) c e k X:=@gG _ _ h.2.2.2
theorem dd.blt (h:dd O):∀{v d b a k X},wp (dB a v b) (λr=>k r a)->O.call d (.ag v) b a k X:=@gG _ _ h.2.2.2.2
theorem dd.aE (h:dd O):∀{d a m b c e k X},vr O.call d a m b c e k X->O.aE d a m b c e k X:=@gG _ _ h.2.2.2.2.2
theorem dd.ec (h:dd O):∀{e n a d t b k X}{V:(Fl->Y->R->Prop)->Prop->Y->R->Prop},Le e O->(∀{k X a d},V k X a d->O.ec a d t b k X)->hR (ei e n) 20 a d t (λc a d=>match c with
  |I=>dT e n a d b (λf a d=>match f with
   |.next=>V k X a d
   |.ret v=>k (.ret v) a d) X
  |N=>k .next a d) X->O.ec a d t b k X:=@gG _ _ h.2.2.2.2.2.2
theorem dd.Iq (h:dd O):∀{a n t b c d e k X},Le a O->iy (dT a n) t b c d e k X->O.bH t b c d e k X:=@gG _ _ h.2.2.2.2.2.2.2
theorem dd.FE (h:dd O):∀{a n e t b c d k X},Le a O->iA (ei a n) e t b c d k->O.comp e t b c d k X:=@gG _ _ h.2.2.2.2.2.2.2.2
theorem dd.G4 (h:dd O):∀{t b a c k X},k .next a c->O.bH t b [] a c k X:=@gG _ _ h.2.2.2.2.2.2.2.2.2
theorem dd.Hn (h:dd O):∀{d n t b x r a c k X},Le d O->eu a c t x (λa=>dT d n a c b (λe a c=>match e with
  |.next=>O.bH t b r a c k X
  |.ret v=>k (.ret v) a c) X)->O.bH t b (x::r) a c k X:=@gG _ _ h.2.2.2.2.2.2.2.2.2.2
theorem dd.Ie (h:dd O):∀{e t b a k X},k [] a->O.comp e t [] b a k X:=@gG _ _ h.2.2.2.2.2.2.2.2.2.2.2
theorem dd.N8 (h:dd O):∀{c n e t x r b a k X},Le c O->eu b a t x (λd=>ei c n d a e (λv _ a=>O.comp e t r b a (λf a=>k (v::f) a) X) False)->O.comp e t (x::r) b a k X:=@Rz _ _ h.2.2.2.2.2.2.2.2.2.2.2
end
end
mutual
section
open PySem PySem.W PyProof.Rows PySem.Calls
abbrev PR:Program:=PySem.Challenge.pw_pq0817_01
structure G where
 F:Z->cT->Prop
 μ:Nat->Option Z
 ν:Nat->Option Z
def eW (b:String)(a:List ah)(o:cT):Prop:=a.length<=dr/\∃n,o={cls:=.type b,dict:=T,data:=.seq a.toArray n,slots:=#[]}
def hx (w:aM)(a:Z)(c:List<|ae×ah)(o:cT):Prop:=
 a≠ie/\o.ExactDict/\∃b d,o.data=.dict b d/\KeysOf (gH PR w) b/\Pairs (gH PR w) b.toList c/\(c.map (·.1)).Nodup
def kG (w:aM)(a:Z)(c:List<|Int×ah)(o:cT):Prop:=
 a≠ie/\o.ExactDict/\∃b d,o.data=.dict b d/\KeysOf (pH PR w) b/\Pairs (pH PR w) b.toList c/\(c.map (·.1)).Nodup
inductive fk:List jU->List (ae×ah)->Prop where
 |nil:fk [] []
 |cons {e:jU} {x:ae} {v:ah} {a:List jU} {b:List<|ae×ah}:(∃t,e.key=.str x t)->e.val=v->fk a b->fk (e::a) ((x,v)::b)
inductive wG (g:G)(b:String)(c:List ah->Prop)(v:ah):Prop
 |mk (a:Z) (o:cT) (d:List ah) (e:v=.ref a) (f:g.F a o) (q:eW b d o) (r:c d):wG g b c v
inductive yd (g:G)(c:Z)(b:List (ae×ah)->Prop)(v:ah):Prop
 |mk (a d:Z) (f:List jU) (n:Nat) (h:List<|ae×ah) (e:v=.ref a) (i:g.F a<|fs c d) (j:g.F d<|ft f n) (q:fk f h) (r:b h):yd g c b v
inductive AW (w:aM)(g:G)(b:List (ae×ah)->Prop)(v:ah):Prop
 |mk (a:Z) (o:cT) (c:List<|ae×ah) (e:v=.ref a) (f:g.F a o) (q:hx w a c o) (r:b c):AW w g b v
inductive vK {c:Type}(d:c->Prop)(f:List c->Prop)(g:List c):Prop
 |mk (v:c) (r:List c) (e:g=v::r) (a:d v) (b:f r):vK d f g
inductive uC {d c:Type}(k:d)(f:c->Prop)(g:List (d×c)->Prop)(h:List<|d×c):Prop
 |mk (v:c) (r:List<|d×c) (e:h=(k,v)::r) (a:f v) (b:g r):uC k f g h
inductive sC (h:aX)(b:String)(c:List ah->Prop)(v:ah):Prop
 |mk (a:Z) (o:cT) (d:List ah) (e:v=.ref a) (f:h.get? a=H o) (q:eW b d o) (r:c d):sC h b c v
inductive C3 (h:aX)(c:Z)(b:List (ae×ah)->Prop)(v:ah):Prop
 |mk (a d:Z) (f:List jU) (n:Nat) (g:List<|ae×ah) (e:v=.ref a) (i:h.get? a=H (fs c d)) (j:h.get? d=H (ft f n)) (q:fk f g) (r:b g):C3 h c b v
inductive wx {b:Type}(h:aX)(c:Z->List (b×ah)->cT->Prop)(d:List (b×ah)->Prop)(v:ah):Prop
 |mk (a:Z) (o:cT) (g:List<|b×ah) (e:v=.ref a) (f:h.get? a=H o) (q:c a g o) (r:d g):wx h c d v
inductive qD {b:Type}(g:G)(h:aX)(l:Nat)(c:Z->b->cT->Prop)(d:b->Prop):Prop
 |mk (a:Z) (o:cT) (f:b) (m:g.μ l=H a) (n:g.ν l=H a) (e:h.get? a=H o) (r:c a f o/\d f):qD g h l c d
inductive yr (g:G)(h:aX)(l:Nat)(c:Z)(d:List (ae×ah)->Prop):Prop
 |mk (a b:Z) (i:List jU) (n:Nat) (j:List<|ae×ah) (k:g.μ l=H a) (m:g.ν l=H b) (f:g.F a<|fs c b) (e:h.get? b=H (ft i n)) (r:fk i j/\d j):yr g h l c d
inductive yB (g:G)(k:Nat)(q:List ae)(z:List (ae×ah)->Prop)(v:ah):Prop
 |mk (a:Z) (o:cT) (X A:ae) (m:DV) (B:aD) (n:ia) (i:List<|ae×Z) (pm:ah) (M:Z) (a0:ah) (O:List<|ae×ah) (j:ps)
  (e:v=.ref a) (f:g.F a o) (e2:o=xo X A m B n i pm M a0) (l:mw k=H j) (b:B=j.body)
  (p:m.args.map (·.arg)=j.params/\dp m n/\∀x∈q,aZ x j.scope=H .free) (s:n.names=j.scope)
  (c:∃h P t,g.F M h/\h.data=.fields P/\P[1]?=H (.str A t))
  (d:(∀x u,(x,u)∈O->∃c h,i.lookup x=H c/\g.F c h/\h.data=.cell (H u))/\(∀x c,i.lookup x=H c->∃h v,g.F c h/\h.data=.cell v)/\∀x y c,i.lookup x=H c->i.lookup y=H c->x=y) (r:z O):yB g k q z v
section
variable (w:aM)(g:G)
end
mutual
noncomputable def aq:E->ah->Prop
 |.none,v=>v=.none
 |.bool b,v=>v=.bool b
 |.int i,v=>∃t,v=.int i t
 |.str s,v=>∃t,v=.str s t
 |.dk b,v=>∃t,v=.bytes b t
 |.tup f,v=>wG g "tuple" (λe=>aQ f e) v
 |.lst f,v=>wG g "list" (λe=>aQ f e) v
 |.inst c j,v=>yd g c (λd=>bj j d) v
 |.aa m,v=>AW w g (λd=>bj m d) v
 |.ag u,v=>v=u
 |.bR k h,v=>yB g k (h.map (·.1)) (λd=>bj h d) v
 |.loc l,v=>∃a,g.μ l=H a/\v=.ref a
noncomputable def aQ:List E->List ah->Prop
 |[],e=>e=[]
 |x::f,e=>vK (λv=>aq x v) (λr=>aQ f r) e
noncomputable def bj:List (ae×E)->List (ae×ah)->Prop
 |[],d=>d=[]
 |(k,x)::r,d=>uC k (λv=>aq x v) (λq=>bj r q) d
end
end
mutual
open Mine
def eG (w:aM)(g:G):List (Int×E)->List (Int×ah)->Prop
 |[],a=>a=[]
 |(k,x)::r,a=>uC k (aq w g x) (eG w g r) a
structure G.Le (g b:G):Prop where
 F:∀a o,g.F a o->b.F a o
 μ:∀l a,g.μ l=H a->b.μ l=H a
 ν:∀l a,g.ν l=H a->b.ν l=H a
theorem G.Le.refl (g:G):g.Le g:=⟨λ_ _ h=>h,λ_ _ h=>h,λ_ _ h=>h⟩
theorem G.Le.trans {a b c:G}(x:a.Le b)(y:b.Le c):a.Le c:=⟨λp q h=>y.F p q<|x.F p q h,λp q h=>y.μ p q<|x.μ p q h,λp q h=>y.ν p q<|x.ν p q h⟩
section
variable {w:aM}{g a:G}
end
mutual
theorem aq.mono (d:g.Le a):∀(x:E)(v:ah),aq w g x v->aq w a x v
 |.none,v,h=>by exact h
 |.bool b,v,h=>by exact h
 |.int i,v,h=>by exact h
 |.str s,v,h=>by exact h
 |.dk b,v,h=>by exact h
 |.tup y,v,h=>by
  obtain ⟨j,o,m,e,f,q,r⟩:=h
  exact ⟨j,o,m,e,d.F _ _ f,q,aQ.mono d y m r⟩
 |.lst y,v,h=>by
  obtain ⟨j,o,m,e,f,q,r⟩:=h
  exact ⟨j,o,m,e,d.F _ _ f,q,aQ.mono d y m r⟩
 |.inst c O,v,h=>by
  obtain ⟨j,P,B,n,z,e,X,f2,q,r⟩:=h
  exact ⟨j,P,B,n,z,e,d.F _ _ X,d.F _ _ f2,q,bj.mono d O z r⟩
 |.aa B,v,h=>by
  obtain ⟨j,o,z,e,f,q,r⟩:=h
  exact ⟨j,o,z,e,d.F _ _ f,q,bj.mono d B z r⟩
 |.ag u,v,h=>by exact h
 |.bR k a0,v,h=>by
  obtain ⟨j,o,nm,a1,a2,a3,sc,a4,pm,M,a5,z,a6,e,f,e2,l,b,p,s,⟨A,m,t,c1,c2,c3⟩,c,r⟩:=h
  exact ⟨j,o,nm,a1,a2,a3,sc,a4,pm,M,a5,z,a6,e,d.F _ _ f,e2,l,b,p,s,⟨A,m,t,d.F _ _ c1,c2,c3⟩,
   ⟨λx u a7=>let ⟨c,A,q1,q2,q3⟩:=c.1 x u a7;⟨c,A,q1,d.F _ _ q2,q3⟩,λx M q=>let ⟨A,v,j,b⟩:=c.2.1 x M q;⟨A,v,d.F _ _ j,b⟩,c.2.2⟩,bj.mono d a0 z r⟩
 |.loc l,v,h=>by
  refine aK h ?_;clear h;intro j e f
  exact ⟨j,d.μ _ _ e,f⟩
theorem aQ.mono (d:g.Le a):∀(y:List E)(m:List ah),aQ w g y m->aQ w a y m
 |[],m,h=>by exact h
 |x::y,m,h=>by
  obtain ⟨v,r,e,j,b⟩:=h
  exact ⟨v,r,e,aq.mono d x v j,aQ.mono d y r b⟩
theorem bj.mono (d:g.Le a):∀(y:List<|ae×E)(m:List<|ae×ah),bj w g y m->bj w a y m
 |[],m,h=>by exact h
 |(k,x)::y,m,h=>by
  obtain ⟨v,r,e,j,b⟩:=h
  exact ⟨v,r,e,aq.mono d x v j,bj.mono d y r b⟩
end
theorem eG.mono (f:g.Le a) (c):∀d,eG w g c d->eG w a c d:=by
 induction c with
 |nil=>
  intro d h
  exact h
 |cons i c j=>
  obtain ⟨k,x⟩:=i
  intro d h
  obtain ⟨v,r,e,l,b⟩:=h
  exact ⟨v,r,e,aq.mono f x v l,j r b⟩
end
mutual
open Mine
def fG:List Z:=[575,582,1040]
def ee (a:Z):Prop:=a∈fG
theorem nS (q:ee a):a=575\/a=582\/a=1040:=
 (bF.mp q).imp id λq=>(bF.mp q).imp id λq=>bW.mp q
def om (o a:cT):Prop:=o.cls=.type "frame" /\∃b,a={o with slots:=b}
def gU (w:aM)(g:G)(h:aX)(l:Nat):au->Prop
 |.lst b=>qD g h l (λ_=>eW "list")<|aQ w g b
 |.aa a=>qD g h l (hx w)<|bj w g a
 |.tab a=>qD g h l (kG w)<|eG w g a
 |.inst c d=>yr g h l c<|bj w g d
structure SR (w:aM)(c:aX)(g:G)(d:R)(h:aX):Prop where
 base:∀b o,c.get? b=H o->h.get? b=H o
 fz:∀a o,g.F a o->h.get? a=H o
 st:∀l e,d.get l=H e->gU w g h l e
 dA:∀l,d.next<=l->g.μ l=T/\g.ν l=T/\d.get l=T
 da:∀l a,g.ν l=H a->a<h.objs.size/\c.get? a=T/\¬ee a
 fC:∀l a o,g.ν l=H a->(∃e,d.get l=H e)->¬g.F a o
 inj:∀l f a,g.ν l=H a->g.ν f=H a->l=f
 low:c.objs.size<=h.objs.size
 hF:∀b o,c.get? b=H o->g.F b o
 fb:∀l a,g.ν l=H a->∃o,h.get? a=H o/\∀v,o.data≠.cell v
structure bt (f:aX)(g:G)(h:aX)(c:G)(d:aX)(P:Z->Prop):Prop where
 le:g.Le c
 size:h.objs.size<=d.objs.size
 Fn:∀a o,c.F a o->g.F a o\/h.objs.size<=a\/(∃l,g.ν l=H a)\/P a
 eF:∀l a,c.ν l=H a->g.ν l=H a\/h.objs.size<=a
 keep:∀b o,h.get? b=H o->(∀l,g.ν l≠H b)->¬ee b->¬P b->d.get? b=H o\/∃e,d.get? b=H e/\om o e
def hU:Z->Prop:=λ_=>False
theorem om.trans (x:om a b)(y:om b c):om a c:=by
 refine aL x ?_;clear x;intro d zz;refine aC zz ?_;clear zz;rintro f rfl
 refine aL y ?_;clear y;intro _ zz;refine aC zz ?_;clear zz;rintro e rfl
 exact ⟨d,e,rfl⟩
theorem bt.refl (g) (h):bt a g h g h P:=⟨G.Le.refl g,aT _,λ_ _ h=>.inl h,λ_ _ h=>.inl h,λ_ _ e _ _ _=>.inl e⟩
theorem bt.mono (x:bt c g h d f P)(k:∀a,P a->i a):bt c g h d f i:=
 ⟨x.le,x.size,λa o q=>(x.Fn a o q).imp id<|Or.imp id<|Or.imp id<|k a,x.eF,λb o e n t p=>x.keep b o e n t λq=>p<|k b q⟩
theorem bt.trans (x:bt f g h i r P)(y:bt f i r s z P):bt f g h s z P:=by
 refine ⟨x.le.trans y.le,ai x.size y.size,λa o q=>?_,λl a q=>?_,λb o e n t p=>?_⟩
 .rcases y.Fn a o q with q|q|⟨l,q⟩|q
  .exact x.Fn a o q
  .exact .inr<|.inl<|ai x.size q
  .rcases x.eF l a q with q|q
   .exact .inr<|.inr<|.inl ⟨l,q⟩
   .exact .inr<|.inl q
  .exact .inr<|.inr<|.inr q
 .rcases y.eF l a q with q|q
  .exact x.eF l a q
  .exact .inr<|ai x.size q
 .have A:=g_ e
  have j:∀l,i.ν l≠H b:=λl q=>by
   rcases x.eF l b q with q|q
   .exact n l q
   .exact absurd A<|de.mpr q
  rcases x.keep b o e n t p with c|⟨k,c,m⟩
  .exact y.keep b o c j t p
  .rcases y.keep b k c j t p with d|⟨B,d,M⟩
   .exact .inr ⟨k,d,m⟩
   .exact .inr ⟨B,d,m.trans M⟩
theorem bt.drop {f:aX}{g i:G}{c h j:aX}{P m:Z->Prop}(x:bt f g h i j P)(k:∀a,P a->m a\/c.objs.size<=a)(r:∀b o,c.get? b=H o->h.get? b=H o)(d:c.objs.size<=h.objs.size)
  :bt f g c i j m:=by
 refine ⟨x.le,ai d x.size,λa o q=>?_,λl a q=>(x.eF l a q).imp id λz=>ai d z,λb o e n t p=>x.keep b o (r b o e) n t λq=>?_⟩
 .rcases x.Fn a o q with q|q|q|q
  .exact .inl q
  .exact .inr<|.inl<|ai d q
  .exact .inr<|.inr<|.inl q
  .rcases k a q with q|q
   .exact .inr<|.inr<|.inr q
   .exact .inr<|.inl q
 .rcases k b q with q|q
  .exact p q
  .exact absurd (g_ e)<|de.mpr q
section
variable {w:aM}{b:aX}{g:G}{c:R}{h a:aX}
theorem gU.jH (x:gU w g h l s)(e:g.ν l=H t):∃o,h.get? t=H o/\∀v,o.data≠.cell v:=by
 cases s with
 |lst j=>obtain ⟨i,o,p,m,n,q,⟨_,k,rfl⟩,_⟩:=x;rw [e] at n;refine aG n ?_;clear n;rintro rfl;exact ⟨_,q,λv z=>by cases z⟩
 |aa j=>obtain ⟨i,o,p,m,n,q,⟨_,_,r,y,d,_⟩,_⟩:=x;rw [e] at n;refine aG n ?_;clear n;rintro rfl;exact ⟨_,q,λv z=>by rw [d] at z;cases z⟩
 |tab j=>obtain ⟨i,o,p,m,n,q,⟨_,_,r,y,d,_⟩,_⟩:=x;rw [e] at n;refine aG n ?_;clear n;rintro rfl;exact ⟨_,q,λv z=>by rw [d] at z;cases z⟩
 |inst A B=>obtain ⟨i,M,r,O,P,m,n,f,q,_⟩:=x;rw [e] at n;refine aG n ?_;clear n;rintro rfl;exact ⟨_,q,λv z=>by cases z⟩
theorem gU.keep (x:gU w g h l p)(k:∀j o,(∃l,g.ν l=H j)->h.get? j=H o->a.get? j=H o):gU w g a l p:=by
 cases p with
 |lst q=>obtain ⟨d,o,i,m,n,e,r⟩:=x;exact ⟨d,o,i,m,n,k _ _ ⟨_,n⟩ e,r⟩
 |aa q=>obtain ⟨d,o,i,m,n,e,r⟩:=x;exact ⟨d,o,i,m,n,k _ _ ⟨_,n⟩ e,r⟩
 |tab q=>obtain ⟨d,o,i,m,n,e,r⟩:=x;exact ⟨d,o,i,m,n,k _ _ ⟨_,n⟩ e,r⟩
 |inst B M=>obtain ⟨d,t,y,n,z,A,s,f,e,r⟩:=x;exact ⟨d,t,y,n,z,A,s,f,k _ _ ⟨_,s⟩ e,r⟩
theorem gU.mono (d:g.Le s)(x:gU w g h l k):gU w s h l k:=by
 cases k with
 |lst p=>obtain ⟨i,o,j,m,n,e,q,r⟩:=x;exact ⟨i,o,j,d.μ _ _ m,d.ν _ _ n,e,q,aQ.mono d _ _ r⟩
 |aa p=>obtain ⟨i,o,j,m,n,e,q,r⟩:=x;exact ⟨i,o,j,d.μ _ _ m,d.ν _ _ n,e,q,bj.mono d _ _ r⟩
 |tab p=>obtain ⟨i,o,j,m,n,e,q,r⟩:=x;exact ⟨i,o,j,d.μ _ _ m,d.ν _ _ n,e,q,eG.mono d _ _ r⟩
 |inst M O=>obtain ⟨i,t,y,n,z,A,B,f,e,q,r⟩:=x;exact ⟨i,t,y,n,z,d.μ _ _ A,d.ν _ _ B,d.F _ _ f,e,q,bj.mono d _ _ r⟩
theorem SR.grow (x:SR w b g c h)(k:∀d o,h.get? d=H o->a.get? d=H o)(j:h.objs.size<=a.objs.size):SR w b g c a:=
 ⟨λd o e=>k _ _<|x.base d o e,λi o f=>k _ _<|x.fz i o f,λl m e=>(x.st l m e).keep λd o _=>k d o,x.dA,λl i e=>⟨bE (x.da l i e).1 j,(x.da l i e).2⟩,x.fC,x.inj,ai x.low j,x.hF,λl i e=>let ⟨o,p,q⟩:=x.fb l i e;⟨o,k _ _ p,q⟩⟩
theorem bt.grow (k:∀d o,h.get? d=H o->a.get? d=H o)(f:h.objs.size<=a.objs.size):bt b g h g a P:=
 ⟨G.Le.refl g,f,λ_ _ h=>.inl h,λ_ _ h=>.inl h,λd o e _ _ _=>.inl<|k d o e⟩
def G.add (g:G)(e:Z)(o:cT):G:={g with F:=λd x=>g.F d x\/d=e/\x=o}
theorem G.c_ (g:G) (d) (o):g.Le<|g.add d o:=⟨λ_ _ h=>.inl h,λ_ _ h=>h,λ_ _ h=>h⟩
theorem G.eZ (g:G) (d) (o):(g.add d o).F d o:=.inr ⟨rfl,rfl⟩
theorem SR.add (x:SR w b g c h)(e:h.get? i=H o)(n:∀l,g.ν l≠H i):SR w b (g.add i o) c h:=
 ⟨x.base,λd p f=>by rcases f with f|⟨rfl,rfl⟩;exact x.fz d p f;exact e,λl j q=>(x.st l j q).mono<|g.c_ i o,x.dA,x.da,
  λl d p q z f=>by rcases f with f|⟨rfl,rfl⟩;exact x.fC l d p q z f;exact n l q,x.inj,x.low,λd o e=>(g.c_ i _).F d o<|x.hF d o e,x.fb⟩
theorem bt.add {d:Z}(i:h.objs.size<=d\/(∃l,g.ν l=H d)\/P d):bt b g h (g.add d o) h P:=
 ⟨g.c_ d o,aT _,λj p f=>by rcases f with f|⟨rfl,rfl⟩;exact .inl f;exact .inr i,λ_ _ h=>.inl h,λ_ _ e _ _ _=>.inl e⟩
end
end
mutual
open Mine
theorem bt.trans' (x:bt f g h i B P)(y:bt f i B M O j)(k:∀a,j a->P a\/h.objs.size<=a):bt f g h M O P:=by
 refine ⟨x.le.trans y.le,ai x.size y.size,λa o q=>?_,λl a q=>?_,λb o e n t p=>?_⟩
 .rcases y.Fn a o q with q|q|⟨l,q⟩|q
  .exact x.Fn a o q
  .exact .inr<|.inl<|ai x.size q
  .rcases x.eF l a q with q|q
   .exact .inr<|.inr<|.inl ⟨l,q⟩
   .exact .inr<|.inl q
  .rcases k a q with q|q
   .exact .inr<|.inr<|.inr q
   .exact .inr<|.inl q
 .rcases y.eF l a q with q|q
  .exact x.eF l a q
  .exact .inr<|ai x.size q
 .have m:=g_ e
  have r:∀l,i.ν l≠H b:=λl q=>by
   rcases x.eF l b q with q|q
   .exact n l q
   .exact absurd m<|de.mpr q
  have s:¬j b:=λq=>by
   rcases k b q with q|q
   .exact p q
   .exact absurd m<|de.mpr q
  rcases x.keep b o e n t p with c|⟨z,c,A⟩
  .exact y.keep b o c r t s
  .rcases y.keep b z c r t s with d|⟨X,d,f2⟩
   .exact .inr ⟨z,d,A⟩
   .exact .inr ⟨X,d,A.trans f2⟩
structure bU (b:aX)(g:G)(a:Z):Prop where
 ν:∀l,g.ν l≠H a
 F:∀o,¬g.F a o
 tab:¬ee a
 base:b.get? a=T
inductive wX {b:Type}(c:aX)(g:G)(h:aX)(a:Z)(d:List Z)(f:Z->b->cT->Prop)(i:b->Prop):Prop
 |mk (k:d=[a]) (p:bU c g a) (o:cT) (j:b) (e:h.get? a=H o) (r:f a j o/\i j):wX c g h a d f i
inductive DC (d:aX)(g:G)(h:aX)(a:Z)(e:List Z)(c:Z)(f:List (ae×ah)->Prop):Prop
 |mk (b:Z) (i:List jU) (n:Nat) (j:List<|ae×ah) (k:e=[a,b]) (l:a≠b) (m:bU d g a) (p:bU d g b) (q:h.get? a=H (fs c b)) (s:h.get? b=H (ft i n)) (r:fk i j/\f j):DC d g h a e c f
def e_ (w:aM)(b:aX)(g:G)(h:aX)(a:Z)(d:List Z):au->Prop
 |.lst e=>wX b g h a d (λ_=>eW "list")<|aQ w g e
 |.aa f=>wX b g h a d (hx w)<|bj w g f
 |.tab _=>False
 |.inst c i=>DC b g h a d c<|bj w g i
inductive oE (a:aX)(b:ah)(d:ae)(P:Z):Prop
 |mk:∀c i j,b=.ref c->CodeHd a c P->lU P=H (i,j,d++ "<lambda>")->oE a b d P
def Ba (b:aX)(a:aA)(c:Option Z):Prop:=∀P,c=H P->oE b a.code a.qual P
def iR (P:ae->au->Prop)(b:List Z)(o:Option<|ae×au):Prop:=(∀y a,o=H (y,a)->P y a)/\(o=T->b=[])
theorem iR.imp (h:iR P b o)(k:∀y a,o=H (y,a)->P y a->c y a)(e:b=[]->d=[]):iR c d o:=⟨λy a q=>k y a q<|h.1 y a q,λq=>e<|h.2 q⟩
theorem iR.no:iR P [] T:=⟨λ_ _ q=>ao q,λ_=>rfl⟩
theorem iR.so (h:P y a):iR P b<|H (y,a):=⟨λ_ _ q=>by refine kN q ?_;clear q;rintro rfl rfl;exact h,λq=>ao q.symm⟩
theorem iR.cs {a:Prop}(h:iR P b o)(k:∀y c,P y c->a)(n:b=[]->a):a:=by
 cases o with
 |none=>exact n<|h.2 rfl
 |some x=>exact k x.1 x.2<|h.1 _ _ rfl
inductive BV (w:aM)(d:aX)(g:G)(h:aX)(e:aA)(b:Y)(c:List Z):Prop
 |mk (m:ae->Option ah) (j:h.Ns e.locals m) (k:∀x v,aI x b.vals=H v->aZ x b.scope=H .local->∃f,m x=H f/\aq w g v f)
  (l:iR (λy i=>aZ y b.scope=H .local/\∃a,m y=H (.ref a)/\e_ w d g h a c i) c b.own):BV w d g h e b c
inductive qL (w:aM)(g:G)(h:aX)(a:aA)(x:ae)(v:E):Prop
 |mk (c:Z) (b:ah) (e:a.cells.lookup x=H c) (i:h.IsCell c<|H b) (r:aq w g v b):qL w g h a x v
structure FR (w:aM)(d:aX)(g:G)(h:aX)(a:aA)(b:Y)(e:List Z):Prop where
 fn:a.scope.kind=.function
 glob:a.globals=ha
 blt:a.builtins=jj/\Ba d a b.tab
 kinds:∀x k,aZ x b.scope=H k->a.kindOf x=H k\/k=.free/\a.kindOf x=H .cell
 vals:BV w d g h a b e
 cell:∀x v,aI x b.vals=H v->aZ x b.scope=H .cell\/aZ x b.scope=H .free->
  qL w g h a x v
 cells:∀x c,a.cells.lookup x=H c->(∃v,h.IsCell c v)/\(∀l,g.ν l≠H c)/\¬ee c/\c≠a.locals/\c∉e
 gu:∀x,aZ x b.scope=H .cell->∃c,a.cells.lookup x=H c/\a.func.isSome=I/\(x∉b.sealed->bU d g c)
 eE:∀x y c,a.cells.lookup x=H c->a.cells.lookup y=H c->x=y
 bb:bU d g a.locals
 f_:a.locals∉e
def eS (g:G)(h:aX)(P:Z)(e f:Nat)(i:ae):Prop:=
 ∃a,h.get? P=H (xp a)/\(a=#[]\/∃c b d t,a=#[gI e,gI f,.ref c]/\g.F c b/\b.data=.fields d/\d[1]?=H (.str i t))
structure TB (g:G)(h:aX):Prop where
 t1:eS g h 575 295 28 "transformed.<locals>.<lambda>"
 t2:eS g h 582 297 28 "told_path.<locals>.<lambda>"
 t3:eS g h 1040 890 40 "law.<locals>.<lambda>"
 nf:∀P o,ee P->¬g.F P o
def FF (b:aX)(g:G)(h:aX)(l:List aA):Prop:=
 ∀a∈l,a.scope.kind≠.module/\∃L o,a.frame=H L/\h.get? L=H o/\o.cls=.type "frame" /\(∃c k,o.data=.dict c k)/\bU b g L
structure ST (w:aM)(a:aX)(g:G)(h:aX)(b:aA)(l:List aA)(c:Y)(e:R)(f:List Z):Prop where
 sr:SR w a g e h
 fr:FR w a g h b c f
 tb:TB g h
 ff:FF a g h l
 dep:c.depth=l.length
 top:∃d r,l=d::r/\d.frame=b.frame
def PP (b:aA)(c:List Z):Z->Prop:=λa=>a=b.locals\/(b.func.isSome=I/\∃x,b.cells.lookup x=H a)\/a∈c
abbrev AC (A:bu)(l:List aA):Prop:=
 A.handled=T/\
 A.depth<=3*l.length+320/\
 A.units<=10*l.length+20/\
 A.frames=H l/\
 A.guards=H []/\
 l.length<=101
theorem AC.hand (h:AC A l):A.handled=T:=h.1
theorem AC.depth (h:AC A l):A.depth<=3*l.length+320:=h.2.1
theorem AC.units (h:AC A l):A.units<=10*l.length+20:=h.2.2.1
theorem AC.frames (h:AC A l):A.frames=H l:=h.2.2.2.1
theorem AC.guards (h:AC A l):A.guards=H []:=h.2.2.2.2.1
theorem AC.vf (h:AC A l):l.length<=101:=h.2.2.2.2.2
structure Go (w:aM)(b:aX)(c:aA)(l:List aA)(g:G)(h:aX)(d:List Z)(e:G)(f:aX)(a:List Z)(i:Y)(j:R):Prop where
 ext:bt b g h e f<|PP c d
 oa:a=d\/a=[]
 st:ST w b e f c l i j a
theorem Go.trans {b c d:List Z} 
  (x:Go w e f l g h b i j c r s) (y:Go w e f l i j c k m d n p):Go w e f l g h b k m d n p:=by
 refine ⟨x.ext.trans' y.ext λa q=>?_,?_,y.st⟩
 .rcases q with q|q|q
  .exact .inl<|.inl q
  .exact .inl<|.inr<|.inl q
  .rcases x.oa with z|z
   .exact .inl<|.inr<|.inr<|z▸q
   .exact nomatch z▸q
 .rcases y.oa with q|q
  .exact q▸x.oa
  .exact .inr q
theorem Go.refl {a:List Z}(b:ST w c g h d l e f a):Go w c d l g h a g h a e f:=
 ⟨bt.refl g h,.inl rfl,b⟩
section
variable {w:aM}{a:aX}{g:G}{h c:aX}{e:aA}{l:List aA}{f:Y}{d:R}{b:List Z}
theorem yN (x:h.IsCell j v)(k:∀i o,h.get? i=H o->c.get? i=H o):c.IsCell j v:=
 let ⟨o,m,r⟩:=x;⟨o,k _ _ m,r⟩
theorem e_.pr (q:e_ w a g h x b m)(j:r∈b):bU a g r:=by
 cases m with
 |lst k=>obtain ⟨i,p,_⟩:=q;exact (bW.mp<|i▸j)▸p
 |aa k=>obtain ⟨i,p,_⟩:=q;exact (bW.mp<|i▸j)▸p
 |tab k=>exact q.elim
 |inst y A=>
  obtain ⟨B,M,n,O,i,P,s,t,_⟩:=q
  rcases bF.mp<|i▸j with z|z
  .exact z▸s
  .exact bW.mp z▸t
theorem e_.obj (q:e_ w a g h y b m)(j:r∈b):∃o,h.get? r=H o:=by
 cases m with
 |lst k=>obtain ⟨i,p,o,s,z,_⟩:=q;exact (bW.mp<|i▸j)▸⟨o,z⟩
 |aa k=>obtain ⟨i,p,o,s,z,_⟩:=q;exact (bW.mp<|i▸j)▸⟨o,z⟩
 |tab k=>exact q.elim
 |inst A B=>
  obtain ⟨M,O,n,P,i,X,p1,p2,t,x,_⟩:=q
  rcases bF.mp<|i▸j with z|z
  .exact z▸⟨_,t⟩
  .exact bW.mp z▸⟨_,x⟩
theorem e_.grow (x:e_ w a g h y b q)(k:∀s o,h.get? s=H o->c.get? s=H o):e_ w a g c y b q:=by
 cases q with
 |lst t=>obtain ⟨i,p,o,j,m,r⟩:=x;exact ⟨i,p,o,j,k _ _ m,r⟩
 |aa t=>obtain ⟨i,p,o,j,m,r⟩:=x;exact ⟨i,p,o,j,k _ _ m,r⟩
 |tab t=>exact x.elim
 |inst a0 f=>obtain ⟨z,A,n,B,i,M,O,P,X,e2,r⟩:=x;exact ⟨z,A,n,B,i,M,O,P,k _ _ X,k _ _ e2,r⟩
set_option tactic.hygienic true in
theorem FR.grow (x:FR w a g h e f b)(k:∀i o,h.get? i=H o->c.get? i=H o):FR w a g c e f b:=by
 refine ⟨x.fn,x.glob,x.blt,x.kinds,?_,λy v j q=>?_,λy r j=>?_,x.gu,x.eE,x.bb,x.f_⟩
 .obtain ⟨m,s,t,A⟩:=x.vals
  refine ⟨m,s.keeps k,t,A.imp (λy O _ x=>?_) id⟩
  refine aL x ?_;clear x;intro z zz;refine aK zz ?_;clear zz;intro n j p
  exact ⟨z,n,j,p.grow k⟩
 .obtain ⟨r,B,n,i,M⟩:=x.cell y v j q
  exact ⟨r,B,n,yN i k,M⟩
 .refine aL (x.cells y r j) ?_;rintro ⟨v,n⟩ i
  exact ⟨⟨v,yN n k⟩,i⟩
theorem eS.grow (x:eS g h P i j q)(k:∀m o,h.get? m=H o->c.get? m=H o):eS g c P i j q:=
 let ⟨n,p,r⟩:=x;⟨n,k _ _ p,r⟩
theorem TB.grow (x:TB g h)(k:∀i o,h.get? i=H o->c.get? i=H o):TB g c:=⟨x.t1.grow k,x.t2.grow k,x.t3.grow k,x.nf⟩
theorem FF.grow (x:FF a g h l)(k:∀i o,h.get? i=H o->c.get? i=H o):FF a g c l:=λj m=>
 let ⟨n,L,o,i,p,q⟩:=x j m;⟨n,L,o,i,k _ _ p,q⟩
theorem ST.grow (i:ST w a g h e l f d b)(k:∀j o,h.get? j=H o->c.get? j=H o)(m:h.objs.size<=c.objs.size):ST w a g c e l f d b:=
 ⟨i.sr.grow k m,i.fr.grow k,i.tb.grow k,i.ff.grow k,i.dep,i.top⟩
theorem Go.grow (m:ST w a g h e l f d b)(k:∀i o,h.get? i=H o->c.get? i=H o)(j:h.objs.size<=c.objs.size):Go w a e l g h b g c b f d:=
 ⟨bt.grow k j,.inl rfl,m.grow k j⟩
theorem bU.add (p:bU a g i)(n:i≠j):bU a (g.add j o) i:=⟨p.ν,λx k=>k.elim (p.F x) λq=>n q.1,p.tab,p.base⟩
theorem e_.add (x:e_ w a g h t b m)(n:y∉b):e_ w a (g.add y o) h t b m:=by
 cases m with
 |lst s=>obtain ⟨i,p,o,j,k,q,r⟩:=x;subst i;exact ⟨rfl,p.add λz=>n<|by simp [z],o,j,k,q,aQ.mono (g.c_ ..) _ _ r⟩
 |aa s=>obtain ⟨i,p,o,j,k,q,r⟩:=x;subst i;exact ⟨rfl,p.add λz=>n<|by simp [z],o,j,k,q,bj.mono (g.c_ ..) _ _ r⟩
 |tab s=>exact x.elim
 |inst a0 f=>
  obtain ⟨A,B,M,O,i,P,X,p2,e1,e2,q,r⟩:=x
  subst i
  exact ⟨A,B,M,O,rfl,P,X.add λz=>n<|by simp [z],p2.add λz=>n<|by simp [z],e1,e2,q,bj.mono (g.c_ ..) _ _ r⟩
set_option tactic.hygienic true in
theorem FR.add (x:FR w a g h e f b)(s:j≠e.locals)(t:∀y k,e.cells.lookup y=H k->k≠j)(A:j∉b):FR w a (g.add j o) h e f b:=by
 refine ⟨x.fn,x.glob,x.blt,x.kinds,?_,λy v i q=>?_,x.cells,λy q=>?_,x.eE,x.bb.add<|fu s,x.f_⟩
 .obtain ⟨m,B,M,O⟩:=x.vals
  refine ⟨m,B,λy v i q=>?_,?_⟩
  .refine aK (M y v i q) λr n j=>?_
   exact ⟨r,n,aq.mono (g.c_ ..) _ _ j⟩
  .refine O.imp (λy a0 _ x=>?_) id
   refine aL x ?_;clear x;intro z zz;refine aK zz ?_;clear zz;intro n i p
   exact ⟨z,n,i,p.add A⟩
 .obtain ⟨k,r,n,j,P⟩:=x.cell y v i q
  exact ⟨k,r,n,j,aq.mono (g.c_ ..) _ _ P⟩
 .refine cK (x.gu y q) λk i X p=>?_
  exact ⟨k,i,X,λz=>(p z).add<|t y k i⟩
theorem eS.mono (k:g.Le m)(x:eS g h P i j q):eS m h P i j q:=by
 refine aK x ?_;clear x;intro n p r
 refine ⟨n,p,r.imp id λ⟨s,y,z,t,A,B,M⟩=>⟨s,y,z,t,A,k.F _ _ B,M⟩⟩
theorem TB.mono (x:TB g h)(i:g.Le j)(n:∀P o,j.F P o->ee P->g.F P o):TB j h:=⟨x.t1.mono i,x.t2.mono i,x.t3.mono i,λP o q k=>x.nf P o q<|n P o k q⟩
theorem TB.add (x:TB g h)(n:¬ee i):TB (g.add i o) h:=x.mono (g.c_ ..) λ_ _ j q=>j.elim id λz=>absurd (z.1▸q) n
theorem TB.lt (x:TB g h)(q:ee P):P<h.objs.size:=by
 refine aK x.t1 λm i _=>?_
 refine aK x.t2 λn j _=>?_
 refine aK x.t3 λp k _=>?_
 rcases nS q with rfl|rfl|rfl
 .exact g_ i
 .exact g_ j
 .exact g_ k
theorem FF.add (x:FF a g h l)(n:∀i∈l,i.frame≠H k):FF a (g.add k o) h l:=λi j=>
 let ⟨m,L,o,q,r,s,t,p⟩:=x i j;⟨m,L,o,q,r,s,t,p.add λz=>n i j<|by refine J q ?_;exact J z rfl⟩
end
end
mutual
section
variable {w:aM}{a:aX}{g c:G}{h b:aX}{e:aA}{l:List aA}{s:Y}{f:R}{d:List Z}{P:Z->Prop}
theorem bt.bb (x:bt a g h c b P)(k:h.get? i=H o)(p:bU a g i)(m:¬P i):bU a c i:=by
 have j:=g_ k
 refine ⟨λl q=>?_,λn q=>?_,p.tab,p.base⟩
 .rcases x.eF l i q with q|q
  .exact p.ν l q
  .exact absurd j<|de.mpr q
 .rcases x.Fn i n q with q|q|⟨l,q⟩|q
  .exact p.F _ q
  .exact absurd j<|de.mpr q
  .exact p.ν l q
  .exact m q
theorem bt.kc (x:bt a g h c b P)(j:h.get? i=H o)(p:bU a g i)(k:¬P i)(m:o.cls≠.type "frame"):b.get? i=H o:=by
 rcases x.keep i o j p.ν p.tab k with q|⟨r,q,n,_⟩
 .exact q
 .exact absurd n m
theorem bt.cell (x:bt a g h c b P)(j:h.IsCell i v)(n:∀l,g.ν l≠H i)(t:¬ee i)(m:¬P i):b.IsCell i v:=by
 refine aK j ?_;clear j;intro o j k
 rcases x.keep i o j n t m with q|⟨p,q,r,y,rfl⟩
 .exact ⟨o,q,k⟩
 .exact ⟨_,q,k⟩
theorem bt.ns (x:bt a g h c b P)(j:h.Ns i m)(n:∀l,g.ν l≠H i)(t:¬ee i)(y:¬P i):b.Ns i m:=by
 refine mZ j ?_;clear j;intro o k p j r
 rcases x.keep i o j n t y with q|⟨z,q,A,B,rfl⟩
 .exact ⟨o,k,p,q,r⟩
 .exact ⟨_,k,p,q,r⟩
theorem eW.nf (x:eW i j o)(n:i≠ "frame" :=by decide):o.cls≠.type "frame" :=by
 refine aL x ?_;clear x;intro _ zz;refine aC zz ?_;clear zz;rintro k rfl;exact λq=>n<|RA q
theorem ve {o:cT}(x:o.ExactDict):o.cls≠.type "frame" :=by
 refine J x.1 ?_;exact λq=>absurd (RA q)<|by decide
theorem e_.ext (q:e_ w a g h i d z)(x:bt a g h c b P)(j:∀a0∈d,¬P a0):e_ w a c b i d z:=by
 cases z with
 |lst A=>
  obtain ⟨rfl,p,o,y,k,m,r⟩:=q
  have t:=j i<|.head _
  exact ⟨rfl,x.bb k p t,o,y,x.kc k p t m.nf,m,aQ.mono x.le _ _ r⟩
 |aa A=>
  obtain ⟨rfl,p,o,y,k,m,r⟩:=q
  have t:=j i<|.head _
  exact ⟨rfl,x.bb k p t,o,y,x.kc k p t<|ve m.2.1,m,bj.mono x.le _ _ r⟩
 |tab A=>exact q.elim
 |inst a5 s=>
  obtain ⟨B,a1,n,a2,rfl,a3,M,O,X,e2,a4,r⟩:=q
  have n2:=j B<|.tail _<|.head _
  exact ⟨B,a1,n,a2,rfl,a3,x.bb X M<|j i<|.head _,x.bb e2 O n2,x.kc X M (j i<|.head _)<|by simp,x.kc e2 O n2<|by simp,a4,bj.mono x.le _ _ r⟩
theorem FR.ext (i:FR w a g h e s d)(x:bt a g h c b P)(O:¬P e.locals)(B:∀y j,e.cells.lookup y=H j->¬P j)(n3:∀k∈d,¬P k):FR w a c b e s d:=by
 obtain ⟨m,X,a0,a1⟩:=i.vals
 refine mZ (id X) λa4 a5 a6 a2 a7=>?_
 refine ⟨i.fn,i.glob,i.blt,i.kinds,⟨m,x.ns X i.bb.ν i.bb.tab O,λy v n q=>?_,?_⟩,λy v n q=>?_,λy j n=>?_,λy q=>?_,i.eE,x.bb a2 i.bb O,i.f_⟩
 .refine aK (a0 y v n q) λM r k=>?_
  exact ⟨M,r,aq.mono x.le _ _ k⟩
 .refine a1.imp (λy a8 _ q=>?_) id
  refine aL q ?_;clear q;intro z zz;refine aK zz ?_;clear zz;intro r n p
  exact ⟨z,r,n,p.ext x n3⟩
 .obtain ⟨j,M,r,k,a3⟩:=i.cell y v n q
  refine hJ (i.cells y j r) λ_ t A _=>?_
  exact ⟨j,M,r,x.cell k t A<|B y j r,aq.mono x.le _ _ a3⟩
 .refine hJ (i.cells y j n) ?_;rintro ⟨v,k⟩ t A z3
  refine ⟨⟨v,x.cell k t A<|B y j n⟩,λl q=>?_,A,z3⟩
  refine aK k ?_;clear k;intro o k _
  rcases x.eF l j q with q|q
  .exact t l q
  .exact absurd (g_ k)<|de.mpr q
 .refine cK (i.gu y q) λj n fn p=>?_
  refine aL (i.cells y j n) ?_;rintro ⟨v,o,k,_⟩ _
  exact ⟨j,n,fn,λz=>x.bb k (p z)<|B y j n⟩
structure AR (w:aM)(a:aX)(g:G)(h:aX)(l:List aA)(f:R):Prop where
 sr:SR w a g f h
 tb:TB g h
 ff:FF a g h l
theorem ST.ar (i:ST w a g h e l s f d):AR w a g h l f:=⟨i.sr,i.tb,i.ff⟩
theorem ST.back {k:R}(i:ST w a g h e l s f d)(x:bt a g h c b hU)(j:AR w a c b l k):Go w a e l g h d c b d s k:=
 ⟨x.mono λ_ q=>q.elim,.inl rfl,j.sr,i.fr.ext x id (λ_ _ _ q=>q) λ_ _ q=>q,j.tb,j.ff,i.dep,i.top⟩
def dW (l:List aA):Y:=⟨[],T,[],[],l.length,T⟩
def dE (n:Nat):R:=⟨λ_=>T,n⟩
theorem FR.sE (i:FR w a g h e s d) (l):FR w a g h e (dW l) []:=by
 obtain ⟨m,n,z,A⟩:=i.vals
 refine ⟨i.fn,i.glob,⟨i.blt.1,λ_ q=>ao q⟩,λy k q=>ao q,⟨m,n,λy v q=>ao q,.no⟩,λy v q=>ao q,λy j p=>?_,λy q=>ao q,i.eE,i.bb,by simp⟩
 refine iw (i.cells y j p) λr t j x _=>?_
 exact ⟨r,t,j,x,by simp⟩
theorem SR.IK (i:SR w a g f h):SR w a g (dE f.next) h:=
 ⟨i.base,i.fz,λl j q=>ao q,λl q=>⟨(i.dA l q).1,(i.dA l q).2.1,rfl⟩,i.da,λ_ _ _ _ ⟨_,q⟩=>ao q,i.inj,i.low,i.hF,i.fb⟩
theorem Go.sE (x:Go w a e l i j k g h d s f):Go w a e l i j k g h [] (dW l)<|dE f.next:=
 ⟨x.ext,by simp,x.st.sr.IK,x.st.fr.sE l,x.st.tb,x.st.ff,rfl,x.st.top⟩
end
end
mutual
open Mine
inductive A9 (c:aX)(n:Nat)(d:Option Z)(g:G)(h:aX)(a:Z)(e:Array ah):Prop
 |mk (b:Z) (i:cT) (j:Array ah) (f:ah) (k:e[1]?=H (.ref b)) (l:b≠a) (m:n<=b) (p:bU c g b) (q:h.get? b=H i) (r:i.data=.fields j) (s:j[3]?=H f) (t:f=.none\/∃L,d=H L/\f=gI L):A9 c n d g h a e
inductive XC (c:aX)(n:Nat)(e:Option Z)(g:G)(h:aX)(f:ah):Prop
 |mk (a:Z) (d:cT) (b:Array ah) (i:f=.ref a) (j:h.get? a=H d) (k:d.cls=.ref 59) (l:d.data=.fields b) (m:1<b.size) (p:n<=a) (q:bU c g a) (r:b[1]?=H .none\/A9 c n e g h a b):XC c n e g h f
theorem XC.mono {b:Option Z}(x:XC c m b g h d)(k:n<=m):XC c n b g h d:=by
 obtain ⟨a,e,i,j,l,p,q,r,s,t,y⟩:=x
 refine ⟨a,e,i,j,l,p,q,r,ai k s,t,y.imp id λ⟨z,A,B,f,M,O,P,X,t5,t6,t7,t8⟩=>⟨z,A,B,f,M,O,ai k P,X,t5,t6,t7,t8⟩⟩
theorem XC.any {b:Option Z}(x:XC c n T g h d):XC c n b g h d:=by
 obtain ⟨a,e,i,j,k,l,m,p,r,s,t⟩:=x
 refine ⟨a,e,i,j,k,l,m,p,r,s,t.imp id λ⟨y,z,A,f,B,M,O,P,X,t6,t7,t8⟩=>⟨y,z,A,f,B,M,O,P,X,t6,t7,t8.imp id λ⟨_,q,_⟩=>ao q⟩⟩
section
variable (w:aM)(a:aX)(e:aA)(l:List aA)
def WP {h i:Type}(g:G)(j:List Z)(s:az)(z:G->aX->List Z->i->h->Prop)(k:i->Y->R->Prop)(X:Prop)(P:(h->az->Prop)->(ah->az->Prop)->Prop):Prop:=
 ∀m p,
  (∀b q r,k b q r->∀d t c f x,Go w a e l g s.heap j d c x q r->z d c x b t->m t {s with heap:=c,toks:=f})->
  (X->∀y d c f n,Go w a e l g s.heap j d c [] (dW l) (dE n)->XC a s.heap.objs.size e.frame d c y->p y {s with heap:=c,toks:=f})->P m p
abbrev Cp (b:Type):=(b->Y->R->Prop)->Prop->Prop
def W {b c:Type}(g:G)(d:List Z)(s:az)(f:G->aX->List Z->c->b->Prop)(r:Cp c)(P:(b->az->Prop)->(ah->az->Prop)->Prop):Prop:=
 ∀k X,r k X->WP w a e l g d s f k X P
end
end
mutual
section
variable {w:aM}{a:aX}{e:aA}{l:List aA}{k i m c:Type}{g:G}{b:List Z}{s:az}{h:Y}{f:R}
theorem W.imp {q:G->aX->List Z->i->k->Prop}(t:∀n p,P n p->y n p)(x:W w a e l g b s q z P):W w a e l g b s q z y:=
 λA X B n p M O=>t n p<|x A X B n p M O
theorem W.pre {p:G->aX->List Z->i->k->Prop}(q:∀n X,t n X->y n X)(x:W w a e l g b s p y P):W w a e l g b s p t P:=
 λn X z=>x n X<|q n X z
theorem W.stuck {n:G->aX->List Z->i->k->Prop}:W w a e l g b s n (λ_ _=>False) P:=λ_ _ p=>p.elim
theorem W.ret (a0:ST w a g s.heap e l h f b){x:G->aX->List Z->i->k->Prop} 
  (M:∀n p,(∀y z q O A,Go w a e l g s.heap b y q A h f->x y q A B z->n z {s with heap:=q,toks:=O})->P n p):W w a e l g b s x (λt _=>t B h f) P:=
 λ_ _ X n p t _=>M n p<|t B h f X
theorem W.bind {a9:i->Y->R->Cp c} 
  {K:k->az->(m->az->Prop)->(ah->az->Prop)->Prop} (x:W w a e l g b s b0 b1 P)
  (y:∀p B M z q t O A,Go w a e l g s.heap b z t A B M->b0 z t A p q->W w a e l z A {s with heap:=t,toks:=O} r (a9 p B M) (K q {s with heap:=t,toks:=O})):
  W w a e l g b s r (λa2 X=>b1 (λp h f=>a9 p h f a2 X) X) λa3 a0=>P (λq b2=>K q b2 a3 a0) a0:=by
 intro a2 X a4 a3 a0 k1 k2
 refine x _ X a4 _ _ (λp B M b3 z q t O A a1 a4=>?_) k2
 refine y p B M z q t O A a1 a4 a2 X b3 a3 a0 (λb' b4 b5 b6 a5 b7 a6 a7 b8 a8 b9=>?_) λc0 ev a5 a6 a7 n a8 c1=>?_
 .exact k1 b' b4 b5 b6 a5 b7 a6 a7 b8 (a1.trans a8) b9
 .exact k2 c0 ev a5 a6 a7 n (a1.trans a8)<|c1.mono a1.ext.size
variable {d j:Type}{r:G->aX->List Z->c->m->Prop}{P:(m->az->Prop)->(ah->az->Prop)->Prop}
theorem W.bw {q:d->Cp c}(y:∀n,x=H n->W w a e l g b s r (q n) P):W w a e l g b s r (λp X=>bw x λn=>q n p X) P:=by
 intro p X t
 cases x with
 |none=>exact t.elim
 |some n=>exact y n rfl p X t
theorem W.cJ (y:p=I->W w a e l g b s r t P):W w a e l g b s r (λn X=>cj p<|t n X) P:=by
 intro n X q
 cases p with
 |false=>exact q.elim
 |true=>exact y rfl n X q
theorem W.pu {n:d->Cp c}(y:W w a e l g b s r (n v) P):W w a e l g b s r (λp X=>wp (aS v) λq=>n q p X) P:=y
theorem W.oo {p:d->Cp c}(y:∀n,x=H n->W w a e l g b s r (p n) P):W w a e l g b s r (λq X=>wp (oo x) λn=>p n q X) P:=by
 cases x with
 |none=>exact λ_ _ t=>t.elim
 |some n=>exact y n rfl
theorem W.ask {p:Unit->Cp c}(y:t->W w a e l g b s r (p ()) P):W w a e l g b s r (λn X=>wp (ask t) λx=>p x n X) P:=λn X q=>y q.1 n X q.2
theorem W.jN {p:d->Cp c}(y:t->W w a e l g b s r (p v) P):W w a e l g b s r (λn X=>wp (Mine.Internal.ask t>>=λ_=>(aS v:aY d)) λx=>p x n X) P:=
 λn X q=>y q.1 n X q.2
theorem W.bJ {o:Option d}{q:j->Cp c}(t:∀y,o=H y->W w a e l g b s r (λn X=>wp (x y) λp=>q p n X) P):W w a e l g b s r (λn X=>wp (bJ o x) λp=>q p n X) P:=by
 cases o with
 |none=>exact λ_ _ z=>z.elim
 |some y=>exact t y rfl
theorem W.er {q:j->Cp c}(x:t=I->W w a e l g b s r (λn X=>wp y λp=>q p n X) P):W w a e l g b s r (λn X=>wp (er t y) λp=>q p n X) P:=by
 cases t with
 |false=>exact λ_ _ z=>z.elim
 |true=>exact x rfl
theorem W.lb {q:aY d}{t:j->Cp c}(x:W w a e l g b s r (λn X=>wp q λy=>wp (z y) λp=>t p n X) P):W w a e l g b s r (λn X=>wp (q>>=z) λp=>t p n X) P:=λn X A=>
 x n X<|xq pA A
theorem W.pf {x:Option d}{q:j->Cp c}(y:∀t,x=H t->W w a e l g b s r (λn X=>wp (z t) λp=>q p n X) P):W w a e l g b s r (λn X=>wp (Mine.Internal.oo x>>=z) λp=>q p n X) P:=
 W.lb<|W.oo y
theorem W.wh (y:n=I->W w a e l g b s r p P):W w a e l g b s r (λq X=>wp (gM n) λ_=>p q X) P:=by
 cases n with
 |false=>exact λ_ _ t=>t.elim
 |true=>exact y rfl
theorem W.wb {q:j->Cp c}(y:n=I->W w a e l g b s r (λp X=>wp (t ()) λn=>q n p X) P):W w a e l g b s r (λp X=>wp (gM n>>=t) λn=>q n p X) P:=
 W.lb<|W.wh y
end
end
mutual
section
variable {w:aM}{a:aX}{g j:G}{h d:aX}{e:aA}{l:List aA}{f:Y}{b i:R}{c:List Z}
theorem AR.mS (m:AR w a g h l b):bU a g h.objs.size:=by
 refine ⟨λk q=>absurd (m.sr.da k _ q).1<|jT _,λo q=>absurd (g_<|m.sr.fz _ o q)<|jT _,λq=>?_,?_⟩
 .refine aK m.tb.t1 λx n _=>?_
  refine aK m.tb.t2 λy p _=>?_
  refine aK m.tb.t3 λz r _=>?_
  have s:(575:Nat)<h.objs.size:=g_ n
  have t:(1040:Nat)<h.objs.size:=g_ r
  rcases nS q with q|q|q
  .exact absurd q<|dN s
  .exact absurd q<|dN<|g_ p
  .exact absurd q<|dN t
 .cases q:a.get? h.objs.size with
  |none=>rfl
  |some o=>exact absurd (g_<|m.sr.base _ o q)<|jT _
theorem FR.Gq (k:FR w a g h e f c):e.locals<h.objs.size:=let ⟨_,m,_,_⟩:=k.vals;m.lt
theorem FR.Il (m:FR w a g h e f c)(n:e.cells.lookup x=H k):k<h.objs.size:=let ⟨⟨_,q⟩,_⟩:=m.cells x k n;q.lt
theorem e_.lt (q:e_ w a g h p c r):∀k∈c,k<h.objs.size:=λk m=>(q.obj m).elim λ_ n=>g_ n
theorem FR.FZ (n:FR w a g h e f c):∀k∈c,k<h.objs.size:=by
 obtain ⟨m,t,z,p⟩:=n.vals
 refine p.cs (λy A x=>?_) λr k s=>nomatch r▸s
 refine aL x ?_;clear x;intro _ zz;refine aK zz ?_;clear zz;intro B _ q
 exact q.lt
theorem FF.lt (x:FF a g h l):∀k∈l,∀m,k.frame=H m->m<h.objs.size:=λk n m q=>by
 refine aL (x k n) λ_ zz=>du zz λL o z p _=>?_;clear zz
 rw [z] at q;refine aG q ?_;clear q;rintro rfl;exact g_ p
structure bL (a:aX)(g:G)(e:aA)(l:List aA)(c:List Z)(k:Z):Prop where
 bb:bU a g k
 loc:k≠e.locals
 cell:∀x,e.cells.lookup x≠H k
 oa:k∉c
 fr:∀m∈l,m.frame≠H k
theorem ST.free (k:ST w a g h e l f b c):bL a g e l c h.objs.size:=
 ⟨k.ar.mS,fu<|cA k.fr.Gq,λx q=>absurd (k.fr.Il q)<|jT _,λq=>absurd (k.fr.FZ _ q)<|jT _,λm n q=>absurd (k.ff.lt m n _ q)<|jT _⟩
theorem ST.freeze {n:Z}{o:cT}(k:ST w a g h e l f b c)(p:h.get? n=H o)(m:bL a g e l c n):ST w a (g.add n o) h e l f b c:=
 ⟨k.sr.add p m.bb.ν,k.fr.add m.loc (λy r q z=>m.cell y<|z▸q) m.oa,k.tb.add m.bb.tab,k.ff.add m.fr,k.dep,k.top⟩
theorem Go.freeze (x:Go w a e l r m s g h c f b)(t:h.get? k=H o)(y:bL a g e l c k)(n:m.objs.size<=k):Go w a e l r m s (g.add k o) h c f b:=
 ⟨⟨x.ext.le.trans<|g.c_ ..,x.ext.size,λz p q=>by
   rcases q with q|⟨rfl,rfl⟩
   .exact x.ext.Fn z p q
   .exact .inr<|.inl n,x.ext.eF,x.ext.keep⟩,x.oa,x.st.freeze t y⟩
theorem bL.add (k:bL a g e l c m)(n:m≠p):bL a (g.add p o) e l c m:=⟨k.bb.add n,k.loc,k.cell,k.oa,k.fr⟩
theorem Go.push (k:ST w a g h e l f b c)(o:cT):Go w a e l g h c g (h.push o) c f b:=
 Go.grow k (λm p q=>nE o q)<|by simp [Heap.push]
theorem Go.wZ (k:ST w a g h e l f b c)(o:cT)(m:o.isFreed=N:=by rfl):Go w a e l g h c (g.add h.objs.size o) (h.push o) c f b:=
 (Go.push k o).freeze (RB _ m) k.free<|aT _
theorem sN {n:Type}{l:List<|Z×n}:∀{k} {m},l.lookup k=H m->(k,m)∈l:=by
 induction l with
 |nil=>
  intro _ _ h
  exact ao h
 |cons p r q=>
  obtain ⟨x,y⟩:=p
  intro k m h
  rw [fI] at h
  split at h
  .rename_i s;refine aG h ?_;clear h;rintro rfl;refine J (beq_iff_eq.mp s) ?_;exact .head _
  .exact .tail _<|q h
theorem ym {m:Type}{l:List<|Z×List m}{x:m}(h:x∈(l.lookup n).getD []):∃k,(n,k)∈l/\x∈k:=by
 revert h
 cases p:l.lookup n with
 |none=>exact λh=>nomatch h
 |some k=>exact λh=>⟨k,sN p,h⟩
theorem rv (h:l_ v=H k):v=.tup k\/v=.lst k:=by
 cases v with
 |tup m=>exact .inl<|congrArg E.tup<|bf h
 |lst m=>exact .inr<|congrArg E.lst<|bf h
 |_=>exact ao h
def Bm:E->Bool
 |.lst _=>I
 |.inst _ _=>I
 |.aa _=>I
 |.loc _=>I
 |_=>N
theorem Hm (l) (x):Bm (fh l x)=I:=by
 cases x with
 |none=>rfl
 |some o=>cases o<;>rfl
theorem lR (m:res b v=u)(k:Bm u=N):v=u:=by
 cases v with
 |loc l=>exact ff<|k.symm.trans<|m▸Hm l (b.get l)
 |_=>exact m
theorem KG {l:Nat}(k:fh l x=.lst m):x=H (.lst m):=by
 cases x with
 |none=>exact hi k rfl
 |some o=>cases o with
  |lst n=>exact congrArg _<|congrArg au.lst<|bf<|congrArg mO k
  |_=>exact hi k rfl
theorem LR {l:Nat}(k:fh l x=.aa m):x=H (.aa m):=by
 cases x with
 |none=>exact hi k rfl
 |some o=>cases o with
  |aa n=>exact congrArg _<|congrArg au.aa<|bf<|congrArg qM k
  |_=>exact hi k rfl
theorem IA {l:Nat}(k:fh l x=.inst m n):x=H (.inst m n):=by
 cases x with
 |none=>exact hi k rfl
 |some o=>cases o with
  |inst p q=>cases k;rfl
  |_=>exact hi k rfl
theorem SR.fU (k:SR w a g b h)(r:aq w g v m)(n:res b v=.tup p):sC h "tuple" (aQ w g p) m:=by
 obtain rfl:=lR n rfl
 obtain ⟨s,o,t,rfl,x,q,z⟩:=r
 exact ⟨s,o,t,rfl,k.fz _ _ x,q,z⟩
theorem SR.Hs (n:SR w a g b h)(r:aq w g (.loc k) p)(q:b.get k=H (.lst t)):sC h "list" (aQ w g t) p:=by
 refine aK r ?_;clear r;rintro x m rfl
 obtain ⟨M,o,y,A,_,B,s,z⟩:=n.st k _ q
 obtain rfl:=bf<|m.symm.trans A
 exact ⟨x,o,y,rfl,B,s,z⟩
theorem SR.fS (n:SR w a g b h)(r:aq w g v p)(m:res b v=.lst s):sC h "list" (aQ w g s) p:=by
 cases v with
 |lst A=>
  refine (bf<|congrArg mO m)▸?_
  obtain ⟨t,o,x,rfl,y,q,z⟩:=r
  exact ⟨t,o,x,rfl,n.fz _ _ y,q,z⟩
 |loc k=>exact n.Hs r<|KG m
 |_=>exact hi m rfl
theorem SR.lG (t:SR w a g b h)(r:aq w g v y)(n:res b v=.aa A):wx h (hx w) (bj w g A) y:=by
 cases v with
 |aa X=>
  refine (bf<|congrArg qM n)▸?_
  obtain ⟨x,o,p,rfl,B,q,z⟩:=r
  exact ⟨x,o,p,rfl,t.fz _ _ B,q,z⟩
 |loc k=>
  refine aK r ?_;clear r;rintro M m rfl
  obtain ⟨x,o,p,O,_,P,s,z⟩:=t.st k _<|LR n
  obtain rfl:=bf<|m.symm.trans O
  exact ⟨M,o,p,rfl,P,s,z⟩
 |_=>exact hi n rfl
theorem SR.wt (p:SR w a g b h)(r:aq w g v O)(t:res b v=.inst P X):
  C3 h P (bj w g X) O:=by
 cases v with
 |inst a1 a2=>
  cases t
  obtain ⟨M,x,y,n,A,rfl,B,f2,q,z⟩:=r
  exact ⟨M,x,y,n,A,rfl,p.fz _ _ B,p.fz _ _ f2,q,z⟩
 |loc k=>
  refine aK r ?_;clear r;rintro a0 m rfl
  obtain ⟨M,x,y,n,A,m',_,B,e',s,z⟩:=p.st k _<|IA t
  obtain rfl:=bf<|m.symm.trans m'
  exact ⟨a0,x,y,n,A,rfl,p.fz _ _ B,e',s,z⟩
 |_=>exact hi t rfl
theorem Mi (k:sz x=H m):x=H (.tab m):=by
 cases x with
 |none=>exact ao k
 |some o=>cases o with
  |tab n=>exact congrArg _<|congrArg au.tab<|bf k
  |_=>exact ao k
theorem SR.LB (n:SR w a g b h)(r:aq w g (.loc k) p)(q:sz (b.get k)=H t):wx h (kG w) (eG w g t) p:=by
 refine aK r ?_;clear r;rintro x m rfl
 obtain ⟨M,o,y,A,_,B,s,z⟩:=n.st k _<|Mi q
 obtain rfl:=bf<|m.symm.trans A
 exact ⟨x,o,y,rfl,B,s,z⟩
theorem kK (k:res b v=.int m):v=.int m:=lR k rfl
theorem nC (k:res b v=.str m):v=.str m:=lR k rfl
theorem yC (k:res b v=.dk m):v=.dk m:=lR k rfl
theorem qX (k:res b v=.bool m):v=.bool m:=lR k rfl
def Bl:E->Option Nat
 |.loc l=>H l
 |_=>T
theorem NL {l k:Nat}(m:fh l x=.loc k):l=k:=by
 cases x with
 |none=>exact bf<|congrArg Bl m
 |some o=>cases o with
  |tab=>exact bf<|congrArg Bl m
  |_=>exact hi m rfl
theorem N3 (m:res b v=.loc k):v=.loc k:=by
 cases v with
 |loc l=>exact congrArg E.loc<|NL m
 |_=>exact hi m rfl
theorem DH (k:res b v=.none):v=.none:=lR k rfl
theorem aq.cO (r:aq w g (.int k) m):∃t,m=.int k t:=by exact r
theorem aq.fj (r:aq w g (.str k) m):∃t,m=.str k t:=by exact r
theorem aq.pw (r:aq w g (.dk k) m):∃t,m=.bytes k t:=by exact r
theorem aq.lC (r:aq w g (.bool k) m):m=.bool k:=by exact r
theorem aq.none_ (r:aq w g .none k):k=.none:=by exact r
theorem aq.gq (r:aq w g (.ag u) k):k=u:=by exact r
theorem eP (k) (t):aq w g (.int k)<|.int k t:=by exact ⟨t,rfl⟩
theorem km (k) (t):aq w g (.str k)<|.str k t:=by exact ⟨t,rfl⟩
theorem vC (k) (t):aq w g (.dk k)<|.bytes k t:=by exact ⟨t,rfl⟩
theorem oP (k):aq w g (.bool k)<|.bool k:=by rfl
theorem jI:aq w g .none .none:=by rfl
theorem aQ.length:∀{k},aQ w g m k->m.length=k.length:=by
 induction m with
 |nil=>
  intro k r
  subst r;rfl
 |cons x m n=>
  intro k r
  obtain ⟨v,q,rfl,_,z⟩:=r;simp [n z]
theorem aQ.append:∀{m} {n k},aQ w g p n->aQ w g m k->aQ w g (p++m) (n++k):=by
 induction p with
 |nil=>
  intro m n k r q
  subst r;exact q
 |cons x p s=>
  intro m n k r q
  obtain ⟨v,t,rfl,y,z⟩:=r
  exact ⟨v,t++k,rfl,y,s z q⟩
theorem gW:aQ w g [] []:=by rfl
theorem fQ (m:aq w g x v)(r:aQ w g n k):aQ w g (x::n)<|v::k:=by exact ⟨v,k,rfl,m,r⟩
theorem aQ.get:∀{n},aQ w g p n->∀{k:Nat} {x},p[k]?=H x->∃v,n[k]?=H v/\aq w g x v:=by
 induction p with
 |nil=>
  intro _ _ k x m
  simp at m
 |cons y A q=>
  intro n r k x m
  obtain ⟨v,t,rfl,s,z⟩:=r
  cases k with
  |zero=>simp at m;subst m;exact ⟨v,rfl,s⟩
  |succ k=>simpa using q z (k:=k)<|by simpa using m
theorem aQ.take:∀{k},aQ w g m k->∀n,aQ w g (m.take n)<|k.take n:=by
 induction m with
 |nil=>
  intro k r n
  obtain rfl:k=[]:=r;simp [gW]
 |cons y s p=>
  intro k r n
  obtain ⟨v,t,rfl,q,z⟩:=r
  cases n with
  |zero=>exact gW
  |succ n=>exact fQ q<|p z n
theorem aQ.drop:∀{k},aQ w g m k->∀n,aQ w g (m.drop n)<|k.drop n:=by
 induction m with
 |nil=>
  intro k r n
  obtain rfl:k=[]:=r;simp [gW]
 |cons y s p=>
  intro k r n
  obtain ⟨v,t,rfl,q,z⟩:=r
  cases n with
  |zero=>exact fQ q z
  |succ n=>exact p z n
theorem aQ.set:∀{k},aQ w g m k->∀{x} {v} p,aq w g x v->aQ w g (m.set p x) (k.set p v):=by
 induction m with
 |nil=>
  intro k r x v n _
  subst r;simp [gW]
 |cons y B s=>
  intro k r x v n q
  obtain ⟨u,t,rfl,A,z⟩:=r
  cases n with
  |zero=>exact fQ q z
  |succ n=>exact fQ A<|s z n q
end
end
mutual
open Mine
def cG (w:aM):G->aX->List Z->E->ah->Prop:=λg _ _ v a=>aq w g v a
def TR (w:aM):G->aX->List Z->List E->List ah->Prop:=λg _ _ v a=>aQ w g v a
def OD (w:aM)(n:Nat):G->aX->List Z->List E->List ah->Prop:=λg _ _ v a=>aQ w g v a/\v.length=n
def ky:G->aX->List Z->Bool->Bool->Prop:=λ_ _ _ b c=>b=c
def gA (w:aM)(b:aX)(d:aA)(l:List aA)(n:Nat):G->aX->List Z->RV->ah->Prop:=λg h e r c=>match r with
 |.val v=>aq w g v c
 |.fresh o=>∃a,c=.ref a/\n<=a/\bL b g d l e a/\e_ w b g h a [a] o
def jd (w:aM):G->aX->List Z->Fl->Flow->Prop:=λg _ _ f a=>match f with
 |.next=>a=.next
 |.ret v=>∃u,a=.ret u/\aq w g v u
abbrev dF (w:aM)(a:aX):Prop:=
 (∃c e,a.Ns ha c/\a.Ns jj e/\∀x v,aI x globals=H v->∃d,(c x=H d\/c x=T/\e x=H d)/\aq w ⟨λb o=>a.get? b=H o,λ_=>T,λ_=>T⟩ v d)/\
 a.NoLimit/\
 (∀P,ee P->a.get? P=T)/\
 ∃c,a.Ns ha c/\∀P,ee P->a.BuiltinsAt c P
theorem dF.gl (h:dF w a):∃c e,a.Ns ha c/\a.Ns jj e/\∀x v,aI x globals=H v->∃d,(c x=H d\/c x=T/\e x=H d)/\aq w ⟨λb o=>a.get? b=H o,λ_=>T,λ_=>T⟩ v d:=h.1
theorem dF.oG (h:dF w a):a.NoLimit:=h.2.1
theorem dF.tab (h:dF w a):∀P,ee P->a.get? P=T:=h.2.2.1
theorem dF.bmod (h:dF w a):∃b,a.Ns ha b/\∀P,ee P->a.BuiltinsAt b P:=h.2.2.2
section
variable (w:aM)(a:aX)
def Dk (l:List aA){f h:Type}(g:G)(s:az)(r:G->aX->List Z->h->f->Prop)(k:h->R->Prop)(X:Prop)(P:(f->az->Prop)->(ah->az->Prop)->Prop):Prop:=
 ∀i j,
  (∀b m,k b m->∀d p c e,bt a g s.heap d c hU->AR w a d c l m->r d c [] b p->i p {s with heap:=c,toks:=e})->
  (X->∀q d c e n,bt a g s.heap d c hU->AR w a d c l (dE n)->XC a s.heap.objs.size T d c q->j q {s with heap:=c,toks:=e})->P i j
abbrev Cq (b:Type):=(b->R->Prop)->Prop->Prop
def WC (l:List aA)(g:G)(s:az)(b:G->aX->List Z->c->d->Prop)(r:Cq c)(P:(d->az->Prop)->(ah->az->Prop)->Prop):Prop:=
 ∀k X,r k X->Dk w a l g s b k X P
def jM (d:Y)(f:R)(e:aD)(k:E->Y->R->Prop)(X:Prop):Prop:=
 ∀b l A g c s,AC A l->ST w a g s.heap b l d f c->WP w a b l g c s (cG w) k X λh i=>av (ak PR w) A (cP e b) h i s
def jG (e:Y)(f:R)(b:List bM)(k:Fl->Y->R->Prop)(X:Prop):Prop:=
 ∀c l A g d s,AC A l->ST w a g s.heap c l e f d->(∃r,l=c::r)->WP w a c l g d s (jd w) k X λh i=>av (ak PR w) A (iM b c) h i s
def qy (m:Y)(n:R)(t:aD)(b:List bM)(k:Fl->Y->R->Prop)(X:Prop):Prop:=
 ∀c l A g i s,AC A l->ST w a g s.heap c l m n i->(∃r,l=c::r)->WP w a c l g i s (jd w) k X λp q=>
  ∀h,(∀f d,p f d->h (.ok f) d)->(∀j d,q j d->pI (ak PR w) A c (λe x=>h (.error e) x) j d)->gc (ak PR w) A (.whileLoop t b [] c) h s
def kC (d:Nat)(f:E)(e:List E)(h:R)(k:E->R->Prop)(X:Prop):Prop:=
 ∀l A g s b c,l.length=d->AC A l->AR w a g s.heap l h->aq w g f b->aQ w g e c->Dk w a l g s (cG w) k X λi j=>av (ak PR w) A (dG b c) i j s
def OM:Or where
 call:=kC w a
 aE:=vr<|kC w a
 ec:=qy w a
 bH:=iy<|jG w a
 comp:=λe t b c d k _=>iA (jM w a) e t b c d k
structure Ev where
 eval:Y->R->aD->(E->Y->R->Prop)->Prop->Prop
 execs:Y->R->List bM->(Fl->Y->R->Prop)->Prop->Prop
 O:Or
abbrev bz (i:Ev):Prop:=
 (∀e d f c l A g h s,AC A l->ST w a g s.heap c l d f h->W w a c l g h s (cG w) (i.eval d f e) λj k=>av (ak PR w) A (cP e c) j k s)/\
 (∀b d f c l A g h s,AC A l->ST w a g s.heap c l d f h->(∃r,l=c::r)->W w a c l g h s (jd w) (i.execs d f b) λj k=>av (ak PR w) A (iM b c) j k s)/\
 (Le i.O<|OM w a)
variable {w a} in
theorem bz.eval {c:Ev}(h:bz w a c):∀e d f b l A g i s,AC A l->ST w a g s.heap b l d f i->W w a b l g i s (cG w) (c.eval d f e) λj k=>av (ak PR w) A (cP e b) j k s:=h.1
variable {w a} in
theorem bz.execs {d:Ev}(h:bz w a d):∀b e f c l A g i s,AC A l->ST w a g s.heap c l e f i->(∃r,l=c::r)->W w a c l g i s (jd w) (d.execs e f b) λj k=>av (ak PR w) A (iM b c) j k s:=h.2.1
variable {w a} in
theorem bz.le {b:Ev}(h:bz w a b):Le b.O<|OM w a:=h.2.2
end
end
mutual
section
variable {w:aM}{b:aX}{e:aA}{l:List aA}{g:G}{c:List Z}{s:az}{f:Y}{a:R}{d:Ev}{A:bu}
abbrev rJ (r:aY<|E×R)(f:Y):Cp E:=λk X=>wp r λh=>k h.1 f h.2
abbrev lf (r:aY h)(f:Y)(a:R):Cp h:=λk X=>wp r λi=>k i f a
theorem jQ (r:aq w g v i):gA w b e l n g h c (.val v) i:=r
theorem tM (h:res a v=.tup i):v=.tup i:=lR h rfl
theorem eW.rx (i:h.get? j=H o)(q:eW "tuple" k o):∃n,IsT h j k.toArray n:=by refine aL q ?_;clear q;intro _ zz;refine aC zz ?_;clear zz;rintro n rfl;exact ⟨n,i⟩
theorem eW.rm (i:h.get? j=H o)(q:eW "list" k o):∃n,IsL h j k.toArray n:=by refine aL q ?_;clear q;intro _ zz;refine aC zz ?_;clear zz;rintro n rfl;exact ⟨n,i⟩
theorem Mw 
  (j:IsT s.heap t h.toArray n) (k:IsT s.heap m i.toArray x) (y:h.length+i.length<=dr) (z:h=[]->q (.ref m) s) (B:i=[]->q (.ref t) s)
  (M:q (.ref s.heap.objs.size) {s with heap:=s.heap.push {cls:=.type "tuple",data:=.seq (h++i).toArray}}):av (ak PR w) A (sU .Add (.ref t)<|.ref m) q O s:=by
 by_cases p:h=[]
 .exact RC ⟨_,j,rfl⟩ ⟨_,k,rfl⟩ RD RE RF RG (RH _ _) (AutoSeq1.tuple___add___tuple_tuple_0 t h.toArray n m i.toArray x<|by simp [p]) ⟨j,k,z p⟩
 .by_cases r:i=[]
  .exact RC ⟨_,j,rfl⟩ ⟨_,k,rfl⟩ RD RE RF RG (RH _ _) (AutoSeq1.tuple___add___tuple_tuple_1 t h.toArray n m i.toArray x (by simp [p])<|by simp [r]) ⟨j,k,B r⟩
  .refine P.add_tuple j k (by simp [p]) (by simp [r]) ?_<|by simpa using y
   simpa using M
theorem Go.newTuple {n:Nat}{i:List E}{h:List ah}(j:ST w b g s.heap e l f a c)(r:aQ w g i h)(k:h.length<=dr):
  Go w b e l g s.heap c (g.add s.heap.objs.size {cls:=.type "tuple",data:=.seq h.toArray}) (s.heap.push {cls:=.type "tuple",data:=.seq h.toArray}) c f a/\
  gA w b e l n (g.add s.heap.objs.size {cls:=.type "tuple",data:=.seq h.toArray}) (s.heap.push {cls:=.type "tuple",data:=.seq h.toArray}) c (.val<|.tup i) (.ref s.heap.objs.size):=by
 refine ⟨Go.wZ j _,?_⟩
 exact ⟨_,_,h,rfl,g.eZ _ _,⟨k,0,rfl⟩,aQ.mono (g.c_ _ _) _ _ r⟩
theorem Go.newList {n:Nat}{j:List E}{h:List ah}(i:ST w b g s.heap e l f a c)(r:aQ w g j h)(k:h.length<=dr)(m:n<=s.heap.objs.size):
  Go w b e l g s.heap c g (s.heap.push {cls:=.type "list",data:=.seq h.toArray}) c f a/\
  gA w b e l n g (s.heap.push {cls:=.type "list",data:=.seq h.toArray}) c (.fresh<|.lst j) (.ref s.heap.objs.size):=
 ⟨Go.push i _,_,rfl,m,i.free,rfl,i.free.bb,_,h,RB _ rfl,⟨k,0,rfl⟩,r⟩
theorem Rt (h:j.natAbs<2 ^ 64):RI i j=N:=by
 unfold RI
 have:¬(if (j==0)=I then 0 else j.natAbs.log2 / 30+1)>300:=by
  split
  .decide
  .have:j.natAbs.log2<64:=by
    by_cases z:j.natAbs=0
    .refine J z ?_;decide
    .exact (Nat.log2_lt z).mpr h
   exact de.mpr<|ai (hy<|Nat.div_le_self _ _)<|ai this<|by decide
 simp only [this,decide_false,RJ]
theorem ob (m:aq w g p q)(r:aq w g x z) 
  (y:∀i j t u,W w b e l g c s (gA w b e l n) (lf (B i j) f a) λh k=>av (ak PR w) A (sU M (.int i t)<|.int j u) h k s):
  W w b e l g c s (gA w b e l n) (lf (mK B (res a p)<|res a x) f a) λh k=>av (ak PR w) A (sU M q z) h k s:=
 W.bJ λi O=>W.bJ λj P=>by
  refine aC (kK (ea O)▸m).cO ?_;rintro t rfl
  refine aC (kK (ea P)▸r).cO ?_;rintro u rfl
  exact y i j t u
theorem Qu (m:ST w b g s.heap e l f a c)(a5:n<=s.heap.objs.size)(r:aq w g a3 a6)(x:aq w g a7 a8):
  W w b e l g c s (gA w b e l n) (lf (vB (res a a3)<|res a a7) f a) λy z=>av (ak PR w) A (sU .Add a6 a8) y z s:=by
 cases B:res a a3 with
 |int i=>
   refine W.bJ λj h=>?_
   have h:=ea h
   refine aC (kK B▸r).cO ?_;rintro t rfl
   refine aC (kK h▸x).cO ?_;rintro u rfl
   exact W.pu<|W.ret m λy z k=>add_int<|k _ _ _ _ _ (Go.refl m)<|jQ<|eP ..
 |str i=>
   refine W.bJ λj h=>?_
   have h:=mT h
   refine aC (nC B▸r).fj ?_;rintro t rfl
   refine aC (nC h▸x).fj ?_;rintro u rfl
   exact W.jN λM=>W.ret m λy z k=>add_str (λt' b1=>k _ _ _ _ _ (Go.refl m)<|jQ<|km ..)<|ai M<|by decide
 |tup xs=>
   refine W.bJ λa4 h=>?_
   have h:=yD h
   obtain ⟨a9,o1,X,rfl,e1,q1,p⟩:=m.sr.fU r B
   obtain ⟨b0,o2,us,rfl,e2,q2,q⟩:=m.sr.fU x h
   refine W.jN λM=>W.ret m λy z k=>?_
   have O:X.length+us.length<=dr:=by refine rT p.length ?_;refine rT q.length ?_;exact ai M<|by decide
   refine aC (q1.rx e1) λn1 i1=>?_
   refine aC (q2.rx e2) λn2 i2=>?_
   refine aL (Go.newTuple (n:=n) m (p.append q)<|by simpa using O) λa0 a1=>?_
   refine Mw i1 i2 O (λa2=>k _ _ _ _ _ (Go.refl m) ?_) (λa2=>k _ _ _ _ _ (Go.refl m) ?_)<|k _ _ _ _ _ a0 a1
   .have:xs=[]:=sV.mp<|by refine J p.length ?_;refine J a2 ?_;rfl
    refine this▸?_
    exact jQ<|tM h▸x
   .have:a4=[]:=sV.mp<|by refine J q.length ?_;refine J a2 ?_;rfl
    refine this▸?_
    exact jQ<|by rw [hz];exact tM B▸r
 |lst xs=>
   refine W.bJ λa4 h=>?_
   have h:=uM h
   obtain ⟨a9,o1,X,rfl,e1,q1,p⟩:=m.sr.fS r B
   obtain ⟨b0,o2,us,rfl,e2,q2,q⟩:=m.sr.fS x h
   refine W.jN λM=>W.ret m λy z k=>?_
   have O:X.length+us.length<=dr:=by refine rT p.length ?_;refine rT q.length ?_;exact ai M<|by decide
   refine aC (q1.rm e1) λn1 i1=>?_
   refine aC (q2.rm e2) λn2 i2=>?_
   refine aL (Go.newList (n:=n) m (p.append q) (by simpa using O) a5) λa0 a1=>?_
   refine P.add_list i1 i2 ?_<|by simpa using O
   have:=k _ _ _ s.toks _ a0 a1
   simpa using this
 |_=>exact W.stuck
theorem F8 (h:ST w b g s.heap e l f a c)(z:n<=s.heap.objs.size)(p:aq w g B M)(q:aq w g O P):
  W w b e l g c s (gA w b e l n) (lf (binop a y B O) f a) λr x=>av (ak PR w) A (sU y M P) r x s:=by
 cases y with
 |Add=>exact Qu h z p q
 |Sub=>exact ob p q λi j t u=>W.pu<|W.ret h λr x k=>sub_int<|k _ _ _ _ _ (Go.refl h)<|jQ<|eP ..
 |Mult=>exact ob p q λi j t u=>W.jN λm=>W.ret h λr x k=>mul_int (k _ _ _ _ _ (Go.refl h)<|jQ<|eP ..) m
 |FloorDiv=>exact ob p q λi j t u=>W.jN λm=>W.ret h λr x k=>floordiv_int m.1 (k _ _ _ _ _ (Go.refl h)<|jQ<|eP ..)<|.inl<|Rt m.2
 |Mod=>exact ob p q λi j t u=>W.jN λm=>W.ret h λr x k=>mod_int' m<|k _ _ _ _ _ (Go.refl h)<|jQ<|eP ..
 |Pow=>exact ob p q λi j t u=>W.jN λm=>W.ret h λr x k=>pow_int_small m.1 (fp m.2.1<|by decide) m.2.2<|k _ _ _ _ _ (Go.refl h)<|jQ<|eP ..
 |_=>exact W.stuck
end
end
mutual
noncomputable def E.py:E->PyData
 |.int i=>.int i
 |.str s=>.str s
 |.tup a=>.tuple<|E.gn a
 |.lst a=>.list<|E.gn a
 |_=>.none
noncomputable def E.gn:List E->List PyData
 |[]=>[]
 |x::r=>E.py x::E.gn r
end
mutual
section
variable {w:aM}{a:aX}{g:G}{h:aX}{b:R}
theorem mR (m:SR w a g b h) (n):(∀x,x.isData n=I->∀v,aq w g x v->∃d,Reads h v x.py d)/\∀f,E.cu n f=I->∀c,aQ w g f c->∃d,ReadsAll h c (E.gn f) d:=by
 refine qx (P:=λ_ x=>∀v,aq w g x v->∃d,Reads h v x.py d) (L:=λ_ f=>∀c,aQ w g f c->∃d,ReadsAll h c (E.gn f) d) (λ_ v r=>?_) (λ_ i v r=>?_) (λ_ s _ v r=>?_) (λn f j _ v r=>?_) (λn f j _ v r=>?_) (λ_ c r=>?_) (λ_ x f y j c r=>?_) n
 .exact J r.none_ ⟨_,Reads.none⟩
 .refine aC r.cO ?_;rintro t rfl;exact ⟨_,Reads.int i t⟩
 .refine aC r.fj ?_;rintro t rfl;exact ⟨_,Reads.str s t⟩
 .obtain ⟨l,o,c,rfl,e,⟨_,k,rfl⟩,z⟩:=m.fU r rfl
  refine aC (j c z) λd q=>?_
  exact ⟨_,xr e rfl rfl q⟩
 .obtain ⟨l,o,c,rfl,e,⟨_,k,rfl⟩,z⟩:=m.fS r rfl
  refine aC (j c z) λd q=>?_
  exact ⟨_,xt e rfl rfl q⟩
 .exact J r ⟨_,ReadsAll.nil⟩
 .obtain ⟨v,q,rfl,l,z⟩:=r
  refine aC (y v l) λd p=>?_
  refine aC (j q z) λA t=>?_
  exact ⟨_,ReadsAll.cons p t⟩
theorem kR (n):(∀x:E,x.isData n=I->x.py.canLay0=I/\x.py.depth<=n)/\∀e,E.cu n e=I->RK (E.gn e)=I/\D0 (E.gn e)<=n:=
 qx (P:=λn x=>x.py.canLay0=I/\x.py.depth<=n) (L:=λn e=>RK (E.gn e)=I/\D0 (E.gn e)<=n) (λ_=>⟨rfl,jV _⟩) (λ_ _=>⟨rfl,jV _⟩) (λ_ _ d=>⟨d,jV _⟩)
  (λ_ _ c _=>⟨c.1,hy c.2⟩) (λ_ _ c _=>⟨c.1,hy c.2⟩) (λ_=>⟨rfl,jV _⟩) (λ_ _ _ f c=>⟨(eI _ _).mpr ⟨f.1,c.1⟩,Nat.max_le.mpr ⟨f.2,c.2⟩⟩) n
theorem ui (n):(∀x,x.isData n=I->∀k y,y.isData k=I->jW x.py y.py=E.beq x y)/\∀e,E.cu n e=I->∀k c,E.cu k c=I->RL (E.gn e) (E.gn c)=E.gk e c:=by
 refine qx (P:=λ_ x=>∀k y,y.isData k=I->jW x.py y.py=E.beq x y) (L:=λ_ e=>∀k c,E.cu k c=I->RL (E.gn e) (E.gn c)=E.gk e c) (λ_ k y=>?_) (λ_ i k y=>?_) (λ_ s _ k y=>?_) (λn e f _ k y=>?_) (λn e f _ k y=>?_) (λ_ k c _=>?_) (λ_ x e j f k c=>?_) n
 .exact lD (b:=λy=>jW (E.py .none) y.py=E.beq .none y) rfl (λ_=>rfl) (λ_ _=>rfl) (λ_ _ _ _=>rfl) λ_ _ _ _=>rfl
 .exact lD (b:=λy=>jW (E.py<|.int i) y.py=E.beq (.int i) y) rfl (λ_=>rfl) (λ_ _=>rfl) (λ_ _ _ _=>rfl) λ_ _ _ _=>rfl
 .exact lD (b:=λy=>jW (E.py<|.str s) y.py=E.beq (.str s) y) rfl (λ_=>rfl) (λ_ _=>rfl) (λ_ _ _ _=>rfl) λ_ _ _ _=>rfl
 .exact lD (b:=λy=>jW (E.py<|.tup e) y.py=E.beq (.tup e) y) rfl (λ_=>rfl) (λ_ _=>rfl) (λm c _ d=>f m c d) λ_ _ _ _=>rfl
 .exact lD (b:=λy=>jW (E.py<|.lst e) y.py=E.beq (.lst e) y) rfl (λ_=>rfl) (λ_ _=>rfl) (λ_ _ _ _=>rfl) λm c _ d=>f m c d
 .cases c<;>rfl
 .cases c with
  |nil=>exact λ_=>rfl
  |cons y c=>exact λd=>congr (congrArg and<|j k y<|bl d)<|f k c<|br d
theorem Kn (x)(e:x.isData 30=I) (c):E.cu 30 c=I->((E.gn c).any λy=>jW y x.py)=c.any λy=>E.beq y x:=by
 induction c with
 |nil=>exact λ_=>rfl
 |cons y c f=>exact λd=>congr (congrArg or<|(ui 30).1 y (bl d) 30 x e)<|f<|br d
end
end
mutual
section
variable {w:aM}{b:aX}{e:aA}{l:List aA}{g:G}{c:List Z}{s:az}{f:Y}{a:R}{d:Ev}{A:bu}
theorem AC.cl (h:AC A l):A.units+64<sW:=by
 exact dH (dt (ai h.units<|dt (eA 10 h.vf) 20) 64)<|by decide
theorem AC.eqv (i:AC A l)(h:m<=31) (n):A.units+min m n<sW:=dH (gZ (ai (D1 m n)<|ai h<|by decide) _) i.cl
theorem Dr {h:List ah}(i:h.length<=dr):(h.toArray.size:Int)<2 ^ 63:=by
 exact pJ (dO.mpr<|gJ▸i)<|show ((dr:Nat):Int)<2 ^ 63 by decide
theorem qH (h:ST w b g s.heap e l f a c)(q:aq w g v B):
  W w b e l g c s ky (lf (truthy a v) f a) λm p=>av (ak PR w) A (D2 B) m p s:=by
 unfold truthy
 cases j:res a v with
 |none=>
  obtain rfl:=aq.none_<|DH j▸q
  exact W.pu<|W.ret h λm p k=>truthy_none<|k _ _ _ s.toks _ (Go.refl h) rfl
 |bool O=>
  refine (aq.lC<|qX j▸q)▸?_
  exact W.pu<|W.ret h λm p k=>D3<|k _ _ _ s.toks _ (Go.refl h) rfl
 |int i=>
  refine aC (kK j▸q).cO ?_;rintro t rfl
  exact W.pu<|W.ret h λm p k=>truthy_int<|k _ _ _ s.toks _ (Go.refl h) rfl
 |lst x=>
  obtain ⟨M,o,y,rfl,j,⟨z,n,rfl⟩,r⟩:=h.sr.fS q j
  refine W.pu<|W.ret h λm p k=>wpAny_truthy_list ⟨_,j,rfl,n,rfl⟩ (Dr z)<|k _ _ _ _ _ (Go.refl h) ?_
  have:=r.length
  cases x<;>cases y<;>first|rfl|exact nomatch this
 |tup x=>
  obtain ⟨M,o,y,rfl,j,⟨z,n,rfl⟩,r⟩:=h.sr.fU q j
  refine W.pu<|W.ret h λm p k=>truthy_tuple ⟨_,j,rfl,n,rfl⟩ (Dr z)<|k _ _ _ _ _ (Go.refl h) ?_
  have:=r.length
  cases x<;>cases y<;>first|rfl|exact nomatch this
 |_=>exact W.stuck
theorem hx.of {h:aX}(j:h.get? i=H o)(q:hx w i m o):h.DictOf (gH PR w) i m:=
 let ⟨_,x,r,t,y,k,p,n⟩:=q;⟨o,r,t,j,x,y,k,p,n⟩
theorem kG.of {h:aX}(j:h.get? i=H o)(q:kG w i m o):h.DictOf (pH PR w) i m:=
 let ⟨_,x,r,t,y,k,p,n⟩:=q;⟨o,r,t,j,x,y,k,p,n⟩
theorem bj.keys:∀{i},bj w g h i->h.map (·.1)=i.map (·.1):=by
 induction h with
 |nil=>
  intro _ r
  subst r;rfl
 |cons j h m=>
  obtain ⟨k,x⟩:=j
  intro _ r
  obtain ⟨v,q,rfl,_,z⟩:=r;simp [m z]
theorem eG.keys:∀{i},eG w g h i->h.map (·.1)=i.map (·.1):=by
 induction h with
 |nil=>
  intro _ r
  subst r;rfl
 |cons j h m=>
  obtain ⟨k,x⟩:=j
  intro _ r
  obtain ⟨v,q,rfl,_,z⟩:=r;simp [m z]
theorem vW {K:Type} [DecidableEq K](k:K) (p) (r):fJ (p::r) k=if p.1=k then H p.2 else fJ r k:=by
 unfold fJ
 by_cases h:p.1=k<;>simp [h]
theorem bj.at (k):∀{h},bj w g i h->match aI k i with
  |H x=>∃v,fJ h k=H v/\aq w g x v
  |T=>fJ h k=T:=by
 induction i with
 |nil=>
  intro _ r
  subst r;rfl
 |cons n i p=>
  obtain ⟨j,x⟩:=n
  intro _ r
  obtain ⟨v,q,rfl,t,z⟩:=r
  refine J hT ?_;rewrite [vW]
  by_cases m:j=k
  .simp only [m,if_true];exact ⟨v,rfl,t⟩
  .simp only [m,if_false];exact p z
theorem eG.at (k):∀{h},eG w g i h->match cZ k i with
  |H x=>∃v,fJ h k=H v/\aq w g x v
  |T=>fJ h k=T:=by
 induction i with
 |nil=>
  intro _ r
  subst r;rfl
 |cons n i p=>
  obtain ⟨j,x⟩:=n
  intro _ r
  obtain ⟨v,q,rfl,t,z⟩:=r
  refine J ni ?_;rewrite [vW]
  by_cases m:j=k
  .simp only [m,if_true];exact ⟨v,rfl,t⟩
  .simp only [m,if_false];exact p z
theorem kX (x) (t):(gH PR w).is x (.str x t)=I:=by simp [gH,RM]
theorem pF (x) (t):(pH PR w).is x (.int x t)=I:=by simp [pH,Value.isInt]
def nR (w:aM)(A:bu)(s:az)(p q:sS)(k m:ah)(n:Bool):Prop:=
 (∀h i,(∀j,h (.bool n) {s with toks:=j})->av (ak PR w) A (iN p k m) h i s)/\∀h i,(∀j,h (.bool !n) {s with toks:=j})->av (ak PR w) A (iN q k m) h i s
def gL (w:aM)(A:bu)(s:az)(r:Option Bool)(i j:sS)(k m:ah):Prop:=∀h,r=H h->nR w A s i j k m h
theorem Jo (a0:AC A l)(x:IsT s.heap y p.toArray n)(z:IsT s.heap B i.toArray k)(h:p=[]\/i=[]):
  (∀m r,m (.bool<|aP<|p.length=i.length) s->av (ak PR w) A (iN .Eq (.ref y)<|.ref B) m r s)/\∀m r,m (.bool !(aP<|p.length=i.length)) s->av (ak PR w) A (iN .NotEq (.ref y)<|.ref B) m r s:=by
 have M:A.units<sW:=by have:=a0.cl;exact ay this<|by simp+arith only
 have O:((ib<|min p.toArray.size i.toArray.size).all (λ_=>I) && p.toArray.size==i.toArray.size)=aP (p.length=i.length):=by
  by_cases q:p.length=i.length<;>simp [q]
 have P:∀j X (h2:j<i.toArray.size),RN A.in1 s p.toArray[j] i.toArray[j]<|(λ_=>I) j:=λj X h2=>by
  rcases h with rfl|rfl
  .simp at X
  .simp at h2
 refine ⟨λm r t=>?_,λm r t=>?_⟩
 .refine TX ⟨_,x,rfl,n,rfl⟩ ⟨_,z,rfl,k,rfl⟩ M P PR w r m ?_
  refine J O ?_;exact t
 .refine TY ⟨_,x,rfl,n,rfl⟩ ⟨_,z,rfl,k,rfl⟩ M P PR w r m ?_
  refine J O ?_;exact t
theorem Hz (a1:AC A l)(x:IsL s.heap B r.toArray n)(y:IsL s.heap M t.toArray k)(h:r=[]\/t=[]):
  (∀i m,i (.bool<|aP<|r.length=t.length) s->av (ak PR w) A (iN .Eq (.ref B)<|.ref M) i m s)/\∀i m,i (.bool !(aP<|r.length=t.length)) s->av (ak PR w) A (iN .NotEq (.ref B)<|.ref M) i m s:=by
 have z:A.units<sW:=by have:=a1.cl;exact ay this<|by simp+arith only
 by_cases q:r.length=t.length
 .have O:∀j P (X:j<t.toArray.size),RN A.in1 s r.toArray[j] t.toArray[j]<|(λ_=>I) j:=λj P X=>by
   rcases h with rfl|rfl
   .simp at P
   .simp at X
  have a0:(ib r.toArray.size).all (λ_=>I)=I:=by simp [eU]
  refine ⟨λi m p=>?_,λi m p=>?_⟩
  .refine TZ ⟨_,x,rfl,n,rfl⟩ ⟨_,y,rfl,k,rfl⟩ (by simpa using q) z O PR w m i ?_
   refine J a0 ?_;simpa [q] using p
  .refine T1 ⟨_,x,rfl,n,rfl⟩ ⟨_,y,rfl,k,rfl⟩ (by simpa using q) z O PR w m i ?_
   refine J a0 ?_;simpa [q] using p
 .refine ⟨λi m p=>?_,λi m p=>?_⟩
  .exact T2 ⟨_,x,rfl,n,rfl⟩ ⟨_,y,rfl,k,rfl⟩ (by simpa using q) z PR w m i<|by simpa [q] using p
  .exact T3 ⟨_,x,rfl,n,rfl⟩ ⟨_,y,rfl,k,rfl⟩ (by simpa using q) z PR w m i<|by simpa [q] using p
theorem mD (h:nR w A s i j k m r):gL w A s (H r) i j k m:=λ_ n=>bf n▸h
theorem mC:gL w A s T i j k m:=λ_ h=>ao h
theorem ov {i:Type}{o:Option i}{j:i->Bool}(h:∀y,o=H y->nR w A s k m n p (j y)):gL w A s (o.map j) k m n p:=by
 cases o with
 |none=>exact mC
 |some y=>exact mD<|h y rfl
theorem vy {i:Type}{o:Option i}{j:i->Option Bool}(h:∀y,o=H y->gL w A s (j y) k m n p):gL w A s (o.bind j) k m n p:=by
 cases o with
 |none=>exact mC
 |some y=>exact h y rfl
theorem A7 {j k:List ah}(z:i.length=j.length)(B:h.length=k.length)(M:j=[]\/k=[]->nR w A s m n p t (aP<|j.length=k.length))
  (P:E.cu 30 i=I->E.cu 30 h=I->nR w A s m n p t (E.gk i h)):gL w A s (vt i h) m n p t:=by
 cases i with
 |nil=>
  obtain rfl:=sV.mp z.symm
  have:=M<|.inl rfl
  replace this:=show aP (([]:List ah).length=h.length)=h.isEmpty by cases h<;>rfl▸B▸this
  exact mD this
 |cons x r=>cases h with
  |nil=>
   obtain rfl:=sV.mp B.symm
   have:=M<|.inr rfl
   replace this:=z▸this
   exact mD this
  |cons y q=>
   show gL w A s (match E.cu 30 (x::r) && E.cu 30 (y::q) with|I=>H<|E.gk (x::r)<|y::q|N=>T) m n p t
   cases O:E.cu 30 (x::r) && E.cu 30 (y::q) with
   |false=>exact mC
   |true=>exact mD<|P (bl O)<|br O
theorem AY (a4:AC A l)(B:ST w b g s.heap e l f a c)(X:aq w g a5 a6)(a0:aq w g a7 a8):gL w A s (pd (res a a5)<|res a a7) .Eq .NotEq a6 a8:=by
 cases a1:res a a5 with
 |bool x=>
  refine ov λy r=>?_
  refine (aq.lC<|qX a1▸X)▸?_
  refine (aq.lC<|qX (M1 r)▸a0)▸?_
  exact ⟨λi j k=>eq_bool<|k _,λi j k=>ne_bool<|k _⟩
 |int x=>
  refine ov λy r=>?_
  refine aC (aq.cO<|kK a1▸X) ?_;rintro t rfl
  refine aC (aq.cO<|kK (ea r)▸a0) ?_;rintro u rfl
  exact ⟨λi j k=>eq_int<|k _,λi j k=>ne_int<|k _⟩
 |str x=>
  refine ov λy r=>?_
  refine aC (aq.fj<|nC a1▸X) ?_;rintro t rfl
  refine aC (aq.fj<|nC (mT r)▸a0) ?_;rintro u rfl
  exact ⟨λi j k=>eq_str<|k _,λi j k=>ne_str<|k _⟩
 |tup n=>
  refine vy λm r=>?_
  obtain ⟨a9,o1,b0,rfl,e1,q1,r1⟩:=B.sr.fU X a1
  obtain ⟨b1,o2,us,rfl,e2,q2,r2⟩:=B.sr.fU a0<|yD r
  refine aC (q1.rx e1) λn1 i1=>?_
  refine aC (q2.rx e2) λn2 i2=>?_
  refine A7 r1.length r2.length (λh=>(Jo (w:=w) a4 i1 i2 h).imp (λM i j k=>M i j<|k s.toks) λM i j k=>M i j<|k s.toks) λO z=>?_
  refine aC ((mR B.sr 30).2 n O _ r1) λas p=>?_
  refine aC ((mR B.sr 30).2 m z _ r2) λbs q=>?_
  have P:=(kR 31).1 (.tup n) O
  have a2:jW (E.py<|.tup n) (E.py<|.tup m)=E.gk n m:=(ui 31).1 (.tup n) O 31 (.tup m) z
  have p':=xr i1 rfl rfl p
  have q':=xr i2 rfl rfl q
  have a3:=a4.eqv P.2 (E.py<|.tup m).depth
  exact ⟨λi j k=>RO p' q' P.1 ((kR 31).1 (.tup m) z).1 a3<|a2▸k s.toks,λi j k=>RP p' q' P.1 ((kR 31).1 (.tup m) z).1 a3<|a2▸k s.toks⟩
 |lst n=>
  refine vy λm r=>?_
  obtain ⟨a9,o1,b0,rfl,e1,q1,r1⟩:=B.sr.fS X a1
  obtain ⟨b1,o2,us,rfl,e2,q2,r2⟩:=B.sr.fS a0<|uM r
  refine aC (q1.rm e1) λn1 i1=>?_
  refine aC (q2.rm e2) λn2 i2=>?_
  refine A7 r1.length r2.length (λh=>(Hz (w:=w) a4 i1 i2 h).imp (λM i j k=>M i j<|k s.toks) λM i j k=>M i j<|k s.toks) λO z=>?_
  refine aC ((mR B.sr 30).2 n O _ r1) λas p=>?_
  refine aC ((mR B.sr 30).2 m z _ r2) λbs q=>?_
  have P:=(kR 31).1 (.lst n) O
  have a2:jW (E.py<|.lst n) (E.py<|.lst m)=E.gk n m:=(ui 31).1 (.lst n) O 31 (.lst m) z
  have p':=xt i1 rfl rfl p
  have q':=xt i2 rfl rfl q
  have a3:=a4.eqv P.2 (E.py<|.lst m).depth
  exact ⟨λi j k=>RO p' q' P.1 ((kR 31).1 (.lst m) z).1 a3<|a2▸k s.toks,λi j k=>RP p' q' P.1 ((kR 31).1 (.lst m) z).1 a3<|a2▸k s.toks⟩
 |_=>exact mC
theorem Bq (a1:AC A l)(O:ST w b g s.heap e l f a c)(a2:aq w g x a3)(a4:aQ w g h P)(X:s.heap.get? a5=H o)(ty:eW "tuple" P o\/eW "list" P o):
  gL w A s (kT x h) .In .NotIn a3<|.ref a5:=by
 unfold kT
 cases a0:x.isData 30 && E.cu 30 h with
 |false=>exact mC
 |true=>
  have y:=bl a0
  have z:=br a0
  refine aC ((mR O.sr 30).1 x y _ a2) λas p=>?_
  refine aC ((mR O.sr 30).2 h z _ a4) λbs q=>?_
  have i:=(kR 30).1 x y
  have m:=(kR 30).2 h z
  have r:A.units+1+min (D0<|E.gn h) x.py.depth<sW:=by
   exact dH (ai (gZ (ai (xu _ _) i.2) _)<|show A.units+31<=A.units+64 from gZ (by decide) _) a1.cl
  have t:=Kn x y h z
  rcases ty with ⟨_,n,rfl⟩|⟨_,n,rfl⟩
  .have j:=xr X rfl rfl q
   exact mD ⟨λB M k=>SeqAt.in_tuple_reads j p m.1 i.1 r<|t▸k s.toks,λB M k=>SeqAt.notIn_tuple_reads j p m.1 i.1 r<|t▸k s.toks⟩
  .have j:=xt X rfl rfl q
   exact mD ⟨λB M k=>SeqAt.in_list_reads j p m.1 i.1 r<|t▸k s.toks,λB M k=>SeqAt.notIn_list_reads j p m.1 i.1 r<|t▸k s.toks⟩
theorem bj.has (k)(r:bj w g i j):(fJ j k).isSome=(aI k i).isSome:=by
 have:=bj.at k r
 revert this
 cases aI k i with
 |none=>exact λh=>h▸rfl
 |some x=>exact λ⟨v,z,_⟩=>z▸rfl
theorem eG.has (k)(r:eG w g i j):(fJ j k).isSome=(cZ k i).isSome:=by
 have:=eG.at k r
 revert this
 cases cZ k i with
 |none=>exact λh=>h▸rfl
 |some x=>exact λ⟨v,z,_⟩=>z▸rfl
theorem Bc (a2:AC A l)(r:ST w b g s.heap e l f a c)(z:aq w g x a4)(B:aq w g a3 a5):gL w A s (oD a x<|res a a3) .In .NotIn a4 a5:=by
 cases M:res a a3 with
 |tup a6=>
  obtain ⟨y,O,P,rfl,i,h,p⟩:=r.sr.fU B M
  exact Bq a2 r z p i<|.inl h
 |lst a6=>
  obtain ⟨y,O,P,rfl,i,h,p⟩:=r.sr.fS B M
  exact Bq a2 r z p i<|.inr h
 |aa a7=>
  refine ov λk X=>?_
  obtain ⟨y,O,P,rfl,i,h,p⟩:=r.sr.lG B M
  refine aC (mT X▸z).fj ?_;rintro t rfl
  have m:=(h.of i).mapOf
  have n:(y==ie)=N:=beq_eq_false_iff_ne.mpr h.1
  refine p.has k▸?_
  exact ⟨λa0 a1 K=>wpAny_in_of (kX k t) n m<|K _,λa0 a1 K=>RQ (kX k t) n m<|K _⟩
 |loc j=>
  refine vy λa7 q=>ov λk X=>?_
  obtain rfl:=N3 M
  obtain ⟨y,O,P,rfl,i,h,p⟩:=r.sr.LB B q
  refine aC (ea X▸z).cO ?_;rintro t rfl
  have m:=(h.of i).mapOf
  have n:(y==ie)=N:=beq_eq_false_iff_ne.mpr h.1
  refine p.has k▸?_
  exact ⟨λa0 a1 K=>wpAny_in_of (pF k t) n m<|K _,λa0 a1 K=>RQ (pF k t) n m<|K _⟩
 |_=>exact mC
def ko:G->aX->List Z->Bool->ah->Prop:=λ_ _ _ h v=>v=.bool h
theorem gL.w1 (m:ST w b g s.heap e l f a c)(h:gL w A s r n y p q):
  W w b e l g c s ko (lf (oo r) f a) λi j=>av (ak PR w) A (iN n p q) i j s:=
 W.oo λt x=>W.ret m λi j k=>(h t x).1 i j λz=>k _ _ _ _ _ (Go.refl m) rfl
theorem gL.w2 (k:ST w b g s.heap e l f a c)(h:gL w A s r y m n p):
  W w b e l g c s ko (lf (qI r) f a) λi j=>av (ak PR w) A (iN m n p) i j s:=by
 cases r with
 |none=>exact W.stuck
 |some q=>exact λ_ _ t i j x _=>(h q rfl).2 i j λz=>x _ f a t _ _ _ _ _ (Go.refl k) rfl
end
end
mutual
section
variable {w:aM}{c:aX}{e:aA}{l:List aA}{g:G}{b:List Z}{s:az}{f:Y}{a:R}{d:Ev}{A:bu}
theorem W.lift {O a7 a8 γ:Type}{a9:G->aX->List Z->γ->O->Prop}{b0:G->aX->List Z->a8->a7->Prop}{r:aY γ}{a0:γ->Cp a8}{P:(O->az->Prop)->(ah->az->Prop)->Prop}
  {K:O->az->(a7->az->Prop)->(ah->az->Prop)->Prop} (x:W w c e l g b s a9 (lf r f a) P)
  (y:∀i p j m t q,Go w c e l g s.heap b p m q f a->a9 p m q i j->W w c e l p q {s with heap:=m,toks:=t} b0 (a0 i) (K j {s with heap:=m,toks:=t})):
  W w c e l g b s b0 (λk X=>wp r λi=>a0 i k X) λa3 z=>P (λj b1=>K j b1 a3 z) z:=by
 intro k X a1 a3 z k1 k2
 refine x (λi b2 b3=>a0 i k X/\b2=f/\b3=a) X (xj a1 λi h=>⟨h,rfl,rfl⟩) _ _ (λi c2 c3 B p j m t q M a1=>?_) k2
 refine dI B ?_;clear B;rintro B rfl rfl
 refine y _ p j m t q M a1 k X B a3 z (λb' b4 b5 b6 a2 b7 a4 a5 b8 a6 b9=>?_) λc0 ev a2 a4 a5 n a6 c1=>?_
 .exact k1 b' b4 b5 b6 a2 b7 a4 a5 b8 (M.trans a6) b9
 .exact k2 c0 ev a2 a4 a5 n (M.trans a6)<|c1.mono M.ext.size
theorem yF (h:qY i j=H k):j=.none/\jF i=N/\k=isNone i:=by
 cases j with
 |none=>
  revert h
  show (match !jF i with|I=>H<|isNone i|N=>T)=H k->_
  cases jF i with
  |true=>exact λh=>ao h
  |false=>exact λh=>⟨rfl,rfl,(bf h).symm⟩
 |_=>exact ao h
theorem AI (r:aq w g v m)(n:jF v=N):plainIs m .none=I/\(m==.none)=isNone v:=by
 cases v with
 |none=>obtain rfl:=r.none_;exact ⟨rfl,rfl⟩
 |bool j=>obtain rfl:=r.lC;exact ⟨rfl,rfl⟩
 |int j=>refine aC r.cO ?_;rintro t rfl;exact ⟨rfl,rfl⟩
 |str j=>refine aC r.fj ?_;rintro t rfl;exact ⟨rfl,rfl⟩
 |dk j=>refine aC r.pw ?_;rintro t rfl;exact ⟨rfl,rfl⟩
 |ag u=>exact ff n.symm
 |tup i=>obtain ⟨h,_,_,rfl,_⟩:=r;exact ⟨rfl,rfl⟩
 |lst i=>obtain ⟨h,_,_,rfl,_⟩:=r;exact ⟨rfl,rfl⟩
 |inst p i=>obtain ⟨h,_,_,_,_,rfl,_⟩:=r;exact ⟨rfl,rfl⟩
 |aa i=>obtain ⟨h,_,_,rfl,_⟩:=r;exact ⟨rfl,rfl⟩
 |bR k i=>obtain ⟨h,_,_,_,_,_,_,_,_,_,_,_,_,rfl,_⟩:=r;exact ⟨rfl,rfl⟩
 |loc k=>refine aK r ?_;clear r;rintro h _ rfl;exact ⟨rfl,rfl⟩
theorem ry (p:ST w c g s.heap e l f a b)(q:aq w g r x)(z:aq w g B M)
  (y:∀i j t u h m,h (.bool<|O i j) s->av (ak PR w) A (iN P (.int i t)<|.int j u) h m s):
  W w c e l g b s ko (lf (oo<|kE O r B) f a) λh m=>av (ak PR w) A (iN P x M) h m s:=
 W.oo λa1 n=>by
  refine zb n λi X n=>?_
  refine zm n ?_;rintro j a0 rfl
  refine aC (ea X▸q).cO ?_;rintro t rfl
  refine aC (ea a0▸z).cO ?_;rintro u rfl
  exact W.ret p λh m k=>y _ _ _ _ _ _<|k _ _ _ s.toks _ (Go.refl p) rfl
theorem uh (n:AC A l)(h:ST w c g s.heap e l f a b) (r)(i:aq w g y M)(j:aq w g z O):
  W w c e l g b s ko (lf (ax a r y z) f a) λt x=>av (ak PR w) A (iN r M O) t x s:=by
 cases r with
 |Eq=>exact (AY n h i j).w1 h
 |NotEq=>exact (AY n h i j).w2 h
 |Is=>
  refine W.oo λB m=>?_
  refine dI (yF m) ?_;rintro rfl q rfl
  obtain rfl:=j.none_
  refine aL (AI i q) λp m=>?_
  exact W.ret h λt x k=>wpAny_is_plain p<|m▸k _ _ _ s.toks _ (Go.refl h) rfl
 |IsNot=>
  refine W.oo λB m=>?_
  refine zm (show (qY y z).map not=_ from m) ?_;rintro B P rfl
  refine dI (yF P) ?_;rintro rfl q rfl
  obtain rfl:=j.none_
  refine aL (AI i q) λp m=>?_
  exact W.ret h λt x k=>wpAny_isNot_plain p<|m▸k _ _ _ s.toks _ (Go.refl h) rfl
 |In=>exact (Bc n h i j).w1 h
 |NotIn=>exact (Bc n h i j).w2 h
 |Lt=>exact ry h i j λ_ _ _ _ _ _=>lt_int
 |LtE=>exact ry h i j λ_ _ _ _ _ _=>le_int
 |Gt=>exact ry h i j λ_ _ _ _ _ _=>gt_int
 |GtE=>exact ry h i j λ_ _ _ _ _ _=>ge_int
theorem aq.base (i:SR w c g a s.heap)(r:aq w ⟨λj o=>c.get? j=H o,λ_=>T,λ_=>T⟩ v k):aq w g v k:=
 aq.mono ⟨λm o h=>i.hF m o h,λ_ _ h=>absurd h<|by trivial,λ_ _ h=>absurd h<|by trivial⟩ _ _ r
theorem H7 (B:dF w c)(h:ST w c g s.heap e l f a b)(O:mN x=I)(n:gT f x=H v)
  (k:∀i,aq w g v i->P i s):av (ak PR w) A (loadName e x) P a6 s:=by
 have n:wV f x (aZ x f.scope)=H v:=n
 cases p:aZ x f.scope with
 |none=>rw [p] at n;exact ao n
 |some q=>
 rw [p] at n
 cases q with
 |«local»=>
  obtain ⟨m,X,y,_⟩:=h.fr.vals
  refine aK (y x v n p) λi j r=>?_
  rcases h.fr.kinds x _ p with q|⟨q,_⟩
  .exact RR h.fr.fn q X j<|k i r
  .cases q
 |cell=>
  obtain ⟨a0,i,j,r,t⟩:=h.fr.cell x v n<|.inl p
  rcases h.fr.kinds x _ p with q|⟨q,_⟩
  .exact RS h.fr.fn q j r<|k i t
  .cases q
 |free=>
  obtain ⟨a0,i,j,r,t⟩:=h.fr.cell x v n<|.inr p
  rcases h.fr.kinds x _ p with q|⟨_,q⟩
  .refine wpAny_loadName_free h.fr.fn q j r (k i t) ?_
   refine beq_eq_false_iff_ne.mpr λz=>?_
   subst z;exact absurd O<|by decide
  .exact RS h.fr.fn q j r<|k i t
 |globalImplicit=>
  refine du B.gl λa1 a2 a3 a4 y=>?_
  refine aK (y x v n) λi j r=>?_
  rcases h.fr.kinds x _ p with q|⟨q,_⟩
  .have M:s.heap.Ns e.globals a1:=by refine J h.fr.glob ?_;exact a3.keeps h.sr.base
   have a5:s.heap.Ns e.builtins a2:=by refine J h.fr.blt.1 ?_;exact a4.keeps h.sr.base
   refine ks_loadName_global h.fr.fn q ?_
   rcases j with j|⟨j,a'⟩
   .exact loadGlobal_global M j<|k i<|r.base h.sr
   .exact loadGlobal_builtin M j a5 a'<|k i<|r.base h.sr
  .cases q
 |_=>exact ao n
theorem hI (B:dF w c)(j:ST w c g s.heap e l f a b)(h:mN x=I)(m:gT f x=H v)
  (k:∀i,aq w g v i->n i s):av (ak PR w) A (cP (.Name x p) e) n q s:=by
 refine wpAny_Name (H7 B j h m k) ?_
 refine beq_eq_false_iff_ne.mpr λz=>?_
 subst z;exact absurd h<|by decide
theorem pk (h:dn i=I) (j) (e):eV (i::j) e=(N,cP i e)::eV j e:=by
 cases i<;>first|rfl|exact ff h
theorem vc (h:dn i=I) (j):behindInMarks j i=N:=by
 cases i<;>first|rfl|exact ff h
theorem wW (B:bz w c d)(M:AC A l) (x) (m):∀f a g b s,ST w c g s.heap e l f a b->
  W w c e l g b s (OD w m.length) (dS d.eval f a m) λi j=>av (ak PR w) A (sX<|fK x<|eV m e) i j s:=by
 induction m with
 |nil=>
  intro f a g b s n
  exact W.ret n λi j k=>D4<|k _ _ _ s.toks _ (Go.refl n) ⟨gW,rfl⟩
 |cons O r P=>
  intro f a g b s n
  refine W.cJ λX=>?_
  refine W.imp (λi j h=>xv h<|pk X r e) ?_
  refine W.bind (B.eval O f a e l A g b s M n) λv a0 a1 a2 y a7 a8 a3 a4 a5=>?_
  refine W.imp (P:=λi j=>av (ak PR w) A (sX<|fK x<|eV r e) (λp q=>i (y::p) q) j _) (λ_ _ h=>h) ?_
  refine W.bind (K:=λp q i j=>i (y::p) q) (P a0 a1 a2 a3 _ a4.st) λp a9 b0 b1 b2 b3 a6 b4 t z=>?_
  exact W.ret t.st λi j k=>k _ _ _ a6 _ (Go.refl t.st) ⟨fQ (aq.mono t.ext.le _ _ a5) z.1,congrArg (·+1) z.2⟩
theorem uV (q:bz w c d)(y:AC A l) (op) (z):∀a8 f a g b s,ST w c g s.heap e l f a b->
  W w c e l g b s (cG w) (se d.eval op f a a8) λj n=>av (ak PR w) A (cP (.BoolOp op a8 z) e) j n s
 |[],f,a,g,b,s,B=>W.stuck
 |[X],f,a,g,b,s,B=>by
  exact W.imp (λj n h=>BoolOp_one h)<|q.eval X f a e l A g b s y B
 |X::a0::r,f,a,g,b,s,B=>by
  cases op with
  |And=>
   refine W.imp (λj n h=>BoolOp_and<|ej h (λv a9 M=>ej M (Q:=λi p=>match i with
    |N=>j v p
    |I=>av (ak PR w) A (cP (.BoolOp .And (a0::r) z) e) j n p) (λi p O=>?_) λ_ _ x=>x) λ_ _ x=>x) ?_
   .cases i<;>exact O
   refine W.bind (q.eval X f a e l A g b s y B) λv a1 a2 b0 b1 M b2 b3 a3 P=>?_
   refine W.lift (qH a3.st P) λt a4 i O a5 a6 m a7=>?_
   obtain rfl:t=i:=a7
   cases t
   .exact W.ret m.st λj n k=>k _ _ _ a5 _ (Go.refl m.st)<|aq.mono m.ext.le _ _ P
   .exact uV q y .And z (a0::r) a1 a2 a4 a6 _ m.st
  |Or=>
   refine W.imp (λj n h=>BoolOp_or<|ej h (λv a9 M=>ej M (Q:=λi p=>match i with
    |I=>j v p
    |N=>av (ak PR w) A (cP (.BoolOp .Or (a0::r) z) e) j n p) (λi p O=>?_) λ_ _ x=>x) λ_ _ x=>x) ?_
   .cases i<;>exact O
   refine W.bind (q.eval X f a e l A g b s y B) λv a1 a2 b0 b1 M b2 b3 a3 P=>?_
   refine W.lift (qH a3.st P) λt a4 i O a5 a6 m a7=>?_
   obtain rfl:t=i:=a7
   cases t
   .exact uV q y .Or z (a0::r) a1 a2 a4 a6 _ m.st
   .exact W.ret m.st λj n k=>k _ _ _ a5 _ (Go.refl m.st)<|aq.mono m.ext.le _ _ P
theorem yS (q:bz w c d)(h:AC A l)(x:ST w c g s.heap e l f a b) (i r) (j):
  W w c e l g b s ko (λk X=>d.eval f a i (λm f a=>d.eval f a r (λn f a=>wp (ax a j m n) λy=>k y f a) X) X)
   λz p=>av (ak PR w) A (cP i e) (λm B=>av (ak PR w) A (cP r e) (λn M=>av (ak PR w) A (iN j m n) z p M) p B) p s:=by
 refine W.bind (q.eval i f a e l A g b s h x) λv O P a0 a5 a6 a7 a1 a2 a3=>?_
 refine W.bind (q.eval r O P e l A a0 a1 _ h a2.st) λa8 a9 b0 b1 b2 b3 b4 b5 t a4=>?_
 exact uh h t.st j (aq.mono t.ext.le _ _ a3) a4
theorem PN (n:bz w c d)(p:AC A l)(q:ST w c g s.heap e l f a b) (i) (j) (k) (t):
  W w c e l g b s ko (nT d.eval f a i j k) λx y=>av (ak PR w) A (cP (.Compare i j k t) e) x y s:=
 W.bw λm z=>W.bw λr B=>W.cJ λM=>hP z▸hP B▸W.imp (λ_ _ h=>wpAny_Compare1 h<|vc M m) (yS n p q i r m)
theorem W.Cj {j:Cp Bool}{P:(ah->az->Prop)->(ah->az->Prop)->Prop}(x:W w c e l g b s ko j P):W w c e l g b s ky j λm h=>P (λp q=>av (ak PR w) A (D2 p) m h q) h:=
 λk X i m h r t=>x k X i _ h (λn y z B M a3 O a0 a1 a2 i=>i▸D3 (r n y z B M n O a0 a1 a2 rfl)) t
theorem Mu (p:bz w c d)(q:AC A l)(t:ST w c g s.heap e l f a b) (i) (j) (k) (m):
  W w c e l g b s ky (nT d.eval f a i j k) λx y=>av (ak PR w) A (mf (.Compare i j k m) e<|cP (.Compare i j k m) e) x y s:=
 W.bw λn z=>W.bw λr B=>W.cJ λM=>hP z▸hP B▸W.imp (λ_ _ h=>wpAny_isTrue_Compare1 h<|vc M n) (yS p q t i r n).Cj
theorem FG (r:bz w c d)(m:AC A l)(O:ST w c g s.heap e l f a b) (n) (t) (x) (y):
  W w c e l g b s ky (wK d.eval f a n t x) λi j=>av (ak PR w) A (mf (.Compare n t x y) e<|cP (.Compare n t x y) e) i j s:=by
 refine W.bw λ(z,p) P=>W.bw λ(X,a0) a1=>W.cJ λa2=>?_
 refine oL P▸oL a1▸W.imp (λi j h=>isTrue_chain h<|vc a2 p) ?_
 refine W.bind (r.eval n f a e l A g b s m O) λv a3 a4 a5 b6 b7 b8 a6 z a7=>?_
 refine W.imp (λi j h=>test_link h) ?_
 refine W.bind (r.eval X a3 a4 e l A a5 a6 _ m z.st) λb9 a8 a9 c0 c1 c2 c3 c4 p B=>?_
 refine W.lift (uh m p.st _ (aq.mono p.ext.le _ _ a7) B) λb0 b1 c5 c6 b2 b3 q b4=>?_
 refine b4▸W.imp (λi j h=>D3 h) ?_
 cases b0
 .exact W.ret q.st λi j k=>k _ _ _ b2 _ (Go.refl q.st) rfl
 .refine W.imp (λi j h=>test_last h) ?_
  refine W.bind (r.eval a0 a8 a9 e l A b1 b3 _ m q.st) λc7 c8 c9 d0 d1 d2 d3 d4 M b5=>?_
  exact (uh m M.st _ (aq.mono (q.ext.le.trans M.ext.le) _ _ B) b5).Cj
set_option tactic.hygienic true in
mutual
theorem mI (z:bz w c d)(B:AC A l):∀(n:Nat)(i:aD)(f:Y)(a:R)(g:G)(b:List Z)(s:az),ST w c g s.heap e l f a b->
  W w c e l g b s ky (hR d.eval n f a i) λj m=>av (ak PR w) A (mf i e<|cP i e) j m s
 |0,i,f,a,g,b,s,p=>by exact W.stuck
 |n+1,i,f,a,g,b,s,p=>by
  have b0:mf i e (cP i e)=(do let v <-cP i e;D5 i.pos;holding [v]<|D2 v)->
    W w c e l g b s ky (λk X=>d.eval f a i (λv f a=>wp (truthy a v) λM=>k M f a) X) λj m=>av (ak PR w) A (mf i e<|cP i e) j m s:=λhe=>by
   refine W.imp (λj m h=>isTrue_plain h he) ?_
   refine W.bind (z.eval i f a e l A g b s B p) λv a3 a4 a5 b2 a9 a0 a6 y O=>?_
   exact qH y.st O
  cases i with
  |BoolOp q a7 t=>exact uu z B n q t a7 f a g b s p<|cP (.BoolOp q a7 t) e
  |UnaryOp q x t=>
   cases q with
   |Not=>
    refine W.imp (λj m h=>isTrue_not h) ?_
    refine W.bind (K:=λP b1 j m=>j (!P) b1) (mI z B n x f a g b s p) λM a3 a4 a5 P a9 a0 a6 y O=>?_
    obtain rfl:M=P:=O
    exact W.ret y.st λj m k=>k _ _ _ a0 _ (Go.refl y.st) rfl
   |_=>exact b0 rfl
  |Compare a8 a1 rs t=>
   show W w c e l g b s ky (λk X=>match (one a1).isSome with
    |I=>nT d.eval f a a8 a1 rs k X
    |N=>wK d.eval f a a8 a1 rs k X) _
   cases (one a1).isSome
   .exact FG z B p a8 a1 rs t
   .exact Mu z B p a8 a1 rs t
  |IfExp=>exact W.stuck
  |_=>exact b0 rfl
theorem uu (z:bz w c d)(B:AC A l):∀(n:Nat)(q:BoolOp)(t:Pos)(a7:List aD)(f:Y)(a:R)(g:G)(b:List Z)(s:az),ST w c g s.heap e l f a b->∀a2:Sem ah,
  W w c e l g b s ky (oO d.eval n q f a a7) λj m=>av (ak PR w) A (mf (.BoolOp q a7 t) e a2) j m s
 |n,q,t,[],f,a,g,b,s,p,a2=>by
  have e0:oO d.eval n q f a []=λk _=>k (match q with|.And=>I|.Or=>N) f a:=by cases n<;>rfl
  refine aW e0▸?_
  cases q
  .exact W.ret p λj m k=>isTrue_and_nil<|k _ _ _ s.toks _ (Go.refl p) rfl
  .exact W.ret p λj m k=>isTrue_or_nil<|k _ _ _ s.toks _ (Go.refl p) rfl
 |0,q,t,i::r,f,a,g,b,s,p,a2=>by exact W.stuck
 |n+1,q,t,i::r,f,a,g,b,s,p,a2=>by
  cases q
  .refine W.imp (λj m h=>isTrue_and h) ?_
   refine W.bind (mI z B n i f a g b s p) λM a3 a4 a5 P a9 a0 a6 y O=>?_
   obtain rfl:M=P:=O
   cases M
   .exact W.ret y.st λj m k=>k _ _ _ a0 _ (Go.refl y.st) rfl
   .exact uu z B n .And t r a3 a4 a5 a6 _ y.st a2
  .refine W.imp (λj m h=>isTrue_or h) ?_
   refine W.bind (mI z B n i f a g b s p) λM a3 a4 a5 P a9 a0 a6 y O=>?_
   obtain rfl:M=P:=O
   cases M
   .exact uu z B n .Or t r a3 a4 a5 a6 _ y.st a2
   .exact W.ret y.st λj m k=>k _ _ _ a0 _ (Go.refl y.st) rfl
end
end
end
mutual
section
variable {w:aM}{A:bu}{r:ah->az->Prop}{s:az}
theorem J1 {n:Nat}(d:s.heap.IsSliceOf f .none (.int (-1) u) .none)(c:1<=n)(h:g (0,1,n - 1) s):
  av (ak PR w) A (T4 (.ref f)<|aS (n:Int)) g r s:=by
 refine cK (id d) λos a k b=>?_
 refine aF<|aF<|iO a b (x:=.none) rfl<|aF<|iO a b (x:=.int (-1) u) rfl<|aF<|iO a b (x:=.none) rfl<|bp ?_
 refine aF<|RT ?_
 refine aF<|RT<|aF<|slicePart_int<|aF<|bp ?_
 have e:D6 T (H<|-1) 1 (n:Int)=(0,(n:Int) - 1):=by
  unfold D6
  simp only [show ¬(1:Int)<0 from by decide,show (-1:Int)<0 from by decide,if_false,if_true]
  congr 1
  rw [Int.add_comm]
  exact Int.max_eq_left<|Int.sub_nonneg_of_le<|dO.mpr c
 have i:xw 0 ((n:Int) - 1) 1=n - 1:=by
  unfold xw
  simp only [show (1:Int)>0 from by decide,if_true,Int.ediv_one]
  rw [RU,Int.sub_add_cancel]
  have q:(n:Int) - 1=((n - 1:Nat):Int):=(Int.ofNat_sub c).symm
  rw [q]
  split
  next=>rfl
  next h=>exact (D7.mp<|de.mp λz=>h<|jk.mpr z).symm
 show av _ _ (match D6 T (H<|-1) 1 (n:Int) with|(lo,j)=>aS (lo,(1:Int),xw lo j 1)) _ _ s
 refine J e ?_
 show av _ _ (aS ((0:Int),(1:Int),xw 0 ((n:Int) - 1) 1)) _ _ s
 refine J i ?_
 exact bp h
theorem LH (a:Array ah):((ib<|a.size - 1).filterMap λ(k:Nat)=>a[((0:Int)+(k:Int)*1).toNat]?).toArray=(a.toList.take<|a.size - 1).toArray:=by
 have e:(λ(k:Nat)=>a[((0:Int)+(k:Int)*1).toNat]?)=λk=>a[k]?:=by
  funext k
  have:((0:Int)+(k:Int)*1).toNat=k:=by simp+arith
  exact J this rfl
 refine J e ?_
 congr 1
 apply List.ext_getElem?
 intro i
 have b:∀m,m<=a.size->(ib m).filterMap (λk=>a[k]?)=a.toList.take m:=by
  intro m
  induction m with
  |zero=>intro _;rfl
  |succ m c=>
   intro d
   simp only [List.range_succ,List.filterMap_append,c<|by exact dg<|by assumption]
   have:a[m]?=H a[m]:=RW d
   simp only [xx,List.filterMap_nil,this]
   simp only [List.take_add_one]
   have:a.toList[m]?=H a[m]:=by refine J Array.getElem?_toList ?_;exact this
   refine J this ?_;rfl
 exact J (b _<|RX<|dX _) rfl
theorem QB (b:IsTup s.heap t a)(d:s.heap.IsSliceOf e .none (.int (-1) u) .none)(f:1<=a.size)
  (h:g (.ref s.heap.objs.size) {s with heap:=s.heap.push {cls:=.type "tuple",data:=.seq (a.toList.take<|a.size - 1).toArray}})
  (i:a.size<=dr):av (ak PR w) A (D8 (.ref t)<|.ref e) g r s:=by
 have c:sizeOk<|.seq (a.toList.take<|a.size - 1).toArray:=by
  show (a.toList.take<|a.size - 1).toArray.size<=dr
  simp only [gJ,pK,D9]
  exact ai (xu _ _) i
 refine cK (id d) λos j k n=>?_
 have l:s.TypeIs (.ref e) "slice" :=⟨os,j,k⟩
 unfold D8
 try with_reducible refine xy ?_
 first|refine aF<|bp ?_|skip
 refine aF<|wpAny_sequenceKey b.typeIs (by decide) ?_
 refine aF<|wpAny_callSpecial?_slot (name:=U "__getitem__") b.typeIs sY
  <|wpAny_call_entry sY b.typeIs entry_tuple_getitem ?_<|args_tuple_getitem _ _
 show av _ _ (T5 (.ref t)>>=_) _ _ s
 refine aF<|tupleItemsOf_ b ?_
 refine aF<|wpAny_typeOf l ?_
 refine aF<|J1 d f ?_
 have m:¬((0:Int)==0 && (1:Int)==1 && a.size - 1==a.size)=I:=by
  have:(a.size - 1==a.size)=N:=by rw [beq_eq_false_iff_ne];exact cA<|Nat.sub_lt f<|by decide
  refine J this ?_;trivial
 show av _ _ (if ((0:Int)==0 && (1:Int)==1 && a.size - 1==a.size)=I then _ else _) _ _ s
 refine aW (if_neg m)▸aW (LH a)▸?_
 first
  |exact aF (m:=xA _)<|pL (bp ⟨_,rfl,bp h⟩) c
  |exact aF (m:=xA _)<|pL (aF<|bp<|bp ⟨_,rfl,bp h⟩) c
  |exact aF<|aF (m:=xA _)<|pL (bp<|bp ⟨_,rfl,bp h⟩) c
  |exact aF<|aF (m:=xA _)<|pL (bp ⟨_,rfl,bp h⟩) c
end
end
mutual
section
variable {w:aM}{b:aX}{e:aA}{l:List aA}{g:G}{c:List Z}{s:az}{f:Y}{a:R}{d:Ev}{A:bu}
set_option tactic.hygienic true in
theorem ku (h) (o i):∃j,subscripted h N o i=operate j (D8 o i):=by
 cases h<;>first|exact ⟨_,rfl⟩|skip
 rename_i m n k p
 cases k<;>exact ⟨_,rfl⟩
inductive HV (k:Int)(n p:Nat):Prop
 |mk (s:seqIndex? k n=H p) (h:0<=k->k.toNat=p) (i:k<0->(k+n).toNat=p) (j:-(n:Int)<=k) (m:k<n)
theorem xl (h:iJ k n=H p):HV k n p:=by
 unfold iJ at h
 by_cases j:0<=k
 .rw [if_pos j] at h
  by_cases i:k<n
  .replace h:=if_pos i▸h
   refine bf h▸?_
   have m:¬k<0:=jl.mpr j
   refine ⟨?_,λ_=>rfl,λz=>absurd z m,fp (Int.neg_nonpos_of_nonneg<|hA n) j,i⟩
   show (if 0<=(if k<0 then k+n else k) && (if k<0 then k+n else k)<n then _ else _)=_
   refine J (if_neg m) ?_
   exact if_pos<|(eI _ _).mpr ⟨decide_eq_true j,decide_eq_true i⟩
  .rw [if_neg i] at h;exact ao h
 .rw [if_neg j] at h
  by_cases i:0<=k+n
  .rw [if_pos i] at h
   refine bf h▸?_
   have m:k<0:=pM.mp j
   have q:k+n<n:=fx m<|by simp+arith only
   refine ⟨?_,λz=>absurd z j,λ_=>rfl,fx i<|by simp+arith only,la m<|hA n⟩
   show (if 0<=(if k<0 then k+n else k) && (if k<0 then k+n else k)<n then H (if k<0 then k+n else k).toNat else _)=_
   refine J (if_pos m) ?_
   exact if_pos<|(eI _ _).mpr ⟨decide_eq_true i,decide_eq_true q⟩
  .rw [if_neg i] at h;exact ao h
theorem tN {n:Nat}(h:-(n:Int)<=k)(i:n<=dr):-2 ^ 63<=k:=
 fp (fp (show -2 ^ 63<=-(dr:Int) by decide)<|RY<|dO.mpr i) h
theorem wH {k:Int}{n:Nat}(h:k<n)(i:n<=dr):k<2 ^ 63:=
 la h<|fp (dO.mpr i)<|by decide
theorem W.idx {m n:Type}{p:G->aX->List Z->n->m->Prop}{P:(m->az->Prop)->(ah->az->Prop)->Prop}{h:List E}{i:E}{q:E->Cp n}
  (y:∀k j v,i=.int k->iJ k h.length=H j->h[j]?=H v->W w b e l g c s p (q v) P):W w b e l g c s p (λk X=>wp (tJ h i) λr=>q r k X) P:=
 W.bJ λk t=>W.pf λj x=>W.oo λv z=>y k j v (ea t) x z
theorem O4 (m:ST w b g s.heap e l f a c) (b5 a0)(a4:aq w g o b6)(a5:aq w g i b7):
  W w b e l g c s (cG w) (lf (aO a o i) f a) λa3 a1=>av (ak PR w) A (RZ b5 a0 b6 b7) a3 a1 s:=by
 show W w b e l g c s (cG w) (lf (tW (res a o) i) f a) _
 cases a6:res a o with
 |tup xs=>
  refine W.idx λk j v b0 a7 b1=>W.ret m λa3 a1 p=>?_
  subst b0
  obtain ⟨a8,b3,b4,rfl,z,⟨B,n,rfl⟩,r⟩:=m.sr.fU a4 a6
  refine aC a5.cO ?_;rintro u rfl
  obtain ⟨i1,i2,i3,M,i5⟩:=xl a7
  refine aK (r.get b1) λx O a2=>?_
  have c0:=r.length
  rw [r.length] at i1 M i5
  refine aC (ku a0 (.ref a8)<|.int k u) λa9 y=>?_
  refine mg (T:= "tuple") ⟨_,z,rfl⟩ sY.lookup ?_ y
  exact getItem_tuple ⟨_,z,rfl,n,rfl⟩ (tN M B) (wH i5 B) (by simpa using i1) (by simpa using O)<|p _ _ _ s.toks _ (Go.refl m) a2
 |lst xs=>
  refine W.idx λk j v b0 a7 b1=>W.ret m λa3 a1 p=>?_
  subst b0
  obtain ⟨a8,b3,b4,rfl,z,⟨B,n,rfl⟩,r⟩:=m.sr.fS a4 a6
  refine aC a5.cO ?_;rintro u rfl
  obtain ⟨i1,i2,i3,M,i5⟩:=xl a7
  refine aK (r.get b1) λx O a2=>?_
  rw [r.length] at i3 M i5
  refine aC (ku a0 (.ref a8)<|.int k u) λa9 y=>?_
  refine mg (T:= "list") ⟨_,z,rfl⟩ R0.lookup ?_ y
  by_cases h:0<=k
  .exact wpAny_getItem_list ⟨_,z,rfl,n,rfl⟩ h (wH i5 B) (by refine J (i2 h) ?_;simpa using O)<|p _ _ _ s.toks _ (Go.refl m) a2
  .have h:=pM.mp h
   exact wpAny_getItem_list_neg ⟨_,z,rfl,n,rfl⟩ h (by refine J gJ ?_;exact M) (tN M B) (by refine J gJ ?_;refine J (i3 h) ?_;simpa using O)<|p _ _ _ s.toks _ (Go.refl m) a2
 |dk X=>
  obtain rfl:=yC a6
  refine aC a4.pw ?_;rintro t rfl
  refine W.bJ λk h=>W.er λq=>W.pu<|W.ret m λa3 a1 p=>?_
  obtain rfl:=ea h
  refine aC a5.cO ?_;rintro u rfl
  .have h:=of_decide_eq_true q
   refine aC (ku a0 (.bytes X t)<|.int k u) λa9 y=>?_
   refine mg (T:= "bytes") (typeIs_bytes ..) T6.lookup ?_ y
   have c1:X=X.toList.toArray:=by rfl
   exact getItem_bytes (by refine J D9 ?_;exact ai h.2.2<|by decide) h.1 (by refine J D9 ?_;exact h.2.1)<|p _ _ _ _ _ (Go.refl m)<|eP ..
 |str X=>
  obtain rfl:=nC a6
  refine aC a4.fj ?_;rintro t rfl
  refine W.bJ λk h=>W.er λq=>W.pf λj a7=>W.pf λx O=>W.pu<|W.ret m λa3 a1 p=>?_
  obtain rfl:=ea h
  refine aC a5.cO ?_;rintro u rfl
  .have h:=of_decide_eq_true q
   obtain ⟨i1,i2,i3,M,i5⟩:=xl a7
   refine aC (ku a0 (.str X t)<|.int k u) λa9 y=>?_
   refine mg (T:= "str") (typeIs_str ..) F.slot_str_getitem.lookup ?_ y
   refine P.getItem_str (c:=x) ?_ ?_<|p _ _ _ _ _ (Go.refl m)<|km ..
   .have B:X.cps.size<=dr:=ai h<|by decide
    rw [D_]
    exact ⟨decide_eq_false<|jl.mpr<|tN M B,decide_eq_false<|pM.mpr<|wH i5 B⟩
   .show ((seqIndex? k X.cps.size).bind λb8=>X.cps[b8]?)=H x
    refine J i1 ?_;exact O
 |aa c2=>
  refine W.bJ λk h=>W.oo λv b9=>W.ret m λa3 a1 p=>?_
  obtain rfl:=mT h
  obtain ⟨a8,b3,b4,rfl,z,q,r⟩:=m.sr.lG a4 a6
  refine aC a5.fj ?_;rintro u rfl
  have b2:=bj.at k r
  rw [b9] at b2
  refine aK b2 ?_;clear b2;intro x O a2
  refine aC (ku a0 (.ref a8)<|.str k u) λa9 y=>?_
  have hm:=(q.of z).mapOf
  refine mg (T:= "dict") hm.typeIs slot_dict_getitem.lookup ?_ y
  exact wpAny_getItem_of (kX k u) hm O<|p _ _ _ _ _ (Go.refl m) a2
 |_=>exact W.stuck
end
end
mutual
section
variable {w:aM}{b:aX}{e:aA}{l:List aA}{g:G}{a:List Z}{s:az}{f:Y}{c:R}{d:Ev}{A:bu}
theorem vD (h:isNone v=I):v=.none:=by
 cases v with
 |none=>rfl
 |_=>exact ff h
theorem Fy {o n k:E}{P:Prop}(h:vx o n k=H v)(x:∀j (m:Nat),o=.tup j->n=.int m->k=.none->1<=m->m<=j.length->v=.val (.tup<|j.drop m)->P)
  (y:∀j,o=.tup j->n=.none->k=.int (-1)->1<=j.length->v=.val (.tup<|j.take<|j.length - 1)->P) (z:∀j (m:Nat),o=.lst j->n=.none->k=.int m->v=.fresh (.lst<|j.take m)->P):P:=by
 cases o with
 |tup j=>
  have h:yL j n k (cR n)=H v:=h
  cases p:cR n with
  |some i=>
   rw [p] at h
   refine uZ h λq r=>?_
   have k:=of_decide_eq_true<|br q
   have t:((i.toNat:Nat):Int)=i:=sZ<|fp (by decide) k.1
   exact x j i.toNat rfl (t.symm▸ea p) (vD<|bl q) (dO.mp<|t.symm▸k.1) (dO.mp<|t.symm▸k.2) r
  |none=>
   rw [p] at h
   refine zb h λi p h=>?_
   refine uZ h λq r=>?_
   have k:=of_decide_eq_true<|br q
   exact y j rfl (vD<|bl q) (k.1▸ea p) k.2 r
 |lst j=>
  refine zb (show (cR k).bind _=_ from h) λi p h=>?_
  refine uZ h λq r=>?_
  have t:((i.toNat:Nat):Int)=i:=sZ<|of_decide_eq_true<|br q
  exact z j i.toNat rfl (vD<|bl q) (t.symm▸ea p) r
 |_=>exact ao h
theorem Pm (M:ST w b g s.heap e l f c a){n:Nat}(b7:n<=s.heap.objs.size){o a9 b0:E}{b1 x y:ah}(b8 a3:aD)(a5:aq w g o b1)(a6:aq w g a9 x)(a7:aq w g b0 y):
  W w b e l g a s (gA w b e l n) (lf (DN c o a9 b0) f c) λb2 b3=>
   av (ak PR w) A (RZ b8 a3 b1<|.ref s.heap.objs.size) b2 b3 {s with heap:=s.heap.push {cls:=.type "slice",data:=.fields #[x,y,.none]}}:=by
 have i:=Go.push M {cls:=.type "slice",data:=.fields #[x,y,.none]}
 have z:(s.heap.push {cls:=.type "slice",data:=.fields #[x,y,.none]}).IsSliceOf s.heap.objs.size x y .none:=T7 ..
 refine W.oo λv ev=>W.ret M λb2 b3 a8=>Fy ev (λxs m O P X a4 b4 B=>?_) (λxs O P X a4 B=>?_) λxs m O P X B=>?_
 .obtain ⟨t,b5,h,rfl,j,⟨p,k,rfl⟩,r⟩:=M.sr.fU a5 O
  refine aC (aq.cO<|P▸a6) λu a0=>?_
  have a1:y=.none:=aq.none_<|X▸a7
  rw [a0,a1] at i z |-
  rw [r.length] at b4
  refine aC (ku a3 (.ref t)<|.ref s.heap.objs.size) λb6 a2=>?_
  have q:=Go.newTuple (n:=n) (s:=⟨_,s.gens,s.drawn,s.toks,s.os⟩) i.st (r.drop m)<|by refine J Ea ?_;exact RX<|ai p<|bZ _ _
  exact mg (T:= "tuple") ⟨_,nE _ j,rfl⟩ sY.lookup (getItem_tuple_from (items:=h.toArray) ⟨_,nE _ j,rfl,k,rfl⟩ z a4 b4 (a8 _ _ _ s.toks a (i.trans q.1)<|B▸q.2) p) a2
 .obtain ⟨t,b5,h,rfl,j,⟨p,k,rfl⟩,r⟩:=M.sr.fU a5 O
  refine aC (aq.cO<|X▸a7) λu a0=>?_
  have a1:x=.none:=aq.none_<|P▸a6
  rw [a0,a1] at i z |-
  rw [r.length] at a4 B
  refine aC (ku a3 (.ref t)<|.ref s.heap.objs.size) λb6 a2=>?_
  have q:=Go.newTuple (n:=n) (s:=⟨_,s.gens,s.drawn,s.toks,s.os⟩) i.st (r.take<|h.length - 1)<|by refine J pK ?_;exact ai (xu _ _) p
  exact mg (T:= "tuple") ⟨_,nE _ j,rfl⟩ sY.lookup (QB (a:=h.toArray) ⟨_,nE _ j,rfl,k,rfl⟩ z a4 (a8 _ _ _ s.toks a (i.trans q.1)<|B▸q.2) p) a2
 .obtain ⟨t,b5,h,rfl,j,⟨p,k,rfl⟩,r⟩:=M.sr.fS a5 O
  refine aC (aq.cO<|X▸a7) λu a0=>?_
  have a1:x=.none:=aq.none_<|P▸a6
  rw [a0,a1] at i z |-
  refine aC (ku a3 (.ref t)<|.ref s.heap.objs.size) λb6 a2=>?_
  have q:=Go.newList (n:=n) (s:=⟨_,s.gens,s.drawn,s.toks,s.os⟩) i.st (r.take m) (by refine J pK ?_;exact ai (xu _ _) p)<|ai (jX b7)<|bh (Heap.size_push ..).symm
  have b9:slicePick h.toArray T (H (m:Int)) T=(h.take m).toArray:=by
   rw [kms_pick_eq]
   congr 1
   show (h.take<|min m h.length)=h.take m
   rw [List.take_eq_take_iff];exact (Nat.min_assoc ..).trans<|congrArg _<|Nat.min_self _
  exact mg (T:= "list") ⟨_,nE _ j,rfl⟩ R0.lookup (wpAny_getItem_list_slice (items:=h.toArray) (lo:=T) (hi:=H (m:Int)) (st:=T) ⟨_,nE _ j,rfl,k,rfl⟩ z .none (.int _ u) .none (by trivial) (aW b9▸a8 _ _ _ s.toks a (i.trans q.1) (B▸q.2)) p) a2
end
end
mutual
section
variable {w:aM}{b:aX}{g d:G}{h i:aX}{e:aA}{l:List aA}{f:Y}{a j:R}{c:List Z}
theorem FR.drop (k:FR w b g h e f c):FR w b g h e {f with own:=T} []:=by
 obtain ⟨m,p,q,z⟩:=k.vals
 exact ⟨k.fn,k.glob,k.blt,k.kinds,⟨m,p,q,.no⟩,k.cell,λx n r=>let ⟨s,t,n,y,_⟩:=k.cells x n r;⟨s,t,n,y,by simp⟩,k.gu,k.eE,k.bb,by simp⟩
theorem FR.say {x:ae}{v:E}(n:FR w b g h e f c)(t:aZ x f.scope=H .local->∀m,h.Ns e.locals m->∃r,m x=H r/\aq w g v r)
  (z:aZ x f.scope=H .cell\/aZ x f.scope=H .free->qL w g h e x v):FR w b g h e {f with vals:=bc x v f.vals} c:=by
 obtain ⟨m,s,A,B⟩:=n.vals
 refine ⟨n.fn,n.glob,n.blt,n.kinds,⟨m,s,λy u p k=>?_,B⟩,λy u p k=>?_,n.cells,n.gu,n.eE,n.bb,n.f_⟩
 .rw [kS] at p
  split at p
  .rename_i q;subst q;refine aG p ?_;clear p;rintro rfl;exact t k m s
  .exact A y u p k
 .rw [kS] at p
  split at p
  .rename_i q;subst q;refine aG p ?_;clear p;rintro rfl;exact z k
  .exact n.cell y u p k
theorem Heap.Ns.one (x:h.Ns r m)(y:h.Ns r s):m=s:=by
 refine mL x ?_;clear x;intro o B M t z _ q
 refine mL y ?_;clear y;intro O P X k p _ A
 rw [t] at k;refine aG k ?_;clear k;rintro rfl
 rw [z] at p;cases p
 funext n
 exact q n▸A n▸rfl
theorem FF.rM (x:FF b g h l)(k:h.get? p=H o)(n:o.cls≠.type "frame"):∀k∈l,k.frame≠H p:=λr s q=>by
 refine aL (x r s) λ_ zz=>jB zz λL y z m t _=>?_;clear zz
 rw [z] at q;refine aG q ?_;clear q;rintro rfl
 rw [k] at m;refine aG m ?_;clear m;rintro rfl
 exact n t
theorem Go.KA {x:ae}{P:au}(s:ST w b g h e l f a c)(b0:f.own=H (x,P)):
  ∃d k,Go w b e l g h c d h [] {f with own:=T,vals:=bc x P.tree f.vals} a/\aq w d P.tree (.ref k)/\aZ x f.scope=H .local/\∀m,h.Ns e.locals m->m x=H (.ref k):=by
 obtain ⟨m,b1,b7,hw⟩:=id s.fr.vals
 refine aL (hw.1 _ _ b0) λa2 zz=>aK zz λk hm q=>?_;clear zz
 have a3:∀X,h.Ns e.locals X->X x=H (.ref k):=λX a5=>by refine J (Heap.Ns.one a5 b1) ?_;exact hm
 have a6:∀(o:cT),k∈c->h.get? k=H o->bU b g k->o.cls≠.type "frame" ->ST w b (g.add k o) h e l {f with own:=T} a []:=λo a9 A p b2=>
  ⟨s.sr.add A p.ν,(s.fr.drop).add (λz=>s.fr.f_<|z▸a9) (λy B A z=>(s.fr.cells y B A).2.2.2.2<|z▸a9)<|by simp,s.tb.add p.tab,s.ff.add<|s.ff.rM A b2,s.dep,s.top⟩
 have a7:∀d,ST w b d h e l {f with own:=T} a []->bt b g h d h (PP e c)->aq w d P.tree (.ref k)->
   Go w b e l g h c d h [] {f with own:=T,vals:=bc x P.tree f.vals} a:=λd M x' r=>
  ⟨x',by simp,M.sr,M.fr.say (λ_ X a5=>⟨_,a3 X a5,r⟩) λz=>by rcases z with z|z<;>(rw [show aZ x ({f with own:=T}:Y).scope=aZ x f.scope from rfl,a2] at z;exact nomatch z),M.tb,M.ff,M.dep,M.top⟩
 cases P with
 |lst xs=>
  obtain ⟨rfl,p,o,a8,A,a0,r⟩:=q
  have M:=a6 o (.head _) A p a0.nf
  have O:aq w (g.add k o) (au.lst xs).tree<|.ref k:=by
   exact ⟨k,o,a8,rfl,g.eZ k o,a0,aQ.mono (g.c_ ..) _ _ r⟩
  exact ⟨_,k,a7 _ M (bt.add<|.inr<|.inr<|.inr<|.inr<|.head _) O,O,a2,a3⟩
 |aa xs=>
  obtain ⟨rfl,p,o,a8,A,a0,r⟩:=q
  have M:=a6 o (.head _) A p<|ve a0.2.1
  have O:aq w (g.add k o) (au.aa xs).tree<|.ref k:=by
   exact ⟨k,o,a8,rfl,g.eZ k o,a0,bj.mono (g.c_ ..) _ _ r⟩
  exact ⟨_,k,a7 _ M (bt.add<|.inr<|.inr<|.inr<|.inr<|.head _) O,O,a2,a3⟩
 |tab xs=>exact q.elim
 |inst B b3=>
  obtain ⟨t,a4,n,b4,rfl,b8,p1,p2,e1,e2,b5,r⟩:=q
  have a1:=a6 (fs B t) (.head _) e1 p1<|by simp
  have b6:ST w b ((g.add k<|fs B t).add t<|ft a4 n) h e l {f with own:=T} a []:=by
   refine ⟨a1.sr.add e2 p2.ν,a1.fr.add (λz=>s.fr.f_<|z▸by exact .tail _<|.head _) (λy B A z=>(s.fr.cells y B A).2.2.2.2<|z▸by exact .tail _<|.head _)<|by simp,a1.tb.add p2.tab,a1.ff.add<|a1.ff.rM e2<|by simp,s.dep,s.top⟩
  have O:aq w ((g.add k<|fs B t).add t<|ft a4 n) (au.inst B b3).tree<|.ref k:=by
   exact ⟨k,t,a4,n,b4,rfl,(G.c_ _ t _).F _ _<|g.eZ k _,G.eZ _ t _,b5,bj.mono ((g.c_ k<|fs B t).trans<|G.c_ (g.add k<|fs B t) t<|ft a4 n) _ _ r⟩
  exact ⟨_,k,a7 _ b6 ((bt.add<|.inr<|.inr<|.inr<|.inr<|.head _).trans<|bt.add<|.inr<|.inr<|.inr<|.inr<|.tail _<|.head _) O,O,a2,a3⟩
def G.loc (g:G)(k:Nat)(n p:Z):G:={g with μ:=λm=>if m=k then H n else g.μ m,ν:=λm=>if m=k then H p else g.ν m}
theorem G.kh (m:g.μ k=T)(n:g.ν k=T):g.Le<|g.loc k s t:=
 ⟨λ_ _ h=>h,λp q h=>by
  show (if p=k then H s else g.μ p)=H q
  split
  .rename_i r;subst r;rw [m] at h;exact ao h
  .exact h,λp q h=>by
  show (if p=k then H t else g.ν p)=H q
  split
  .rename_i r;subst r;rw [n] at h;exact ao h
  .exact h⟩
theorem bU.loc (p:bU b g m)(n:m≠s):bU b (g.loc k t s) m:=by
 refine ⟨λr q=>?_,p.F,p.tab,p.base⟩
 have q:(if r=k then H s else g.ν r)=H m:=q
 split at q
 .refine aG q ?_;clear q;rintro rfl;exact n rfl
 .exact p.ν r q
set_option tactic.hygienic true in
theorem FR.i_ (A:FR w b g h e f c)(m:g.μ k=T)(n:g.ν k=T)(n1:M≠e.locals)(n2:∀y t,e.cells.lookup y=H t->t≠M)(n3:M∉c):FR w b (g.loc k a0 M) h e f c:=by
 have O:=G.kh (s:=a0) (t:=M) m n
 obtain ⟨a5,a6,a7,a8⟩:=A.vals
 refine ⟨A.fn,A.glob,A.blt,A.kinds,⟨a5,a6,λy v s q=>?_,?_⟩,λy v s q=>?_,λy t s=>?_,λy q=>?_,A.eE,A.bb.loc<|fu n1,A.f_⟩
 .refine aK (a7 y v s q) λa1 a0 M=>?_
  exact ⟨a1,a0,aq.mono O _ _ M⟩
 .refine a8.imp (λy a9 _ x=>?_) id
  refine aL x ?_;clear x;intro z zz;refine aK zz ?_;clear zz;intro t s p
  refine ⟨z,t,s,?_⟩
  clear s z
  have hd:∀{x} {xs},c=x::xs->x≠M:=λs z=>n3<|s▸z▸.head _
  cases a9 with
  |lst xs=>obtain ⟨B,p,o,a2,s,a3,r⟩:=p;exact ⟨B,p.loc<|hd B,o,a2,s,a3,aQ.mono O _ _ r⟩
  |aa xs=>obtain ⟨B,p,o,a2,s,a3,r⟩:=p;exact ⟨B,p.loc<|hd B,o,a2,s,a3,bj.mono O _ _ r⟩
  |tab xs=>exact p.elim
  |inst t b5=>
   obtain ⟨b0,b1,n,b2,B,b3,P,X,e1,e2,b4,r⟩:=p
   exact ⟨b0,b1,n,b2,B,b3,P.loc<|hd B,X.loc λz=>n3<|B▸z▸.tail _ (.head _),e1,e2,b4,bj.mono O _ _ r⟩
 .obtain ⟨t,a1,P,X,p3⟩:=A.cell y v s q
  exact ⟨t,a1,P,X,aq.mono O _ _ p3⟩
 .refine dI (A.cells y t s) λP X p3=>?_
  refine ⟨P,λa4 q=>?_,p3⟩
  have q:(if a4=k then H M else g.ν a4)=H t:=q
  split at q
  .refine aG q ?_;clear q;rintro rfl;exact n2 y _ s rfl
  .exact X a4 q
 .refine cK (A.gu y q) λt s fn p=>?_
  exact ⟨t,s,fn,λz=>(p z).loc<|n2 y t s⟩
theorem ST.i_ (m:ST w b g h e l f a c)(t:bL b g e l c s)(a2:s<h.objs.size)(a1:gU w (g.loc a.next a0 s) h a.next P):ST w b (g.loc a.next a0 s) h e l f (a.alloc P) c:=by
 refine dI (m.sr.dA a.next<|aT _) λd1 d2 d3=>?_
 have le:=G.kh (s:=a0) (t:=s) d1 d2
 refine ⟨⟨m.sr.base,m.sr.fz,λk B q=>?_,λk q=>?_,λk p q=>?_,λk p o q=>?_,λk A p q q'=>?_,m.sr.low,m.sr.hF,λk p q=>?_⟩,m.fr.i_ d1 d2 t.loc (λy p n z=>t.cell y<|z▸n) t.oa,m.tb.mono le λ_ _ q _=>q,λn he=>?_,m.dep,m.top⟩
 .have r:(if k=a.next then H P else a.get k)=H B:=q
  clear q
  by_cases n:k=a.next
  .rw [if_pos n] at r;refine J n ?_;refine aG r ?_;clear r;rintro rfl;exact a1
  .rw [if_neg n] at r;exact (m.sr.st k B r).mono le
 .have M:k≠a.next:=by
   have:a.next+1<=k:=q
   exact dN this
  refine dI (m.sr.dA k<|by have:a.next+1<=k:=q;exact dg<|by assumption) λx1 X x3=>?_
  refine ⟨?_,?_,?_⟩
  .show (if k=a.next then H a0 else g.μ k)=T;refine J (if_neg M) ?_;exact x1
  .show (if k=a.next then H s else g.ν k)=T;refine J (if_neg M) ?_;exact X
  .show (if k=a.next then H P else a.get k)=T;refine J (if_neg M) ?_;exact x3
 .have q:(if k=a.next then H s else g.ν k)=H p:=q
  split at q
  .refine aG q ?_;clear q;rintro rfl;exact ⟨a2,t.bb.base,t.bb.tab⟩
  .exact m.sr.da k p q
 .have q:(if k=a.next then H s else g.ν k)=H p:=q
  rintro ⟨B,z⟩
  have z:(if k=a.next then H P else a.get k)=H B:=z
  split at q
  .refine aG q ?_;clear q;rintro rfl;exact t.bb.F o
  .rename_i M
   rw [if_neg M] at z
   exact m.sr.fC k p o q ⟨B,z⟩
 .have r:(if k=a.next then H s else g.ν k)=H p:=q
  have x:(if A=a.next then H s else g.ν A)=H p:=q'
  by_cases n:k=a.next
  .replace r:=if_pos n▸r
   refine aG r ?_;clear r;rintro rfl
   by_cases O:A=a.next
   .simp only [n,O]
   .rw [if_neg O] at x;exact absurd x<|t.bb.ν A
  .rw [if_neg n] at r
   by_cases O:A=a.next
   .rw [if_pos O] at x;refine aG x ?_;clear x;rintro rfl;exact absurd r<|t.bb.ν k
   .replace x:=if_neg O▸x;exact m.sr.inj k A p r x
 .by_cases n:k=a.next
  .subst n;exact a1.jH q
  .have q:(if k=a.next then H s else g.ν k)=H p:=q
   rw [if_neg n] at q
   exact m.sr.fb k p q
 .refine aL (m.ff n he) λx1 zz=>fe zz λL o X x3 x4 x5 x6=>?_;clear zz
  exact ⟨x1,L,o,X,x3,x4,x5,x6.loc λz=>t.fr n he<|z▸X⟩
theorem Go.i_ (x:Go w b e l r n s g h c f a)(t:bL b g e l c k)(y:k<h.objs.size)(z:n.objs.size<=k)(A:gU w (g.loc a.next B k) h a.next M):
  Go w b e l r n s (g.loc a.next B k) h c f<|a.alloc M:=by
 refine dI (x.st.sr.dA a.next<|aT _) λO P X=>?_
 refine ⟨⟨x.ext.le.trans<|G.kh O P,x.ext.size,x.ext.Fn,λm p q=>?_,x.ext.keep⟩,x.oa,x.st.i_ t y A⟩
 have q:(if m=a.next then H k else g.ν m)=H p:=q
 split at q
 .refine aG q ?_;clear q;rintro rfl;exact .inr z
 .exact x.ext.eF m p q
theorem G.js (g:G) (k) (m n):(g.loc k m n).μ k=H m:=if_pos rfl
theorem G.pb (g:G) (k) (n m):(g.loc k n m).ν k=H m:=if_pos rfl
set_option tactic.hygienic true in
theorem ST.freed {k:Nat}{M:au}(s:ST w b g h e l f a c)(a2:a.get k=H M)(n1:∀O a3,M≠.inst O a3)(n2:∀a4,M≠.tab a4):
  ∃d t,Go w b e l g h c d h c f (a.free k)/\g.μ k=H t/\aq w d M.tree (.ref t):=by
 have a7:∀t o,g.μ k=H t->g.ν k=H t->h.get? t=H o->o.cls≠.type "frame" ->Go w b e l g h c (g.add t o) h c f (a.free k):=λt o hm P he b0=>by
  refine ⟨bt.add<|.inr<|.inl ⟨k,P⟩,.inl rfl,⟨s.sr.base,λX p B=>?_,λA a0 q=>?_,λA q=>?_,s.sr.da,λA X p q z B=>?_,s.sr.inj,s.sr.low,λX o' q=>.inl<|s.sr.hF X o' q,s.sr.fb⟩,
   s.fr.add (λq=>s.fr.bb.ν k<|q▸P) (λy O a2 q=>(s.fr.cells y O a2).2.1 k<|q▸P) ?_,s.tb.add (s.sr.da k t P).2.2,s.ff.add<|s.ff.rM he b0,s.dep,s.top⟩
  .rcases B with B|⟨rfl,rfl⟩
   .exact s.sr.fz X p B
   .exact he
  .have q:(if A=k then T else a.get A)=H a0:=q
   split at q
   .exact ao q
   .exact (s.sr.st A a0 q).mono<|g.c_ t o
  .refine dI (s.sr.dA A q) λx1 x2 x3=>?_
   refine ⟨x1,x2,?_⟩
   show (if A=k then T else a.get A)=T
   split
   .rfl
   .exact x3
  .refine aC z ?_;clear z;intro a0 z
   have z:(if A=k then T else a.get A)=H a0:=z
   split at z
   .exact ao z
   .rename_i b1
    rcases B with B|⟨rfl,rfl⟩
    .exact s.sr.fC A X p q ⟨a0,z⟩ B
    .exact b1<|s.sr.inj A k _ q P
  .obtain ⟨b2,_,_,a5⟩:=s.fr.vals
   intro a8
   exact a5.cs (λy b3 x=>by refine aL x ?_;clear x;intro _ zz;refine aK zz ?_;clear zz;intro O _ p;exact (p.pr a8).ν k P) λa5=>nomatch a5▸a8
 have a9:=s.sr.st k M a2
 cases M with
 |lst xs=>
  obtain ⟨t,o,a6,m,n,e',a1,r⟩:=a9
  refine ⟨_,t,a7 t o m n e' a1.nf,m,?_⟩
  exact ⟨t,o,a6,rfl,g.eZ t o,a1,aQ.mono (g.c_ ..) _ _ r⟩
 |aa xs=>
  obtain ⟨t,o,a6,m,n,e',a1,r⟩:=a9
  refine ⟨_,t,a7 t o m n e'<|ve a1.2.1,m,?_⟩
  exact ⟨t,o,a6,rfl,g.eZ t o,a1,bj.mono (g.c_ ..) _ _ r⟩
 |tab a4=>exact absurd rfl<|n2 a4
 |inst O a3=>exact absurd rfl<|n1 O a3
end
end
mutual
section
variable {w:aM}{b:Heap}{e:aA}{l:List aA}{g:G}{c:List Z}{s:az}{f:Y}{a:R}{d:Ev}{A:bu}
inductive Gh (w:aM)(b:Heap)(e:aA)(l:List aA){j i:Type}(m:G)(n:Heap)(p:List Z)(h:Heap)(q:G->Heap->List Z->i->j->Prop)(k:i->Y->R->Prop)(t:j):Prop
 |mk (g:G) (c:List Z) (x:i) (f:Y) (a:R) (y:k x f a) (o:Go w b e l m n p g h c f a) (r:q g h c x t):Gh w b e l m n p h q k t
theorem W.ghost {z:G->Heap->List Z->B->M->Prop}{O:G->Heap->List Z->a3->M->Prop}{r:Cp B}{a0:B->Y->R->Cp a3}{P:(M->az->Prop)->(ah->az->Prop)->Prop}
  (x:W w b e l g c s z r P)
  (y:∀h m n p j i q,Go w b e l g s.heap c p i q m n->z p i q h j->∀k X,a0 h m n k X->Gh w b e l g s.heap c i O k j):
  W w b e l g c s O (λk X=>r (λh f a=>a0 h f a k X) X) P:=by
 intro k X t a4 a1 k1 k2
 refine x _ X t a4 a1 (λh m n a2 p j i a5 q a6 t=>?_) k2
 obtain ⟨a7,a8,b',a9,b0,b1,b2,b3⟩:=y h m n p j i q a6 t k X a2
 exact k1 b' a9 b0 b1 a7 j i a5 a8 b2 b3
theorem Go.tree {n:Nat}{B:G}{m h:Heap}{M:List Z}{i:au}{O:ah}(x:Go w b e l B m M g h c f a)(P:m.objs.size<=n)(r:gA w b e l n g h c (.fresh i) O):
  ∃X,Go w b e l B m M X h c f a/\aq w X i.tree O/\∀k,i.tree≠.loc k:=by
 refine ly r ?_;clear r;rintro j rfl na a0 q
 cases i with
 |lst xs=>
  obtain ⟨_,p,o,t,y,z,r⟩:=q
  refine ⟨_,x.freeze y a0<|ai P na,?_,λk q=>hi q rfl⟩
  exact ⟨j,o,t,rfl,g.eZ j o,z,aQ.mono (g.c_ ..) _ _ r⟩
 |aa xs=>
  obtain ⟨_,p,o,t,y,z,r⟩:=q
  refine ⟨_,x.freeze y a0<|ai P na,?_,λk q=>hi q rfl⟩
  exact ⟨j,o,t,rfl,g.eZ j o,z,bj.mono (g.c_ ..) _ _ r⟩
 |tab xs=>exact q.elim
 |inst a1 a2=>obtain ⟨a3,a4,n',a5,q,_⟩:=q;cases q
theorem CS (x:Go w b e l O P X g h c f a)(a0:aq w g v t){k:E->R->Prop}(i:wp (bG a v) λr=>k r.1 r.2):
  Gh w b e l O P X h (λp _ _ m t=>aq w p m t/\∀n,aq w g v n->aq w p m n) (λm z B=>z=f/\k m B) t:=by
 cases v with
 |loc j=>
  have i:wp (Au a j<|a.get j) λr=>k r.1 r.2:=i
  cases M:a.get j with
  |none=>rw [M] at i;exact i.elim
  |some y=>
   replace i:=M▸i
   have go:(∀a1 a2,y≠.inst a1 a2)->(∀a3,y≠.tab a3)->k y.tree (a.free j)->Gh w b e l O P X h (λp _ _ m t=>aq w p m t/\∀n,aq w g (.loc j) n->aq w p m n) (λm z B=>z=f/\k m B) t:=λn1 n2 a5=>by
    refine du (x.st.freed M n1 n2) λp a7 go hm r=>?_
    have a4:∀n,aq w g (.loc j) n->aq w p y.tree n:=λn ⟨a8,a6,q⟩=>by
     obtain rfl:=bf<|hm.symm.trans a6
     exact q▸r
    exact ⟨p,c,_,f,_,⟨rfl,a5⟩,x.trans go,a4 _ a0,a4⟩
   cases y with
   |inst a1 a2=>exact i.elim
   |tab a3=>exact i.elim
   |_=>exact go (λ_ _ q=>xe q rfl) (λ_ q=>xe q rfl) i
 |_=>exact ⟨g,c,_,f,a,⟨rfl,i⟩,x,a0,λ_ h=>h⟩
set_option tactic.hygienic true in
theorem uN (x:Go w b e l m n p g h c f a)(i:aq w g v q)(j:kO t v f a k):
  Gh w b e l m n p h (cG w) k q:=by
 cases t with
 |false=>exact ⟨g,c,v,f,a,j,x,i⟩
 |true=>
  obtain ⟨y,z,B,M,O,⟨rfl,P⟩,o,r⟩:=CS (k:=λv a=>k v f a) x i j
  exact ⟨y,z,B,M,O,P,o,r.1⟩
theorem tQ (x:Go w b e l P M X g h c f a)(a0:M.objs.size<=n)(r:gA w b e l n g h c (.fresh y) a3){st a1:Bool}
  (j:nU st a1 y f a k):Gh w b e l P M X h (cG w) k a3:=by
 cases st with
 |false=>
  refine cK (x.tree a0 r) λg' a4 a5 _=>?_
  exact ⟨g',c,_,f,a,j,a4,a5⟩
 |true=>
  refine ly r ?_;clear r;rintro i rfl na a6 q
  have a7:i<h.objs.size:=q.lt i<|.head _
  have le:=G.kh (s:=i) (t:=i) (x.st.sr.dA a.next<|aT _).1 (x.st.sr.dA a.next<|aT _).2.1
  have a8:aq w (g.loc a.next i i) (.loc a.next)<|.ref i:=by
   exact ⟨i,G.js ..,rfl⟩
  have go:∀O,gU w (g.loc a.next i i) h a.next O->k (.loc a.next) f (a.alloc O)->Gh w b e l P M X h (cG w) k (.ref i):=λO a9 b0=>
   ⟨_,c,_,f,_,b0,x.i_ a6 a7 (ai a0 na) a9,a8⟩
  cases a1 with
  |true=>
   cases y with
   |aa z=>
    cases z with
    |cons=>exact j.elim
    |nil=>
     obtain ⟨_,p,o,B,m,⟨ns,t,a2,b1,b2,b4,pr,b5⟩,r⟩:=q
     subst r
     have b3:a2=#[]:=by
      have:=pr.length
      apply Array.eq_empty_of_size_eq_zero
      simpa using this
     subst b3
     refine go (.tab []) ⟨i,o,[],G.js ..,G.pb ..,m,⟨ns,t,_,b1,b2,?_,Pairs.nil,by trivial⟩,by rfl⟩ j
     intro b6 he;simp at he
   |_=>exact j.elim
  |false=>
   refine go y ?_ j
   cases y with
   |lst z=>
    obtain ⟨_,p,o,B,m,t,r⟩:=q
    exact ⟨i,o,B,G.js ..,G.pb ..,m,t,aQ.mono le _ _ r⟩
   |aa z=>
    obtain ⟨_,p,o,B,m,t,r⟩:=q
    exact ⟨i,o,B,G.js ..,G.pb ..,m,t,bj.mono le _ _ r⟩
   |tab z=>exact q.elim
   |inst b7 b8=>obtain ⟨b9,a2,n',c0,q,_⟩:=q;cases q
theorem IL {n:Nat}{v:RV}{q:ah}{t:G}{j h:Heap}{y:List Z}(x:Go w b e l t j y g h c f a)(P:j.objs.size<=n)(r:gA w b e l n g h c v q){m p z:Bool}{k:E->Y->R->Prop}
  (i:wp (jb m p a v) λr=>kO z r.1 f r.2 k):Gh w b e l t j y h (cG w) k q:=by
 cases v with
 |val v=>exact uN x r i
 |fresh B=>
  have i:nU m p B f a λv M O=>M=f/\kO z v f O k:=by
   cases m with
   |false=>exact ⟨rfl,i⟩
   |true=>cases p with
    |false=>exact ⟨rfl,i⟩
    |true=>cases B with
     |aa X=>cases X with
      |nil=>exact ⟨rfl,i⟩
      |cons=>exact i.elim
     |_=>exact i.elim
  obtain ⟨g',a2,v',M,O,⟨rfl,a0⟩,o,a1⟩:=tQ x P r i
  exact uN o a1 a0
theorem W.fin {n:Nat}(z:s.heap.objs.size<=n){p:Type}{r:aY p}{q:p->RV}{t y j:Bool}{P:(ah->az->Prop)->(ah->az->Prop)->Prop}(x:W w b e l g c s (gA w b e l n) (λk X=>wp r λj=>k (q j) f a) P):
  W w b e l g c s (cG w) (λk X=>wp (r>>=λv=>jb t y a<|q v) λi=>kO j i.1 f i.2 k) P:=by
 refine W.lb λk X B M O k1 k2=>?_
 refine x (λv a0 a1=>a0=f/\a1=a/\wp (jb t y a v) λi=>kO j i.1 f i.2 k) X (xj B λ_ h=>⟨rfl,rfl,h⟩) M O (λv b3 b4 m b5 a2 a3 a4 b6 a5 r=>?_) k2
 refine dI m ?_;clear m;rintro rfl rfl m
 obtain ⟨a6,a7,b',a8,a9,b0,b1,b2⟩:=IL a5 z r m
 exact k1 b' a8 a9 b0 a6 a2 a3 a4 a7 b1 b2
end
end
mutual
section
variable {w:aM}{c:Heap}{e:aA}{l:List aA}{g:G}{b:List Z}{s:az}{f:Y}{a:R}{d:Ev}{A:bu}
abbrev WR (w:aM)(c:Heap)(e:aA)(l:List aA)(A:bu)(g:G)(b:List Z)(s:az)(r:Cp E)(h:aD):Prop:=
 W w c e l g b s (cG w) r λi j=>av (ak PR w) A (cP h e) i j s
theorem W.val {i:Bool}{r:Cp E}{P:(ah->az->Prop)->(ah->az->Prop)->Prop}(x:W w c e l g b s (cG w) r P):
  W w c e l g b s (cG w) (λk X=>r (λv f a=>kO i v f a k) X) P:=
 W.ghost (a0:=λv f a k X=>kO i v f a k) x λ_ _ _ _ _ _ _ o j _ _ h=>uN o j h
theorem W.HN (x:W w c e l g b s ko r P):
  W w c e l g b s (cG w) (λk X=>r (λi f a=>k (E.bool i) f a) X) P:=by
 refine W.ghost (a0:=λi f a k _=>k (E.bool i) f a) x λi j m n p z q t y k X h=>?_
 obtain rfl:p=.bool i:=y
 exact ⟨n,q,_,j,m,h,t,oP i⟩
theorem Av (j:ST w c g s.heap e l f a b)(h:qT n=H v) (k) (p):WR w c e l A g b s (λk _=>k v f a)<|.Constant n k p:=by
 refine W.ret j λr t m=>?_
 cases n with
 |none=>refine aG h ?_;clear h;rintro rfl;exact wpAny_Constant_none<|m _ _ _ s.toks _ (Go.refl j) jI
 |bool q=>refine aG h ?_;clear h;rintro rfl;exact wpAny_Constant_bool<|m _ _ _ s.toks _ (Go.refl j)<|oP _
 |int i=>refine aG h ?_;clear h;rintro rfl;exact wpAny_Constant_int<|m _ _ _ _ _ (Go.refl j)<|eP ..
 |str x=>refine aG h ?_;clear h;rintro rfl;exact R1<|m _ _ _ _ _ (Go.refl j)<|km ..
 |bytes q=>refine aG h ?_;clear h;rintro rfl;exact Constant_bytes<|m _ _ _ _ _ (Go.refl j)<|vC ..
 |_=>exact ao h
theorem KL (j:ST w c g s.heap e l f a b) (i) (k) (h):WR w c e l A g b s (dJ d.O d.eval f a<|.Constant i k h)<|.Constant i k h:=
 W.cJ λ_=>W.bw λ_ m=>Av j m k h
theorem Hb (j:ST w c g s.heap e l f a b)(M:aq w g v X)(i:gT f x=H v) 
  (n:C1 a0 (yW<|aZ x f.scope) x v f a k):Gh w c e l g s.heap b s.heap (cG w) k X:=by
 cases a0 with
 |false=>exact ⟨g,b,v,f,a,n,Go.refl j,M⟩
 |true=>
  refine aL (mU n) λp n=>?_
  have O:aI x f.vals=H v:=by
   have i:wV f x (aZ x f.scope)=H v:=i
   cases h:aZ x f.scope with
   |none=>rw [h] at p;exact ff p
   |some q=>
    rw [h] at p i
    cases q with
    |«local»=>exact i
    |cell=>exact i
    |_=>exact ff p
  obtain ⟨g',a1,t,a6,y,⟨rfl,h⟩,go,r,P⟩:=CS (k:=λt y=>k t {f with vals:=bc x t f.vals} y) (Go.refl j) M n
  refine ⟨g',a1,t,_,y,h,⟨go.ext,go.oa,go.st.sr,?_,go.st.tb,go.st.ff,go.st.dep,go.st.top⟩,r⟩
  refine go.st.fr.say (λh m a2=>?_) λh=>?_
  .obtain ⟨a7,a3,i,_⟩:=j.fr.vals
   refine aK (i x _ O h) λa4 z B=>?_
   refine J (Heap.Ns.one a2 a3) ?_
   exact ⟨_,z,P _ B⟩
  .obtain ⟨a5,a4,z,B,q3⟩:=j.fr.cell x _ O h
   exact ⟨a5,_,z,B,P _ q3⟩
theorem HE (B:dF w c)(h:ST w c g s.heap e l f a b) (x) (i):WR w c e l A g b s (dJ d.O d.eval f a<|.Name x i)<|.Name x i:=by
 refine W.cJ λm=>W.bw λv j k X n t y p z=>hI B h (bl m) j λM r=>?_
 obtain ⟨O,P,v',a0,a1,q,go,r⟩:=Hb h r j n
 exact p _ _ _ q _ _ _ s.toks _ go r
theorem GC (k:bz w c d)(m:AC A l)(r:ST w c g s.heap e l f a b) (i) (n) (j) (p):WR w c e l A g b s (dJ d.O d.eval f a<|.BinOp i n j p)<|.BinOp i n j p:=by
 refine W.cJ λ_=>W.imp (λP X h=>wpAny_BinOp h) ?_
 refine W.bind (k.eval i f a e l A g b s m r) λv t x y a0 a1 a2 z B M=>?_
 refine W.bind (k.eval j t x e l A y z _ m B.st) λa3 a4 a5 a6 a7 a8 a9 b0 q O=>?_
 exact W.fin (q:=λv=>v) (aT _)<|F8 q.st (aT _) (aq.mono q.ext.le _ _ M) O
theorem Pj (m:bz w c d)(n:AC A l)(p:ST w c g s.heap e l f a b) (x) (j):WR w c e l A g b s (dJ d.O d.eval f a<|.UnaryOp .USub x j)<|.UnaryOp .USub x j:=by
 refine W.cJ λ_=>W.imp (λq r h=>R3 h) ?_
 refine W.bind (m.eval x f a e l A g b s n p) λv B M O P X a0 a1 k y=>?_
 cases v with
 |int i=>
  refine aC (aq.cO y) ?_;rintro t rfl
  exact W.pu<|W.ret k.st λq r z=>neg_int<|z _ _ _ _ _ (Go.refl k.st)<|eP ..
 |_=>exact W.stuck
theorem Og (n:bz w c d)(p:AC A l)(q:ST w c g s.heap e l f a b) (x) (i):WR w c e l A g b s (dJ d.O d.eval f a<|.UnaryOp .Not x i)<|.UnaryOp .Not x i:=by
 refine W.cJ λ_=>W.imp (λj k h=>R3 h) ?_
 refine W.bind (n.eval x f a e l A g b s p q) λv P X a0 a1 a2 a3 a4 r t=>?_
 refine W.imp (λj k h=>not_of h) ?_
 refine W.lift (qH r.st t) λy a5 z a6 B a7 m M=>?_
 obtain rfl:y=z:=M
 exact W.ret m.st λj k O=>O _ _ _ B _ (Go.refl m.st)<|oP _
theorem NK (k:bz w c d)(m:AC A l)(n:ST w c g s.heap e l f a b) (h) (i) (j):WR w c e l A g b s (dJ d.O d.eval f a<|.BoolOp h i j)<|.BoolOp h i j:=
 W.cJ λ_=>uV k m h j i f a g b s n
theorem NJ (m:bz w c d)(n:AC A l)(p:ST w c g s.heap e l f a b) (h) (i) (j) (k):WR w c e l A g b s (dJ d.O d.eval f a<|.Compare h i j k)<|.Compare h i j k:=
 W.cJ λ_=>W.HN<|PN m n p h i j k
theorem W.fresh {n:Nat}(j:s.heap.objs.size<=n){m p:Bool}{h:au}{P:(ah->az->Prop)->(ah->az->Prop)->Prop}(x:W w c e l g b s (gA w c e l n) (λk _=>k (.fresh h) f a) P):
  W w c e l g b s (cG w) (λk _=>nU m p h f a k) P:=by
 intro k X q t y z B
 refine x (λv M O=>v=.fresh h/\M=f/\O=a) X ⟨rfl,rfl,rfl⟩ t y (λb1 b2 b3 i b4 a0 a1 a2 b5 a3 r=>?_) B
 refine dI i ?_;clear i;rintro rfl rfl rfl
 obtain ⟨a4,a5,b',a6,a7,a8,a9,b0⟩:=tQ a3 j r q
 exact z b' a6 a7 a8 a4 a0 a1 a2 a5 a9 b0
theorem Lz (i:bz w c d)(j:AC A l)(B:ST w c g s.heap e l f a b) (t k m) (n):WR w c e l A g b s (dJ d.O d.eval f a<|.IfExp t k m n)<|.IfExp t k m n:=by
 refine W.imp (λP X h=>wpAny_IfExp h) ?_
 refine W.bind (mI i j 20 t f a g b s B) λp q r x M a0 a1 y z O=>?_
 obtain rfl:p=M:=O
 cases p
 .exact W.val<|i.eval m q r e l A x y _ j z.st
 .exact W.val<|i.eval k q r e l A x y _ j z.st
theorem zC (i:aP (n<=1000)=I)(h:aQ w g j k/\j.length=n):k.length<=dr:=by
 refine h.1.length▸aW h.2▸?_
 exact ai (of_decide_eq_true i)<|by decide
theorem P_ (x:bz w c d)(y:AC A l)(z:ST w c g s.heap e l f a b) (i) (k) (j):WR w c e l A g b s (dJ d.O d.eval f a<|.Tuple i k j)<|.Tuple i k j:=by
 refine W.cJ λm=>?_
 have m:=bl m
 refine W.imp (λB M h=>Tuple_ h) ?_
 refine W.bind (wW x y j i f a g b s z) λX a0 a1 a2 O r t a3 n p=>?_
 have q:O.length<=dr:=zC m p
 exact W.ret n.st λB M P=>wpAny_newTuple (by
  exact P _ _ _ _ _ (Go.newTuple (n:=s.heap.objs.size) (s:={s with heap:=r,toks:=t}) n.st p.1 q).1 (Go.newTuple (n:=s.heap.objs.size) (s:={s with heap:=r,toks:=t}) n.st p.1 q).2) q
theorem LA (r:bz w c d)(t:AC A l)(x:ST w c g s.heap e l f a b) (j) (k):WR w c e l A g b s (dJ d.O d.eval f a<|.List j k)<|.List j k:=by
 refine W.cJ λy=>?_
 refine W.imp (λz B h=>List_ h) ?_
 refine W.bind (wW r t k j f a g b s x) λP X a0 a1 M i q a2 m n=>?_
 have p:M.length<=dr:=zC y n
 refine W.fresh (n:=i.objs.size) (aT _)<|W.ret m.st λz B O=>wpAny_newList (by
  exact O _ _ _ _ _ (Go.newList (n:=i.objs.size) (s:={s with heap:=i,toks:=q}) m.st n.1 p<|aT _).1 (Go.newList (n:=i.objs.size) (s:={s with heap:=i,toks:=q}) m.st n.1 p<|aT _).2) p
set_option tactic.hygienic true in
theorem Nz (m:bz w c d)(n:AC A l)(r:ST w c g s.heap e l f a b) (o i) (j)(t:∀x y z p,i≠.Slice x y z p):WR w c e l A g b s (dJ d.O d.eval f a<|.Subscript o i j)<|.Subscript o i j:=by
 have B:dJ d.O d.eval f a (.Subscript o i j)=λk X=>d.eval f a o (λM f a=>d.eval f a i (λO f a=>wp (aO a M O) λv=>gz j v f a k) X) X:=by
  cases i<;>first|rfl|exact absurd rfl<|t _ _ _ _
 refine J B ?_
 refine W.imp (λa6 a7 h=>Subscript_ h) ?_
 refine W.bind (m.eval o f a e l A g b s n r) λv P a0 a1 a8 a9 b0 a2 a3 a4=>?_
 refine W.bind (m.eval i P a0 e l A a1 a2 _ n a3.st) λb1 b2 b3 b4 b5 b6 b7 b8 q a5=>?_
 exact W.val<|O4 q.st o i (aq.mono q.ext.le _ _ a4) a5
theorem PM (r:bz w c d)(t:AC A l)(k:ST w c g s.heap e l f a b) (o) (m n) (p y):WR w c e l A g b s (dJ d.O d.eval f a<|.Subscript o (.Slice m n T p) y)<|.Subscript o (.Slice m n T p) y:=by
 have z:∀x f a g b s,ST w c g s.heap e l f a b->
   W w c e l g b s (cG w) (wD d.eval f a x) λi j=>av (ak PR w) A (evalPart x e) i j s:=λx f a g b s k=>by
  cases x with
  |none=>exact W.ret k λi j M=>R4<|M _ _ _ s.toks _ (Go.refl k) jI
  |some O=>exact W.imp (λi j h=>wpAny_evalPart_some h)<|r.eval O f a e l A g b s t k
 refine W.cJ λ_=>W.imp (λi j h=>Subscript_ h) ?_
 refine W.bind (r.eval o f a e l A g b s t k) λv P X a0 b0 b1 b2 a1 a2 a3=>?_
 refine W.imp (λi j h=>wpAny_Slice h) ?_
 refine W.bind (z m P X a0 a1 _ a2.st) λb3 a4 a5 a6 b4 b5 b6 a7 B a8=>?_
 refine W.bind (z n a4 a5 a6 a7 _ B.st) λb7 b8 b9 c0 c1 c2 c3 c4 q a9=>?_
 refine W.imp (λi j h=>R4 h) ?_
 exact W.fin (q:=λv=>v) (aT _)<|Pm q.st (aT _) o (.Slice m n T p) (aq.mono (B.ext.le.trans q.ext.le) _ _ a3) (aq.mono q.ext.le _ _ a8) a9
end
end
mutual
section
variable {w:aM}{b:Heap}{e:aA}{l:List aA}{g:G}{f:List Z}{s:az}{i:Y}{a:R}{c:Ev}{A:bu}{h d:Heap}
def jD (x:ae)(v:ah):List (ae×ah)->List (ae×ah)
 |[]=>[(x,v)]
 |(y,u)::r=>if y=x then (y,v)::r else (y,u)::jD x v r
theorem uE:jD x v ((y,u)::r)=if y=x then (y,v)::r else (y,u)::jD x v r:=rfl
theorem rK:(R5 x t).isStr y=I<->x=y:=by
 simp [R6]
theorem fk.look (n:fk k p) (x):(k.find? (·.key.isStr x)).map (·.val)=fJ p x/\k.any (·.refKey)=N:=by
 induction n with
 |nil=>exact ⟨rfl,rfl⟩
 |@cons m y v k p j B n r=>
  refine aC j ?_;clear j;intro t j
  have M:m.refKey=N:=by unfold R7;exact J j rfl
  refine ⟨?_,by refine J pN ?_;refine J M ?_;refine J r.2 ?_;rfl⟩
  refine J List.find?_cons ?_;rewrite [vW]
  by_cases q:y=x
  .refine q▸?_
   have:m.key.isStr y=I:=by refine J j ?_;exact rK.mpr rfl
   simp [this,B]
  .have:m.key.isStr x=N:=by refine J j ?_;exact Bool.eq_false_iff.mpr λz=>q<|rK.mp z
   simp only [this,if_neg q]
   exact r.1
theorem zw (m:fk j p)(k:fJ p x=H v):s_ x (ft j n)=H (H v):=by
 have:=(m.look x).1
 unfold s_
 simp only []
 cases q:j.find? (·.key.isStr x) with
 |none=>rw [q,k] at this;exact ao this
 |some r=>rw [q,k] at this;simp at this;simp [this]
theorem Ol (j:fk k p)(r:fJ p x=T):s_ x (ft k n)=H T:=by
 have m:=(j.look x).1
 unfold s_
 simp only []
 cases q:k.find? (·.key.isStr x) with
 |none=>simp [(j.look x).2]
 |some t=>rw [q,r] at m;exact ao m.symm
theorem fk.put (m:fk n p) (x) (B) (t) (v):fk (putL x B (.str x t) v n)<|jD x v p:=by
 induction m with
 |nil=>exact .cons ⟨t,rfl⟩ rfl .nil
 |@cons r y u n p j M m O=>
  refine aC (id j) λk j=>?_
  refine J uE ?_
  simp only [putL]
  by_cases q:y=x
  .have:r.key.isStr x=I:=by refine J j ?_;exact rK.mpr q
   refine J (if_pos this) ?_;refine J (if_pos q) ?_
   exact .cons ⟨k,j⟩ rfl m
  .have:¬r.key.isStr x=I:=by refine J j ?_;exact λz=>q<|rK.mp z
   refine J (if_neg this) ?_;refine J (if_neg q) ?_
   exact .cons ⟨k,j⟩ M O
theorem bj.put:∀{j},bj w g m j->aq w g v n->bj w g (bc x v m) (jD x n j):=by
 induction m with
 |nil=>
  intro _ r q
  subst r
  exact ⟨n,[],rfl,q,by rfl⟩
 |cons p m t=>
  obtain ⟨y,u⟩:=p
  intro _ r q
  obtain ⟨B,j,rfl,M,z⟩:=r
  refine J ra ?_;refine J uE ?_
  by_cases k:y=x
  .refine J (if_pos k) ?_;refine J (if_pos k) ?_;exact ⟨n,j,rfl,q,z⟩
  .refine J (if_neg k) ?_;refine J (if_neg k) ?_;exact ⟨B,_,rfl,M,t z q⟩
theorem bj.Am (r:bj w g j m)(n:aI k j=H x):∃v,fJ m k=H v/\aq w g x v:=by
 have:=bj.at k r;rw [n] at this;exact this
theorem bj.FT (r:bj w g j m)(n:aI k j=T):fJ m k=T:=by
 have:=bj.at k r;rw [n] at this;exact this
theorem fk.length (j:fk k m):k.length=m.length:=by
 induction j with
 |nil=>rfl
 |cons _ _ _ n=>simp [n]
theorem bj.length (r:bj w g j k):j.length=k.length:=by
 have:=congrArg Eb r.keys;simpa using this
theorem wF (x) (j) (k v):∀m,(putL x j k v m).length<=m.length+1
 |[]=>by exact aT _
 |n::r=>by
  simp only [putL]
  split
  .exact bZ _ _
  .have:=wF x j k v r;simp;exact this
def el (j:Z):Bool:=[155,204,226,247,275,391,443,480,604,746,927].contains j
abbrev KB (K:aU):Prop:=
 (∀j,el j=I->cY K (.ref j) "__getattribute__" =H (H<|.builtin "object.__getattribute__"))/\
 (∀j,el j=I->cY K (.ref j) "__getattr__" =H T)/\
 (∀j,el j=I->cY K (.ref j) "__setattr__" =H (H<|.builtin "object.__setattr__"))/\
 (∀j,el j=I->nF K j=I)/\
 (∀j,el j=I->xB K j=I)/\
 (∀j n,fo j n=I->cY K (.ref j) n=H T)/\
 ∀j m k,ja j m=H k->el j=I/\cY K (.ref j) m=H (H<|.ref k)/\iP K (.ref k)=H (.type "function")/\jm K (.ref k)=I
theorem KB.ga {K:aU}(h:KB K):∀j,el j=I->cY K (.ref j) "__getattribute__" =H (H<|.builtin "object.__getattribute__"):=h.1
theorem KB.gt {K:aU}(h:KB K):∀j,el j=I->cY K (.ref j) "__getattr__" =H T:=h.2.1
theorem KB.sa {K:aU}(h:KB K):∀j,el j=I->cY K (.ref j) "__setattr__" =H (H<|.builtin "object.__setattr__"):=h.2.2.1
theorem KB.hd {K:aU}(h:KB K):∀j,el j=I->nF K j=I:=h.2.2.2.1
theorem KB.po {K:aU}(h:KB K):∀j,el j=I->xB K j=I:=h.2.2.2.2.1
theorem KB.field {K:aU}(h:KB K):∀j k,fo j k=I->cY K (.ref j) k=H T:=h.2.2.2.2.2.1
theorem KB.aE {K:aU}(h:KB K):∀k m j,ja k m=H j->el k=I/\cY K (.ref k) m=H (H<|.ref j)/\iP K (.ref j)=H (.type "function")/\jm K (.ref j)=I:=h.2.2.2.2.2.2
theorem nr (h:fo j k=I):el j=I:=by
 refine aK (ym<|xC.mp h) λm h _=>?_
 exact eU.mp (show (yY.all λp=>el p.1)=I by decide+kernel) _ h
theorem kx (m:h.get? p=H (fs j k))(q:h.get? k=H (ft r n)):InstAt h p (fs j k) j<|H<|ft r n:=⟨m,rfl,rfl,q⟩
theorem Fv {K:aU}(a2:K.In b)(M:KB K)(X:SR w b g a s.heap){o v:E}{a0:ah}{j:ae}{y:Bool}{a1:ah->az->Prop}{a3:ah->az->Prop}(a4:aq w g o a0)(p:zD a o j=H v)(a5:jF v=N)
  (k:∀z,aq w g v z->a1 z {s with toks:=s.toks+1}):av (ak PR w) A (getAttr a0 j y) a1 a3 s:=by
 have p:rh j (res a o)=H v:=p
 cases O:res a o with
 |inst q a6=>
  rw [O] at p
  revert p
  show (match fo q j with|I=>aI j a6|N=>T)=H v->_
  cases P:fo q j with
  |false=>exact λp=>ao p
  |true=>
   intro p
   obtain ⟨x,a9,b0,n,b1,rfl,e1,e2,a7,r⟩:=X.wt a4 O
   refine aK (r.Am p) λz a8 m=>?_
   refine get_value (a2.keeps X.base) (kx e1 e2) (M.ga q<|nr P) (findObj_own (M.hd q<|nr P) (M.field q j P) rfl<|zw a7 a8) ?_<|k z m
   cases v with
   |ag u=>exact ff a5.symm
   |none=>refine J m.none_ ?_;rfl
   |bool y=>refine J m.lC ?_;rfl
   |int y=>refine aC m.cO ?_;rintro t rfl;rfl
   |str y=>refine aC m.fj ?_;rintro t rfl;rfl
   |dk y=>refine aC m.pw ?_;rintro t rfl;rfl
   |tup B=>obtain ⟨j,_,_,rfl,_⟩:=m;rfl
   |lst B=>obtain ⟨j,_,_,rfl,_⟩:=m;rfl
   |inst q B=>obtain ⟨j,_,_,_,_,rfl,_⟩:=m;rfl
   |aa B=>obtain ⟨j,_,_,rfl,_⟩:=m;rfl
   |bR k B=>obtain ⟨j,_,_,_,_,_,_,_,_,_,_,_,_,rfl,_⟩:=m;rfl
   |loc k=>refine aK m ?_;clear m;rintro j _ rfl;rfl
 |_=>exact ao<|O▸p
theorem A4 {K:aU}(X:K.In s.heap)(r:s.heap.get? x=H (fs p q))(m:s.heap.get? q=H (ft k n))(y:xB K p=I)
  (z:Ec K p j=H T) (B:nF K p=I) (M:k.any (·.refKey)=N) (O:k.length<=1000)
  (h:P (.ok<|.ret .none) {s with heap:=s.heap.update q<|hB j (dY w.params j) (.str j s.toks) v,toks:=s.toks+1}):
  gc (ak PR w) A (.call (.builtin "object.__setattr__") ⟨[.ref x,.str j a3,v],[]⟩) P s:=by
 refine osa_open X (kx r m) y z λa2=>?_
 refine aK (any_some B) λcd a0 a1=>?_
 have t:=mh j (dY w.params j) (.str j s.toks) v k n
 have D':=Heap.get?_update_self (hB j (dY w.params j) (.str j s.toks) v) m<|by refine J t ?_;rfl
 refine aF<|bp<|aF<|aF<|mi r<|aF<|(ta X a0).here ?_
 refine J a1 ?_
 refine bp (a:=H q)<|aF<|bp<|aF ?_
 refine aF<|aF<|Ee<|bp<|aF<|Ef<|aF<|mi m ?_
 dsimp only
 have c':(!k.toArray.any (·.key.isStr j) && k.toArray.any (·.refKey))=N:=by
  refine rT xD ?_;refine rT xD ?_
  refine J M ?_;rw [tc]
 rewrite [Eg];refine J c' ?_
 refine Eh m ?_
 refine aF<|R8 D' (by refine J t ?_;exact R9<|by refine J gJ ?_;refine J sizeLine_eq ?_;have:=wF j (dY w.params j) (.str j s.toks) v k;exact ay (bK this O)<|by simp+arith only) ?_
 exact bp h
end
end
mutual
section
variable {w:aM}{c:Heap}{e:aA}{l:List aA}{g:G}{d:List Z}{s:az}{f:Y}{b:R}{i:Ev}{A:bu}{h a:Heap}
theorem bt.but (k:Heap.SameBut m h a):bt c g h g a λj=>j=m:=
 ⟨G.Le.refl g,bh k.1.symm,λ_ _ q=>.inl q,λ_ _ q=>.inl q,λj o n _ _ p=>.inl<|(k.2 j p).trans n⟩
theorem TB.but (k:TB g h)(t:Heap.SameBut y h a)(n:¬ee y):TB g a:=by
 have m:∀{P p j q},ee P->eS g h P p j q->eS g a P p j q:=λ{P p j q} B x=>by
  refine aK x ?_;clear x;intro M O r
  exact ⟨M,(t.2 P λz=>n<|z▸B).trans O,r⟩
 exact ⟨m (.head _) k.t1,m (.tail _<|.head _) k.t2,m (cD (i:=2) rfl) k.t3,k.nf⟩
theorem FF.but (m:FF c g h l)(p:Heap.SameBut r h a)(n:∀j∈l,j.frame≠H r):FF c g a l:=λj k=>by
 refine aL (m j k) λx zz=>du zz λL o q t y=>?_;clear zz
 exact ⟨x,L,o,q,(p.2 L λz=>n j k<|z▸q).trans t,y⟩
set_option tactic.hygienic true in
theorem Go.upd {k:Nat}{M:Z}{a9 a4:au}(B:ST w c g h e l f b d)(a3:b.get k=H a9)(O:g.ν k=H M)(a1:Heap.SameBut M h a)(b2:gU w g a k a4):Go w c e l g h d g a d f<|b.set k a4:=by
 have a0:∀t o,t≠M->h.get? t=H o->a.get? t=H o:=λt o n q=>(a1.2 t n).trans q
 have lt:=B.sr.da k M O
 have b4:∀t o,g.F t o->t≠M:=λt o X z=>B.sr.fC k M o O ⟨a9,a3⟩<|z▸X
 have b5:∀a3∈l,a3.frame≠H M:=λa3 he z=>by
  refine aL (B.ff a3 he) λ_ zz=>fe zz λL o q a6 b9 _ p=>?_;clear zz
  rw [z] at q;refine aG q ?_;clear q;rintro rfl;exact p.ν k O
 refine ⟨⟨G.Le.refl g,bh a1.1.symm,λ_ _ q=>.inl q,λ_ _ q=>.inl q,λt o q n _ _=>.inl<|a0 t o (λz=>n k<|z▸O) q⟩,.inl rfl,⟨λt o q=>?_,λt o X=>a0 t o (b4 t o X)<|B.sr.fz t o X,λj a2 q=>?_,λj q=>?_,λj t q=>?_,λj t o q z X=>?_,B.sr.inj,by refine J a1.1 ?_;exact B.sr.low,B.sr.hF,λj t q=>?_⟩,?_,B.tb.but a1 lt.2.2,B.ff.but a1 b5,B.dep,B.top⟩
 .exact a0 t o (λz=>by rw [z,lt.2.1] at q;exact ao q)<|B.sr.base t o q
 .have q1:(if j=k then H a4 else b.get j)=H a2:=q
  by_cases P:j=k
  .rw [if_pos P] at q1;refine aG q1 ?_;clear q1;rintro rfl;refine J P ?_;exact b2
  .replace q1:=if_neg P▸q1
   have a7:=B.sr.st j a2 q1
   have ne:∀t,g.ν j=H t->t≠M:=λt a8 z=>P<|B.sr.inj j k M (z▸a8) O
   cases a2 with
   |lst xs=>obtain ⟨t,o,a5,m,n,q,r⟩:=a7;exact ⟨t,o,a5,m,n,a0 t o (ne t n) q,r⟩
   |aa xs=>obtain ⟨t,o,a5,m,n,q,r⟩:=a7;exact ⟨t,o,a5,m,n,a0 t o (ne t n) q,r⟩
   |tab xs=>obtain ⟨t,o,a5,m,n,q,r⟩:=a7;exact ⟨t,o,a5,m,n,a0 t o (ne t n) q,r⟩
   |inst a6 c0=>obtain ⟨t,b0,b6,n,b7,b8,b3,X,q,r⟩:=a7;exact ⟨t,b0,b6,n,b7,b8,b3,X,a0 b0 _ (ne b0 b3) q,r⟩
 .refine dI (B.sr.dA j q) λx1 x2 x3=>?_
  refine ⟨x1,x2,?_⟩
  show (if j=k then H a4 else b.get j)=T
  refine J (if_neg λz=>by rw [z,O] at x2;exact ao x2.symm) ?_
  exact x3
 .refine J a1.1 ?_;exact B.sr.da j t q
 .refine aC z ?_;clear z;intro a2 z
  have z1:(if j=k then H a4 else b.get j)=H a2:=z
  by_cases P:j=k
  .exact B.sr.fC j t o q ⟨a9,by refine J P ?_;exact a3⟩ X
  .rw [if_neg P] at z1;exact B.sr.fC j t o q ⟨a2,z1⟩ X
 .by_cases P:j=k
  .exact b2.jH<|P▸q
  .refine aK (B.sr.fb j t q) λo p z=>?_
   exact ⟨o,a0 t o (λzz=>P<|B.sr.inj j k M (zz▸q) O) p,z⟩
 .refine B.fr.ext (bt.but a1) (λz=>B.fr.bb.ν k<|z▸O) (λy a6 q z=>(B.fr.cells y a6 q).2.1 k<|z▸O) λt a8 z=>?_
  obtain ⟨c1,_,_,b1⟩:=B.fr.vals
  cases z
  refine b1.cs (λy a2 x=>?_) λb1=>?_
  .refine aL x ?_;clear x;intro _ zz;refine aK zz ?_;clear zz;intro a6 _ p
   exact (p.pr a8).ν k O
  .subst b1;exact nomatch a8
theorem Gr {K:aU}(a9:K.In c)(z:KB K)(B:ST w c g s.heap e l f b d){o v:E}{O q:ah}{j:ae}{M:R}{a3:Unit->az->Prop}{b0:ah->az->Prop}(a4:aq w g o O)(b1:aq w g v q)(m:yo b o j v=H M)
  (k:∀a b2,Go w c e l g s.heap d g a d f M->a3 () {s with heap:=a,toks:=b2}):av (ak PR w) A (xE O j q) a3 b0 s:=by
 cases o with
 |loc t=>
  have m:q_ b t j v (b.get t)=H M:=m
  cases y:b.get t with
  |none=>exact ao<|y▸m
  |some b3=>cases b3 with
   |inst p P=>
    rw [y] at m
    revert m
    show (match fo p j && aP (P.length<=100) with|I=>H<|b.set t<|.inst p<|bc j v P|N=>T)=H M->_
    cases a5:fo p j && aP (P.length<=100) with
    |false=>exact λm=>ao m
    |true=>
    intro m
    obtain rfl:=bf m
    have hf:=bl a5
    have b7:=of_decide_eq_true<|br a5
    have a0:=nr hf
    obtain ⟨x,b4,ds,n,b8,a6,a7,a8,e2,a1,r⟩:=B.sr.st t _ y
    have b5:O=.ref x:=by
     refine aK a4 ?_;clear a4;rintro b9 a2 rfl;rw [a6] at a2;refine aG a2 ?_;clear a2;rintro rfl;rfl
    subst b5
    have e1:=B.sr.fz _ _ a8
    have X:=a9.keeps B.sr.base
    refine xF X (kx e1 e2) (z.sa p a0)<|A4 (s:={s with toks:=s.toks+1}) X e1 e2 (z.po p a0) ?_ (z.hd p a0) (a1.look j).2 ?_<|k _ _ ?_
    .unfold Ec;refine J (z.field p j hf) ?_;rfl
    .refine J a1.length ?_;refine rT r.length ?_;exact ai (by assumption)<|by decide
    .have b6:=Heap.get?_update_self (hB j (dY w.params j) (.str j<|s.toks+1) q) e2<|by refine J (mh j (dY w.params j) (.str j<|s.toks+1) q ds n) ?_;rfl
     exact Go.upd B y a7 (Heap.SameBut.update _ _ _) ⟨x,b4,_,_,_,a6,a7,a8,b6.trans<|congrArg H<|mh j (dY w.params j) (.str j<|s.toks+1) q ds n,a1.put j _ _ q,r.put b1⟩
   |_=>exact ao<|y▸m
 |_=>exact ao m
theorem DA (j:ST w c g s.heap e l f b d)(h:aZ x f.scope=H .local):e.kindOf x=H .local:=by
 rcases j.fr.kinds x _ h with q|⟨q,_⟩
 .exact q
 .exact nomatch q
theorem IJ {K:aU}(b2:K.In c)(KF:KB K)(t:ST w c g s.heap e l f b d){y B:ae}{O:Z}{a4:List<|ae×E}{v:E}{a0:ah}{a7:Unit->az->Prop}{a8:ah->az->Prop}{b3:Pos}(b4:f.own=H (y,.inst O a4))(b5:aq w g v a0)
  (hf:fo O B=I) (b6:mN y=I) (c5:a4.length<=100)
  (k:∀a b7,Go w c e l g s.heap d g a d {f with own:=H (y,.inst O<|bc B v a4)} b->a7 () {s with heap:=a,toks:=b7}):
  av (ak PR w) A (cP (.Name y b3) e) (λb8 b9=>av (ak PR w) A (xE b8 B a0) a7 a8 b9) a8 s:=by
 obtain ⟨m,a9,c0,hw⟩:=id t.fr.vals
 obtain ⟨b0,c1,hm,a2,ds,n,c6,c2,b1,p1,p2,e1,e2,a5,r⟩:=hw.1 _ _ b4
 subst c2
 refine wpAny_Name (RR t.fr.fn (DA t b0) a9 hm ?_)<|beq_eq_false_iff_ne.mpr λz=>by subst z;exact absurd b6<|by decide
 have a6:=nr hf
 have X:=b2.keeps t.sr.base
 refine xF X (kx e1 e2) (KF.sa O a6)<|A4 (s:={s with toks:=s.toks+1}) X e1 e2 (KF.po O a6) ?_ (KF.hd O a6) (a5.look B).2 ?_<|k _ _ ?_
 .unfold Ec;refine J (KF.field O B hf) ?_;rfl
 .refine J a5.length ?_;refine rT r.length ?_;exact ai (by assumption)<|by decide
 .have a1:Heap.SameBut a2 s.heap<|s.heap.update a2<|hB B (dY w.params B) (.str B<|s.toks+1) a0:=Heap.SameBut.update _ _ _
  have c3:=(Heap.get?_update_self (hB B (dY w.params B) (.str B<|s.toks+1) a0) e2<|by refine J (mh B (dY w.params B) (.str B<|s.toks+1) a0 ds n) ?_;rfl).trans<|congrArg H<|mh B (dY w.params B) (.str B<|s.toks+1) a0 ds n
  have a3:∀M o,M≠a2->s.heap.get? M=H o->(s.heap.update a2<|hB B (dY w.params B) (.str B<|s.toks+1) a0).get? M=H o:=λM o n q=>(a1.2 M n).trans q
  have x:=bt.but (c:=c) (g:=g) a1
  have nl:e.locals≠a2:=λz=>t.fr.f_<|by simp [z]
  have P:=(t.fr.drop).ext x nl λy O q z=>(t.fr.cells y O q).2.2.2.2<|by simp [z] λ_ h=>nomatch h
  refine ⟨⟨G.Le.refl g,bh a1.1.symm,λ_ _ q=>.inl q,λ_ _ q=>.inl q,λM o q _ _ np=>.inl<|a3 M o λz=>np<|.inr<|.inr<|by simp [z] q⟩,.inl rfl,
   ⟨λM o q=>a3 M o (λz=>by rw [z,p2.base] at q;exact ao q)<|t.sr.base M o q,λM o q=>a3 M o (λz=>p2.F o<|z▸q)<|t.sr.fz M o q,λj c4 q=>(t.sr.st j c4 q).keep λM o z q=>a3 M o (λzz=>by refine aC z ?_;clear z;intro j z;exact p2.ν j<|zz▸z) q,t.sr.dA,λj M q=>by refine J a1.1 ?_;exact t.sr.da j M q,t.sr.fC,t.sr.inj,by refine J a1.1 ?_;exact t.sr.low,t.sr.hF,λj M q=>let ⟨o,p,z⟩:=t.sr.fb j M q;⟨o,a3 M o (λzz=>p2.ν j<|zz▸q) p,z⟩⟩,
   ⟨P.fn,P.glob,P.blt,P.kinds,⟨m,x.ns a9 t.fr.bb.ν t.fr.bb.tab nl,c0,.so ⟨b0,c1,hm,a2,_,_,_,rfl,b1,p1,p2,a3 _ _ b1 e1,c3,a5.put B _ _ a0,r.put b5⟩⟩,P.cell,λy O q=>?_,P.gu,P.eE,P.bb,t.fr.f_⟩,t.tb.but a1 p2.tab,t.ff.but a1<|t.ff.rM e2<|by simp,t.dep,t.top⟩
  refine iw (P.cells y O q) λz1 z2 z3 z4 _=>?_
  exact ⟨z1,z2,z3,z4,(t.fr.cells y O q).2.2.2.2⟩
end
end
mutual
section
variable {w:aM}{d:Heap}{e:aA}{l:List aA}{g:G}{c:List Z}{s:az}{f:Y}{a:R}{i:Ev}{A:bu}{h b:Heap}
def kq {K:Type} [DecidableEq K](k:K)(v:ah):List (K×ah)->List (K×ah)
 |[]=>[(k,v)]
 |(y,u)::r=>if y=k then (y,v)::r else (y,u)::kq k v r
theorem rU {K:Type} [DecidableEq K]{k y:K}{v u:ah}{r:List<|K×ah}:kq k v ((y,u)::r)=if y=k then (y,v)::r else (y,u)::kq k v r:=rfl
theorem sx {K:Type} [DecidableEq K](k:K) (v):∀n,(n.map (·.1)).Nodup->Ei n k v=kq k v n
 |[],_=>rfl
 |(y,u)::r,p=>by
  simp only [dQ,gd] at p
  have m:=sx k v r p.2
  unfold Ei at m |-
  refine J rU ?_
  by_cases t:y=k
  .refine t▸?_
   have x:r.map (λj=>if j.1=y then (j.1,v) else j)=r:=by
    have:∀j∈r,(if j.1=y then (j.1,v) else j)=j:=λj B=>if_neg λz=>p.1<|sQ.mpr ⟨j,B,z⟩
    exact (List.map_congr_left this).trans<|List.map_id' r
   simp only [pN,decide_true,Bool.true_or,if_true,dQ]
   exact J x rfl
  .simp only [pN,decide_eq_false t,DZ,if_neg t,dQ]
   by_cases q:r.any λj=>aP<|j.1=k=I
   .rw [if_pos q] at m |-;exact rT m rfl
   .rw [if_neg q] at m |-;refine rT m ?_;rfl
theorem ri (k) (v):∀j,kq k v j=jD k v j
 |[]=>rfl
 |(y,u)::r=>by refine J rU ?_;refine J (ri k v r) ?_;rfl
theorem eG.put:∀{j},eG w g m j->aq w g v n->eG w g (eM x v m) (kq x n j):=by
 induction m with
 |nil=>
  intro _ r q
  subst r
  exact ⟨n,[],rfl,q,by rfl⟩
 |cons p m t=>
  obtain ⟨y,u⟩:=p
  intro _ r q
  obtain ⟨B,j,rfl,M,z⟩:=r
  refine J vA ?_;refine J rU ?_
  by_cases k:y=x
  .refine J (if_pos k) ?_;refine J (if_pos k) ?_;exact ⟨n,j,rfl,q,z⟩
  .refine J (if_neg k) ?_;refine J (if_neg k) ?_;exact ⟨B,_,rfl,M,t z q⟩
theorem hx.back (n:j≠ie)(x:h.DictOf (gH PR w) j m):∃o,h.get? j=H o/\hx w j m o:=
 let ⟨o,r,t,y,q,z,k,p,B⟩:=x;⟨o,y,n,q,r,t,z,k,p,B⟩
theorem kG.back (n:j≠ie)(x:h.DictOf (pH PR w) j m):∃o,h.get? j=H o/\kG w j m o:=
 let ⟨o,r,t,y,q,z,k,p,B⟩:=x;⟨o,y,n,q,r,t,z,k,p,B⟩
theorem jy (r:aq w g (.loc k) n)(m:g.μ k=H p):n=.ref p:=by
 refine aK r ?_;clear r;rintro q j rfl;rw [m] at j;refine aG j ?_;clear j;rintro rfl;rfl
theorem Go.list {k:Nat}{j:Z}{z t:List E}{x p:List ah}{n:Nat}{q:Array ah->Array ah}(B:ST w d g s.heap e l f a c)(M:a.get k=H (.lst z))(m:g.μ k=H j)(y:g.ν k=H j)(O:IsL s.heap j x.toArray n)
  (P:q x.toArray=p.toArray) (X:p.length<=dr) (r:aQ w g t p):Go w d e l g s.heap c g (s.heap.update j<|mj q) c f<|a.set k<|.lst t:=by
 have u:=R_ O q
 rw [P] at u
 exact Go.upd B M y (Heap.SameBut.update _ _ _) ⟨j,_,p,m,y,u,⟨X,_,rfl⟩,r⟩
theorem Nl {l:Nat}(h:wp (mF a l m v<|H k) n):∃j,sO k m v=H j/\k.len<=1000000/\n (a.set l j):=by
 have h:wp (oo (sO k m v)>>=λj=>ask (k.len<=1000000)>>=λ_=>aS<|a.set l j) n:=h
 cases p:sO k m v with
 |none=>rw [p] at h;exact h.elim
 |some j=>
  rw [p] at h
  exact ⟨j,rfl,h.1,h.2⟩
theorem OO (X:ST w d g s.heap e l f a c){o x v:E}{b2 b3 M:ah}{a5:R->Prop}{b4:Unit->az->Prop}{c1:ah->az->Prop}(a6:aq w g o b2)(a7:aq w g x b3)(a8:aq w g v M)(p:wp (setItem a o x v) a5)
  (k:∀b5,a5 b5->∀b c2,Go w d e l g s.heap c g b c f b5->b4 () {s with heap:=b,toks:=c2}):av (ak PR w) A (PySem.setItem b2 b3 M) b4 c1 s:=by
 cases o with
 |loc a0=>
  have p:wp (mF a a0 x v<|a.get a0) a5:=p
  cases y:a.get a0 with
  |none=>rw [y] at p;exact p.elim
  |some c3=>
   replace p:=y▸p
   refine cK (Nl p) λc9 t b6 c4=>?_
   have k:=k _ c4
   have b7:dr=16777216:=rfl
   have a9:=X.sr.st a0 _ y
   cases c3 with
   |lst xs=>
    obtain ⟨a1,b8,c5,m,n,z,⟨b9,nn,rfl⟩,r⟩:=a9
    refine jy a6 m▸?_
    refine zb (show (cR x).bind _=_ from t) λj O t=>?_
    revert t
    cases c6:aP<|0<=j/\j<xs.length with
    |false=>exact λp=>ao p
    |true=>
      intro t
      obtain rfl:=bf t
      have a2:=of_decide_eq_true c6
      refine aC (ea O▸a7).cO ?_;rintro u rfl
      have B:=r.length
      obtain ⟨c0,rfl⟩:∃m:Nat,j=(m:Int):=⟨j.toNat,(sZ a2.1).symm⟩
      refine ki_setAt (n:=nn) z a2.1 (la a2.2<|fp (dO.mpr<|ai (bh B) b9)<|by decide) (by refine J gJ ?_;exact B▸a2.2)<|k _ s.toks ?_
      exact Go.list X y m n z (p:=c5.set c0 M) (by simp) (by refine J List.length_set ?_;exact b9)<|r.set c0 a8
   |aa a3=>
    obtain ⟨a1,b8,a4,m,n,z,q,r⟩:=a9
    obtain rfl:=jy a6 m
    .refine zm (show (kZ x).map _=_ from t) ?_;rintro j O rfl
     refine aC (mT O▸a7).fj ?_;rintro u rfl
     have B:=r.length
     refine Sa (kX j u) (q.of z) (λb P b0=>?_)<|by have:a3.length<=1000000:=b6;exact ay (bK (bh B.symm)<|bK this<|bh b7.symm)<|by simp+arith only
     refine k b _<|Go.upd X y n b0 ?_
     refine jB q.2.2 λc7 c8 d1 d2 d3 b1=>?_
     rw [sx j M a4 b1,ri] at P
     refine aK (hx.back q.1 P) λo2 q1 q2=>?_
     exact ⟨a1,o2,_,m,n,q1,q2,r.put a8⟩
   |tab a3=>
    obtain ⟨a1,b8,a4,m,n,z,q,r⟩:=a9
    obtain rfl:=jy a6 m
    .refine zm (show (cR x).map _=_ from t) ?_;rintro j O rfl
     refine aC (ea O▸a7).cO ?_;rintro u rfl
     have B:a3.length=a4.length:=by have:=congrArg Eb r.keys;simpa using this
     refine Sa (pF j u) (q.of z) (λb P b0=>?_)<|by have:a3.length<=1000000:=b6;exact ay (bK (bh B.symm)<|bK this<|bh b7.symm)<|by simp+arith only
     refine k b _<|Go.upd X y n b0 ?_
     refine jB q.2.2 λc7 c8 d1 d2 d3 b1=>?_
     rw [sx j M a4 b1] at P
     refine aK (kG.back q.1 P) λo2 q1 q2=>?_
     exact ⟨a1,o2,_,m,n,q1,q2,r.put a8⟩
   |inst d0 d4=>exact ao t
 |_=>exact p.elim
theorem Rg (X:ST w d g s.heap e l f a c)(M:aq w g a3 a4)(p:qf a a3 m=I) 
  (k:∀z,z= "list.append" /\m=U "append" \/z= "list.insert" /\m=U "insert" \/z= "list.pop" /\m=U "pop" \/z= "dict.get" /\m=U "get" \/z= "str.lower" /\m=U "lower" ->a0 (.builtin z,[a4]) s):
  av (ak PR w) A (pO a4 m a6) a0 a7 s:=by
 cases a3 with
 |loc j=>
  have p:qi m (a.get j)=I:=p
  cases B:a.get j with
  |none=>rw [B] at p;exact ff p
  |some a8=>
  replace p:=B▸p
  cases a8 with
  |lst xs=>
   obtain ⟨O,o,a1,P,n,y,⟨b1,nn,rfl⟩,r⟩:=X.sr.st j _ B
   obtain rfl:=jy M P
   have a2:∀{a5} {z},Slot "list" a5 z->td (.builtin z)=aS (.type "method_descriptor")->a0 (.builtin z,[.ref O]) s->av (ak PR w) A (pO (.ref O) a5 a6) a0 a7 s:=λa9 ty q=>
    xG ⟨_,y,rfl⟩ F.plainAttrs_list a9 ty (λb2 b0=>by cases b0;exact ⟨_,y,rfl⟩) q
   have p:(aP (m=U "append")||aP (m=U "insert")||aP (m=U "pop"))=I:=p
   simp only [pP,decide_eq_true_eq] at p
   rcases p with (rfl|rfl)|rfl
   .exact a2 Sb F.type_list_append<|k _<|.inl ⟨rfl,rfl⟩
   .exact a2 Sd F.type_list_insert<|k _<|.inr<|.inl ⟨rfl,rfl⟩
   .exact a2 Se F.type_list_pop<|k _<|.inr<|.inr<|.inl ⟨rfl,rfl⟩
  |aa xs=>
   obtain ⟨O,o,a1,P,n,y,q,r⟩:=X.sr.st j _ B
   obtain rfl:=jy M P
   obtain rfl:=of_decide_eq_true p
   exact xG (q.of y).mapOf.typeIs Ej te Ek (q.of y).mapOf.noDict<|k _<|.inr<|.inr<|.inr<|.inl ⟨rfl,rfl⟩
  |tab xs=>
   obtain ⟨O,o,a1,P,n,y,q,r⟩:=X.sr.st j _ B
   obtain rfl:=jy M P
   obtain rfl:=of_decide_eq_true p
   exact xG (q.of y).mapOf.typeIs Ej te Ek (q.of y).mapOf.noDict<|k _<|.inr<|.inr<|.inr<|.inl ⟨rfl,rfl⟩
  |inst=>exact ff p
 |aa B=>
  obtain ⟨O,o,a1,rfl,y,q,r⟩:=X.sr.lG M rfl
  obtain rfl:=of_decide_eq_true p
  exact xG (q.of y).mapOf.typeIs Ej te Ek (q.of y).mapOf.noDict<|k _<|.inr<|.inr<|.inr<|.inl ⟨rfl,rfl⟩
 |str x=>
  refine aC M.fj ?_;rintro t rfl
  obtain rfl:=of_decide_eq_true p
  exact GM.lower<|k _<|.inr<|.inr<|.inr<|.inr ⟨rfl,rfl⟩
 |_=>exact ff p
end
end
mutual
section
variable {w:aM}{c:Heap}{e:aA}{l:List aA}{g:G}{b:List Z}{s:az}{f:Y}{a:R}{d:Ev}{A:bu}{h i:Heap}
theorem BL (k:IsL s.heap j m n)(p:m.size<=dr)
  (h:q .none {s with heap:=s.heap.update j<|mj λr=>r.push v}):av (ak PR w) A (dG (.builtin "list.append") [.ref j,v]) q t s:=
 El Sb ⟨_,k,rfl⟩ F.entry_list_append (F.args_list_append_2 _ _) (list_append j m n v p) ⟨k,h⟩
theorem OF (m:IsL s.heap k j n)(p:j[j.size - 1]?=H y)(q:j.size<=dr)
  (h:r y {s with heap:=s.heap.update k<|mj λt=>t.eraseIdxIfInBounds<|j.size - 1}):av (ak PR w) A (dG (.builtin "list.pop") [.ref k]) r x s:=
 El Se ⟨_,m,rfl⟩ F.entry_list_pop (F.args_list_pop_1 _) (MeetsSeq.list_pop_last k j n y p q) ⟨m,h⟩
theorem Jl (p:IsL s.heap m q n)(r:Sf x=I)(t:q.size<=dr)
  (h:z .none {s with heap:=s.heap.update m<|mj λj=>have k:=if x<0 then (x+(j.size:Int)).toNat else min x.toNat j.size;(j.extract 0 k).push y++j.extract k}):av (ak PR w) A (dG (.builtin "list.insert") [.ref m,.int x u,y]) z B s:=by
 refine El Sd ⟨_,p,rfl⟩ F.entry_list_insert (F.args_list_insert_3 _ _ _) (AutoSeq1.list_insert_list_int_val_1 m _ n x u y (by simp [r]) t) ⟨p,?_⟩
 exact h
theorem NI {m:List ah}(r:IsL s.heap p m.toArray n)(q:m.length<=dr)(t:k<=m.length)
  (h:x .none {s with heap:=s.heap.update p<|mj λj=>have k:=if (k:Int)<0 then ((k:Int)+(j.size:Int)).toNat else min (k:Int).toNat j.size;(j.extract 0 k).push v++j.extract k}):av (ak PR w) A (dG (.builtin "list.insert") [.ref p,.int k u,v]) x y s:=by
 refine Jl r ?_ (by refine J gJ ?_;exact q) h
 have z:dr=16777216:=rfl
 unfold Sf
 simp only [eI,decide_eq_true_eq]
 exact ⟨fp (by decide)<|hA k,pJ (dO.mpr<|ai t q)<|by decide⟩
theorem ye {K:Type} [DecidableEq K]{m:Sg PR w K}{j:Z}{k:K}{n:ah}{p:List<|K×ah}{q:ah->az->Prop}{t:ah->az->Prop}(x:m.is k n=I)(y:j≠ie)(r:s.heap.DictOf m j p)
  (h:q ((fJ p k).getD .none) {s with toks:=s.toks+1}):av (ak PR w) A (dG (.builtin "dict.get") [.ref j,n]) q t s:=
 Si te r.mapOf.typeIs Sj (F.args_dict_get_2 _ _) (meets_dict_get m j x<|beq_eq_false_iff_ne.mpr y) ⟨_,r.mapOf,h⟩
theorem DB {K:Type} [DecidableEq K]{m:Sg PR w K}{j:Z}{k:K}{p n:ah}{q:List<|K×ah}{r:ah->az->Prop}{x:ah->az->Prop}(y:m.is k p=I)(z:j≠ie)(t:s.heap.DictOf m j q)
  (h:r ((fJ q k).getD n) {s with toks:=s.toks+1}):av (ak PR w) A (dG (.builtin "dict.get") [.ref j,p,n]) r x s:=
 Si te t.mapOf.typeIs Sj (F.args_dict_get_3 _ _ _) (meets_dict_get_default m j y (beq_eq_false_iff_ne.mpr z) n) ⟨_,t.mapOf,h⟩
theorem ep (r:aQ w g (x::j) k):vK (aq w g x) (aQ w g j) k:=r
theorem fY (r:aQ w g [] j):j=[]:=r
theorem C4 (r:bj w g j n)(p:aq w g t y):aq w g ((aI k j).getD t)<|(fJ n k).getD y:=by
 have:=bj.at k r
 cases m:aI k j with
 |none=>rw [m] at this;refine J this ?_;exact p
 |some x=>rw [m] at this;refine aK this ?_;clear this;intro v q z;refine J q ?_;exact z
theorem Dm (r:eG w g j n)(p:aq w g t y):aq w g ((cZ k j).getD t)<|(fJ n k).getD y:=by
 have:=eG.at k r
 cases m:cZ k j with
 |none=>rw [m] at this;refine J this ?_;exact p
 |some x=>rw [m] at this;refine aK this ?_;clear this;intro v q z;refine J q ?_;exact z
theorem Bd (m:ST w c g s.heap e l f a b)(z:s.heap.get? B=H o)(q:hx w B X o)(r:bj w g a0 X)(M:aQ w g a3 a4):
  W w c e l g b s (cG w) (rJ (bJ (wQ a0 a3) λv=>(aS (v,a):aY<|E×R)) f) λO P=>av (ak PR w) A (dG (.builtin "dict.get")<|.ref B::a4) O P s:=
 W.bJ λv n=>W.pu<|W.ret m λO P k=>by
  refine zb n ?_;rintro ⟨x,a6⟩ a1 n
  refine zm n ?_;rintro j a2 rfl
  obtain rfl:=mT a2
  rcases Af a1 with ⟨rfl,rfl⟩|rfl
  .obtain ⟨v,t,rfl,p,y⟩:=ep M
   refine fY y▸?_
   refine aC p.fj ?_;rintro u rfl
   exact ye (kX _ u) q.1 (q.of z)<|k _ _ _ _ _ (Go.refl m)<|C4 r jI
  .obtain ⟨v,t,rfl,p,y⟩:=ep M
   obtain ⟨v2,a7,rfl,a5,h1⟩:=ep y
   refine fY h1▸?_
   refine aC p.fj ?_;rintro u rfl
   exact DB (kX _ u) q.1 (q.of z)<|k _ _ _ _ _ (Go.refl m)<|C4 r a5
theorem I7 (m:ST w c g s.heap e l f a b)(z:s.heap.get? B=H o)(q:kG w B X o)(r:eG w g a0 X)(M:aQ w g a3 a4):
  W w c e l g b s (cG w) (rJ (bJ (CY a0 a3) λv=>(aS (v,a):aY<|E×R)) f) λO P=>av (ak PR w) A (dG (.builtin "dict.get")<|.ref B::a4) O P s:=
 W.bJ λv n=>W.pu<|W.ret m λO P k=>by
  refine zb n ?_;rintro ⟨x,a6⟩ a1 n
  refine zm n ?_;rintro j a2 rfl
  obtain rfl:=ea a2
  rcases Af a1 with ⟨rfl,rfl⟩|rfl
  .obtain ⟨v,t,rfl,p,y⟩:=ep M
   refine fY y▸?_
   refine aC p.cO ?_;rintro u rfl
   exact ye (pF _ u) q.1 (q.of z)<|k _ _ _ _ _ (Go.refl m)<|Dm r jI
  .obtain ⟨v,t,rfl,p,y⟩:=ep M
   obtain ⟨v2,a7,rfl,a5,h1⟩:=ep y
   refine fY h1▸?_
   refine aC p.cO ?_;rintro u rfl
   exact DB (pF _ u) q.1 (q.of z)<|k _ _ _ _ _ (Go.refl m)<|Dm r a5
def qt (j:String)(m:ae):Prop:=j= "list.append" /\m=U "append" \/j= "list.insert" /\m=U "insert" \/j= "list.pop" /\m=U "pop" \/j= "dict.get" /\m=U "get" \/j= "str.lower" /\m=U "lower"
inductive qB (k:List E):ae->List E->List E->E->Prop
 |app (v:E):qB k (U "append") [v] (k++[v]) .none
 |ins (j:Nat) (v:E) (h:j<=k.length):qB k (U "insert") [.int j,v] (k.take j++v::k.drop j) .none
 |pop {r:E} (h:k.getLast?=H r):qB k (U "pop") [] k.dropLast r
theorem O1 (h:lX m q t=H (M,r)):qB t m q M r:=by
 revert h
 unfold lX
 cases O:aP<|m=U "append" with
 |true=>
  intro k
  refine zm k λv p k=>?_
  refine jL k ?_;clear k;rintro rfl rfl
  refine aW (of_decide_eq_true O)▸aW (hP p)▸?_
  exact .app v
 |false=>cases P:aP<|m=U "insert" with
  |true=>
   intro k
   refine zb k ?_;rintro ⟨x,y⟩ p k
   refine zb k λz X h2=>?_
   clear k
   obtain rfl:=ea X
   revert h2
   cases n:aP<|0<=z/\z<=t.length with
   |false=>exact λh=>ao h
   |true=>
    intro k
    refine kN k ?_;clear k;rintro rfl rfl
    have B:=of_decide_eq_true n
    refine aC (Int.eq_ofNat_of_zero_le B.1) ?_;rintro j rfl
    refine aW (of_decide_eq_true P)▸aW (oL p)▸?_
    exact .ins j y<|dO.mp B.2
  |false=>cases n:aP (m=U "pop") && q.isEmpty with
   |false=>exact λh=>ao h
   |true=>
    intro k
    refine zm k λy a0 k=>?_
    refine jL k ?_;clear k;rintro rfl rfl
    refine aW (of_decide_eq_true<|bl n)▸aW (lg.mp<|br n)▸?_
    exact .pop a0
theorem qt.not {j k:String}{m x y:ae}(h:j=k/\m=x)(p:m=y)(n:x≠y):False:=n<|h.2.symm.trans p
theorem qt.is {j:String}(h:qt j m):(m=U "append" ->j= "list.append")/\(m=U "insert" ->j= "list.insert")/\(m=U "pop" ->j= "list.pop")/\(m=U "get" ->j= "dict.get")/\(m=U "lower" ->j= "str.lower"):=by
 rcases h with ⟨rfl,rfl⟩|⟨rfl,rfl⟩|⟨rfl,rfl⟩|⟨rfl,rfl⟩|⟨rfl,rfl⟩<;>refine ⟨λh=>?_,λh=>?_,λh=>?_,λh=>?_,λh=>?_⟩<;>first|rfl|exact absurd h<|by decide
theorem Qf (z:ST w c g s.heap e l f a b){id:String}(a2:aq w g b5 c2)(P:aQ w g b6 c3)(c4:qt id m):
  W w c e l g b s (cG w) (rJ (qC a b5 m b6) f) λa4 a8=>av (ak PR w) A (dG (.builtin id)<|c2::c3) a4 a8 s:=by
 refine iw c4.is λi1 i2 i3 i4 i5=>?_
 cases b5 with
 |loc a0=>
  show W w c e l g b s (cG w) (rJ (qh a a0 m b6<|a.get a0) f) _
  cases a3:a.get a0 with
  |none=>exact W.stuck
  |some c5=>cases c5 with
   |lst xs=>
    rcases z.sr.st a0 _ a3 with ⟨a5,o,O,a1,n,B,⟨a9,nn,rfl⟩,r⟩
    obtain rfl:=jy a2 a1
    have a6:=r.length
    refine W.bJ λp c6=>W.jN λc7=>?_
    obtain ⟨b7,b0⟩:=p
    refine λk X b8 a4 a8 k1 _=>?_
    have b1:∀a7 b2 b3,b3 O.toArray=b2.toArray->aQ w g b7 b2->aq w g b0 a7->a4 a7 {s with heap:=s.heap.update a5<|mj b3}:=λa7 b2 b3 hf b9 c8=>
     k1 b0 f (a.set a0<|.lst b7) b8 g a7 _ s.toks b (Go.list z a3 a1 n B hf (by refine rT b9.length ?_;exact ai c7<|by decide) b9) c8
    clear k1 b8
    cases O1 c6 with
    |app v=>
     refine i1 rfl▸?_
     obtain ⟨v,t,rfl,b4,h0⟩:=ep P
     refine fY h0▸?_
     exact BL B (by simpa using a9)<|b1 .none (O++[v]) _ (by simp) (r.append<|fQ b4 gW) jI
    |ins j v0 c0=>
     refine i2 rfl▸?_
     obtain ⟨v,t,rfl,b4,h0⟩:=ep P
     obtain ⟨v2,d5,rfl,c9,d0⟩:=ep h0
     refine fY d0▸?_
     refine aC b4.cO ?_;rintro u rfl
     refine NI B a9 (a6▸c0)<|b1 .none (O.take j++v2::O.drop j) _ ?_ ((r.take j).append<|fQ c9<|r.drop j) jI
     have h0:¬(j:Int)<0:=jl.mpr<|hA j
     simp only [h0,if_false,Int.toNat_natCast]
     rewrite [kl_ins_eq];refine J gJ ?_;exact J (Em<|a6▸c0) rfl
    |pop c1=>
     refine i3 rfl▸?_
     obtain rfl:=fY P
     have d1:xs[xs.length - 1]?=H b0:=by rw [List.getLast?_eq_getElem?] at c1;exact c1
     refine aK (r.get d1) λy d2 d3=>?_
     refine OF B (y:=y) (by refine J gJ ?_;refine rT a6 ?_;simpa using d2) (by simpa using a9)<|b1 y O.dropLast _ ?_ ?_ d3
     .refine J gJ ?_
      apply Array.toList_inj.mp
      simp
     .have:=r.take<|xs.length - 1
      refine aW Sk▸aW Sk▸a6▸?_
      exact this
   |aa d4=>
    obtain ⟨a5,o,O,a1,n,B,q,r⟩:=z.sr.st a0 _ a3
    obtain rfl:=jy a2 a1
    refine W.er λM=>?_
    obtain rfl:=i4<|of_decide_eq_true M
    exact Bd z B q r P
   |tab d4=>
    obtain ⟨a5,o,O,a1,n,B,q,r⟩:=z.sr.st a0 _ a3
    obtain rfl:=jy a2 a1
    refine W.er λM=>?_
    obtain rfl:=i4<|of_decide_eq_true M
    exact I7 z B q r P
   |inst=>exact W.stuck
 |aa a3=>
  obtain ⟨a5,o,O,rfl,B,q,r⟩:=z.sr.lG a2 rfl
  refine W.er λM=>?_
  refine (i4<|of_decide_eq_true M)▸?_
  exact Bd z B q r P
 |str x=>
  refine W.er λM=>?_
  refine (i5<|of_decide_eq_true<|bl<|bl M)▸?_
  obtain rfl:=of_decide_eq_true<|br<|bl M
  .refine aC a2.fj ?_;rintro t rfl
   obtain rfl:=lg.mp<|br M
   obtain rfl:=fY P
   refine W.pu<|W.ret z λa4 a8 k=>SC.lower (by decide+kernel) ?_
   have d6:Txt.lower (U "g")=U "g" :=by decide+kernel
   exact k _ _ _ _ _ (Go.refl z)<|km ..
 |_=>exact W.stuck
end
end
mutual
section
variable {w:aM}{b:Heap}{e:aA}{l:List aA}{g:G}{c:List Z}{s:az}{f:Y}{a:R}{d:Ev}{A:bu}{h i:Heap}
theorem CV:m.all dn=I->∀j e,(fK j<|eV m e).any (·.1)=N:=by
 induction m with
 |nil=>
  intro _ j e
  exact rfl
 |cons p r n=>
  intro k j e
  rw [xH,eI] at k
  rw [pk k.1]
  show (N||(fK j<|eV r e).any (·.1))=N
  rw [n k.2];rfl
theorem Pk (k:m.all dn=I) (j) (e):((fK j<|eV m e).all λx=>!x.1)=I:=by
 have:=CV k j e
 rw [Sl] at this
 rw [eU]
 intro x n
 have:=this x n
 simpa using this
def gE (w:aM)(h:Heap)(j:ah):Prop:=∃k,(k=Keeper.frame\/k=Keeper.machine\/k=Keeper.boundFrame)/\hb (ak PR w) h (keeperOf j) k
theorem mJ (b1:bz w b d)(b2:AC A l)(a1:ST w b g s.heap e l f a c){a2:G->Heap->List Z->β->ah->Prop}(b3:a4.all dn=I) 
  (a9:∀g' i b4 b5 b6,Go w b e l g s.heap c g' i b6 b4 b5->gE w i n) {a5:List E->Y->R->Cp β}
  (y:∀p M O x t z P a0,Go w b e l g s.heap c x z a0 M O->aQ w x p t->
   W w b e l x a0 {s with heap:=z,toks:=P} a2 (a5 p M O) λm j=>av (ak PR w) A (dG n<|a6++t) m j {s with heap:=z,toks:=P}):
  W w b e l g c s a2 (λk X=>dS d.eval f a a4 (λp f a=>a5 p f a k X) X) λm j=>av (ak PR w) A (nG a3 n a6 (fK a3<|eV a4 e) []) m j s:=by
 cases a4 with
 |nil=>
  refine W.imp (λm j h=>?_)<|y [] f a g [] s.heap s.toks c (Go.refl a1) gW
  exact xI (P:=λh=>gE w h n) rfl (λ_ q=>q)<|evalArgs_nil3 ⟨a9 _ _ _ _ _<|Go.refl a1,h⟩
 |cons a7 r=>
  have b7:W w b e l g c s a2 (λk X=>dS d.eval f a (a7::r) (λp f a=>a5 p f a k X) X) λm j=>av (ak PR w) A (sX<|fK a3<|eV (a7::r) e) (λt B=>gE w B.heap n/\av (ak PR w) A (dG n<|a6++t) m j B) j s:=by
   refine W.bind (K:=λt B m j=>gE w B.heap n/\av (ak PR w) A (dG n<|a6++t) m j B) (wW b1 b2 a3 (a7::r) f a g c s a1) λp M O x t z P a0 b0 b8=>?_
   exact W.imp (λm j h=>⟨a9 _ _ _ _ _ b0,h⟩)<|y p M O x t z P a0 b0 b8.1
  refine W.imp (λm j h=>?_) b7
  have a8:=b3
  rw [xH,eI] at a8
  rw [pk a8.1] at h |-
  refine xI (P:=λh=>gE w h n) ?_ (λ_ q=>q)<|En h
  show (N||(fK a3<|eV r e).any (·.1)||N)=N
  rw [CV a8.2];rfl
theorem uR {K:aU}(j:jm K k=I)(X:K.In h):gE w h k:=keeps_K j h X
theorem wk (j):gE w h<|.builtin j:=⟨.machine,.inr<|.inl rfl,.now⟩
theorem Aj (j):gE w h<|.type j:=⟨.machine,.inr<|.inl rfl,.now⟩
theorem Iu (j:h.get? k=H o)(m:o.data=.func n):gE w h<|.ref k:=by
 obtain ⟨_,_,_,_⟩:=o
 subst m
 exact ⟨.frame,.inl rfl,(Eo (part:=T) j).andThen .now⟩
abbrev KC (K:aU):Prop:=
 ∀j,((d_ j).isSome||(gB j).isSome)=I->jm K (.ref j)=I
theorem KC.keep {K:aU}(h:KC K):∀j,((d_ j).isSome||(gB j).isSome)=I->jm K (.ref j)=I:=h
theorem uc {K:aU}(q:K.In b)(t:KC K)(n:SR w b g a h)(m:sM j=I)(r:aq w g j x):gE w h x:=by
 cases j with
 |ag u=>
  refine J r.gq ?_
  cases u with
  |ref p=>exact uR (t.keep p m)<|q.keeps n.base
  |builtin y=>exact wk y
  |type z=>exact Aj z
  |_=>exact ff m
 |bR k B=>
  obtain ⟨p,o,M,O,P,X,sc,a0,pm,c',a1,a2,a3,rfl,j,rfl,_⟩:=r
  exact Iu (n.fz _ _ j) rfl
 |_=>exact ff m
theorem W.called {O:E}{P:List E}{m:ah}{p:List ah}{r:Cp E}(q:∀{k X},r k X->kC w b f.depth O P a (λv a=>k v f a) X)(a0:AC A l)(j:ST w b g s.heap e l f a c)(hf:aq w g O m)(a1:aQ w g P p):
  W w b e l g c s (cG w) r λt y=>av (ak PR w) A (dG m p) t y s:=by
 intro k X h t y k1 k2
 refine q h l A g s m p j.dep.symm a0 j.ar hf a1 t y (λa2 a3 a4 z a5 i B x M a6=>?_) λa7 ev z i B n x M a8=>?_
 .exact k1 a2 f a3 a4 z a5 i B c (j.back x M) a6
 .exact k2 a7 ev z i B n (j.back x M).sE a8.any
set_option tactic.hygienic true in
theorem zj (k:rq o=I) (j):attributeBase o m e j=j:=by
 cases o<;>try rfl
 rename_i n p q r
 cases n<;>try rfl
 cases p<;>try rfl
 cases q<;>try rfl
 exact ff k
theorem A6 (z:rq o=I)(B:k.all dn=I)(M:k.length<30)(O:(q.endLine==j.line)=I)
  (h:av (ak PR w) A (cP o e) (λr t=>av (ak PR w) A (pO r m do return (<-importBound o e).getD I) (λn y=>av (ak PR w) A (nG j n.1 n.2 (fK j<|eV k e) []) P p y) p t) p s):
  av (ak PR w) A (cP (.Call (.Attribute o m q) k [] j) e) P p s:=by
 rw [arm_eval_Call,zj z]
 refine aF<|ej h (λr t X=>?_) λ_ _ a0=>a0
 refine aF<|tg ?_
 have a1:methodCallForm (k.length+([]:List pG).length) (fK j<|eV k e) (backToKw j<|keywordEach [] e)=I:=by
  show (((fK j<|eV k e).all λx=>!x.1) && I && aP (k.length<30))=I
  exact aW (Pk B j e)▸decide_eq_true M
 have a2:methodCallPos I o e q j=aS j:=if_pos O
 unfold methodCall
 refine J a1 ?_
 refine aF<|xy ?_
 refine ej X (λn y a3=>?_) λ_ _ x=>x
 exact aF<|wpAny_of_eq a2 a3
theorem Nj {K:aU}(a0:bz w b d)(a9:K.In b)(t:KB K)(c7:KC K)(a2:AC A l)(a1:ST w b g s.heap e l f a c){q:E}{b0:ah}(a6:aq w g q b0)(m:ae){B:List aD}(b1:B.all dn=I)(a7:Pos)(b7:Sem Bool):
  W w b e l g c s (cG w) (λk X=>wp (aV a q m) λM=>dS d.eval f a B (λp f a=>d.O.aE f.depth q m M p a (λv a=>k v f a) X) X) λO y=>
   av (ak PR w) A (pO b0 m b7) (λa3 b2=>av (ak PR w) A (nG a7 a3.1 a3.2 (fK a7<|eV B e) []) O y b2) y s:=by
 show W w b e l g c s (cG w) (λk X=>wp (qU m (qf a q m)<|res a q) λM=>dS d.eval f a B (λp f a=>d.O.aE f.depth q m M p a (λv a=>k v f a) X) X) _
 have c8:W w b e l g c s (cG w) (λk X=>wp (gM (qf a q m)>>=λ_=>aS cL.blt) λM=>dS d.eval f a B (λp f a=>d.O.aE f.depth q m M p a (λv a=>k v f a) X) X) λO y=>
   av (ak PR w) A (pO b0 m b7) (λa3 b2=>av (ak PR w) A (nG a7 a3.1 a3.2 (fK a7<|eV B e) []) O y b2) y s:=by
  refine W.wb λhm=>W.pu λk X h O y k1 k2=>?_
  refine Rg a1 a6 hm λid c9=>?_
  exact mJ a0 a2 a1 b1 (a5:=λp f a k X=>d.O.aE f.depth q m .blt p a (λv a=>k v f a) X) (λ_ _ _ _ _ _=>wk id) (λp b8 b9 c0 c1 c2 c3 c4 z a4=>W.pre (λ_ _ h=>a0.le.aE h)<|Qf z.st (aq.mono z.ext.le _ _ a6) a4 c9) k X h O y k1 k2
 cases d0:res a q with
 |inst j a8=>
  obtain ⟨x,e4,d1,n,e5,rfl,e1,e2,c5,r⟩:=a1.sr.wt a6 d0
  have X:=a9.keeps a1.sr.base
  show W w b e l g c s (cG w) (λk X=>wp (lQ a8 m (fo j m)<|ja j m) λM=>dS d.eval f a B (λp f a=>d.O.aE f.depth q m M p a (λv a=>k v f a) X) X) _
  cases hm:ja j m with
  |some a5=>
   refine hJ (t.aE j m a5 hm) λP hf d2 d3=>?_
   cases b3:aI m a8 with
   |some v=>
    have b4:lQ a8 m (fo j m) (H a5)=.stuck:=by unfold lQ;refine J b3 ?_;rfl
    refine J b4 ?_;exact W.stuck
   |none=>
   have b4:lQ a8 m (fo j m) (H a5)=aS (.fn a5):=by unfold lQ;refine J b3 ?_;rfl
   refine J b4 ?_
   refine W.pu ?_
   refine W.imp (λO y h=>method_fn (f:=a5) X (kx e1 e2) (t.ga j P) (t.gt j P) hf d2 (by show (s_ m<|ft d1 n).map _=_;refine J (Ol c5<|r.FT b3) ?_;rfl) h) ?_
   refine mJ a0 a2 a1 b1 (λg' i d4 d5 d6 o=>uR d3<|a9.keeps o.st.sr.base) λp b8 b9 c0 c1 c2 c3 c4 z a4=>?_
   exact W.called a0.le.aE a2 z.st (by rfl)<|fQ (aq.mono z.ext.le _ _ a6) a4
  |none=>
   refine W.wb λhf=>W.pf λb5 d7=>W.wb λc6=>W.pu ?_
   have P:=nr hf
   refine aK (r.Am d7) λd8 d9 b6=>?_
   have e0:handedIn d8=I:=by
    cases b5 with
    |bR k e3=>obtain ⟨e6,_,_,_,_,_,_,_,_,_,_,_,_,rfl,_⟩:=b6;rfl
    |_=>exact ff c6
   refine W.imp (λO y h=>method_usual X (kx e1 e2) (t.ga j P) (t.gt j P) (t.field j m hf) rfl<|get_value X (kx e1 e2) (t.ga j P) (findObj_own (t.hd j P) (t.field j m hf) rfl<|zw c5 d9) e0 h) ?_
   have S':ST w b g ({s with toks:=s.toks+1}:az).heap e l f a c:=a1
   refine mJ a0 a2 S' b1 (λg' i d4 d5 d6 o=>uc (j:=b5) a9 c7 o.st.sr ?_<|aq.mono o.ext.le _ _ b6) λp b8 b9 c0 c1 c2 c3 c4 z a4=>?_
   .cases b5 with
    |bR k e3=>rfl
    |_=>exact ff c6
   .exact W.called a0.le.aE a2 z.st (aq.mono z.ext.le _ _ b6) a4
 |_=>exact c8
theorem He (j:ST w b g s.heap e l f a c){a6:ah}{v:E}{a7:ah}{n:Nat}(a8:n<=s.heap.objs.size)(a2:aq w g v a7):
  W w b e l g c s (gA w b e l n) (λk X=>wp (zO a a6 v) λo=>k (RV.fresh o) f a) λB M=>av (ak PR w) A (dG a6 [a7]) B M s:=by
 have a9:∀{P:List E} {t:Z} {x:List ah} {a0:String} {o:cT},a0= "list" \/a0= "tuple" ->s.heap.get? t=H o->eW a0 x o->aQ w g P x->
   W w b e l g c s (gA w b e l n) (λk _=>k (RV.fresh<|.lst P) f a) λB M=>av (ak PR w) A (dG (.type "list") [.ref t]) B M s:=λ{P t x a0 o} b1 p q r=>by
  refine aL q ?_;clear q;intro y zz;refine aC zz ?_;clear zz;rintro k rfl
  refine W.ret j λB M a3=>call_list_seq t b1 p rfl rfl (λi c' a4 b0=>?_)<|by simpa using y
  have a5:s.heap.objs.size<=i.objs.size:=ig<|Heap.lt_size b0
  exact a3 g _ i s.toks c (Go.grow j a4 a5) ⟨_,rfl,a8,j.free,rfl,j.free.bb,_,x,b0,⟨y,c',rfl⟩,r⟩
 refine W.bJ λm em=>?_
 refine Nd em▸?_
 cases q:aP<|m= "list" with
 |true=>
  obtain rfl:=of_decide_eq_true q
  refine W.bJ λP p=>?_
  rcases rv p with p|p
  .obtain ⟨t,o,x,rfl,O,q,r⟩:=j.sr.fU a2 p
   exact W.pu<|a9 (.inr rfl) O q r
  .obtain ⟨t,o,x,rfl,O,q,r⟩:=j.sr.fS a2 p
   exact W.pu<|a9 (.inl rfl) O q r
 |false=>
  refine W.er λq=>W.bJ λb7 p=>W.er λy=>?_
  refine of_decide_eq_true q▸?_
  have y:=of_decide_eq_true y
  obtain ⟨t,o,b2,rfl,O,q,r⟩:=j.sr.lG a2<|Jz p
  have b3:=r.length
  have a5:dr=16777216:=rfl
  refine W.pu<|W.ret j λB M a3=>kt_call_dict (knd:=gH PR w) (beq_eq_false_iff_ne.mpr q.1) (q.of O) (ay (bK (bh b3.symm)<|bK y<|bh a5.symm)<|by simp+arith only) λi b4 b5=>?_
  have a4:∀a1 o,s.heap.get? a1=H o->i.get? a1=H o:=λa1 o q=>(b5.2 a1<|cA<|Heap.lt_size q).trans<|Heap.get?_push_of_some _ q
  have ns:s.heap.objs.size≠ie:=by
   refine aK j.tb.t3 λp3 e3 _=>?_
   have:=Heap.lt_size e3
   exact λz=>absurd (z▸this:(1040:Nat)<ie)<|by decide
  refine aK (hx.back ns b4) λo2 q1 q2=>?_
  have b6:s.heap.objs.size<=i.objs.size:=ig<|Heap.lt_size q1
  exact a3 g _ i s.toks c (Go.grow j a4 b6) ⟨_,rfl,a8,j.free,rfl,j.free.bb,_,b2,q1,q2,r⟩
theorem LF {K:aU}(B:dF w b)(P:bz w b d)(a6:K.In b)(KF:KB K)(a7:KC K)(a0:AC A l)(a2:ST w b g s.heap e l f a c) (a8) (n) (j):
  WR w b e l A g c s (dJ d.O d.eval f a<|.Call a8 n [] j)<|.Call a8 n [] j:=by
 cases a8 with
 |Attribute o m c8=>
  refine W.cJ λq=>?_
  simp only [eI,decide_eq_true_eq] at q
  refine aL q ?_;clear q;rintro ⟨⟨b6,a1⟩,b7⟩ b8
  refine W.imp (λa3 a4 h=>A6 b6 a1 b7 b8 h) ?_
  refine W.bind (P.eval o f a e l A g c s a0 a2) λv b0 b1 b2 b9 b3 b4 b5 M y=>?_
  exact W.val<|Nj P a6 KF a7 a0 M.st y m a1 j _
 |Name x np=>
  refine W.cJ λq=>W.bw λa5 c0=>?_
  simp only [eI] at q
  refine aL q ?_;clear q;rintro ⟨c1,c9⟩ a1
  have go:∀{r},(∀O,aq w g a5 O->W w b e l g c s (cG w) r λa3 a4=>av (ak PR w) A (nG j O [] (fK j<|eV n e) []) a3 a4 s)->WR w b e l A g c s r (.Call (.Name x np) n [] j):=λ{r} y=>by
   intro k X h a3 a4 k1 k2
   refine Call_ (hI B a2 c1 c0 λO z=>y O z k X h a3 a4 k1 k2) rfl
  have a9:sM a5=I->WR w b e l A g c s (λk X=>dS d.eval f a n (λp f a=>d.O.call f.depth a5 p a (λv a=>gz j v f a k) X) X) (.Call (.Name x np) n [] j):=λc2=>by
   refine go λO z=>?_
   refine mJ P a0 a2 a1 (λg' i c3 c4 c5 o=>uc a6 a7 o.st.sr c2<|aq.mono o.ext.le _ _ z) λp b0 b1 b2 c6 b3 b4 b5 M y=>?_
   exact W.val<|W.called P.le.call a0 M.st (aq.mono M.ext.le _ _ z) y
  cases a5 with
  |ag u=>
   cases u with
   |type t=>
    show WR w b e l A g c s (λk X=>match t== "list" ||t== "dict" with
     |I=>dS d.eval f a n (λp f a=>match p with
      |[v]=>cj !(Pos.is j hu && Pos.is j iu)<|wp (kM (Pos.is j iu) (lJ j) a (.ag<|.type t) v) λr=>gz j r.1 f r.2 k
      |_=>False) X
     |N=>dS d.eval f a n (λp f a=>d.O.call f.depth (.ag<|.type t) p a (λv a=>gz j v f a k) X) X) _
    cases t== "list" ||t== "dict" with
    |true=>
     refine go λO z=>?_
     refine mJ P a0 a2 a1 (λg' i c3 c4 c5 o=>uc (j:=.ag<|.type t) a6 a7 o.st.sr rfl<|aq.mono o.ext.le _ _ z) λp b0 b1 b2 c6 b3 b4 b5 M y=>?_
     cases p with
     |nil=>exact W.stuck
     |cons v r=>cases r with
      |nil=>
       obtain ⟨b9,t,rfl,c7,h0⟩:=ep y
       refine J (fY h0) ?_
       obtain rfl:=z.gq
       exact W.cJ λ_=>W.fin (q:=.fresh) (aT _)<|He M.st (aT _) c7
      |cons=>exact W.stuck
    |false=>exact a9 rfl
   |_=>exact W.cJ a9
  |_=>exact W.wh λh=>a9<|bl h
 |_=>exact W.stuck
end
end
mutual
section
variable {w:aM}{c:Heap}{e:aA}{l:List aA}{g:G}{a:List Z}{s:az}{f:Y}{b:R}{d:Ev}{A:bu}{h i:Heap}
theorem H5 {K:aU}(p:bz w c d)(q:K.In c)(t:KB K)(y:AC A l)(z:ST w c g s.heap e l f b a) (o) (j) (k):WR w c e l A g a s (dJ d.O d.eval f b<|.Attribute o j k)<|.Attribute o j k:=by
 refine W.cJ λB=>?_
 have M:cP (.Attribute o j k) e=(do let m <-cP o e;D5 k.atName;let r <-holding [m]<|getAttr m j I;letTemporaryGo o m r;aS r):=by
  simp only [arm_eval_Attribute,zj B]
 refine W.imp (λO P h=>Attribute_any_ h M) ?_
 refine W.bind (p.eval o f b e l A g a s y z) λv a4 a5 a6 a7 a8 a9 b0 n X=>?_
 refine W.val (r:=lf (aw _ _ _) _ _)<|W.pf λx a0=>W.wb λa1=>W.pu<|W.ret n.st λO P a2=>?_
 exact Fv q t n.st.sr X a0 (by simpa using a1) λb1 a3=>a2 _ _ _ _ _ (Go.refl n.st) a3
theorem A1 {K:Type} [DecidableEq K](k:K) (v):∀j,(kq k v j).map (·.1)=if k∈j.map (·.1) then j.map (·.1) else j.map (·.1)++[k]
 |[]=>by rfl
 |(y,u)::r=>by
  refine J rU ?_
  by_cases m:y=k
  .subst m;simp
  .refine J (if_neg m) ?_;refine J dQ ?_;refine J (A1 k v r) ?_
   by_cases q:k∈r.map (·.1)
   .refine J (if_pos q) ?_;refine J (if_pos<|by simp only [dQ,bF];exact .inr q) ?_;rfl
   .refine J (if_neg q) ?_;refine J (if_neg<|by simp only [dQ,bF];rintro (z|z);exact m z.symm;exact q z) ?_;rfl
theorem IF {K:Type} [DecidableEq K] (k) (v){j:List<|K×ah}(m:(j.map (·.1)).Nodup):((kq k v j).map (·.1)).Nodup:=by
 simp only [A1]
 split
 .exact m
 .rename_i q
  rw [ml]
  exact ⟨m,by simp,λr n t p z=>by rw [bW.mp p] at z;exact q<|z▸n⟩
theorem Lp {K:Type} [DecidableEq K] (j)(p:K×ah) (r):xJ j (p::r)=xJ (Ei j p.1 p.2) r:=rfl
theorem Bg:∀n m p x j,aQ w g m p->bj w g x j->(j.map (·.1)).Nodup->bj w g (pz n m x) (xJ j<|n.zip p)
 |[],m,p,x,j,_,r,_=>by cases m<;>exact r
 |k::n,[],p,x,j,q,r,_=>by obtain rfl:=fY q;exact r
 |k::n,v::m,p,x,j,q,r,y=>by
  obtain ⟨B,t,rfl,O,z⟩:=ep q
  refine J xK ?_;rewrite [Lp]
  have P:=sx k B j y
  have M:=IF k B y
  simp only [P,ri]
  rw [ri] at M
  exact Bg n m t _ _ z (r.put O) M
theorem bL.go {t:Y}{y:R}{m:List Z}{n:G}{k:Z}{o:cT}(x:Go w c e l g h a n i m t y)(p:h.get? k=H o)(B:o.cls≠.type "frame")(j:bL c g e l a k):bL c n e l m k/\i.get? k=H o:=by
 have r:¬PP e a k:=λz=>by
  rcases z with z|z|z
  .exact j.loc z
  .exact j.cell _ z.2.choose_spec
  .exact j.oa z
 refine ⟨⟨x.ext.bb p j.bb r,j.loc,j.cell,λz=>?_,j.fr⟩,x.ext.kc p j.bb r B⟩
 rcases x.oa with q|q
 .exact j.oa<|q▸z
 .exact nomatch q▸z
def BU (w:aM)(j:List ae):G->Heap->List Z->List E->List (ah×ah)->Prop:=λg _ _ n k=>∃m,aQ w g n m/\Carries (gH PR w) k (j.zip m)/\k.length=j.length
theorem Bj (a2:bz w c d)(a3:AC A l) (M):∀n t p,rB n=H t->n.length=p.length->∀f b g a s,ST w c g s.heap e l f b a->
  W w c e l g a s (BU w t) (dS d.eval f b p) λm j=>av (ak PR w) A (Ep<|Er n p e M) m j s
 |[],t,[],q,_,f,b,g,a,s,y=>by
  refine aG q ?_;clear q;rintro rfl
  exact W.ret y λm j k=>pairTrees_nil_walk<|k _ _ _ s.toks _ (Go.refl y) ⟨[],gW,trivial,rfl⟩
 |[],t,_::_,q,z,f,b,g,a,s,y=>by simp at z
 |k::n,t,[],q,z,f,b,g,a,s,y=>by simp at z
 |k::n,t,O::p,q,z,f,b,g,a,s,y=>by
  .refine zb (show (k.bind rj).bind _=_ from q) λx a7 q=>?_
   refine dx (CQ a7) ?_;rintro k' p' rfl
   refine zm q ?_;rintro a4 a8 rfl
   refine W.cJ λb9=>?_
   have S':ST w c g ({s with toks:=s.toks+1}:az).heap e l f b a:=y
   refine W.imp (P:=λm j=>av (ak PR w) A (cP O e) (λP a0=>av (ak PR w) A (Ep<|Er n p e M) (λr B=>m ((.str x s.toks,P)::r) B) j a0) j {s with toks:=s.toks+1}) (λm j h=>pairTrees_cons_walk<|R1 h) ?_
   have a9:W w c e l g a {s with toks:=s.toks+1} (BU w<|x::a4) (λk X=>d.eval f b O (λv f b=>dS d.eval f b p (λr f b=>k (v::r) f b) X) X) λm j=>av (ak PR w) A (cP O e) (λP a0=>av (ak PR w) A (Ep<|Er n p e M) (λr B=>m ((.str x s.toks,P)::r) B) j a0) j {s with toks:=s.toks+1}:=by
    refine W.bind (a2.eval O f b e l A g a _ a3 S') λv b0 b1 b2 a5 b3 b4 b5 b6 b7=>?_
    refine W.bind (K:=λr B m j=>m ((.str x s.toks,a5)::r) B) (Bj a2 a3 M n a4 p a8 (by simpa using z) b0 b1 b2 b5 {s with heap:=b3,toks:=b4} b6.st) λr c0 c1 c2 c3 c4 b8 c5 a1 a6=>?_
    refine cK a6 ?_;clear a6;intro us q1 q2 q3
    exact W.ret a1.st λm j k=>k _ _ _ b8 _ (Go.refl a1.st) ⟨a5::us,fQ (aq.mono a1.ext.le _ _ b7) q1,⟨kX x s.toks,rfl,q2⟩,by simp [q3]⟩
   exact a9
theorem Qn:∀{j},rB m=H j->(m.all λx=>x.isSome)=I:=by
 induction m with
 |nil=>
  intro _ _
  exact rfl
 |cons k r n=>
  intro j h
  refine zb (show (k.bind rj).bind _=_ from h) λx p h=>?_
  refine dx (CQ p) ?_;rintro t y rfl
  refine zm h λz q _=>?_
  refine J xH ?_;refine J (n q) ?_;rfl
theorem OL (b4:bz w c d)(b5:AC A l)(a6:ST w c g s.heap e l f b a) (a4) (a7) (a8):WR w c e l A g a s (dJ d.O d.eval f b<|.Dict a4 a7 a8)<|.Dict a4 a7 a8:=by
 refine W.cJ λa0=>W.bw λa1 a2=>?_
 simp only [eI,beq_iff_eq,decide_eq_true_eq] at a0
 have ns:s.heap.objs.size≠ie:=by
  refine aK a6.tb.t3 λp3 e3 _=>?_
  have:=Heap.lt_size e3
  exact λz=>absurd (z▸this:(1040:Nat)<ie)<|by decide
 have a5:=Go.push a6 {cls:=.type "dict",data:=.dict #[]}
 have b2:(s.heap.push {cls:=.type "dict",data:=.dict #[]}).get? s.heap.objs.size=H {cls:=.type "dict",data:=.dict #[]}:=Heap.get?_push_size _ rfl
 have f0:bL c g e l a s.heap.objs.size:=a6.free
 have d0:(s.heap.push {cls:=.type "dict",data:=.dict #[]}).DictOf (gH PR w) s.heap.objs.size []:=
  ⟨_,#[],0,b2,⟨rfl,rfl,rfl⟩,rfl,λb6 he=>by simp at he,.nil,by trivial⟩
 cases a9:a7 with
 |nil=>
  subst a9
  have b7:a4=[]:=sV.mp a0.1
  subst b7
  refine aG a2 ?_;clear a2;rintro rfl
  refine W.fresh (aT _)<|W.ret a6 λb8 b9 c0=>wpAny_Dict_empty<|c0 g _ _ s.toks a a5 ?_
  refine aK (hx.back ns d0) λo2 q1 q2=>?_
  exact ⟨_,rfl,aT _,f0,rfl,f0.bb,_,[],q1,q2,by show bj w g [] [];rfl⟩
 |cons e0 e2=>
  refine rT a9 ?_
  have c1:a4≠[]:=λz=>by rw [z,a9] at a0;simp at a0
  intro k X c2 b8 b9 k1 k2
  refine wpAny_Dict_walk (knd:=gH PR w) (Qn a2) a0.1 c1 (ai (bh a0.1) a0.2) ?_
  refine Bj b4 b5 a8 a4 a1 a7 a2 a0.1 f b g a _ a5.st _ X c2 _ _ (λb0 c3 c4 ev b1 e4 e5 e6 c5 M b3=>?_) λc6 ev g' i c7 n M c8=>?_
  .refine cK b3 ?_;clear b3;intro us q1 q2 q3
   refine aL (bL.go M b2 (by trivial) f0) λB e1=>?_
   refine ⟨a1.zip us,q2,⟨_,#[],0,e1,⟨rfl,rfl,rfl⟩,rfl,λb6 he=>by simp at he,.nil,by trivial⟩,λi c9 r=>?_⟩
   have a3:=a5.trans M
   have x:=bt.but (c:=c) (g:=b1) r
   have e7:=Heap.lt_size e1
   refine aK (hx.back ns c9) λo3 q4 q5=>?_
   have rs:bj w b1 (pz a1 b0 [])<|xJ []<|a1.zip us:=Bg a1 b0 us [] [] q1 (by rfl)<|by trivial
   refine have O:Go w c e l g s.heap a b1 i c5 c3 c4:=?_
    have ⟨d1,d2,b',d3,d4,a2,d5,d6⟩:=tQ (y:=.aa<|pz a1 b0 []) O (aT _) ⟨_,rfl,aT _,B,rfl,B.bb,o3,_,q4,q5,rs⟩ ev
    k1 b' d3 d4 a2 d1 _ i _ d2 d5 d6
   refine ⟨⟨a3.ext.le,by refine J r.1 ?_;exact a3.ext.size,a3.ext.Fn,a3.ext.eF,λm o q n t p=>?_⟩,a3.oa,?_⟩
   .rcases a3.ext.keep m o q n t p with z|⟨o',z,d7⟩
    .exact .inl<|(r.2 m<|cA<|Heap.lt_size q).trans z
    .exact .inr ⟨o',(r.2 m<|cA<|Heap.lt_size q).trans z,d7⟩
   .have P:=M.st.sr
    exact ⟨⟨λm o q=>(r.2 m λz=>by rw [z,B.bb.base] at q;exact ao q).trans<|P.base m o q,λm o q=>(r.2 m λz=>B.bb.F o<|z▸q).trans<|P.fz m o q,
     λj d8 q=>(P.st j d8 q).keep λm o z q=>(r.2 m λzz=>by refine aC z ?_;clear z;intro j z;exact B.bb.ν j<|zz▸z).trans q,P.dA,λj m q=>by refine J r.1 ?_;exact P.da j m q,P.fC,P.inj,by refine J r.1 ?_;exact P.low,P.hF,λj m q=>let ⟨o,p,z⟩:=P.fb j m q;⟨o,(r.2 m λzz=>B.bb.ν j<|zz▸q).trans p,z⟩⟩,
     M.st.fr.ext x (λz=>B.loc z.symm) (λy e8 q z=>B.cell y<|z▸q) λm d9 z=>B.oa<|z▸d9,M.st.tb.but r B.bb.tab,M.st.ff.but r B.fr,M.st.dep,M.st.top⟩
  .exact k2 c6 ev g' i c7 n (a5.trans M)<|c8.mono a5.ext.size
end
end
mutual
open Mine
theorem DL (h:Heap) (o):(h.push o).objs.size=h.objs.size+1:=Heap.size_push ..
theorem yO (h:Heap) (a) (f):(h.update a f).objs.size=h.objs.size:=(Heap.SameBut.update h a f).1
def di (n:Nat)(h b:Heap):Prop:=n<=h.objs.size->n<=b.objs.size/\∀a:Z,a<n->h.get? a=T->b.get? a=T
theorem di.refl (n) (h):di n h h:=λq=>⟨q,λ_ _ e=>e⟩
theorem di.trans (x:di n a b)(y:di n b c):di n a c:=λq=>let ⟨d,f⟩:=x q;let ⟨g,h⟩:=y d;⟨g,λa l e=>h a l<|f a l e⟩
theorem di.push (n) (h) (o):di n h<|h.push o:=λq=>⟨by rw [DL];exact jX q,λa l e=>by
 have:(h.push o).objs[a]?=h.objs[a]?:=by
  cases h;simp only [Heap.push];exact Array.getElem?_push_lt (bE l q)▸(RW<|bE l q).symm
 unfold Heap.get? at e |-
 refine J this ?_;exact e⟩
theorem di.update (n) (f)(c:(h.get? a).isSome=I):di n h<|h.update a f:=λq=>⟨by rw [yO];exact q,λb l e=>by
 by_cases z:b=a
 .subst z;rw [e] at c;exact ff c
 .exact ((Heap.SameBut.update h a f).2 b z).trans e⟩
theorem yx (h:Runs M b p t c s e a):di n s.heap a.heap:=by
 induction h
 all_goals (try simp only [Shared.setGen] at*)
 all_goals (first|assumption|exact di.refl _ _|exact (di.push _ _ _).trans<|by assumption|exact (di.update _ _<|by assumption).trans<|by assumption|exact di.trans (by assumption)<|by assumption)
theorem FA {i:GenResult}(h:Wakes M y p g r s i a):di n s.heap a.heap:=by
 have j:∀{k} {l} {t} {m},(∃b d,Runs M k l t m (s.setGen g .running) b d/\b.quiet=I/\i=b.result/\a=d.setGen g b.genState)->di n s.heap a.heap:=λh=>
  jB h λ_ d q _ _ e=>e▸(yx q:di n (s.setGen g .running).heap d.heap)
 have f:∀{P} {x},P/\a=x->x.heap=s.heap->di n s.heap a.heap:=λh e=>h.2▸e▸di.refl _ _
 unfold Wakes at h
 revert h
 cases s.gens[g]? with
 |none=>exact λh=>h.elim
 |some c=>cases c with
  |fresh c=>cases r with
   |send v=>cases v with
    |none=>exact j
    |_=>exact λh=>f h rfl
   |throw x=>exact λh=>f h rfl
  |suspended=>exact j
  |_=>exact λh=>f h rfl
theorem I3 (M) (z) (n) (y)(t:Sem X):∀b d p s,di n y s.heap->Sem.wp M z t b d p s->
  Sem.wp M z t (λa x l=>di n y l.heap/\b a x l) (λe x l=>di n y l.heap/\d e x l) p s:=by
 induction t with
 |pure a=>intro b d p s i h;exact ⟨i,h⟩
 |raise e=>intro b d p s i h;exact ⟨i,h⟩
 |unsupported _=>intro b d p s _ h;exact h
 |finish _=>intro b d p s _ h;exact h
 |rule _ k j=>intro b d p s i h;exact j () b d p s i h
 |«at» x k j=>intro b d p s i h;exact j () b d x s i h
 |load a _ k j=>intro b d p s i h;refine aK h ?_;clear h;intro o O h;exact ⟨o,O,j o b d p s i h⟩
 |update a _ f k j=>intro b d p s i h;exact ⟨h.1,j () b d p _ (i.trans<|di.update n f h.1) h.2⟩
 |loadIfAlive a k j=>intro b d p s i h;exact j _ b d p s i h
 |point _ k j=>intro b d p s i h;exact j () b d p s i h
 |register _ _=>intro b d p s _ h;exact h
 |alloc o k j=>intro b d p s i h;exact j _ b d p _ (i.trans<|di.push n s.heap o) h
 |fresh k j=>intro b d p s i h;exact j _ b d p _ i h
 |ask k j=>intro b d p s i h;exact j _ b d p s i h
 |choose a0 m k j=>intro b d p s i h;exact ⟨h.1,j _ b d p _ i h.2⟩
 |os q _ k j=>intro b d p s i h;exact j _ b d p _ i h
 |call c hd _ _ k j=>intro b d p s i h;refine hg h ?_;clear h;intro r l A h;exact ⟨r,l,A,j r b d p l (i.trans<|yx A) h⟩
 |handled a1 k j=>intro b d p s i h;exact j _ b d p s i h
 |genState g k j=>intro b d p s i h;refine aK h ?_;clear h;intro st P h;exact ⟨st,P,j _ b d p s i h⟩
 |newGen c k j=>intro b d p s i h;exact j _ b d p _ i h
 |resume g r _ k j=>intro b d p s i h;refine hg h ?_;clear h;intro res l B h;exact ⟨res,l,B,j res b d p l (i.trans<|FA B) h⟩
 |yield _ _ _ _=>intro b d p s _ h;exact h
 |stack k j=>intro b d p s i h;exact j _ b d p s i h
 |fork _ _=>intro b d p s _ h;exact h
 |thread k j=>intro b d p s i h;exact j _ b d p s i h
 |await _ _ _ _ _=>intro b d p s _ h;exact h
theorem BG {t:Sem f}{c:f->az->Prop}(h:av M A t c g s):
  av M A t (λa b=>di s.heap.objs.size s.heap b.heap/\c a b) (λe b=>di s.heap.objs.size s.heap b.heap/\g e b) s:=λd p i=>I3 M d s.heap.objs.size s.heap t _ _ p s (di.refl _ _)<|h d p i
theorem mY {t:Sem d}{c:d->az->Prop} 
  (h:av M A t (λa b=>s.heap.objs.size<=b.heap.objs.size->c a b) (λe b=>s.heap.objs.size<=b.heap.objs.size->f e b) s):av M A t c f s:=
 ej (BG h) (λ_ _ x=>x.2 (x.1<|aT _).1) λ_ _ x=>x.2 (x.1<|aT _).1
theorem G_ {t:Sem d}{c:d->az->Prop} 
  (h:av M A t (λa b=>(s.heap.objs.size<=b.heap.objs.size/\∀a:Z,a<s.heap.objs.size->s.heap.get? a=T->b.heap.get? a=T)->c a b) e s):av M A t c e s:=
 ej (BG h) (λ_ _ x=>x.2<|x.1<|aT _) λ_ _ x=>x.2
section
variable {w:aM}{b:Heap}{e:aA}{l:List aA}{g:G}{c:List Z}{s:az}{f:Y}{d:R}{i:Ev}{A:bu}{h a:Heap}
theorem Od {k:Z}{m:ae->Option ah}{x:ae}{v:ah}{a0:Unit->az->Prop}{a5:ah->az->Prop}(a6:s.heap.Ns k m)
  (h:∀a,a.Ns k (λy=>if y=x then H v else m y)->Heap.SameBut k s.heap a->(∀o M,s.heap.get? k=H o->a.get? k=H M->M.cls=o.cls)->a0 () {s with heap:=a,toks:=s.toks+1}):
  av (ak PR w) A (nsSet k x v) a0 a5 s:=by
 refine mL (id a6) ?_;rintro ⟨cl,a1,b1,a2⟩ j a7 r hd O hm
 simp only at hd
 subst hd
 have a8:j.any (·.refKey)=N:=by
  rw [Array.any_eq_false']
  intro P he
  refine dx (O P he) λn t q=>?_
  simp [R7,q]
 refine aF<|aF<|Ee<|bp<|aF<|Ef<|aF<|mi r ?_
 dsimp only
 have c':(!j.any (·.key.isStr x) && j.any (·.refKey))=N:=by refine J a8 ?_;rw [tc]
 rewrite [Eg];refine J c' ?_
 refine Eh r ?_
 have a9:∀a3,∃p X,hB x a3 (.str x s.toks) v ⟨cl,a1,.dict j a7,a2⟩=⟨cl,a1,.dict p X,a2⟩/\StrKeys p/\∀y,nsFind p y=if y=x then H v else m y:=by
  intro a3
  refine J Obj.putName_eq ?_
  unfold Obj.putNameByArray
  dsimp only
  cases a4:j.findIdx? (·.key.isStr x) with
  |some b0=>
   refine ⟨_,_,rfl,O.modify _ _,λy=>?_⟩
   rw [<-hm]
   exact findBy_modify (λn u=>u.isStr n) Value.isStr_inj j x y v b0 a4
  |none=>
   refine ⟨_,_,rfl,O.push _ _ _ _,λy=>?_⟩
   rw [<-hm]
   refine findBy_push (λn u=>u.isStr n) j x y _ _ v (λz=>?_) a4
   by_cases q:z=x
   .subst q;rfl
   .have:¬x=z:=λP=>q P.symm
    simp [R6,q,this]
 obtain ⟨p,X,e1,e2,e3⟩:=a9 _
 have B:=Heap.get?_update_self (hB x _ (.str x s.toks) v) r<|by refine J e1 ?_;rfl
 replace B:=e1▸B
 refine h _ ⟨_,p,X,B,rfl,e2,e3⟩ (Heap.SameBut.update ..) λo M q q'=>?_
 rw [r] at q;refine aG q ?_;clear q;rintro rfl
 rw [B] at q';refine aG q' ?_;clear q';rintro rfl
 rfl
theorem FF.ne_data (x:FF b g h l)(j:h.get? r=H o)(n:∀m k,o.data≠.dict m k):∀j∈l,j.frame≠H r:=λt y q=>by
 refine aL (x t y) ?_;intro _ zz;refine fe zz ?_;clear zz;rintro L M z p _ ⟨m,k,B⟩ _
 rw [z] at q;refine aG q ?_;clear q;rintro rfl
 rw [j] at p;refine aG p ?_;clear p;rintro rfl
 exact n m k B
theorem FN (h:fW f x=T):∀y j,f.own=H (y,j)->y≠x:=λy j k z=>by
 unfold fW at h;rw [k] at h;simp [z] at h
set_option tactic.hygienic true in
theorem Go.ON {x:ae}{v:E}{a2:ah}{m:ae->Option ah}(t:ST w b g h e l f d c)(a8:h.Ns e.locals m)(a9:fW f x=T)(a6:a.Ns e.locals λy=>if y=x then H a2 else m y)(X:Heap.SameBut e.locals h a)(a3:∀o o',h.get? e.locals=H o->a.get? e.locals=H o'->o'.cls=o.cls)
  (b0:aZ x f.scope=H .local) (b3:aq w g v a2):Go w b e l g h c g a c {f with vals:=bc x v f.vals} d:=by
 have p:=t.fr.bb
 have P:∀r o,r≠e.locals->h.get? r=H o->a.get? r=H o:=λr o n q=>(X.2 r n).trans q
 have O:=t.sr
 obtain ⟨c0,b4,b5,hw⟩:=t.fr.vals
 obtain rfl:=Heap.Ns.one a8 b4
 refine ⟨⟨G.Le.refl g,bh X.1.symm,λ_ _ q=>.inl q,λ_ _ q=>.inl q,λr o q _ _ np=>.inl<|P r o (λz=>np<|.inl z) q⟩,.inl rfl,
  ⟨λr o q=>P r o (λz=>by rw [z,p.base] at q;exact ao q)<|O.base r o q,λr o q=>P r o (λz=>p.F o<|z▸q)<|O.fz r o q,λj a4 q=>(O.st j a4 q).keep λr o z q=>P r o (λzz=>by refine aC z ?_;clear z;intro j z;exact p.ν j<|zz▸z) q,O.dA,λj r q=>by refine J X.1 ?_;exact O.da j r q,O.fC,O.inj,by refine J X.1 ?_;exact O.low,O.hF,λj r q=>let ⟨o,p',z⟩:=O.fb j r q;⟨o,P r o (λzz=>p.ν j<|zz▸q) p',z⟩⟩,
  ⟨t.fr.fn,t.fr.glob,t.fr.blt,t.fr.kinds,⟨_,a6,λy u B k=>?_,?_⟩,λy u B k=>?_,λy M q=>?_,t.fr.gu,t.fr.eE,p,t.fr.f_⟩,t.tb.but X p.tab,λB he=>?_,t.dep,t.top⟩
 .rw [kS] at B
  by_cases q:x=y
  .subst q;rw [if_pos rfl] at B;refine aG B ?_;clear B;rintro rfl;exact ⟨a2,if_pos rfl,b3⟩
  .rw [if_neg q] at B
   refine aK (b5 y u B k) λa5 a0 r=>?_
   exact ⟨a5,by refine J (if_neg λz=>q z.symm) ?_;exact a0,r⟩
 .refine hw.imp (λy a4 q x=>?_) id
  refine aL x ?_;clear x;intro k zz;refine aK zz ?_;clear zz;intro a0 r M
  refine ⟨k,a0,by refine J (if_neg<|FN a9 y a4 q) ?_;exact r,?_⟩
  exact M.ext (bt.but (c:=b) (g:=g) X) λr b6 z=>t.fr.f_<|z▸b6
 .rw [kS] at B
  by_cases q:x=y
  .subst q;rw [b0] at k;rcases k with k|k<;>cases k
  .rw [if_neg q] at B
   obtain ⟨M,a5,a0,r,a1⟩:=t.fr.cell y u B k
   have a3:=(t.fr.cells y M a0).2.2.2.1
   refine aK r ?_;clear r;intro o b1 b2
   exact ⟨M,a5,a0,⟨o,P M o a3 b1,b2⟩,a1⟩
 .refine iw (t.fr.cells y M q) ?_;rintro ⟨u,o,b1,b2⟩ z1 z2 z3 z4
  exact ⟨⟨u,o,P M o z3 b1,b2⟩,z1,z2,z3,z4⟩
 .refine aL (t.ff B he) λx1 zz=>fe zz λL o q M a1 b7 a7=>?_;clear zz
  by_cases z:L=e.locals
  .subst z
   refine kv (id a6) λo' b8 b9 e' d' _=>?_
   exact ⟨x1,_,o',q,e',(a3 o o' M e').trans a1,⟨b8,b9,d'⟩,a7⟩
  .exact ⟨x1,L,o,q,P L o z M,a1,b7,a7⟩
theorem Go.KZ {x:ae}{O:Z}{v:E}{a3:ah}(t:ST w b g h e l f d c)(a1:e.cells.lookup x=H O)(a5:a.IsCell O<|H a3)(P:Heap.SameBut O h a)(c1:fW f x=T)
  (a6:aZ x f.scope=H .cell) (a8:x∉f.sealed) (a9:aq w g v a3):Go w b e l g h c g a c {f with vals:=bc x v f.vals} d:=by
 refine cK (t.fr.gu x a6) λc' a4 b0 pc=>?_
 rw [a1] at a4;refine aG a4 ?_;clear a4;rintro rfl
 have p:=pc a8
 refine iw (t.fr.cells x O a1) ?_;rintro ⟨c2,c3,b3,d0⟩ _ _ b4 b5
 have X:∀r o,r≠O->h.get? r=H o->a.get? r=H o:=λr o n q=>(P.2 r n).trans q
 have B:=t.sr
 obtain ⟨m,b6,b7,hw⟩:=t.fr.vals
 refine ⟨⟨G.Le.refl g,bh P.1.symm,λ_ _ q=>.inl q,λ_ _ q=>.inl q,λr o q _ _ np=>.inl<|X r o (λz=>np<|.inr<|.inl ⟨b0,x,z▸a1⟩) q⟩,.inl rfl,
  ⟨λr o q=>X r o (λz=>by rw [z,p.base] at q;exact ao q)<|B.base r o q,λr o q=>X r o (λz=>p.F o<|z▸q)<|B.fz r o q,λj a7 q=>(B.st j a7 q).keep λr o z q=>X r o (λzz=>by refine aC z ?_;clear z;intro j z;exact p.ν j<|zz▸z) q,B.dA,λj r q=>by refine J P.1 ?_;exact B.da j r q,B.fC,B.inj,by refine J P.1 ?_;exact B.low,B.hF,λj r q=>let ⟨o,p',z⟩:=B.fb j r q;⟨o,X r o (λzz=>p.ν j<|zz▸q) p',z⟩⟩,
  ⟨t.fr.fn,t.fr.glob,t.fr.blt,t.fr.kinds,⟨m,b6.sameBut P<|fu b4,λy u M k=>?_,?_⟩,λy u M k=>?_,λy a0 q=>?_,t.fr.gu,t.fr.eE,t.fr.bb,t.fr.f_⟩,t.tb.but P p.tab,t.ff.but P (t.ff.ne_data b3 λc4 k q=>by rw [d0] at q;cases q),t.dep,t.top⟩
 .rw [kS] at M
  by_cases q:x=y
  .subst q;rw [a6] at k;cases k
  .rw [if_neg q] at M;exact b7 y u M k
 .refine hw.imp (λy a7 _ x=>?_) id
  refine aL x ?_;clear x;intro k zz;refine aK zz ?_;clear zz;intro a2 r q
  exact ⟨k,a2,r,q.ext (bt.but (c:=b) (g:=g) P) λr b8 z=>b5<|z▸b8⟩
 .rw [kS] at M
  by_cases q:x=y
  .subst q;rw [if_pos rfl] at M;refine aG M ?_;clear M;rintro rfl;exact ⟨O,a3,a1,a5,a9⟩
  .rw [if_neg q] at M
   obtain ⟨a0,b9,a2,r,c0⟩:=t.fr.cell y u M k
   have:a0≠O:=λz=>q<|t.fr.eE x y O a1<|z▸a2
   refine aK r ?_;clear r;intro o b1 b2
   exact ⟨a0,b9,a2,⟨o,X a0 o this b1,b2⟩,c0⟩
 .refine iw (t.fr.cells y a0 q) ?_;rintro ⟨u,o,b1,b2⟩ z1 z2 z3 z4
  by_cases z:a0=O
  .subst z;exact ⟨⟨_,a5⟩,z1,z2,z3,z4⟩
  .exact ⟨⟨u,o,X a0 o z b1,b2⟩,z1,z2,z3,z4⟩
end
end
mutual
open Mine
def hO:G->Heap->List Z->Unit->Unit->Prop:=λ_ _ _ _ _=>True
abbrev sf (o:Option Y)(a:R):Cp Unit:=λk _=>bw o λb=>k () b a
section
variable {w:aM}{d:Heap}{e:aA}{l:List aA}{g:G}{b:List Z}{s:az}{f:Y}{a:R}{i:Ev}{A:bu}{h c:Heap}
theorem kf (n:ST w d g s.heap e l f a b) (x)(a0:aq w g v a5):
  W w d e l g b s hO (sf (eD f x v) a) λa3 a1=>av (ak PR w) A (Es e x a5) a3 a1 s:=by
 refine W.bw λa6 j k X a2 a3 a1 k1 k2=>?_
 have j:(match f.sealed.contains x||(fW f x).isSome with|I=>T|N=>vi f x v<|aZ x f.scope)=H a6:=j
 cases t:f.sealed.contains x||(fW f x).isSome with
 |true=>rw [t] at j;exact ao j
 |false=>
  replace j:=t▸j
  refine aL (D_.mp t) λy r=>?_
  have y:x∉f.sealed:=λz=>jY<|y.symm.trans<|xC.mpr z
  have r:fW f x=T:=Option.isSome_eq_false_iff.mp r|>Sn.mp
  cases p:aZ x f.scope with
  |none=>rw [p] at j;exact ao j
  |some a7=>
   rw [p] at j
   cases a7 with
   |«local»=>
    obtain rfl:=bf j
    obtain ⟨m,a4,_,_⟩:=n.fr.vals
    have a8:(e.scope.kind==.class||e.scope.kind==.module && e.locals !=e.globals)=N:=by refine J n.fr.fn ?_;rfl
    rw [PySem.storeName_local (DA n p) a8]
    exact Od a4 λc B M O=>k1 () _ a a2 g () c _ b (Go.ON n a4 r B M O p a0) trivial
   |cell=>
    obtain rfl:=bf j
    refine aK (n.fr.gu x p) λa9 P _=>?_
    refine aL (n.fr.cells x a9 P) ?_;rintro ⟨u,O⟩ _
    rcases n.fr.kinds x _ p with q|⟨q,_⟩
    .exact wpAny_storeName_cell n.fr.fn q P O λc B M=>k1 () _ a a2 g () c _ b (Go.KZ n P B M r p y a0) trivial
    .cases q
   |_=>exact ao j
theorem yH:∀n j k,k.length=j+n->iG k j n=k.drop j
 |0,j,k,h=>by refine J (show iG k j 0=[] from rfl) ?_;exact J (List.drop_eq_nil_of_le<|ay (bh h)<|by simp+arith only) rfl
 |n+1,j,k,h=>by
  simp only [Qw,yH n (j+1) k<|mG h<|by simp+arith only]
  have m:j<k.length:=by exact ay (bh h.symm)<|by simp+arith only
  refine J (xM m) ?_;refine J List.getD_eq_getElem?_getD ?_;refine J (iQ m) ?_;rfl
def LZ (w:aM)(n:Nat):G->Heap->List Z->List E->List ah->Prop:=λg _ _ v j=>aQ w g v j/\iG v 0 n=v
theorem CO (O:AC A l)(p:ST w d g s.heap e l f a b)(n:Nat){v:E}{P:ah}(X:aq w g v P):
  W w d e l g b s (LZ w n) (lf (gy a v n) f a) λa0 a1=>av (ak PR w) A (unpackItems P n T) a0 a1 s:=by
 refine W.oo λus j=>W.ret p λa0 a1 a2=>mY ?_
 refine zb (show (l_<|res a v).bind _=_ from j) λm ex j=>?_
 revert j
 cases t:aP<|m.length=n with
 |false=>exact λh=>ao h
 |true=>
  intro j
  obtain rfl:=bf j
  have t:=of_decide_eq_true t
  have a3:iG m 0 n=m:=yH n 0 m<|t.trans (th n).symm
  rcases rv ex with j|j
  .obtain ⟨a4,o,y,rfl,z,⟨a5,k,rfl⟩,r⟩:=p.sr.fU X j
   refine J (show n=y.toArray.size by rw [gJ,<-r.length,t]) ?_
   refine wpAny_unpackItems_tuple O.hand ⟨_,z,rfl,k,rfl⟩ λc x B=>?_
   exact a2 g _ c s.toks b (Go.grow p ((λc x M o q=>x M o (cA<|Heap.lt_size q) q) c x) B) ⟨by show aQ w g m y.toArray.toList;simpa using r,a3⟩
  .obtain ⟨a4,o,y,rfl,z,⟨a5,k,rfl⟩,r⟩:=p.sr.fS X j
   refine J (show n=y.toArray.size by rw [gJ,<-r.length,t]) ?_
   refine kun_itemsOf O.hand ⟨_,z,rfl,k,rfl⟩ λc x B=>?_
   exact a2 g _ c s.toks b (Go.grow p ((λc x M o q=>x M o (cA<|Heap.lt_size q) q) c x) B) ⟨by show aQ w g m y.toArray.toList;simpa using r,a3⟩
theorem Dn {x:Option n}{j:n->Option p}{k:p->Prop}(h:bw (x.bind j) k):bw x λm=>bw (j m) k:=by
 cases x with
 |none=>exact h
 |some m=>exact h
theorem zh:∀(M:List ae)(j:List E)(m:List ah)(f:Y)(a:R)(g:G)(b:List Z)(s:az),ST w d g s.heap e l f a b->aQ w g j m->
  W w d e l g b s hO (sf (oi f M j) a) λq y=>av (ak PR w) A (lh (M.map λn=>Et e n) m) q y s
 |[],[],m,f,a,g,b,s,p,r=>by
  exact W.ret p λq y k=>Eu<|k _ _ _ s.toks _ (Go.refl p) trivial
 |x::B,v::j,m,f,a,g,b,s,p,r=>by
  obtain ⟨a7,t,rfl,P,z⟩:=ep r
  refine W.pre (y:=λk X=>sf (eD f x v) a (λ_ f a=>bw (oi f B j) λf=>k () f a) X) (λ_ _ h=>Dn h) ?_
  refine W.imp (λq y h=>Ew<|bindName_ h) ?_
  exact W.bind (a9:=λ_ f a k X=>sf (oi f B j) a k X) (K:=λ_ a0 q y=>av (ak PR w) A (lh (B.map λn=>Et e n) t) q y a0) (kf p x P) λ_ a1 a2 a3 _ a4 a5 a6 O _=>zh B j t a1 a2 a3 a6 {s with heap:=a4,toks:=a5} O.st<|aQ.mono O.ext.le _ _ z
 |[],_::_,m,f,a,g,b,s,p,r=>W.stuck
 |_::_,[],m,f,a,g,b,s,p,r=>W.stuck
end
end
mutual
section
variable {w:aM}{c:Heap}{e:aA}{l:List aA}{g:G}{b:List Z}{s:az}{f:Y}{a:R}{d:Ev}{A:bu}{h i:Heap}
theorem uB:∀e,j.all dn=I->ti j e=j.map λt=>(N,fv t e):=by
 induction j with
 |nil=>
  intro e _
  exact rfl
 |cons t r m=>
  intro e k
  rw [xH,eI] at k
  refine aW dQ▸m e k.2▸?_
  cases t<;>first|rfl|(exact absurd k.1 jY)
theorem Ib (h:fW f y=H j):f.own=H (y,j):=by
 unfold fW at h
 cases k:f.own with
 |none=>rw [k] at h;exact ao h
 |some p=>
  rw [k] at h
  obtain ⟨z,o⟩:=p
  have h:(if z=y then H o else T)=H j:=h
  by_cases q:z=y
  .rw [if_pos q] at h;refine J q ?_;exact J (bf h) rfl
  .rw [if_neg q] at h;exact ao h
theorem M3 (m):∀j B f a g b s,ST w c g s.heap e l f a b->aQ w g j B->
  W w c e l g b s hO (sf (kF f m j) a) λn y=>av (ak PR w) A (lh (m.map λt=>fv t e) B) n y s:=by
 induction m with
 |nil=> 
  intro j B f a g b s M r
  cases j with
  |nil=>exact W.ret M λn y k=>Eu<|k _ _ _ s.toks _ (Go.refl M) trivial
  |cons _ _=>exact W.stuck
 |cons t m a0=>
  intro j B f a g b s M r
  cases j with
  |nil=>exact W.stuck
  |cons v j=>
  obtain ⟨b0,q,rfl,a1,z⟩:=ep r
  cases O:hr t with
  |none=>
   have a2:kF f (t::m) (v::j)=T:=by show (hr t).bind _=_;refine J O ?_;rfl
   refine J a2 ?_;exact W.stuck
  |some x=>
   refine aC (oB O) ?_;rintro p rfl
   refine W.pre (y:=λk X=>sf (eD f x v) a (λ_ f a=>bw (kF f m j) λf=>k () f a) X) (λ_ _ h=>Dn (j:=λf=>kF f m j) h) ?_
   refine W.imp (λn y h=>Ew<|xN h) ?_
   exact W.bind (a9:=λ_ f a k X=>sf (kF f m j) a k X) (K:=λ_ a3 n y=>av (ak PR w) A (lh (m.map λt=>fv t e) q) n y a3) (kf M x a1) λ_ a4 a5 a6 _ a7 a8 a9 P _=>a0 j q a4 a5 a6 a9 {s with heap:=a7,toks:=a8} P.st<|aQ.mono P.ext.le _ _ z
theorem Cn (a5:AC A l)(a6:ST w c g s.heap e l f a b){j:List aD}(O:j.all dn=I)(k:Nat)(a7:Pos){v:E}{P:ah}(a8:aq w g v P){β:Type}{a2:G->Heap->List Z->β->Unit->Prop}{a3:List E->Cp β}
  (y:∀p q z r B M,Go w c e l g s.heap b q r M f a->aQ w q p z->W w c e l q M {s with heap:=r,toks:=B} a2 (a3 p) λn m=>av (ak PR w) A (lh (j.map λt=>fv t e) z) n m {s with heap:=r,toks:=B}):
  W w c e l g b s a2 (λk X=>wp (gy a v j.length) λp=>a3 (iG p 0 j.length) k X) λn m=>av (ak PR w) A (fv (.Tuple j k a7) e P) n m s:=by
 have e1:(ti j e).length=j.length:=by refine J (uB e O) ?_;rw [cb]
 have e2:(ti j e).findIdx? (·.1)=T:=by
  refine J (uB e O) ?_;rewrite [List.findIdx?_eq_none_iff]
  intro x a9
  refine zl a9 ?_;rintro t _ rfl
  rfl
 have e3:(ti j e).map (·.2)=j.map λt=>fv t e:=by refine J (uB e O) ?_;refine J List.map_map ?_;rfl
 refine W.imp (P:=λn m=>av (ak PR w) A (unpackItems P j.length T) (λa0 a1=>av (ak PR w) A (lh (j.map λt=>fv t e) a0) n m a1) m s) (λn m h=>?_) ?_
 .rw [assign_Tuple]
  refine aF<|tg ?_
  unfold unpack
  refine aW e1▸aW e2▸aW e3▸?_
  exact aF<|xy h
 .exact W.lift (K:=λa0 a1 n m=>av (ak PR w) A (lh (j.map λt=>fv t e) a0) n m a1) (CO a5 a6 j.length a8) λp q z r B M b0 a4=>by
   refine J a4.2 ?_
   exact y p q z r B M b0 a4.1
theorem zS (z:AC A l)(m:ST w c g s.heap e l f a b) (t)(n:aq w g v B):
  W w c e l g b s hO (λk X=>eu f a t v λf=>k () f a) λq r=>av (ak PR w) A (fv t e B) q r s:=by
 cases t with
 |Name x p=>exact W.imp (λq r h=>xN h)<|kf m x n
 |Tuple y k M=>
  refine W.cJ λO=>?_
  exact Cn z m O k M n (a3:=λj=>sf (kF f y j) a) λj P a0 a4 a5 a1 a2 a3=>M3 y j a0 f a P a1 _ a2.st a3
 |_=>exact W.stuck
theorem AE {K:aU}(a0:bz w c d)(b0:K.In c)(KF:KB K)(a1:AC A l)(M:ST w c g s.heap e l f a b)(t:aD){v:E}{a2:ah}(O:aq w g v a2):
  W w c e l g b s hO (λk X=>rL d.eval f a t v (k ()) X) λj m=>av (ak PR w) A (fv t e a2) j m s:=by
 cases t with
 |Name x p=>exact W.imp (λj m h=>xN h)<|kf M x O
 |Attribute o P b1=>
  have b2:W w c e l g b s hO (λk X=>d.eval f a o (λa3 f a=>wp (setField a a3 P v) λa=>k () f a) X) λj m=>av (ak PR w) A (fv (.Attribute o P b1) e a2) j m s:=by
   refine W.imp (λj m h=>xO h) ?_
   refine W.bind (a0.eval o f a e l A g b s a1 M) λa3 a4 b3 a5 b4 b5 b6 a6 q a7=>?_
   exact W.oo λa8 b7 k X n j m r k2=>Gr b0 KF q.st a7 (aq.mono q.ext.le _ _ O) b7 λi z B=>r () a4 a8 n a5 () i z a6 B trivial
  show W w c e l g b s hO (λk X=>yT d.eval f a o P v (hr o) (k ()) X) _
  cases b8:hr o with
  |none=>exact b2
  |some y=>
   refine aC (oB b8) ?_;rintro p' rfl
   show W w c e l g b s hO (λk X=>yJ d.eval f a (.Name y p') P v y (fW f y) (k ()) X) _
   cases b9:fW f y with
   |none=>exact b2
   |some c0=>cases c0 with
    |inst c9 d0=>
     refine W.cJ λa9=>?_
     simp only [eI,decide_eq_true_eq] at a9
     refine aL a9 ?_;clear a9;rintro ⟨hf,c1⟩ c2
     exact λk X n j m r k2=>xO<|IJ b0 KF M (Ib b9) O hf c1 c2 λi z o=>r () _ a n g () i z b o trivial
    |_=>exact W.stuck
 |Subscript o c3 b1=>
  refine W.imp (λj m h=>kas_sub h) ?_
  refine W.bind (a0.eval o f a e l A g b s a1 M) λa3 a4 b3 a5 b4 b5 b6 a6 q a7=>?_
  refine W.bind (a0.eval c3 a4 b3 e l A a5 a6 _ a1 q.st) λd1 c4 d2 c5 d3 d4 d5 c6 B c7=>?_
  exact λk X n j m r k2=>OO B.st (aq.mono B.ext.le _ _ a7) c7 (aq.mono (q.ext.le.trans B.ext.le) _ _ O) n λa8 n i z c8=>r () c4 a8 n c5 () i z c6 c8 trivial
 |_=>exact W.stuck
theorem Bx {K:aU}(B:bz w c d)(M:K.In c)(O:KB K)(P:AC A l):∀(j:List aD)(p:List E)(m:List ah)(f:Y)(a:R)(g:G)(b:List Z)(s:az),ST w c g s.heap e l f a b->aQ w g p m->
  W w c e l g b s hO (λk X=>ot d.eval f a j p (k ()) X) λx y=>av (ak PR w) A (lh (j.map λt=>fv t e) m) x y s
 |[],[],m,f,a,g,b,s,n,r=>by
  exact W.ret n λx y k=>Eu<|k _ _ _ s.toks _ (Go.refl n) trivial
 |t::j,v::p,m,f,a,g,b,s,n,r=>by
  obtain ⟨a8,q,rfl,a1,z⟩:=ep r
  refine W.imp (λx y h=>Ew h) ?_
  exact W.bind (a9:=λ_ f a k X=>ot d.eval f a j p (k ()) X) (AE B M O P n t a1) λa9 a2 a3 a4 _ a5 a6 a7 a0 _=>Bx B M O P j p q a2 a3 a4 a7 {s with heap:=a5,toks:=a6} a0.st<|aQ.mono a0.ext.le _ _ z
 |[],_::_,m,f,a,g,b,s,n,r=>W.stuck
 |t::j,[],m,f,a,g,b,s,n,r=>W.stuck
end
end
mutual
section
variable {w:aM}{c:Heap}{e:aA}{l:List aA}{g:G}{d:List Z}{s:az}{f:Y}{a:R}{b:Ev}{A:bu}{h i:Heap}
abbrev WS (w:aM)(c:Heap)(e:aA)(l:List aA)(A:bu)(g:G)(d:List Z)(s:az)(r:Cp Fl)(j:bM):Prop:=
 W w c e l g d s (jd w) r λk m=>av (ak PR w) A (exec j e) k m s
theorem nZ (h:iT j=I) (t) (k) (e):Ex j t k e=aS N:=by
 cases j<;>first|rfl|exact ff h
theorem tV (j:FR w c g h e f d):interactive e=N:=by
 unfold interactive
 refine J j.fn ?_;rfl
theorem K3 (t:bz w c b)(x:AC A l)(n:ST w c g s.heap e l f a d) (j) (p):WS w c e l A g d s (fV b.O b.eval b.execs f a<|.Expr j p)<|.Expr j p:=by
 refine W.cJ λy=>?_
 refine W.imp (λm q h=>Ey h (tV n.fr)<|nZ y _ _ _) ?_
 refine W.bind (K:=λ_ z m q=>m pQ z) (t.eval j f a e l A g d s x n) λv M O P X a0 B a1 r a2=>?_
 exact W.ret r.st λm q k=>k _ _ _ B _ (Go.refl r.st) rfl
theorem M9 (t:bz w c b)(x:AC A l)(n:ST w c g s.heap e l f a d) (j) (q):WS w c e l A g d s (fV b.O b.eval b.execs f a<|.Return j q)<|.Return j q:=by
 cases j with
 |none=>exact W.ret n λm p k=>wpAny_Return_none<|k _ _ _ s.toks _ (Go.refl n) ⟨_,rfl,jI⟩
 |some j=>
  refine W.imp (λm p h=>So h) ?_
  refine W.bind (K:=λv y m p=>m (Flow.ret v) y) (t.eval j f a e l A g d s x n) λv M O P X a0 z a1 r B=>?_
  exact W.ret r.st λm p k=>k _ _ _ z _ (Go.refl r.st) ⟨_,rfl,B⟩
theorem W.nx {r:Cp Unit}{P:(Unit->az->Prop)->(ah->az->Prop)->Prop}(x:W w c e l g d s hO r P):
  W w c e l g d s (jd w) (λk X=>r (λ_ f a=>k Fl.next f a) X) λj m=>P (λ_=>j pQ) m:=
 W.bind (a9:=λ_ f a k _=>k Fl.next f a) (K:=λ_ p j m=>j pQ p) x λ_ _ _ _ _ _ q _ n _=>W.ret n.st λ_ _ k=>k _ _ _ q _ (Go.refl n.st) rfl
theorem Pf (q:bz w c b)(r:AC A l)(t:ST w c g s.heap e l f a d) (x) (p) (j) (m)(n:iT j=I):
  WS w c e l A g d s (fV b.O b.eval b.execs f a<|.Assign [.Name x p] j m)<|.Assign [.Name x p] j m:=by
 show WS w c e l A g d s (λk X=>match iT j with
   |I=>b.eval f a j (λv f a=>bw (eD f x v) λf=>k .next f a) X
   |N=>dJ b.O b.eval f a j (λv f a=>bw (eD f x v) λf=>k .next f a) X) _
 refine J n ?_
 refine W.imp (λa0 a1 h=>Sp h<|nZ n _ _ _) ?_
 refine W.bind (q.eval j f a e l A g d s r t) λv y z a2 a3 B M a4 O P=>?_
 exact W.nx (r:=sf (eD y x v) z)<|kf (s:={s with heap:=B,toks:=M}) O.st x P
theorem aQ.reverse (r:aQ w g j k):aQ w g j.reverse k.reverse:=by
 induction j generalizing k with
 |nil=>obtain rfl:=fY r;exact gW
 |cons x j m=>
  obtain ⟨v,q,rfl,n,z⟩:=ep r
  simp only [Sq,Sq]
  exact (m z).append<|fQ n gW
set_option backward.match.sparseCases true in
theorem QW:∀{k} {m},ST w c g h e l f a d->pC f k n=H m->
  m.length=n.length/\∀r,(∀x p,r (.Name x p)=if (e.kindOf x==H .local && p.line==k)=I then H x else T)->n.filterMap r=m:=by
 induction n with
 |nil=>
  intro k m y j
  exact bf j▸⟨rfl,λ_ _=>rfl⟩
 |cons t n M=>
  intro k m y j
  refine zb (show (sJ t).bind _=_ from j) ?_;rintro ⟨x,p⟩ O j
  refine Cs O▸?_
  revert j
  cases z:aZ x f.scope==H .local && cC p.line k with
  |false=>exact λh=>ao h
  |true=>
   intro j
   refine zm j ?_;rintro a1 P rfl
   refine aL (M y P) λX a0=>?_
   have k1:e.kindOf x=H .local:=(y.fr.kinds x _<|beq_iff_eq.mp<|bl z).elim id λq=>nomatch q.1
   exact ⟨congrArg (·+1) X,λr B=>(List.filterMap_cons_some<|(B x p).trans<|if_pos<|(eI _ _).mpr ⟨beq_iff_eq.mpr k1,beq_iff_eq.mpr<|hC<|br z⟩).trans<|congrArg _<|a0 r B⟩
theorem Pp {j:List aD}(m:∀k,dn k=I->n k=N)(h:j.all dn=I):j.any n=N:=
 Sl.mpr λx p z=>ff<|(m x<|eU.mp h x p).symm.trans z
theorem NS (j:FR w c g h e f d):e.blockKind=.function:=by
 unfold Env.blockKind
 refine J j.fn ?_;rfl
theorem BC (h:nk j=H m):∃k p,j=.Tuple m k p:=by
 have go:∀v:EV,v.tu=H m->v.is j->∃k p,j=.Tuple m k p:=λv h o=>by
  cases v with
  |tuple n k p=>refine aG h ?_;clear h;rintro rfl;exact ⟨k,p,o⟩
  |_=>exact ao h
 exact go _ h<|EV.ok j
set_option backward.match.sparseCases true in
theorem Ly (n:pq f j p=.inOrder):Ez [.Tuple j k x] p e=aS T:=by
 have n:(match nk p with|H m=>lu f j m|T=>.inOrder)=k_.inOrder:=n
 cases q:nk p with
 |none=>cases p<;>first|rfl|exact ao q.symm
 |some m=>
  rw [q] at n
  refine dx (BC q) ?_;rintro y z rfl
  revert n
  show lu f j m=k_.inOrder->_
  unfold lu
  cases t:!(j.length==2||j.length==3) with
  |true=>
   exact λ_=>if_pos<|by refine J t ?_;rfl
  |false=>
   dsimp only
   cases m.length !=j.length||!m.all dn||m.all (DW 8)||m.all (DX 8) with
   |true=>exact λh=>nomatch h
   |false=>
    dsimp only
    cases pC f ((j.head?.map (·.pos.line)).getD 0) j with
    |none=>exact λh=>nomatch h
    |some r=>
     dsimp only
     cases r.eraseDups.length==r.length<;>exact λh=>nomatch h
theorem JE {j k:List ae}{m:List aD}(n:j=k)(p:k.length=m.length)(q:k.eraseDups.length=k.length):¬(j.length !=m.length||j.eraseDups.length !=j.length)=I:=by
 refine J n ?_;refine J q ?_;refine J p ?_;rewrite [bne_self_eq_false];exact jY
set_option backward.match.sparseCases true in
set_option tactic.hygienic true in
theorem L2 (B:ST w c g h e l f a d)(m:pq f j q=.back p):Ez [.Tuple j k a3] q e=aS (H p)/\p.length=j.length:=by
 have m:(match nk q with|H n=>lu f j n|T=>.inOrder)=k_.back p:=m
 cases r:nk q with
 |none=>rw [r] at m;exact nomatch m
 |some n=>
  rw [r] at m
  refine dx (BC r) ?_;rintro k2 p2 rfl
  revert m
  show lu f j n=k_.back p->_
  unfold lu
  cases X:!(j.length==2||j.length==3) with
  |true=>exact λh=>nomatch h
  |false=>
   dsimp only
   cases t:n.length !=j.length||!n.all dn||n.all (DW 8)||n.all (DX 8) with
   |true=>exact λh=>nomatch h
   |false=>
    simp only [D_] at t
    refine aL t ?_;clear t;rintro ⟨⟨h3,y⟩,h5⟩ h6
    cases a0:pC f ((j.head?.map (·.pos.line)).getD 0) j with
    |none=>exact λh=>nomatch h
    |some M=>
     dsimp only
     cases hd:M.eraseDups.length==M.length with
     |false=>exact λh=>nomatch h
     |true=>
      intro m
      cases m
      refine aL (QW B a0) λO P=>?_
      refine ⟨?_,O⟩
      have y:n.all dn=I:=by simpa using y
      have a1:p.eraseDups.length=p.length:=beq_iff_eq.mp hd
      refine (if_neg ?_).trans<|(if_neg λz=>ff<|(Pp (λa2 he=>by cases a2<;>first|rfl|exact ff he) y).symm.trans z).trans<|(if_neg ?_).trans<|(if_neg<|by refine J h5 ?_;exact jY).trans<|(if_neg<|by refine J h6 ?_;exact jY).trans ?_
      .refine J X ?_;refine J h3 ?_;refine J (NS B.fr) ?_;exact jY
      .exact JE (P _ λ_ _=>rfl) O a1
      .exact congrArg (λx=>aS<|H x)<|P _ λ_ _=>rfl
theorem LK {K:aU}(O:bz w c b)(b1:K.In c)(KF:KB K)(q:AC A l)(P:ST w c g s.heap e l f a d) (j) (k) (p) (m) (y):
  WS w c e l A g d s (fV b.O b.eval b.execs f a<|.Assign [.Tuple j k p] m y)<|.Assign [.Tuple j k p] m y:=by
 refine W.cJ (t:=λk X=>De b.eval f a j m k X<|pq f j m) λa8=>?_
 have b2:=bl a8
 have b3:=br a8
 have a9:swapsWithSole [.Tuple j k p] m y.line e=aS N:=nZ b2 (H<|.Tuple j k p) y.line e
 cases hw:pq f j m with
 |inOrder=>
  refine W.imp (λr t h=>Assign_Tuple h a9<|Ly hw) ?_
  refine W.bind (O.eval m f a e l A g d s q P) λv z B b4 b0 a0 a1 b5 a2 a3=>?_
  refine W.imp (P:=λr t=>av (ak PR w) A (fv (.Tuple j k p) e b0) (λ_=>r pQ) t {s with heap:=a0,toks:=a1}) (λ_ _ h=>h) ?_
  exact W.nx<|Cn (a2:=hO) (a3:=λx k X=>ot b.eval z B j x (k ()) X) q a2.st b3 k p a3 λx a4 a5 b6 b7 a6 a7 M=>Bx O b1 KF q j x a5 z B a4 a6 _ a7.st M
 |back ns=>
  refine aL (L2 (k:=k) (a3:=p) P hw) λb8 b9=>?_
  refine W.imp (λr t h=>Assign_Tuple_swapped h a9 b8) ?_
  refine W.bind (O.eval m f a e l A g d s q P) λv z B b4 b0 a0 a1 b5 a2 a3=>?_
  refine b9▸?_
  refine W.lift (K:=λc0 c1 r t=>av (ak PR w) A (lh (ns.reverse.map λn=>Et e n) c0.reverse) (λ_=>r pQ) t c1) (CO (s:={s with heap:=a0,toks:=a1}) q a2.st ns.length a3) λx a4 a5 b6 b7 a6 a7 M=>?_
  refine J M.2 ?_
  exact W.nx<|zh ns.reverse x.reverse a5.reverse z B a4 a6 _ a7.st M.1.reverse
 |odd=>exact W.stuck
theorem PX {K:aU}(r:bz w c b)(M:K.In c)(O:KB K)(y:AC A l)(P:ST w c g s.heap e l f a d) (t) (j) (m)(n1:∀x p,t≠.Name x p)(n2:∀n k p,t≠.Tuple n k p):
  WS w c e l A g d s (fV b.O b.eval b.execs f a<|.Assign [t] j m)<|.Assign [t] j m:=by
 have z:(ti [t] e).map (·.2)=[fv t e]->Ez [t] j e=aS T->
   WS w c e l A g d s (λk X=>cj (iT j && DQ t)<|b.eval f a j (λv f a=>rL b.eval f a t v (λf a=>k .next f a) X) X) (.Assign [t] j m):=λe1 e2=>by
  refine W.cJ λa0=>?_
  refine W.imp (P:=λB q=>av (ak PR w) A (cP j e) (λv a1=>av (ak PR w) A (fv t e v) (λ_=>B pQ) q a1) q s) (λB q h=>EA (by refine J e1 ?_;exact h) (nZ (bl a0) (H t) m.line e) e2) ?_
  refine W.bind (r.eval j f a e l A g d s y P) λv a6 a7 a8 a9 a2 a3 b0 a4 a5=>?_
  exact W.nx<|AE r M O y (s:={s with heap:=a2,toks:=a3}) a4.st t a5
 cases t with
 |Attribute o b1 p=>exact z rfl rfl
 |Subscript o b2 p=>exact z rfl rfl
 |Name x p=>exact absurd rfl<|n1 x p
 |Tuple n k p=>exact absurd rfl<|n2 n k p
 |_=>exact W.cJ λh=>ff<|br h
theorem P8 (j:bz w c b)(k:AC A l)(P:ST w c g s.heap e l f a d)(p:∃r,l=e::r) (t) (m n) (q):WS w c e l A g d s (fV b.O b.eval b.execs f a<|.If t m n q)<|.If t m n q:=by
 refine W.imp (λa3 a1 h=>wpAny_If h) ?_
 refine W.bind (mI j k 20 t f a g d s P) λx y z B X a2 a4 M O a0=>?_
 obtain rfl:x=X:=a0
 cases x
 .exact j.execs n y z e l A B M _ k O.st p
 .exact j.execs m y z e l A B M _ k O.st p
end
end
mutual
section
variable {w:aM}{b:Heap}{e:aA}{l:List aA}{g:G}{f:List Z}{s:az}{i:Y}{d:R}{c:Ev}{A:bu}{h a:Heap}
structure mE (k m:List Z)(h a:Heap):Prop where
 size:h.objs.size<=a.objs.size
 keep:∀j o,h.get? j=H o->j∉k->a.get? j=H o\/j∈m/\∃n,a.get? j=H {o with slots:=n}
theorem FF.mem (m:FF b g h l)(n:L∈l.filterMap (·.frame)):∃o,h.get? L=H o/\o.cls=.type "frame" /\(∃r k,o.data=.dict r k)/\bU b g L:=by
 refine aK (Sr.mp n) λt x j=>?_
 refine aL (m t x) λ_ zz=>fe zz λL' o q y z B p=>?_;clear zz
 rw [q] at j;refine aG j ?_;clear j;rintro rfl
 exact ⟨o,y,z,B,p⟩
theorem Go.mM (x:Go w b e l b7 b3 b8 g h [] (dW l)<|dE n)(a1:mE ex (l.filterMap (·.frame)) h a)
  (he:∀a9∈ex,bU b g a9/\b3.objs.size<=a9/\∃o a3,h.get? a9=H o/\o.data=.fields a3):Go w b e l b7 b3 b8 g a [] (dW l)<|dE n:=by
 have b0:∀B o,h.get? B=H o->(∀a3,o.data≠.fields a3)->B∉ex:=λB o M O m=>by
  refine dI (he B m) λ_ _ zz=>hg zz λo' a3 e' d'=>?_;clear zz
  rw [M] at e';refine aG e' ?_;clear e';rintro rfl
  exact O a3 d'
 have a8:∀B o,h.get? B=H o->B∉ex->(B∈l.filterMap (·.frame)->False)->a.get? B=H o:=λB o M m a2=>by
  rcases a1.keep B o M m with q|⟨q,_⟩
  .exact q
  .exact (a2 q).elim
 have a0:=x.st.sr
 have a4:=x.st.fr
 obtain ⟨m,b4,_,c1⟩:=a4.vals
 have ns:a.Ns e.locals m:=by
  refine kv b4 ?_;clear b4;intro o a6 a7 M O r
  rcases a1.keep _ o M<|b0 _ o M<|by refine J O ?_;exact λa3 q=>by exact nomatch q with q|⟨_,a5,q⟩
  .exact ⟨o,a6,a7,q,O,r⟩
  .exact ⟨_,a6,a7,q,O,r⟩
 refine ⟨⟨x.ext.le,ai x.ext.size a1.size,x.ext.Fn,x.ext.eF,λB o M q t p=>?_⟩,x.oa,⟨λB o M=>?_,λB o a2=>?_,λj c2 q=>ao q,a0.dA,λj B q=>⟨bE (a0.da j B q).1 a1.size,(a0.da j B q).2⟩,a0.fC,a0.inj,ai a0.low a1.size,a0.hF,λj B q=>?_⟩,
  ⟨a4.fn,a4.glob,a4.blt,λy k q=>ao q,⟨m,ns,λy v q=>ao q,.no⟩,λy v q=>ao q,λy X M=>?_,λy q=>ao q,a4.eE,a4.bb,by simp⟩,?_,λM b9=>?_,rfl,x.st.top⟩
 .have b5:B∉ex:=λz=>absurd (Heap.lt_size M)<|de.mpr (he B z).2.1
  rcases x.ext.keep B o M q t p with e1|⟨o1,e1,f1⟩
  .rcases a1.keep B o e1 b5 with e2|⟨hf,a5,e2⟩
   .exact .inl e2
   .refine cK (x.st.ff.mem hf) λo' X O _=>?_
    rw [e1] at X;refine aG X ?_;clear X;rintro rfl
    exact .inr ⟨_,e2,O,a5,rfl⟩
  .rcases a1.keep B o1 e1 b5 with e2|⟨_,a5,e2⟩
   .exact .inr ⟨o1,e2,f1⟩
   .refine aL f1 ?_;clear f1;intro X zz;refine aC zz ?_;clear zz;rintro c3 rfl
    exact .inr ⟨_,e2,X,a5,rfl⟩
 .refine a8 B o (a0.base B o M) (λz=>?_) λz=>?_
  .have:=(he B z).1.base;rw [M] at this;exact ao this.symm
  .refine ly (x.st.ff.mem z) λ_ _ _ _ p=>?_
   have:=p.base;rw [M] at this;exact ao this.symm
 .refine a8 B o (a0.fz B o a2) (λz=>(he B z).1.F o a2) λz=>?_
  refine ly (x.st.ff.mem z) λ_ _ _ _ p=>?_
  exact p.F o a2
 .refine aK (a0.fb j B q) λo p z=>?_
  refine ⟨o,a8 B o p (λm=>(he B m).1.ν j q) λm=>?_,z⟩
  refine ly (x.st.ff.mem m) λ_ _ _ _ p=>?_
  exact p.ν j q
 .refine iw (a4.cells y X M) ?_;rintro ⟨v,o,e1,O⟩ z1 z2 z3 _
  rcases a1.keep X o e1<|b0 X o e1<|by refine J O ?_;exact λa3 q=>by exact nomatch q with q|⟨_,a5,q⟩
  .exact ⟨⟨v,o,q,O⟩,z1,z2,z3,by trivial⟩
  .exact ⟨⟨v,_,q,O⟩,z1,z2,z3,by trivial⟩
 .have b1:∀{P b2 j q},ee P->eS g h P b2 j q->eS g a P b2 j q:=λ{P b2 j q} b6 t=>by
   refine aK t ?_;clear t;intro c0 M r
   refine ⟨c0,a8 P _ M (λz=>(he P z).1.tab b6) λz=>?_,r⟩
   refine ly (x.st.ff.mem z) λ_ _ _ _ p=>?_
   exact p.tab b6
  exact ⟨b1 (by exact .head _) x.st.tb.t1,b1 (by exact .tail _<|.head _) x.st.tb.t2,b1 (by exact cD (i:=2) rfl) x.st.tb.t3,x.st.tb.nf⟩
 .refine aL (x.st.ff M b9) ?_;intro k zz;refine fe zz ?_;clear zz;rintro L o q X O ⟨a6,a7,a2⟩ p
  rcases a1.keep L o X<|b0 L o X<|by refine J a2 ?_;exact λa3 q=>by exact nomatch q with z|⟨_,a5,z⟩
  .exact ⟨k,L,o,q,z,O,⟨a6,a7,a2⟩,p⟩
  .exact ⟨k,L,_,q,z,O,⟨a6,a7,a2⟩,p⟩
theorem FF.fun (t:FF b g h l):h.FunFrames (less h<|l.filterMap (·.frame)) l:=by
 have x:∀m,(∀j∈m,j∈l)->h.FunFrames (less h<|l.filterMap (·.frame)) m:=by
  intro m
  induction m with
  |nil=>intro _;trivial
  |cons j r y=>
   intro n
   refine aL (t j<|n j<|.head _) ?_;intro k zz;refine fe zz ?_;clear zz;rintro L o q B X ⟨a0,a1,M⟩ p
   exact ⟨k,⟨L,o,q,less_none<|Sr.mpr ⟨j,n j<|.head _,q⟩,B,λa2 z=>by rw [M] at z;exact nomatch z⟩,y λO P=>n O<|.tail _ P⟩
 exact x l λ_ h=>h
theorem ys {r:List aA}{L n:Z}{x:cT}{P:Array ah}{y:ah}{b2:Bool}{a2:Unit->az->Prop}{b3:ah->az->Prop}(b4:A.frames=H (e::r))(a3:FF b g s.heap<|e::r)(hf:e.frame=H L)
  (he:s.heap.get? n=H x) (X:x.data=.fields P) (b5:1<P.size)
  (h:∀a a0 a4 a5,mE [n] ((e::r).filterMap (·.frame)) s.heap a->a.get? n=H a0->a0.cls=x.cls->a0.data=.fields (P.setIfInBounds 1<|.ref s.heap.objs.size)->
   a.get? s.heap.objs.size=H a4->a4.data=.fields a5->a5[3]?=H (gI L)->a2 () {s with heap:=a}):
  av (ak PR w) A (do let j <-frameOf e;let p <-entryPlaceOf L b2;let t <-T8 y j .none (gI L) .none p;PySem.setField (.ref n) 1 t) a2 b3 s:=by
 have b6:n∉(e::r).filterMap (·.frame):=λhm=>by
  refine ly (a3.mem hm) ?_;rintro o t _ ⟨c1,c2,a6⟩ _
  rw [he] at t;refine aG t ?_;clear t;rintro rfl
  rw [X] at a6;cases a6
 refine aF<|wpAny_frameOf_fun b4 a3.fun hf λk B=>?_
 refine aF<|wpAny_entryPlaceOf λp b7=>?_
 refine aF<|pL ?_<|b7.sizeOk5 _ _ _ _ _
 have a7:k.get? n=H x:=(B.2.1 n b6).trans he
 have a1:k.objs.size=s.heap.objs.size:=B.1
 have b8:k.objs.size≠n:=dN<|Heap.lt_size a7
 have a8:=Heap.get?_push_of_some (h:=k) {cls:=.type "traceback",dict:=T,data:=.fields ([y,.ref L,.none,gI L,.none]++if p.isEmpty then EB 6 jZ else p).toArray} a7
 refine tj a8 X b5 ?_
 have a9:=EC X (·.setIfInBounds 1<|ic k.objs.size)
 have b9:=(Heap.get?_update_other (k.push {cls:=.type "traceback",dict:=T,data:=.fields ([y,.ref L,.none,gI L,.none]++if p.isEmpty then EB 6 jZ else p).toArray})
  (gf (·.setIfInBounds 1<|ic k.objs.size))<|fu b8).trans<|Heap.get?_push_size k rfl
 have b0:∀j o,j≠n->k.get? j=H o->((k.push {cls:=.type "traceback",dict:=T,data:=.fields ([y,.ref L,.none,gI L,.none]++if p.isEmpty then EB 6 jZ else p).toArray}).update n<|gf (·.setIfInBounds 1<|ic k.objs.size)).get? j=H o:=λj o M O=>by
  refine J (Heap.get?_update_other _ _<|fu M) ?_
  exact Heap.get?_push_of_some _ O
 refine h _ _ _ _ ⟨?_,λj o O m=>?_⟩ (Heap.get?_update_self (gf (·.setIfInBounds 1<|ic k.objs.size)) a8<|ED a9) (Obj.cls_mapFields _ _) (by refine J a9 ?_;exact J a1 rfl) (by refine rT a1 ?_;exact b9) rfl<|by rfl
 .rewrite [yO,DL];refine J a1 ?_;exact bZ _ _
 .have M:j≠n:=λz=>m<|by simp [z]
  by_cases b1:j∈(e::r).filterMap (·.frame)
  .refine aC (B.2.2 j o O) λc0 q=>?_
   exact .inr ⟨b1,c0,b0 j _ M q⟩
  .exact .inl<|b0 j o M<|(B.2.1 j b1).trans O
inductive sG (e:aA)(g:G)(n:Nat)(b:Heap)(h:Heap)(q:ah):Prop
 |mk (j:Z) (m:cT) (p:Array ah) (L:Z) (k:Z) (r:cT) (t:Array ah) (x:q=.ref j) (y:e.frame=H L) (z:h.get? j=H m) (B:m.cls=.ref 59) (M:m.data=.fields p) (O:1<p.size) (P:n<=j) (X:bU b g j) (h9:p[1]?=H (.ref k)) (a0:k≠j) (a1:n<=k) (a2:bU b g k) (a3:h.get? k=H r) (a4:r.data=.fields t) (a5:t[3]?=H (gI L)):sG e g n b h q
theorem rR (b3:l=e::r)(b1:AC A l)(x:Go w b e l b4 a4 b5 g s.heap [] (dW l)<|dE n)(X:XC b a4.objs.size e.frame g s.heap ev)
  (k:∀a,Go w b e l b4 a4 b5 g a [] (dW l) (dE n)->sG e g a4.objs.size b a ev->b6 () {s with heap:=a}):av (ak PR w) A (EE ev e) b6 c2 s:=by
 subst b3
 obtain ⟨B,a0,a5,rfl,j,e2,p,q,M,O,e7⟩:=X
 refine aL (x.st.ff e<|.head _) λ_ zz=>hg zz λL _ t _=>?_;clear zz
 unfold EE
 simp only [t]
 rcases e7 with e7|⟨y,a1,a2,c3,t1,b2,t3,t4,t5,t6,t7,t8⟩
 .refine aF<|iO j p e7 ?_
  refine ys b1.frames x.st.ff t j p q λa a6 a1 a2 a7 q1 q2 q3 q4 q5 q6=>?_
  have x':=x.mM a7 λa3 P=>by refine J (bW.mp P) ?_;exact ⟨O,M,a0,a5,j,p⟩
  have b7:=x.st.ar.mS
  refine k a x' ⟨B,a6,_,L,s.heap.objs.size,a1,a2,rfl,t,q1,q2.trans e2,q3,by simpa using q,M,O,by simp [q],fu<|cA<|Heap.lt_size j,x.ext.size,b7,q4,q5,q6⟩
 .refine aF<|iO j p t1 ?_
  refine aF<|iO t5 t6 t7 ?_
  rcases t8 with rfl|⟨L',a8,rfl⟩
  .refine J (if_neg<|show ¬(jZ==gI L)=I from by exact jY) ?_
   refine aF<|tj t5 t6 (pR.mp t7).1 ?_
   have a9:Heap.SameBut y s.heap<|s.heap.update y<|gf (·.setIfInBounds 3 jZ):=Heap.SameBut.update _ _ _
   have b8:mE [y] ((e::r).filterMap (·.frame)) s.heap<|s.heap.update y<|gf (·.setIfInBounds 3 jZ):=
    ⟨bh a9.1.symm,λa3 o b9 m=>.inl<|(a9.2 a3 λz=>m<|by simp [z]).trans b9⟩
   have x1:=x.mM b8 λa3 P=>by refine J (bW.mp P) ?_;exact ⟨t4,t3,a1,a2,t5,t6⟩
   have b0:(s.heap.update y<|gf (·.setIfInBounds 3 jZ)).get? B=H a0:=(a9.2 B<|fu b2).trans j
   refine ys (s:={s with heap:=s.heap.update y<|gf (·.setIfInBounds 3 jZ)}) b1.frames x1.st.ff t b0 p q λa a6 c0 c1 a7 q1 q2 q3 q4 q5 q6=>?_
   have x':=x1.mM a7 λa3 P=>by refine J (bW.mp P) ?_;exact ⟨O,M,a0,a5,b0,p⟩
   exact k a x' ⟨B,a6,_,L,_,c0,c1,rfl,t,q1,q2.trans e2,q3,by simpa using q,M,O,by simp [q],fu<|cA<|Heap.lt_size b0,x1.ext.size,x1.st.ar.mS,q4,q5,q6⟩
  .rw [t] at a8;refine aG a8 ?_;clear a8;rintro rfl
   refine J (if_pos<|by simp) ?_
   exact bp<|k s.heap x ⟨B,a0,a5,L,y,a1,a2,rfl,t,j,e2,p,q,M,O,t1,b2,t3,t4,t5,t6,t7⟩
theorem zr {r:List aA}{a0:G}{p:Heap}{a1:List Z}{n:Nat}{q:ah}{a2:ah->az->Prop}(a7:l=e::r)(b5:AC A l)(x:Go w b e l a0 p a1 g s.heap [] (dW l)<|dE n)(X:sG e g p.objs.size b s.heap q)
  (k:∀a,Go w b e l a0 p a1 g a [] (dW l) (dE n)->XC b p.objs.size e.frame g a q->a2 q {s with heap:=a}):cameBackBy (ak PR w) A e a2 q s:=by
 subst a7
 obtain ⟨a3,a8,a9,L,j,b0,a4,rfl,hf,t,e2,y,e4,e5,e6,B,a5,t3,t4,M,O,t7⟩:=X
 refine aF<|iO t y B ?_
 refine aF<|iO t y B ?_
 refine J hf ?_
 refine tj M O (pR.mp t7).1 ?_
 have P:Heap.SameBut j s.heap<|s.heap.update j<|gf (·.setIfInBounds 3<|gI L):=Heap.SameBut.update _ _ _
 have b1:mE [j] ((e::r).filterMap (·.frame)) s.heap<|s.heap.update j<|gf (·.setIfInBounds 3<|gI L):=
  ⟨bh P.1.symm,λa6 o b2 m=>.inl<|(P.2 a6 λz=>m<|by simp [z]).trans b2⟩
 have x1:=x.mM b1 λa6 b3=>by refine J (bW.mp b3) ?_;exact ⟨t4,t3,b0,a4,M,O⟩
 have hd:=EC O (·.setIfInBounds 3<|gI L)
 have b4:=Heap.get?_update_self (gf (·.setIfInBounds 3<|gI L)) M<|ED hd
 have h3:3<a4.size:=(pR.mp t7).1
 exact k _ x1 ⟨a3,a8,a9,rfl,(P.2 a3<|fu a5).trans t,e2,y,e4,e5,e6,.inr ⟨j,_,_,gI L,B,a5,t3,t4,b4,hd,by simp [h3],.inr ⟨L,hf,rfl⟩⟩⟩
end
end
mutual
open Mine
def vv (n:String):Bool:=! ["enumerate", "zip", "dict_itemiterator", "dict_reverseitemiterator", "odict_iterator", "itertools.zip_longest", "itertools.pairwise"].contains n
inductive zJ (w:aM)(A:bu)(g:G)(a:Z)(c:List E)(d:Nat->Heap->Prop):Prop
 |mk:∀e P,Walks PR w A a e [a] c.length P d->(∀i v,i<c.length->P i v->∃x,c[i]?=H x/\aq w g x v)->(∀b∈e,b=a\/∃o,g.F b o)->zJ w A g a c d
inductive DF (h:Heap)(a:Z):Prop
 |mk:∀o n b,h.get? a=H o->o.cls=.type n->o.data=.fields b->vv n=I->n≠ "frame" ->DF h a
structure kY (w:aM)(A:bu)(g:G)(a:Z)(c:List E)(b:Nat->Heap->Prop):Prop where
 walk:zJ w A g a c b
 obj:∀i h,b i h->DF h a
inductive Ah (w:aM)(b:Heap)(c:aA)(l:List aA)(A:bu)(d:Nat)(g:G)(h:Heap)(e:List Z)(f:List E)(i:ah):Prop
 |mk:∀a j,i=.ref a->kY w A g a f j->j 0 h->d<=a->bL b g c l e a->Ah w b c l A d g h e f i
def sj (w:aM)(a:Heap)(b:aA)(l:List aA)(A:bu)(c:Nat):G->Heap->List Z->List E->ah->Prop:=Ah w a b l A c
section
variable {w:aM}{b:Heap}{e:aA}{l:List aA}{g:G}{c:List Z}{s:az}{f:Y}{a:R}{d:Ev}{A:bu}{h i:Heap}
theorem kY.mono {k:Nat->Heap->Prop}(x:kY w A g n p k)(m:g.Le r):kY w A r n p k:=by
 obtain ⟨⟨t,P,B,j,M⟩,O⟩:=x
 exact ⟨⟨t,P,B,λX v lt q=>let ⟨x,y,z⟩:=j X v lt q;⟨x,y,aq.mono m _ _ z⟩,λj a0=>(M j a0).imp id λ⟨o,q⟩=>⟨o,m.F _ _ q⟩⟩,O⟩
set_option backward.match.sparseCases true in
theorem zW (m:s.heap.get? p=H o)(q:o.cls=.type n)(r:o.data=.fields z)(j:vv n=I)(k:x () s):
  av (ak PR w) A (letOwnedTupleGo t (.ref p) v) x B s:=by
 have y:["enumerate", "zip", "dict_itemiterator", "dict_reverseitemiterator", "odict_iterator", "itertools.zip_longest", "itertools.pairwise"].contains n=N:=by
  unfold vv at j
  simpa using j
 cases t<;>first
  |exact bp k
  |cases v with
   |ref M=>
    refine aF<|wpAny_load m ?_
    refine aW q▸aW r▸?_
    dsimp only
    refine J y ?_;rewrite [RJ]
    exact bp k
   |_=>exact bp k
theorem Go.turn {a5:G}{a2:Heap}{a6:List Z}{X:Z}{o:cT}(x:Go w b e l a5 a2 a6 g h c f a)(b4:h.get? X=H o)(b5:o.cls≠.type "frame")(a8:∀k o,k∉[X]->h.get? k=H o->i.get? k=H o)(a0:h.objs.size<=i.objs.size)
  (n:a2.objs.size<=X) (M:bL b g e l c X):Go w b e l a5 a2 a6 g i c f a/\bL b g e l c X:=by
 have O:∀k o,k≠X->h.get? k=H o->i.get? k=H o:=λk o q=>a8 k o<|by simpa using q
 have B:=x.st.sr
 have a3:∀{P a4 j q},ee P->eS g h P a4 j q->eS g i P a4 j q:=λ{P a4 j q} a9 t=>by
  refine aK t ?_;clear t;intro b0 m r
  exact ⟨b0,O P _ (λz=>M.bb.tab<|z▸a9) m,r⟩
 refine ⟨⟨⟨x.ext.le,ai x.ext.size a0,x.ext.Fn,x.ext.eF,λk o m q t p=>?_⟩,x.oa,⟨λk o m=>O k o (λz=>by rw [z,M.bb.base] at m;exact ao m)<|B.base k o m,λk o q=>O k o (λz=>M.bb.F o<|z▸q)<|B.fz k o q,
   λj b1 q=>(B.st j b1 q).keep λk o z q=>O k o (λzz=>by refine aC z ?_;clear z;intro j z;exact M.bb.ν j<|zz▸z) q,B.dA,λj k q=>⟨bE (B.da j k q).1 a0,(B.da j k q).2⟩,B.fC,B.inj,ai B.low a0,B.hF,λj k q=>let ⟨o,p,z⟩:=B.fb j k q;⟨o,O k o (λzz=>M.bb.ν j<|zz▸q) p,z⟩⟩,
   x.st.fr.ext ⟨G.Le.refl g,a0,λ_ _ q=>.inl q,λ_ _ q=>.inl q,λk o m _ _ p=>.inl<|O k o p m⟩ (λz=>M.loc z.symm) (λy a7 q z=>M.cell y<|z▸q) λk a1 z=>M.oa<|z▸a1,⟨a3 (.head _) x.st.tb.t1,a3 (.tail _<|.head _) x.st.tb.t2,a3 (cD (i:=2) rfl) x.st.tb.t3,x.st.tb.nf⟩,λm he=>?_,x.st.dep,x.st.top⟩,M⟩
 .have a1:k≠X:=λz=>absurd (Heap.lt_size m)<|de.mpr<|z▸n
  rcases x.ext.keep k o m q t p with e1|⟨o1,e1,f1⟩
  .exact .inl<|O k o a1 e1
  .exact .inr ⟨o1,O k o1 a1 e1,f1⟩
 .refine aL (x.st.ff m he) λb2 zz=>du zz λL o' q a7 b3=>?_;clear zz
  exact ⟨b2,L,o',q,O L o' (λz=>M.fr m he<|z▸q) a7,b3⟩
theorem aQ.Dg:∀{m},aQ w g n m->∀{j:Nat} {v},m[j]?=H v->∃x,n[j]?=H x/\aq w g x v:=by
 induction n with
 |nil=>
  intro _ r j v k
  obtain rfl:=fY r;simp at k
 |cons y B p=>
  intro m r j v k
  obtain ⟨u,t,rfl,q,z⟩:=ep r
  cases j with
  |zero=>simp at k;subst k;exact ⟨y,rfl,q⟩
  |succ j=>simpa using p z (j:=j)<|by simpa using k
theorem ph {j:Nat->Heap->Prop}(x:Walks PR w A k p q n P j)(r:n=m):Walks PR w A k p q m P j:=r▸x
theorem KW (h:r_ j=H (x,k)):∃p q,j=.Call (.Name x p) [k] [] q:=by
 refine zb (show (oc j).bind _=_ from h) ?_;rintro ⟨m,n,t⟩ z h
 refine aC (Ci z) ?_;rintro q rfl
 refine zb (show (hr m).bind _=_ from h) λy B h=>?_
 refine aC (oB B) ?_;rintro p rfl
 cases t with
 |cons=>exact ao h
 |nil=>cases n with
  |nil=>exact ao h
  |cons M r=>cases r with
   |cons=>exact ao h
   |nil=>refine kN h ?_;clear h;rintro rfl rfl;exact ⟨p,q,rfl⟩
theorem HF (a8:AC A l)(j:ST w b g s.heap e l f a c){n0:Nat}(a9:n0<=s.heap.objs.size){v:E}{a3:ah}(b0:aq w g v a3):
  W w b e l g c s (sj w b e l A n0) (lf (hj v) f a) λa4 a5=>av (ak PR w) A (pS a3) a4 a5 s:=by
 have f0:=j.free
 cases v with
 |tup xs=>
   have z:aq w g (.tup xs) a3:=b0
   obtain ⟨B,o,O,rfl,m,⟨c0,k,rfl⟩,r⟩:=j.sr.fU z rfl
   obtain ⟨a',o',b3,a6,a2,_⟩:=z
   cases a6
   have a7:B≠s.heap.objs.size:=cA<|Heap.lt_size m
   have P:=ph (Walks.tuple (prog:=PR) (w:=w) a8.hand s.heap.objs.size B a7 O.toArray)<|show O.toArray.size=xs.length by refine J gJ ?_;exact rT r.length rfl
   refine W.pu<|W.ret j λa4 a5 n=>wpAny_pyIter_tuple (items:=O.toArray) ⟨_,m,rfl,k,rfl⟩ ?_
   refine n g _ _ s.toks c (Go.push (h:=s.heap) j _) ⟨s.heap.objs.size,_,rfl,⟨⟨_,_,P,λM v lt q=>r.Dg<|by simpa using q,λb1 X=>?_⟩,λM h st=>?_⟩,⟨⟨_,Heap.get?_push_size _ rfl,rfl,rfl⟩,_,Heap.get?_push_of_some _ m,rfl,k,rfl⟩,a9,f0⟩
   .rcases bF.mp X with q|q
    .exact .inl q
    .refine J (bW.mp q) ?_;exact .inr ⟨_,a2⟩
   .refine aL st ?_;clear st;rintro ⟨o,a0,y,a1⟩ _
    exact ⟨o,_,_,a0,y,a1,by decide,by decide⟩
 |lst xs=>
   have z:aq w g (.lst xs) a3:=b0
   obtain ⟨B,o,O,rfl,m,⟨c0,k,rfl⟩,r⟩:=j.sr.fS z rfl
   obtain ⟨a',o',b3,a6,a2,_⟩:=z
   cases a6
   have a7:B≠s.heap.objs.size:=cA<|Heap.lt_size m
   have P:=ph (Walks.list (prog:=PR) (w:=w) a8.hand s.heap.objs.size B a7 O.toArray)<|show O.toArray.size=xs.length by refine J gJ ?_;exact rT r.length rfl
   refine W.pu<|W.ret j λa4 a5 n=>wpAny_pyIter_list (items:=O.toArray) ⟨_,m,rfl,k,rfl⟩ ?_
   refine n g _ _ s.toks c (Go.push (h:=s.heap) j _) ⟨s.heap.objs.size,_,rfl,⟨⟨_,_,P,λM v lt q=>r.Dg<|by simpa using q,λb1 X=>?_⟩,λM h st=>?_⟩,⟨⟨_,Heap.get?_push_size _ rfl,rfl,rfl⟩,_,Heap.get?_push_of_some _ m,rfl,k,rfl⟩,a9,f0⟩
   .rcases bF.mp X with q|q
    .exact .inl q
    .refine J (bW.mp q) ?_;exact .inr ⟨_,a2⟩
   .refine aL st ?_;clear st;rintro ⟨o,a0,y,a1⟩ _
    exact ⟨o,_,_,a0,y,a1,by decide,by decide⟩
 |str x=>
   refine aC (aq.fj b0) ?_;rintro t rfl
   refine W.er λc1=>W.pu ?_
   .refine W.ret j λa4 a5 n=>wpAny_pyIter_ascii c1 ?_
    have P:=ph (Walks.strAscii (prog:=PR) (w:=w) a8.hand s.heap.objs.size x t)<|show x.cps.size=(x.cps.toList.map λy=>E.str ⟨#[y]⟩).length by simp
    refine n g _ _ s.toks c (Go.push (h:=s.heap) j _) ⟨s.heap.objs.size,_,rfl,⟨⟨_,_,P,λM v lt q=>?_,λb1 X=>.inl<|bW.mp X⟩,λM h st=>?_⟩,⟨_,Heap.get?_push_size _ rfl,rfl,rfl⟩,a9,f0⟩
    .refine hg q ?_;clear q;rintro y u q1 rfl
     exact ⟨.str ⟨#[y]⟩,by simp [q1],km ..⟩
    .refine cK st ?_;clear st;intro o a0 y a1
     exact ⟨o,_,_,a0,y,a1,by decide,by decide⟩
 |aa b2=>
   have z:aq w g (.aa b2) a3:=b0
   obtain ⟨B,o,b4,rfl,m,⟨ns,ex,b5,c2,b6,b7,pr,b8⟩,r⟩:=j.sr.lG z rfl
   obtain ⟨a',o',b3,a6,a2,_⟩:=z
   cases a6
   have a7:B≠s.heap.objs.size:=cA<|Heap.lt_size m
   have c4:o'=o:=by have:=j.sr.fz _ _ a2;rw [m] at this;exact (bf this).symm
   have P:=ph (Walks.dictKeys (prog:=PR) (w:=w) (knd:=gH PR w) a8.hand s.heap.objs.size B a7 b4 c2)<|show b4.length=(b2.map λp=>E.str p.1).length by rewrite [cb];exact J r.length rfl
   refine W.pu<|W.ret j λa4 a5 n=>wpAny_pyIter_dict (knd:=gH PR w) (beq_eq_false_iff_ne.mpr ns) ⟨o,b5,m,ex,b6,b7,pr,b8⟩ ?_
   refine n g _ _ s.toks c (Go.push (h:=s.heap) j _) ⟨s.heap.objs.size,_,rfl,⟨⟨_,_,P,λM v lt q=>?_,λb1 X=>?_⟩,λM h st=>?_⟩,⟨⟨_,Heap.get?_push_size _ rfl,rfl,rfl⟩,o,b5,Heap.get?_push_of_some _ m,ex,b6,b7,pr,b8⟩,a9,f0⟩
   .refine hg q ?_;clear q;intro n x q1 q2
    have b9:(b2.map (·.1))[M]?=H n:=by refine J r.keys ?_;refine J hD ?_;refine J q1 ?_;rfl
    refine ⟨.str n,?_,?_⟩
    .rw [hD] at b9 |-
     refine zm b9 ?_;rintro p c3 rfl
     refine J c3 ?_;rfl
    .refine aC (Value.isStrOf_shape<|show RM n v=I from q2) ?_;rintro t rfl
     exact km ..
   .rcases bF.mp X with q|q
    .exact .inl q
    .refine J (bW.mp q) ?_;exact .inr ⟨_,a2⟩
   .refine aL st ?_;clear st;rintro ⟨o,a0,y,a1⟩ _
    exact ⟨o,_,_,a0,y,a1,by decide,by decide⟩
 |_=>exact W.stuck
theorem CL (B:dF w b)(b2:bz w b d)(a2:AC A l)(a8:ST w b g s.heap e l f a c)(r:aD):
  W w b e l g c s (sj w b e l A s.heap.objs.size) (o_ d.eval f a r) λM j=>av (ak PR w) A (cP r e) (λx a1=>av (ak PR w) A (pS x) M j a1) j s:=by
 have b3:W w b e l g c s (sj w b e l A s.heap.objs.size) (qO d.eval f a r) λM j=>av (ak PR w) A (cP r e) (λx a1=>av (ak PR w) A (pS x) M j a1) j s:=
  W.cJ λb4=>W.bind (b2.eval r f a e l A g c s a2 a8) λv b5 b6 a3 a4 O a9 a5 z P=>HF a2 z.st z.ext.size P
 show W w b e l g c s _ (λk X=>BN d.eval f a r k X<|r_ r) _
 cases c0:r_ r with
 |none=>exact b3
 |some p=>
 obtain ⟨x,y⟩:=p
 refine dx (KW c0) ?_;rintro np a6 rfl
 cases b7:aP<|x=U "range" with
 |false=>
  refine W.pre (λk X h=>?_) b3
  have h:(match aP<|x=U "range" with|I=>_|N=>qO d.eval f _ _ k X:Prop):=h
  rw [b7] at h;exact h
 |true=>
   refine of_decide_eq_true b7▸?_
   refine W.cJ (t:=λk X=>d.eval f a y (λv f a=>wp (ju v) λxs=>k xs f a) X) λb0=>?_
   simp only [eI,beq_iff_eq] at b0
   refine aL b0 ?_;clear b0;intro c1 b8
   have c2:gT f (U "range")=H (.ag<|.type "range"):=by
    unfold gT
    refine J c1 ?_
    rfl
   have b4:[y].all dn=I:=by simp [b8]
   let a7:List E->Y->R->Cp Int:=λa0 f a k X=>bw (one a0) λv=>wp (bJ (cR v) λn=>ask (0<=n/\n<=1000000)>>=λ_=>aS n) λn=>k n f a
   let c3:G->Heap->List Z->Int->ah->Prop:=λg h c n a4=>∃y t u v,a4=.ref y/\IsRange h y 0 n 1 t u v/\0<=n/\n<=1000000/\s.heap.objs.size<=y
   have q:W w b e l g c s c3 (λk X=>dS d.eval f a [y] (λa0 f a=>a7 a0 f a k X) X) λM j=>av (ak PR w) A (nG a6 (.type "range") [] (fK a6<|eV [y] e) []) M j s:=by
    refine mJ b2 a2 a8 b4 (λ_ _ _ _ _ _=>Aj "range") λa0 b5 b6 a3 d3 O a9 a5 z P=>?_
    refine W.bw λv ev=>W.bJ λn c4=>W.jN λb9=>?_
    obtain rfl:=hP ev
    obtain rfl:=ea c4
    obtain ⟨a4,t,rfl,c5,h0⟩:=ep P
    refine J (fY h0) ?_
    refine aC (aq.cO c5) ?_;rintro t rfl
    refine W.ret z.st λM j b1=>call_range_1 ?_
    exact b1 a3 _ _ _ a5 (Go.push (h:=O) z.st _) ⟨O.objs.size,_,_,_,rfl,IsRange.new ..,b9.1,b9.2,z.ext.size⟩
   have c6:W w b e l g c s (sj w b e l A s.heap.objs.size) (λk X=>dS d.eval f a [y] (λa0 f a=>a7 a0 f a (λn f a=>k ((ib n.toNat).map λ(m:Nat)=>E.int m) f a) X) X) λM j=>av (ak PR w) A (nG a6 (.type "range") [] (fK a6<|eV [y] e) []) (λx a1=>av (ak PR w) A (pS x) M j a1) j s:=by
    refine W.bind q λn b5 b6 a3 a4 O a9 a5 z P=>?_
    refine dx P ?_;clear P;intro d4 t zz;refine fe zz ?_;clear zz;rintro u v rfl c7 h0 h1 d5
    refine W.ret z.st λM j b1=>wpAny_pyIter_range c7 (small_one (by decide) (by decide) (fp (by decide) h0)<|pJ (by assumption)<|by decide) ?_
    have c8:Ss 0 n 1=(n.toNat:Int):=by rw [rangeSize_one];split;(next=>exact (RU n).trans (sZ h0).symm);(next q=>rw [Su (jl.mp q) h0];rfl)
    have c9:=ph (Walks.range (prog:=PR) (w:=w) a2.hand O.objs.size 0 1 n.toNat)<|show n.toNat=((ib n.toNat).map λ(m:Nat)=>E.int m).length by simp
    refine b1 a3 _ _ a9 a5 (Go.push (h:=O) z.st _) ⟨O.objs.size,_,rfl,⟨⟨_,_,c9,λm v lt q=>?_,λd6 d0=>.inl<|bW.mp d0⟩,λm h st=>?_⟩,?_,z.ext.size,z.st.free⟩
    .refine aC q ?_;clear q;rintro t rfl
     have d1:m<n.toNat:=by simpa using lt
     refine ⟨.int m,by simp [d1],?_⟩
     have r:0+(m:Int)*1=m:=by simp+arith only
     refine J r ?_
     exact eP ..
    .exact ⟨_,_,_,st,rfl,rfl,by decide,by decide⟩
    .have e1:0+((0:Nat):Int)*1=0:=by rfl
     have e2:(n.toNat:Int) - ((0:Nat):Int)=Ss 0 n 1:=by refine J c8 ?_;rfl
     simp only [e1,e2]
     exact Heap.get?_push_size _ rfl
   refine W.imp (λM j h=>Call_ (hI B a8 (by decide) c2 λd7 d2=>?_) rfl)<|W.pre (λk X h=>?_) c6
   .refine d2.gq▸?_
    exact h
   .have r:(λ(v:E) (f:Y) (a:R)=>wp (ju v) λxs=>k xs f a)=λv f a=>a7 [v] f a (λn f a=>k ((ib n.toNat).map λ(m:Nat)=>E.int m) f a) X:=by
     funext v f a
     cases v<;>rfl
    show cj (dn y)<|d.eval f a y (λv f a=>a7 [v] f a (λn f a=>k ((ib n.toNat).map λ(m:Nat)=>E.int m) f a) X) X
    refine aW b8▸r▸?_
    exact h
end
end
mutual
section
variable {w:aM}{b:Heap}{e:aA}{l:List aA}{g:G}{d:List Z}{s:az}{f:Y}{a:R}{i:Ev}{A:bu}{h c:Heap}
inductive uU (w:aM)(b:Heap)(e:aA)(l:List aA)(A:bu)(x:Y->R->List bM->(Fl->Y->R->Prop)->Prop->Prop)(y:aD)(z:List bM)(B:G)(M:List Z)(m:az)(p:Z)(j:List E)(q:Nat->Heap->Prop)(k:Fl->Y->R->Prop)(X:Prop)(n:Nat)(s:az):Prop
 |mk:∀r g h t d f a,s={m with heap:=h,toks:=t}->r+n=j.length->Go w b e l B m.heap M g h d f a->kY w A g p j q->q r h->bL b g e l d p->iy x y z (j.drop r) f a k X->uU w b e l A x y z B M m p j q k X n s
theorem QQ {j:Nat->Heap->Prop}(a0:ST w b m k e l a6 a7 B)(x:Go w b e l m k B M O a3 a8 a9)(p:kY w A m r xs j)(X:j t k)(a1:bL b m e l B r):
  kY w A M r xs j/\j t O/\bL b M e l a3 r:=by
 obtain ⟨o,n,b0,e1,e2,e3,e4,e5⟩:=p.obj t k X
 refine aL (bL.go x e1 (λz=>e5<|by rw [e2] at z;injection z) a1) λf2 e6=>?_
 obtain ⟨b1,P,a2,_,a4⟩:=p.walk
 refine ⟨p.mono x.ext.le,a2.frame t k O X λy a5 o' q=>?_,f2⟩
 rcases a4 y a5 with rfl|⟨o2,q2⟩
 .rw [e1] at q;refine aG q ?_;clear q;rintro rfl;exact e6
 .have:=a0.sr.fz y o2 q2
  rw [this] at q;refine aG q ?_;clear q;rintro rfl
  exact x.st.sr.fz y _<|x.ext.le.F _ _ q2
theorem forLoop (e2:∀f a O k X,a0 f a O k X->jG w b f a O k X)(c6:AC A l)(e3:l=e::r){j:az}{a1:Z}{c7:Nat->Heap->Prop} 
  (c8:j.heap.objs.size<=a1)
  (k1:∀O b0 b1,k O b0 b1->∀g' b2 c B c9,Go w b e l b3 j.heap b4 g' c c9 b0 b1->jd w g' c c9 O b2->d0 (.ok b2) {j with heap:=c,toks:=B})
  (k2:X->∀ev g' c B n,Go w b e l b3 j.heap b4 g' c [] (dW l) (dE n)->XC b j.heap.objs.size e.frame g' c ev->pI (ak PR w) A e (λb5 s'=>d0 (.error b5) s') ev {j with heap:=c,toks:=B}):
  ∀n s,uU w b e l A a0 a3 a4 b3 b4 j a1 xs c7 k X n s->gc (ak PR w) A (.forLoop a3 (.ref a1) a4 [] e) d0 s:=by
 intro e4 f8 d1
 refine codeAny_forLoop_any (uU w b e l A a0 a3 a4 b3 b4 j a1 xs c7 k X) ?_ e4 d1
 clear d1
 intro n f9 b6
 obtain ⟨p,g,h,t,d,f,a,rfl,b7,o,it,st,d2,a2⟩:=b6
 obtain ⟨g1,P,d3,e5,g2⟩:=it.walk
 obtain ⟨e6,nm,g3,e1,e7,g4,g5,e8⟩:=it.obj p h st
 have d4:e6.cls≠.type "frame" :=λz=>e8<|by rw [e7] at z;injection z
 refine mY ?_
 cases n with
 |zero=>
  have b6:p=xs.length:=by exact mG b7<|by simp+arith only
  subst b6
  refine d3.done _ _ _ st λc B b8 b9=>?_
  refine aL (o.turn e1 d4 b8 b9 c8 d2) λq f2=>?_
  refine pT ?_
  rw [Sv] at a2
  exact k1 .next f a a2 g _ c B d q rfl
 |succ n=>
  have a5:p<xs.length:=by exact ay (bh b7)<|by simp+arith only
  refine d3.item p _ _ _ a5 st λv c B e9 d5 b8 b9=>?_
  refine aK (e5 p v a5 e9) λx y f0=>?_
  refine aL (o.turn e1 d4 b8 b9 c8 d2) λq f2=>?_
  obtain ⟨g6,g7,g8,q1,q2,q3,q4,q5⟩:=it.obj (p+1) c d5
  have hd:xs.drop p=x::xs.drop (p+1):=by
   have:=xM a5
   refine J this ?_
   rw [iQ a5] at y
   injection y with y
   exact J y rfl
  rw [hd] at a2
  refine zW q1 q2 q3 q4 ?_
  refine zS (s:={j with heap:=c,toks:=B}) c6 q.st a3 f0 (λ_ f a=>a0 f a a4 (λc0 f a=>match c0 with
   |.next=>iy a0 a3 a4 (xs.drop<|p+1) f a k X
   |.ret v=>k (.ret v) f a) X) X a2 _ _ (λO b0 b1 b5 c1 b2 c2 c3 f1 M _=>?_) λy ev c1 c2 c3 m M c4=>?_
  .refine e2 _ _ _ _ _ b5 e l A c1 f1 {j with heap:=c2,toks:=c3} c6 M.st ⟨r,e3⟩ _ _ (λc0 d6 d7 d8 a6 f3 a7 a8 d9 a9 c5=>?_) λy ev a6 a7 a8 m a9 c4=>?_
   .have e0:=(q.trans M).trans a9
    cases c0 with
    |next=>
     obtain rfl:f3=.next:=c5
     refine dI (QQ q.st (M.trans a9) it d5 f2) λf4 f5 f6=>?_
     exact ⟨n,fw n,p+1,a6,a7,a8,d9,d6,d7,rfl,by exact mG b7<|by simp+arith only,e0,f4,f5,f6,d8⟩
    |ret u=>
     refine aK c5 ?_;clear c5;rintro u' rfl f7
     exact k1 (.ret u) d6 d7 d8 a6 _ a7 a8 d9 e0 ⟨_,rfl,f7⟩
   .exact k2 y ev a6 a7 a8 m ((q.trans M).trans a9)<|c4.mono (q.trans M).ext.size
  .exact k2 y ev c1 c2 c3 m (q.trans M)<|c4.mono q.ext.size
theorem vV (m:o_ i.eval f a j k X) (x):foldedSetIterable j e x=aS x:=by
 cases j with
 |Set n p q=>exact Rx m
 |_=>rfl
theorem bz.v_ (m:bz w b i) (f) (a) (j) (k) (X)(h:i.execs f a j k X):jG w b f a j k X:=
 λe l A g d s n p q=>m.execs j f a e l A g d s n p q k X h
theorem Qx (B:dF w b)(y:bz w b i)(q:AC A l)(a8:ST w b g s.heap e l f a d)(z:l=e::r) (M O) (P) (t):
  WS w b e l A g d s (fV i.O i.eval i.execs f a<|.For M O P [] t)<|.For M O P [] t:=by
 intro k X a4 c4 c5 k1 k2
 refine wpAny_For ?_<|vV a4
 refine CL B y q a8 O _ X a4 _ _ (λxs a5 a6 j a9 a7 b0 b1 b2 b3 a0=>?_) λa1 ev p c m n o a2=>k2 a1 ev p c m n o a2
 obtain ⟨c6,b4,rfl,it,st,b5,b6⟩:=a0
 have:∃a3,(∀f a x k X,a3 f a x k X->jG w b f a x k X)/\iy a3 M P xs a5 a6 k X:=by
  revert j
  cases hv (t.line*1000+t.col) zV with
  |true=>exact λj=>⟨_,λ_ _ _ _ _ h=>h,y.le.bH j⟩
  |false=>exact λj=>⟨_,y.v_,j⟩
 refine aK this ?_;clear this;intro a3 b7 hf
 refine forLoop (j:=s) b7 q z b5 (k:=k) (X:=X) (c7:=b4) ?_ ?_ xs.length _ ⟨0,a9,b0,b1,b2,a5,a6,rfl,by simp+arith only,b3,it,st,b6,hf⟩
 .intro x b8 b9 j p a7 c m c0 o a0
  exact k1 x b8 b9 j p a7 c m c0 o a0
 .intro a1 ev p c m n o a2
  refine rR (s:={s with heap:=c,toks:=m}) z q o a2 λc1 o' c2=>?_
  refine zr (s:={s with heap:=c1,toks:=m}) z q o' c2 λh3 o3 c3=>?_
  exact k2 a1 ev p h3 m n o3 c3
end
end
mutual
section
variable {w:aM}{c:Heap}{e:aA}{l:List aA}{g:G}{i:List Z}{s:az}{f:Y}{a:R}{d:Ev}{A:bu}{h b:Heap}
theorem Hw {t:aD}{r:List bM}{j:j_->az->Prop}
  (h:av (ak PR w) A (mf t e<|cP t e) (λy z=>
    if y then av (ak PR w) A (iM r e) (λm k=>match m with
      |.next|.cont=>gc (ak PR w) A (.whileLoop t r [] e) j k
      |.brk=>j (.ok .next) k
      |.ret v=>j (.ok<|.ret v) k) (pI (ak PR w) A e λp q=>j (.error p) q) z
    else av (ak PR w) A (iM [] e) (λm k=>j (.ok m) k) (pI (ak PR w) A e λp q=>j (.error p) q) z)
    (pI (ak PR w) A e λp q=>j (.error p) q) s):gc (ak PR w) A (.whileLoop t r [] e) j s:=by
 refine Sw ?_
 show av _ A ((whileTurn t r [] e).onRaise λx=>do EE x e;theTreesLotGoes x) _ _ s
 refine wpAny_noted ?_
 refine aF<|ej h (λy z B=>?_) λ_ _ b=>b
 cases y with
 |false=>
  exact aF<|ej B (λm k n=>bp n) λ_ _ b=>b
 |true=>
  refine aF<|ej B (λm k n=>?_) λ_ _ b=>b
  cases m with
  |next=>exact bp ⟨rfl,n⟩
  |cont=>exact bp ⟨rfl,n⟩
  |brk=>exact bp n
  |ret v=>exact bp n
abbrev sq (w:aM)(A:bu)(e:aA)(t:aD)(p:List bM)(s:az)(q:Flow->az->Prop)(r:ah->az->Prop):Prop:=
 ∀k,(∀m j,q m j->k (.ok m) j)->(∀n j,r n j->pI (ak PR w) A e (λx y=>k (.error x) y) n j)->gc (ak PR w) A (.whileLoop t p [] e) k s
theorem L7 {V:(Fl->Y->R->Prop)->Prop->Y->R->Prop}(a4:bz w c d)(a0:AC A l)(a9:ST w c g s.heap e l f a i)(a5:∃r,l=e::r) (t) (q)(b0:∀{k X f a},V k X f a->qy w c f a t q k X):
  W w c e l g i s (jd w) (λk X=>hR d.eval 20 f a t (λm f a=>match m with
   |I=>d.execs f a q (λx f a=>match x with
    |.next=>V k X f a
    |.ret v=>k (.ret v) f a) X
   |N=>k .next f a) X)<|sq w A e t q s:=by
 refine W.imp (P:=λj p=>av (ak PR w) A (mf t e<|cP t e) (λm z=>if m then av (ak PR w) A (iM q e) (λy n=>match y with
    |.next|.cont=>sq w A e t q n j p
    |.brk=>j .next n
    |.ret v=>j (.ret v) n) p z else j .next z) p s) (λj p h a6 M P=>?_) ?_
 .refine Hw<|ej h (λm z B=>?_) λev s' B=>P ev s' B
  cases m with
  |false=>
   exact pT<|M _ _ B
  |true=>
   refine ej B (λy n h2=>?_) λev s' B=>P ev s' B
   cases y with
   |next=>exact h2 a6 M P
   |ret v=>exact M _ _ h2
   |cont=>exact h2 a6 M P
   |brk=>exact M _ _ h2
 refine W.bind (a9:=λm f a k X=>match m with
   |I=>d.execs f a q (λx f a=>match x with
    |.next=>V k X f a
    |.ret v=>k (.ret v) f a) X
   |N=>k .next f a) (K:=λm z j p=>if m then av (ak PR w) A (iM q e) (λy n=>match y with
   |.next|.cont=>sq w A e t q n j p
   |.brk=>j .next n
   |.ret v=>j (.ret v) n) p z else j .next z) (mI a4 a0 20 t f a g i s a9) λm b1 b2 b3 a1 b4 a7 b5 a2 O=>?_
 obtain rfl:m=a1:=O
 cases m with
 |false=>
  exact W.ret a2.st λj p k=>k _ _ _ a7 _ (Go.refl a2.st) rfl
 |true=>
  refine W.bind (a9:=λx f a k X=>match x with
    |.next=>V k X f a
    |.ret v=>k (.ret v) f a) (K:=λy n j p=>match y with
   |.next|.cont=>sq w A e t q n j p
   |.brk=>j .next n
   |.ret v=>j (.ret v) n) (a4.execs q b1 b2 e l A b3 b5 {s with heap:=b4,toks:=a7} a0 a2.st a5) λx c0 c1 b6 a1 b7 a8 b8 a3 O=>?_
  cases x with
  |next=>
   obtain rfl:a1=.next:=O
   exact λk X h=>b0 h e l A b6 b8 {s with heap:=b7,toks:=a8} a0 a3.st a5
  |ret v=>
   refine aK O ?_;clear O;rintro u rfl b9
   exact W.ret a3.st λj p k=>k _ _ _ a8 _ (Go.refl a3.st) ⟨_,rfl,b9⟩
theorem QY {V:(Fl->Y->R->Prop)->Prop->Y->R->Prop}(m:bz w c d){t:aD}{j:List bM}{k:Fl->Y->R->Prop}{X:Prop}(n:∀{k X f a},V k X f a->qy w c f a t j k X)(h:hR d.eval 20 f a t (λp f a=>match p with
   |I=>d.execs f a j (λq f a=>match q with
    |.next=>V k X f a
    |.ret v=>k (.ret v) f a) X
   |N=>k .next f a) X):qy w c f a t j k X:=λ_ _ _ _ _ _ r x y=>L7 m r x y t j n k X h
theorem Ir (a0:bz w c d)(x:AC A l)(a1:ST w c g s.heap e l f a i)(y:l=e::r) (t) (M) (O):
  WS w c e l A g i s (fV d.O d.eval d.execs f a<|.While t M [] O)<|.While t M [] O:=by
 intro k X h a3 a6 k1 k2
 refine wpAny_While ?_
 refine a0.le.ec h e l A g i s x a1 ⟨r,y⟩ a3 (λp P=>∃m b j n,P={s with heap:=b,toks:=j}/\X/\Go w c e l g s.heap i m b [] (dW l) (dE n)/\XC c s.heap.objs.size e.frame m b p) k1 (λz p m b j n o B=>⟨m,b,j,n,rfl,z,o,B⟩) _ (λa7 s' q=>q) λp P q=>?_
 refine dx q ?_;clear q;intro m b zz;refine jB zz ?_;clear zz;rintro j n rfl z o B
 refine rR (s:={s with heap:=b,toks:=j}) y x o B λa2 o' a4=>?_
 refine zr (s:={s with heap:=a2,toks:=j}) y x o' a4 λh3 o3 a5=>?_
 exact k2 z p m h3 j n o3 a5
end
end
mutual
section
variable {w:aM}{a:Heap}{e:aA}{l:List aA}{g:G}{i:List Z}{s:az}{f:Y}{c:R}{d:Ev}{A:bu}{h b:Heap}
theorem qk (x):∀m,aZ x m=m.lookup x
 |[]=>rfl
 |(y,k)::r=>by
  refine J nh ?_
  refine J fI ?_
  by_cases j:y=x
  .subst j;simp
  .have:(x==y)=N:=beq_eq_false_iff_ne.mpr<|fu j
   refine aW (if_neg j)▸aW this▸?_
   exact qk x r
theorem AR.nc (j:AR w a g h l c){n:Z}(m:h.objs.size<=n):bU a g n:=by
 refine ⟨λk q=>absurd (j.sr.da k _ q).1<|de.mpr m,λo q=>absurd (Heap.lt_size<|j.sr.fz _ o q)<|de.mpr m,λq=>?_,?_⟩
 .have p:=j.mS.tab
  refine aK j.tb.t1 λy z _=>?_
  refine aK j.tb.t2 λB M _=>?_
  refine aK j.tb.t3 λO r _=>?_
  have t:(1040:Nat)<h.objs.size:=Heap.lt_size r
  rcases nS q with rfl|rfl|rfl<;>exact absurd (bE t m)<|by decide
 .cases x:a.get? n with
  |none=>rfl
  |some o=>exact absurd (Heap.lt_size<|j.sr.base _ _ x)<|de.mpr m
theorem F_ {L:Z}{f:Y}(r:AR w a g h l c)(k:∀a3 o,h.get? a3=H o->b.get? a3=H o)(b0:h.objs.size<=b.objs.size)(a4:e.scope.kind=.function)(b1:e.globals=ha)(b2:e.builtins=jj/\Ba a e f.tab)
  (a0:e.locals=L) (b3:e.frame=H L) (b4:h.objs.size<=L) (a5:b.Ns L λ_=>T) (a6:∃o,b.get? L=H o/\o.cls=.type "frame")
  (b5:f.scope=e.scope.names) (a7:f.vals=[]) (b6:f.own=T) (c3:f.sealed=[]) (hd:f.depth=l.length+1)
  (a8:∀x m,e.cells.lookup x=H m->h.objs.size<=m/\m≠L/\b.IsCell m T\/(∃o v,g.F m o/\o.data=.cell v)/\aZ x f.scope≠H .cell)
  (b7:∀x,aZ x f.scope=H .cell->∃m,e.cells.lookup x=H m) (b8:e.func.isSome=I)
  (b9:∀x y m,e.cells.lookup x=H m->e.cells.lookup y=H m->x=y):ST w a g b e (e::l) f c []:=by
 have a1:bU a g e.locals:=r.nc<|a0▸b4
 refine ⟨r.sr.grow k b0,⟨a4,b1,b2,λx k' q=>?_,⟨λ_=>T,a0▸a5,λx v q=>by rw [a7] at q;exact ao q,aW b6▸.no⟩,λx v q=>by rw [a7] at q;exact ao q,λx m q=>?_,λx q=>?_,b9,a1,by simp⟩,
  r.tb.grow k,λO he=>?_,by refine J hd ?_;rfl,⟨e,l,rfl,rfl⟩⟩
 .rw [b5,qk] at q
  exact .inl q
 .rcases a8 x m q with ⟨B,X,h3⟩|⟨⟨o,v,B,X⟩,_⟩
  .have p:=r.nc B
   exact ⟨⟨_,h3⟩,p.ν,p.tab,by refine J a0 ?_;exact X,by simp⟩
  .have M:=r.sr.fz _ _ B
   refine ⟨⟨v,o,k _ _ M,X⟩,λj z=>?_,λz=>?_,λz=>a1.F o<|z▸B,by simp⟩
   .refine aK (r.sr.fb j m z) λo' e2 n=>?_
    rw [M] at e2;refine aG e2 ?_;clear e2;rintro rfl
    exact n v X
   .have a2:∀{P a9 j q},eS g h P a9 j q->m≠P:=λ{P a9 j q} t z=>by
     refine aK t ?_;clear t;intro c4 O _
     rw [z,O] at M;refine aG M ?_;clear M;rintro rfl
     cases X
    rcases nS z with z|z|z
    .exact a2 r.tb.t1 z
    .exact a2 r.tb.t2 z
    .exact a2 r.tb.t3 z
 .refine aC (b7 x q) λm O=>?_
  refine ⟨m,O,b8,λ_=>?_⟩
  rcases a8 x m O with ⟨B,_⟩|⟨_,B⟩
  .exact r.nc B
  .exact absurd q B
 .rcases bF.mp he with rfl|he
  .refine aK a6 ?_;clear a6;intro o M e2
   refine kv (id a5) λo' c0 c1 e3 c2 _=>?_
   rw [M] at e3;refine aG e3 ?_;clear e3;rintro rfl
   exact ⟨by refine J a4 ?_;decide,L,o,b3,M,e2,⟨c0,c1,c2⟩,a0▸a1⟩
  .exact r.ff.grow k O he
end
end
mutual
section
variable {w:aM}{c:Heap}{e:aA}{l:List aA}{g:G}{f:List Z}{s:az}{i:Y}{d:R}{a:Ev}{A:bu}{h b:Heap}
def kW (w:aM)(A:bu)(e:aA)(k:ah->az->Prop):List (ae×ah)->(az->Prop)->az->Prop
 |[],j,s=>j s
 |(n,v)::r,j,s=>av (ak PR w) A (Es e n v) (λ_ m=>kW w A e k r j m) k s
theorem JF (m:∀n v u,p (n,v) u=do Es e n v;aS<|.yield ⟨⟩) (k):∀s (j:PUnit->az->Prop),
  kW w A e t k (j ⟨⟩) s->av (ak PR w) A (forIn k ⟨⟩ p) j t s:=by
 induction k with
 |nil=>
  intro s j h
  refine J xP ?_;exact bp h
 |cons y r z=>
  obtain ⟨n,v⟩:=y
  intro s j h
  rw [xQ,m]
  exact aF<|aF<|ej h (λ_ B q=>bp<|z B j q) λ_ _ x=>x
theorem kW.mono (k:∀s,m s->p s) (j):∀s,kW w A e t j m s->kW w A e t j p s:=by
 induction j with
 |nil=>
  intro s h
  exact k s h
 |cons y r z=>
  obtain ⟨n,v⟩:=y
  intro s h
  exact ej h (λ_ B q=>z B q) λ_ _ x=>x
theorem PU {m:Z}{n:ah} 
  (k:∀e,e=newEnv j s.heap.objs.size m (lj (s.heap.objs.size+1) j.names r) t x n T y->
   kW w A e z p (B e) {s with heap:=lk (s.heap.push {cls:=.type "frame",data:=.dict #[]}) j.names}):
  av (ak PR w) A (tk j m r p t x n T y) B z s:=by
 simp only [tk,Option.isSome_none,tm,if_false]
 refine aF<|wpAny_alloc ?_
 refine aF<|wpAny_layCells _ λO M P=>by cases X:M==Sx<;>rfl _ _ _ _ ?_
 refine J (show ({s with heap:=s.heap.push {cls:=.type "frame",data:=.dict #[]}}:az).heap.objs.size=s.heap.objs.size+1 from Heap.size_push ..) ?_
 refine aF<|JF (e:=newEnv j s.heap.objs.size m (lj (s.heap.objs.size+1) j.names r) t x n T y) (λ_ _ _=>rfl) p _ _ ?_
 exact kW.mono (λs' q=>bp q) p _<|k _ rfl
end
end
mutual
section
variable {w:aM}{d:Heap}{e:aA}{l:List aA}{g:G}{a:List Z}{s:az}{f:Y}{c:R}{i:Ev}{A:bu}{h b:Heap}
theorem Hq:aI x k=T->bc x v k=k++[(x,v)]:=by
 induction k with
 |nil=>
  intro _
  exact rfl
 |cons m r n=>
  obtain ⟨y,u⟩:=m
  intro j
  rw [hT] at j
  by_cases q:y=x
  .rw [if_pos q] at j;exact ao j.symm
  .rw [if_neg q] at j
   refine J ra ?_
   refine J (if_neg q) ?_;refine J (n j) ?_
   rfl
theorem F1:∀{k},aI x m=T->aI x k=T->aI x (m++k)=T:=by
 induction m with
 |nil=>
  intro k _ j
  exact j
 |cons n r p=>
  obtain ⟨y,u⟩:=n
  intro k j t
  rw [hT] at j
  by_cases q:y=x
  .rw [if_pos q] at j;exact ao j.symm
  .rw [if_neg q] at j
   show aI x ((y,u)::(r++k))=T
   refine J hT ?_
   refine J (if_neg q) ?_
   exact p j t
theorem Ii (j):∀m f g a s,ST w d g s.heap e l f c a->bj w g j m->(j.map (·.1)).Nodup->(∀x∈j.map (·.1),aI x f.vals=T/\fW f x=T)->
  (∀x∈j.map (·.1),aZ x f.scope=H .local\/aZ x f.scope=H .cell)->f.sealed=[]->
  (∀p b t B,Go w d e l g s.heap a p b B {f with vals:=f.vals++j} c->a4 {s with heap:=b,toks:=t})->kW w A e b3 m a4 s:=by
 induction j with
 |nil=>
  intro m f g a s M r _ _ _ _ k
  subst r
  exact k g s.heap s.toks a<|by rw [hz];exact Go.refl M
 |cons p0 X a5=>
  obtain ⟨x,v⟩:=p0
  intro m f g a s M r a6 a0 a1 O k
  obtain ⟨u,q,rfl,a7,a8⟩:=r
  refine aL (gd.mp a6) λn1 n2=>?_
  refine aL (a0 x<|.head _) λh1 P=>?_
  have a9:eD f x v=H {f with vals:=f.vals++[(x,v)]}:=by
   unfold eD
   refine aW P▸aW O▸?_
   show vi f x v (aZ x f.scope)=_
   rcases a1 x<|.head _ with q|q<;>(refine J q ?_;refine rT (Hq h1) ?_;refine rT O ?_;rfl)
  refine kf M x a7 (A:=A) (λ_ a2 a3=>a2={f with vals:=f.vals++[(x,v)]}/\a3=c) False (show bw (eD f x v) _ by refine J a9 ?_;exact ⟨rfl,rfl⟩) _ _ (λb4 a2 a3 e' p b5 b t B o _=>?_) λb0=>b0.elim
  replace o:=e'.2▸e'.1▸o
  refine a5 q {f with vals:=f.vals++[(x,v)]} p B {s with heap:=b,toks:=t} o.st (bj.mono o.ext.le _ _ a8) n2 (λy n=>?_) (λy n=>a1 y<|.tail _ n) O λg2 P b1 b2 o2=>?_
  .refine aL (a0 y<|.tail _ n) λz1 z2=>?_
   refine ⟨F1 z1 ?_,z2⟩
   refine J hT ?_
   refine J (if_neg λz=>n1<|by rw [z];exact n) ?_
   rfl
  .refine k g2 P b1 b2<|o.trans ?_
   have:f.vals++(x,v)::X=f.vals++[(x,v)]++X:=by simp
   refine J this ?_
   exact o2
end
end
mutual
section
variable {w:aM}{b:Heap}{e:aA}{l:List aA}{g i:G}{c:List Z}{s:az}{m:Y}{f n:R}{j:Ev}{A:bu}{h a d k:Heap}
theorem PQ (a1:SR w b g f h)(a2:∀r o,h.get? r=H o->d.get? r=H o)(M:h.objs.size<=d.objs.size)(a3:h.objs.size<=e.locals)(a4:∀x O,e.cells.lookup x=H O->h.objs.size<=O\/∃o,g.F O o)
  {P:G} (x:bt b g d P a<|PP e c) (X:∀p o,P.F p o->a.get? p=H o):bt b g h P a λp=>p∈c:=by
 have pp:∀p,PP e c p->h.objs.size<=p\/(∃o,g.F p o)\/p∈c:=λp q=>by
  rcases q with q|⟨_,y,q⟩|q
  .exact .inl<|q▸a3
  .exact (a4 y p q).imp id .inl
  .exact .inr<|.inr q
 refine ⟨x.le,ai M x.size,λp o q=>?_,λa5 p q=>(x.eF a5 p q).imp id λz=>ai M z,λr o a0 a6 t np=>?_⟩
 .rcases x.Fn p o q with z|z|z|z
  .exact .inl z
  .exact .inr<|.inl<|ai M z
  .exact .inr<|.inr<|.inl z
  .rcases pp p z with z|⟨o',z⟩|z
   .exact .inr<|.inl z
   .have B:=X _ _ q
    have e2:=X _ _<|x.le.F _ _ z
    rw [B] at e2;refine aG e2 ?_;clear e2;rintro rfl
    exact .inl z
   .exact .inr<|.inr<|.inr z
 .by_cases q:PP e c r
  .rcases pp r q with z|⟨o',z⟩|z
   .exact absurd (Heap.lt_size a0)<|de.mpr z
   .have B:=a1.fz _ _ z
    rw [a0] at B;refine aG B ?_;clear B;rintro rfl
    exact .inl<|X _ _<|x.le.F _ _ z
   .exact absurd z np
  .exact x.keep r o (a2 r o a0) a6 t q
theorem mc (p:ST w b q a e (e::l) y r z):AR w b q a l r:=
 ⟨p.sr,p.tb,λt x=>p.ff t<|.tail _ x⟩
end
end
mutual
section
variable {w:aM}{b:Heap}{e:aA}{l:List aA}{g:G}{f:List Z}{s:az}{i:Y}{d:R}{c:Ev}{A:bu}{h a:Heap}
theorem yM {r:List aA}{M:G}{p:Heap}{O:List Z}{n:Nat}{q:ah}{P:Unit->az->Prop}{a4:ah->az->Prop}(x:Go w b e l M p O g s.heap [] (dW l)<|dE n)(X:sG e g p.objs.size b s.heap q)
  (k:∀a,Go w b e l M p O g a [] (dW l) (dE n)->XC b p.objs.size T g a q->P () {s with heap:=a}):av (ak PR w) A (setFlight q T) P a4 s:=by
 obtain ⟨a0,a5,a6,L,j,a7,a1,rfl,hf,e1,e2,e3,e4,e5,e6,t1,a2,t3,t4,t,y,t7⟩:=X
 refine aF<|iO e1 e3 t1 ?_
 refine tj t y (pR.mp t7).1 ?_
 have B:Heap.SameBut j s.heap<|s.heap.update j<|gf (·.setIfInBounds 3 .none):=Heap.SameBut.update _ _ _
 have a8:mE [j] (l.filterMap (·.frame)) s.heap<|s.heap.update j<|gf (·.setIfInBounds 3 .none):=
  ⟨bh B.1.symm,λa3 o a9 m=>.inl<|(B.2 a3 λz=>m<|by simp [z]).trans a9⟩
 have x1:=x.mM a8 λa3 b0=>by refine J (bW.mp b0) ?_;exact ⟨t4,t3,a7,a1,t,y⟩
 have hd:=EC y (·.setIfInBounds 3 jZ)
 have b1:=Heap.get?_update_self (gf (·.setIfInBounds 3 jZ)) t<|ED hd
 have h3:3<a1.size:=(pR.mp t7).1
 exact k _ x1 ⟨a0,a5,a6,rfl,(B.2 a0<|fu a2).trans e1,e2,e3,e4,e5,e6,.inr ⟨j,_,_,.none,t1,a2,t3,t4,b1,hd,by simp [h3],.inl rfl⟩⟩
theorem AH (p:l=e::r)(q:AC A l)(x:Go w b e l t j y g s.heap [] (dW l)<|dE n)(X:XC b j.objs.size e.frame g s.heap m)
  (k:∀a,Go w b e l t j y g a [] (dW l) (dE n)->XC b j.objs.size T g a m->z () {s with heap:=a}):av (ak PR w) A (leaving e m) z O s:=by
 refine aF<|rR p q x X λa B M=>?_
 exact yM (s:={s with heap:=a}) (r:=r) B M k
end
end
mutual
section
variable {w:aM}{M:Model}{A:bu}{s:az}{g:G}
def hs:List (ae×ah)->List (ae×ah)->List (ae×ah)
 |[],a=>a
 |(n,d)::r,a=>hs r<|if (a.lookup n).isNone then a++[(n,d)] else a
theorem wN:hs ((n,d)::r) a=hs r (if (a.lookup n).isNone then a++[(n,d)] else a):=rfl
theorem Mz (L):∀a,(∀x∈L,(a.lookup x.1).isSome)->hs L a=a:=by
 induction L with
 |nil=>
  intro _ _
  exact rfl
 |cons c r e=>
  obtain ⟨n,d⟩:=c
  intro a h
  have b:=h (n,d)<|.head _
  refine J wN ?_
  have:(a.lookup n).isNone=N:=by cases q:a.lookup n with|none=>rw [q] at b;exact ff b|some _=>rfl
  refine J this ?_
  exact e a λx f=>h x<|.tail _ f
theorem Ro {b c:List<|ae×ah}(h:b.lookup n=T):(b++c).lookup n=c.lookup n:=by
 induction b with
 |nil=>rfl
 |cons a r d=>
  obtain ⟨k,v⟩:=a
  rw [fI] at h
  refine J tn ?_;refine J fI ?_
  cases q:n==k with
  |true=>rw [q] at h;exact ao h.symm
  |false=>rw [q] at h;exact d h
theorem GX (L):∀a,(∀x∈L,a.lookup x.1=T)->(L.map (·.1)).Nodup->hs L a=a++L:=by
 induction L with
 |nil=>
  intro a _ _
  exact (hz _).symm
 |cons c r e=>
  obtain ⟨n,d⟩:=c
  intro a h f
  refine aL (gd.mp f) λi j=>?_
  refine J wN ?_
  refine J (h (n,d)<|.head _) ?_
  show hs r (a++[(n,d)])=_
  rw [e (a++[(n,d)]) (λx b=>?_) j,hE]
  .rfl
  .refine J (Ro<|h x<|.tail _ b) ?_;refine J fI ?_
   have:(x.1==n)=N:=beq_eq_false_iff_ne.mpr λz=>i<|z▸mm (f:=(·.1)) b
   refine J this ?_;rfl
theorem GK (L L' b):hs (L++L') b=hs L' (hs L b):=by
 induction L generalizing b with
 |nil=>rfl
 |cons a r c=>obtain ⟨n,d⟩:=a;exact c _
theorem tL:∀{a:List ae}{b:List ah} {n},n∈a.take b.length->((a.zip b).lookup n).isSome
 |[],b,n,h=>by rw [List.take_nil] at h;exact nomatch h
 |p::a,[],n,h=>by exact nomatch h
 |p::a,v::b,n,h=>by
  refine J xK ?_;refine J fI ?_
  cases q:n==p with
  |true=>rfl
  |false=>
   have c:n∈p::a.take b.length:=h
   rcases bF.mp c with z|c
   .exact absurd z<|beq_eq_false_iff_ne.mp q
   .exact tL c
theorem CM:∀{a:List ae}{b:List ah} {n},n∉a.take b.length->(a.zip b).lookup n=T
 |[],b,n,h=>rfl
 |p::a,[],n,h=>rfl
 |p::a,v::b,n,h=>by
  refine J xK ?_;refine J fI ?_
  have c:n∉p::a.take b.length:=h
  have:(n==p)=N:=beq_eq_false_iff_ne.mpr λz=>c<|z▸.head _
  refine J this ?_
  exact CM λz=>c<|.tail _ z
theorem Tz {a:List ae}(b:a.Nodup)(h:n∈a.drop k):n∉a.take k:=λz=>by
 have:=nH k a▸b
 exact (ml.mp this).2.2 n z n h rfl
theorem J9 {b c:Type}{f g:b->Option c}{l:List b}:(∀x∈l,f x=g x)->l.filterMap f=l.filterMap g:=by
 induction l with
 |nil=>
  intro _
  exact rfl
 |cons a r d=>
  intro h
  refine J xx ?_;refine J xx ?_;refine J (h a<|.head _) ?_;exact J (d λx e=>h x<|.tail _ e) rfl
theorem Dt:∀{a:List ae}{b:List ah},a.Nodup->b.length=a.length->(a.filterMap λn=>((a.zip b).lookup n).map (n,·))=a.zip b
 |[],b,_,_=>rfl
 |p::a,[],_,h=>by exact nomatch h
 |p::a,v::b,c,h=>by
  refine aL (gd.mp c) λd e=>?_
  refine J xx ?_;refine J xK ?_;refine J fI ?_;rewrite [beq_self_eq_true]
  show (p,v)::_=_
  congr 1
  refine Eq.trans (J9 λx f=>?_)<|Dt e<|Nat.succ.inj h
  refine J fI ?_
  have:(x==p)=N:=beq_eq_false_iff_ne.mpr λz=>d<|z▸f
  exact J this rfl
theorem Df {d:Type}{c:List d}(h:c.length=a+b):∃p q,c=p++q/\p.length=a/\q.length=b:=
 ⟨c.take a,c.drop a,(nH a c).symm,by refine J pK ?_;refine J h ?_;exact Em<|bZ a b,by refine J Ea ?_;refine J h ?_;exact Nat.add_sub_cancel_left ..⟩
theorem G3 {p b a:List ae}(i:∀x∈b,x∈p)(j:∀x∈a,x∉p)(k:a.Nodup)(d:p.length=e.length)(l:b.length=f.length)(m:a.length=h.length):
  hs ((b++a).zip<|f++h) (p.zip e)=(p++a).zip (e++h):=by
 refine J (EF l) ?_;rewrite [GK];refine J (EF d) ?_;rw [Mz<|b.zip f,GX]
 .exact λx c=>CM λz=>j _ (EG c).1<|xR z
 .refine J (EH<|bh m) ?_;exact k
 .exact λx c=>tL<|by refine J (EI<|bh d) ?_;exact i _ (EG c).1
theorem ou:∀{b} {c l} {j},hq b c l=H j->
  ∃k a,c=k++a/\l.length+a.length=b.length/\j=b.zip (l++a)
 |[],c,[],j,h=>by refine aG h ?_;clear h;rintro rfl;exact ⟨c,[],(hz _).symm,rfl,rfl⟩
 |[],c,v::m,j,h=>by exact ao h
 |p::b,c,v::m,j,h=>by
  refine zm h ?_;rintro r e rfl
  refine du (ou e) ?_;rintro k a n f rfl
  exact ⟨k,a,n,(tp _ 1 _).trans<|congrArg (·+1) f,rfl⟩
 |p::b,c,[],j,h=>by
  refine zb (show (xb b c).bind _=_ from h) λd i h=>?_
  refine zm h ?_;rintro r q rfl
  refine du (ou q) ?_;rintro k a rfl f rfl
  have f:a.length=b.length:=(th _).symm.trans f
  revert i
  unfold xb
  cases t:aP<|b.length<(k++a).length with
  |false=>exact λh=>ao h
  |true=>
   intro i
   rcases List.eq_nil_or_concat k with rfl|⟨x,y,rfl⟩
   .exact absurd (of_decide_eq_true t)<|by rewrite [nI];refine J f ?_;exact jT _
   .rw [List.concat_eq_append] at i |-
    have i:(x++[y]++a)[(x++[y]++a).length - (b.length+1)]?=H d:=i
    rw [hE,show (x++([y]++a)).length - (b.length+1)=x.length by refine J eJ ?_;refine rT f ?_;refine J eJ ?_;refine J List.length_singleton ?_;rewrite [Sy 1];exact Sz ..,tq<|aT _,Nat.sub_self] at i
    refine bf i▸?_
    exact ⟨x,y::a,hE ..,(th _).trans<|congrArg (·+1) f,rfl⟩
theorem bj.zip:∀{c:List ae} {d} {b},aQ w g d b->bj w g (c.zip d) (c.zip b)
 |[],d,b,r=>by simp only [List.zip_nil_left];rfl
 |p::c,[],b,r=>by subst r;simp only [SA];rfl
 |p::c,x::d,b,r=>by
  obtain ⟨v,q,rfl,a,z⟩:=r
  exact ⟨v,_,rfl,a,bj.zip z⟩
theorem Oq 
  (d:∀n v a,f (n,v) a=if (a.lookup n).isNone=I then aS<|.yield<|a++[(n,v)] else aS<|.yield a) (L):∀a s b,
  b (hs L a) s->av M A (forIn L a f) b i s:=by
 induction L with
 |nil=>
  intro a s b h
  refine J xP ?_;exact bp h
 |cons e r c=>
  obtain ⟨n,v⟩:=e
  intro a s b h
  rw [xQ,d]
  rw [wN] at h
  refine aF ?_
  split at h
  .rename_i q
   refine J (if_pos q) ?_
   exact bp<|c _ s b h
  .rename_i q
   refine J (if_neg q) ?_
   exact bp<|c _ s b h
theorem JJ (p:b.params.posonlyargs=[])(q:b.params.kwonlyargs=[])(r:b.params.vararg=T)(t:b.params.kwarg=T)
 (f:b.params.args.map (·.arg)=a) (z:(x.getD #[]).toList=c) (B:av M A (seqItems? b.defaults) (λy d=>y=x/\d=s) O s)
 (P:e.length<=a.length) (X:c.length<=a.length) (i:((a.take<|a.length - c.length).filter λn=>((a.zip e).lookup n).isNone)=[])
 (k:j (a.filterMap λn=>((hs ((a.drop<|a.length - c.length).zip c)<|a.zip e).lookup n).map (n,·)) s):av M A (EJ b ⟨e,[]⟩) j O s:=by
 have a0:b.params.posonlyargs.map (·.arg)++b.params.args.map (·.arg)=a:=by refine J p ?_;refine J f ?_;rfl
 have m:c.drop (c.length - a.length)=c:=by refine J (Nat.sub_eq_zero_of_le X) ?_;rfl
 rw [<-m] at i k
 clear f m
 subst a0 z
 refine aF<|bp ?_
 refine aF<|ej B (λy d h=>?_) λ_ _ h=>h
 refine aL h ?_;clear h;rintro rfl rfl
 refine EK (decide_eq_false λh=>absurd (of_decide_eq_true<|bl h)<|de.mpr P) ?_
 refine EK (decide_eq_false λh=>ff<|h▸congrArg (λx=>!List.isEmpty x) i.symm) ?_
 refine aF<|Oq (λn v a1=>rfl) _ _ _ _ ?_
 refine aW q▸aW r▸aW t▸?_
 refine aF<|bp ?_
 refine EK rfl ?_
 refine bp ?_
 exact (congrArg (λl=>j (List.filterMap (λn=>((hs _ _).lookup n).map (n,·)) l) d)<|hz<|List.append _ _).mpr k
theorem AL {d:pU}{c f O q:List ah}{P:List (ae×ah)->az->Prop}{X:ah->az->Prop}(h1:d.params.posonlyargs=[])(h2:d.params.kwonlyargs=[])(h3:d.params.vararg=T)(h4:d.params.kwarg=T)
  {b:List ae} (a6:d.params.args.map (·.arg)=b) (a1:b.Nodup)
  (h:d.defaults=.none/\f=[]\/∃a0 o n,d.defaults=.ref a0/\s.heap.get? a0=H o/\o.data=.seq f.toArray n)
  (e:f=O++q) (i:c.length+q.length=b.length) (a2:f.length<=b.length)
  (k:P (b.zip<|c++q) s):av M A (EJ d ⟨c,[]⟩) P X s:=by
 have ld:f.length=O.length+q.length:=by refine J e ?_;exact J eJ rfl
 refine aC (Nat.exists_eq_add_of_le'<|show O.length<=c.length from DS<|i▸ld▸a2) λa r=>?_
 refine du (Df i.symm) λp pc j t a7=>?_
 refine du (Df<|t.trans r) λl a3 B a8 a9=>?_
 have n1:b.length - f.length=l.length:=by refine rT i ?_;refine J ld ?_;refine J r ?_;refine J a8 ?_;rewrite [SD];exact Sz ..
 have b0:b.drop l.length=a3++pc:=by refine J j ?_;refine J B ?_;rewrite [hE];exact EL
 have b1:b.take l.length=l:=by refine J j ?_;refine J B ?_;rewrite [hE];exact List.take_left
 have a4:=a1
 rw [j] at a4
 refine dI (ml.mp a4) λn2 n3 n4=>?_
 have a5:b.zip c=p.zip c:=by
  refine J j ?_
  exact (congrArg (List.zip<|p++pc) (hz c).symm).trans<|(EF t).trans<|by refine J SA ?_;rw [hz]
 have b2:p.take c.length=p:=EI<|bh t
 have c3:((b.take<|b.length - f.length).filter λn=>((b.zip c).lookup n).isNone)=[]:=by
  rw [List.filter_eq_nil_iff]
  refine aW n1▸aW b1▸aW a5▸?_
  intro a r
  refine aC (pV.mp<|tL (b:=c)<|b2.symm▸B.symm▸gg a3 r) λv z=>?_
  refine J z ?_;exact jY
 have go:∀x:Option<|Array ah,(x.getD #[]).toList=f->av M A (seqItems? d.defaults) (λy s'=>y=x/\s'=s) X s->av M A (EJ d ⟨c,[]⟩) P X s:=λx m hw=>
  JJ h1 h2 h3 h4 a6 m hw (i▸bZ _ _) a2 c3<|by
   refine aW n1▸aW b0▸aW a5▸aW e▸aW (G3 (λx m=>B.symm▸eK l m) (λx m b3=>n4 x b3 x m rfl) n3 t a9 a7)▸j▸aW (Dt a1<|by rw [eJ];exact i)▸?_
   exact k
 rcases h with ⟨h,e0⟩|⟨a0,o,n,h,b4,b5⟩
 .refine go T e0.symm ?_
  refine J h ?_
  exact aF<|bp<|bp ⟨rfl,rfl⟩
 .refine go (H f.toArray) rfl ?_
  refine J h ?_
  exact wpAny_seqItems b4 b5 ⟨rfl,rfl⟩
end
end
mutual
section
variable {w:aM}{a:Heap}{e:aA}{l:List aA}{g:G}{c:List Z}{s:az}{i:Y}{d:R}{f:Ev}{A:bu}{h b:Heap}
abbrev fX (A:bu)(l:List aA):Prop:=
 A.handled=T/\
 A.depth<=3*l.length+322/\
 A.units<=10*l.length+26/\
 A.frames=H l/\
 A.guards=H []
theorem fX.hand (h:fX A l):A.handled=T:=h.1
theorem fX.depth (h:fX A l):A.depth<=3*l.length+322:=h.2.1
theorem fX.units (h:fX A l):A.units<=10*l.length+26:=h.2.2.1
theorem fX.frames (h:fX A l):A.frames=H l:=h.2.2.2.1
theorem fX.guards (h:fX A l):A.guards=H []:=h.2.2.2.2
theorem AC.two (j:AC A l):fX A l:=⟨j.hand,by have:=j.depth;exact ay this<|by simp+arith only,by have:=j.units;exact ay this<|by simp+arith only,j.frames,j.guards⟩
theorem fX.deeper (j:fX A l)(k:l.length<=100) (e):AC (A.deeper e)<|e::l:=
 ⟨j.hand,by have:=j.depth;simp [EM];exact this,by have:=j.units;simp [EM];exact jX this,by simp [EM,j.frames],j.guards,by simp;exact ay k<|by simp+arith only⟩
theorem AC.ug (m:AC A l) (j) (k):fX (A.under<|.builtin "type.__call__" ⟨.ref j::k,[]⟩) l:=by
 have p:(ll "type.__call__" ⟨.ref j::k,[]⟩).frames=0:=rfl
 have q:(ll "type.__call__" ⟨.ref j::k,[]⟩).weight=1:=by
  unfold Code.weight
  have n:(ll "type.__call__" ⟨.ref j::k,[]⟩).isGuard=N:=by rfl
  have r:(ll "type.__call__" ⟨.ref j::k,[]⟩).isCreation=I:=rfl
  have t:(ll "type.__call__" ⟨.ref j::k,[]⟩).isCaller=N:=rfl
  refine J p ?_;refine J n ?_;refine J r ?_;refine J t ?_;rfl
 have x:(ll "type.__call__" ⟨.ref j::k,[]⟩).envs=[]:=rfl
 have y:(ll "type.__call__" ⟨.ref j::k,[]⟩).guards=[]:=by
  have n:(ll "type.__call__" ⟨.ref j::k,[]⟩).isGuard=N:=by rfl
  unfold Code.guards;refine J n ?_;rfl
 have z:(ll "type.__call__" ⟨.ref j::k,[]⟩).cUnits=1:=rfl
 refine ⟨m.hand,?_,?_,?_,?_⟩
 .show A.depth+_<=_;refine J q ?_;have:=m.depth;exact ay this<|by simp+arith only
 .show A.units+_<=_;refine J z ?_;have:=m.units;exact ay this<|by simp+arith only
 .simp only [SE,x,pushEnvs];exact m.frames
 .simp only [SE,y,pushGuards];exact m.guards
theorem Jj (j):∀h,h.objs.size<=(lk h j).objs.size:=by
 induction j with
 |nil=>
  intro h
  exact aT _
 |cons n r m=>
  obtain ⟨_,k⟩:=n
  intro h
  unfold lk
  split
  .exact ai (by rw [Heap.size_push];exact bZ _ _)<|m _
  .exact m h
theorem OT (m):∀n j,(j.lookup x).isSome->((lj n m j).lookup x).isSome:=by
 induction m with
 |nil=>
  intro n j h
  exact h
 |cons q r p=>
  obtain ⟨y,k⟩:=q
  intro n j h
  unfold lj
  split
  .refine p _ _ ?_
   simp only [fI]
   split
   .rfl
   .exact h
  .exact p n j h
theorem QU (j):∀n m,aZ x j=H .cell->((lj n j m).lookup x).isSome:=by
 induction j with
 |nil=>
  intro n m h
  exact ao h
 |cons q r p=>
  obtain ⟨y,k⟩:=q
  intro n m h
  rw [nh] at h
  unfold lj
  split at h
  .rename_i t
   subst t
   refine aG h ?_;clear h;rintro rfl
   refine OT r _ _ ?_
   simp only [fI,beq_self_eq_true]
   rfl
  .split
   .exact p _ _ h
   .exact p _ _ h
theorem t_ (m:∀x∈p,x.2≠.cell) (n) (j):lj n p j=j:=by
 induction p generalizing n j with
 |nil=>rfl
 |cons q r t=>
  obtain ⟨y,k⟩:=q
  unfold lj
  have:¬(k==Sx)=I:=λz=>m (y,k) (.head _)<|sT z
  refine J (if_neg this) ?_
  exact t (λx B=>m x<|.tail _ B) n j
theorem Du (j:∀x∈m,x.2≠.cell):aZ x m≠H .cell:=by
 induction m with
 |nil=>exact λq=>ao q
 |cons n r p=>
  obtain ⟨y,k⟩:=n
  refine J nh ?_
  split
  .intro q;refine aG q ?_;clear q;rintro rfl;exact j _ (.head _) rfl
  .exact p λx t=>j x<|.tail _ t
abbrev oe (g:G)(k:List<|ae×Z):Prop:=
 (∀x j,k.lookup x=H j->∃o v,g.F j o/\o.data=.cell v)/\
 ∀x y j,k.lookup x=H j->k.lookup y=H j->x=y
theorem oe.cell (h:oe g k):∀x j,k.lookup x=H j->∃o v,g.F j o/\o.data=.cell v:=h.1
theorem oe.inj (h:oe g j):∀x y k,j.lookup x=H k->j.lookup y=H k->x=y:=h.2
theorem Dq {m:ia}{M:List<|ae×Z}{b2:ae}{b8:Z}{b3:ah}{a0:List<|ae×E}{a7:List<|ae×ah}{b4:aA->az->Prop}{b9:ah->az->Prop}
  (b5:AR w a g s.heap l d) (c0:a.NoLimit) (r:bj w g a0 a7) (c1:(a0.map (·.1)).Nodup) (c2:∀x∈a0.map (·.1),aZ x m.names=H .local\/aZ x m.names=H .cell)
  (c3:m.kind=.function) (a8:M=[]\/(∀x∈m.names,x.2≠.cell)/\oe g M) {a9:Option Z} (c4:∀P,a9=H P->oE a b3 b2 P)
  (k:∀e O b b0,e.scope=m->e.cells=(if M=[] then e.cells else M)->ST w a O b e (e::l) ⟨a0,T,m.names,[],l.length+1,a9⟩ d []->b.NoLimit->s.heap.objs.size<=e.locals->g.Le O->
   (∀c g2 h2,bt a O b g2 h2 (PP e c)->(∀a1 o,g2.F a1 o->h2.get? a1=H o)->bt a g s.heap g2 h2 λa1=>a1∈c)->
   (∀x j,e.cells.lookup x=H j->s.heap.objs.size<=j\/∃o,g.F j o)->(∀n o,s.heap.get? n=H o->o.cls≠.type "frame" ->bU a g n->b.get? n=H o/\bU a O n)->b4 e {s with heap:=b,toks:=b0}):
  av (ak PR w) A (tk m ha M a7 b2 (H b8) b3 T jj) b4 b9 s:=by
 refine PU λe B=>?_
 have a2:∀n o,s.heap.get? n=H o->(lk (s.heap.push {cls:=.type "frame",data:=.dict #[]}) m.names).get? n=H o:=λn o t=>EN _ _ n o<|Heap.get?_push_of_some _ t
 have b6:s.heap.objs.size<=(lk (s.heap.push {cls:=.type "frame",data:=.dict #[]}) m.names).objs.size:=ai (by rw [Heap.size_push];exact bZ _ _)<|Jj _ _
 have a3:e.locals=s.heap.objs.size:=by refine J B ?_;rfl
 have b1:e.scope=m:=by refine J B ?_;rfl
 have a4:e.cells=lj (s.heap.objs.size+1) m.names M:=by refine J B ?_;rfl
 have c5:(lk (s.heap.push {cls:=.type "frame",data:=.dict #[]}) m.names).get? s.heap.objs.size=H {cls:=.type "frame",data:=.dict #[]}:=EN _ _ _ _<|Heap.get?_push_size _ rfl
 have a5:∀x j,e.cells.lookup x=H j->s.heap.objs.size<=j/\j≠s.heap.objs.size/\(lk (s.heap.push {cls:=.type "frame",data:=.dict #[]}) m.names).IsCell j T\/(∃o v,g.F j o/\o.data=.cell v)/\aZ x m.names≠H .cell:=by
  intro x j t
  rw [a4] at t
  rcases a8 with rfl|⟨X,a6⟩
  .have ok:=SG m.names (s.heap.push {cls:=.type "frame",data:=.dict #[]}) (s.heap.objs.size+1) [] ⟨λ_ _ hm=>(nomatch hm),SH⟩<|by rw [Heap.size_push];exact aT _
   rw [Heap.size_push] at ok
   refine aL (ok.empty x j<|EO t) λp1 p2=>?_
   exact .inl ⟨nJ p2,dN p2,p1⟩
  .rw [t_ X] at t
   exact .inr ⟨a6.cell x j t,Du X⟩
 have c6:∀x y j,e.cells.lookup x=H j->e.cells.lookup y=H j->x=y:=by
  intro x y j e1 e2
  rw [a4] at e1 e2
  rcases a8 with rfl|⟨X,a6⟩
  .have ok:=SG m.names (s.heap.push {cls:=.type "frame",data:=.dict #[]}) (s.heap.objs.size+1) [] ⟨λ_ _ hm=>(nomatch hm),SH⟩<|by rw [Heap.size_push];exact aT _
   rw [Heap.size_push] at ok
   exact name_of_addr ok.apart (EO e1)<|EO e2
  .rw [t_ X] at e1 e2
   exact a6.inj x y j e1 e2
 have c7:ST w a g (lk (s.heap.push {cls:=.type "frame",data:=.dict #[]}) m.names) e (e::l) ⟨[],T,m.names,[],l.length+1,a9⟩ d []:=by
  refine F_ (L:=s.heap.objs.size) b5 a2 b6 (by refine J b1 ?_;exact c3) (by refine J B ?_;rfl) ⟨by refine J B ?_;rfl,by refine J B ?_;exact c4⟩ a3 (by refine J B ?_;rfl) (aT _) ?_ ⟨_,c5,rfl⟩ (by exact J b1 rfl) rfl rfl rfl rfl a5 (λx q=>?_) ?_ c6
  .exact (Heap.Ns.new s.heap<|.type "frame").keeps<|EN _ _
  .refine J a4 ?_
   exact pV.mp<|QU _ _ _ q
  .refine J B ?_;rfl
 refine Ii a0 a7 _ g [] {s with heap:=lk (s.heap.push {cls:=.type "frame",data:=.dict #[]}) m.names} c7 r c1 (λx _=>⟨rfl,rfl⟩) c2 rfl λO b b0 c8 o=>?_
 have c9:c8=[]:=by
  obtain ⟨_,_,_,z⟩:=o.st.fr.vals
  exact z.2 rfl
 subst c9
 refine k e O b b0 b1 ?_ o.st (c0.keeps (o.st).sr.base) (by refine J a3 ?_;exact aT _) o.ext.le (λc g2 h2 x d0=>?_) (λx j t=>?_) λn b7 t d1 p=>?_
 .split
  .rfl
  .rename_i q
   rcases a8 with rfl|⟨X,a6⟩
   .exact absurd rfl q
   .refine J a4 ?_;rw [t_ X]
 .refine PQ (e:=e) (c:=c) b5.sr a2 b6 (by refine J a3 ?_;exact aT _) (λx j t=>?_) ((o.ext.mono λa1 q=>?_).trans x) d0
  .rcases a5 x j t with ⟨q,_⟩|⟨⟨o,_,q,_⟩,_⟩
   .exact .inl q
   .exact .inr ⟨o,q⟩
  .rcases q with q|q|q
   .exact .inl q
   .exact .inr<|.inl q
   .exact nomatch q
 .rcases a5 x j t with ⟨q,_⟩|⟨⟨o,_,q,_⟩,_⟩
  .exact .inl q
  .exact .inr ⟨o,q⟩
 .have np:¬PP e [] n:=λq=>by
   have lt:=Heap.lt_size t
   rcases q with q|⟨_,x,q⟩|q
   .rw [a3] at q;exact absurd lt<|by refine J q ?_;exact jT _
   .rcases a5 x n q with ⟨z,_⟩|⟨⟨o',_,z,_⟩,_⟩
    .exact absurd lt<|de.mpr z
    .exact p.F _ z
   .exact nomatch q
  exact ⟨o.ext.kc (a2 n b7 t) p np d1,o.ext.bb (a2 n b7 t) p np⟩
end
end
mutual
section
variable {w:aM}{a:Heap}{e:aA}{l:List aA}{g:G}{d:List Z}{s:az}{i:Y}{c:R}{f:Ev}{A:bu}{h b:Heap}
def g0 (a:Heap):G:=⟨λj o=>a.get? j=H o,λ_=>T,λ_=>T⟩
theorem SR.Q6 (j:SR w a g c h):(g0 a).Le g:=⟨λk o m=>j.hF k o m,λ_ _ q=>ao q,λ_ _ q=>ao q⟩
abbrev b_ (w:aM)(a:Heap)(j:pU)(k:jJ):Prop:=
 j.body=.stmts k.body/\
 j.params.posonlyargs=[]/\
 j.params.kwonlyargs=[]/\
 j.params.vararg=T/\
 j.params.kwarg=T/\
 j.params.args.map (·.arg)=k.params/\
 j.scope=k.scope/\
 j.globals=ha/\
 j.builtins=jj/\
 j.closure=[]/\
 j.scope.isCoroutine=N/\
 j.scope.isGenerator=N/\
 j.scope.kind=.function/\
 a.CodeRec j.code j.qualname/\
 (∃m,aQ w (g0 a) k.hk m/\(j.defaults=.none/\m=[]\/∃p o n,j.defaults=.ref p/\a.get? p=H o/\o.data=.seq m.toArray n))/\
 k.params.Nodup/\
 (∀x∈k.params,aZ x k.scope.names=H .local\/aZ x k.scope.names=H .cell)/\
 k.hk.length<=k.params.length/\
 ∀P,k.tab=H P->oE a j.code (j.qualname++ ".<locals>.") P
theorem b_.body (h:b_ w a j k):j.body=.stmts k.body:=h.1
theorem b_.pos (h:b_ w a j k):j.params.posonlyargs=[]:=h.2.1
theorem b_.vo (h:b_ w a j k):j.params.kwonlyargs=[]:=h.2.2.1
theorem b_.va (h:b_ w a j k):j.params.vararg=T:=h.2.2.2.1
theorem b_.ka (h:b_ w a j k):j.params.kwarg=T:=h.2.2.2.2.1
theorem b_.args (h:b_ w a j k):j.params.args.map (·.arg)=k.params:=h.2.2.2.2.2.1
theorem b_.scope (h:b_ w a j k):j.scope=k.scope:=h.2.2.2.2.2.2.1
theorem b_.glob (h:b_ w a j k):j.globals=ha:=h.2.2.2.2.2.2.2.1
theorem b_.blt (h:b_ w a j k):j.builtins=jj:=h.2.2.2.2.2.2.2.2.1
theorem b_.bR (h:b_ w a j k):j.closure=[]:=h.2.2.2.2.2.2.2.2.2.1
theorem b_.co (h:b_ w a j k):j.scope.isCoroutine=N:=h.2.2.2.2.2.2.2.2.2.2.1
theorem b_.gen (h:b_ w a j k):j.scope.isGenerator=N:=h.2.2.2.2.2.2.2.2.2.2.2.1
theorem b_.kind (h:b_ w a j k):j.scope.kind=.function:=h.2.2.2.2.2.2.2.2.2.2.2.2.1
theorem b_.code (h:b_ w a j k):a.CodeRec j.code j.qualname:=h.2.2.2.2.2.2.2.2.2.2.2.2.2.1
theorem b_.dflt (h:b_ w a k p):∃j,aQ w (g0 a) p.hk j/\(k.defaults=.none/\j=[]\/∃m o n,k.defaults=.ref m/\a.get? m=H o/\o.data=.seq j.toArray n):=h.2.2.2.2.2.2.2.2.2.2.2.2.2.2.1
theorem b_.nodup (h:b_ w a k j):j.params.Nodup:=h.2.2.2.2.2.2.2.2.2.2.2.2.2.2.2.1
theorem b_.kinds (h:b_ w a k j):∀x∈j.params,aZ x j.scope.names=H .local\/aZ x j.scope.names=H .cell:=h.2.2.2.2.2.2.2.2.2.2.2.2.2.2.2.2.1
theorem b_.vf (h:b_ w a k j):j.hk.length<=j.params.length:=h.2.2.2.2.2.2.2.2.2.2.2.2.2.2.2.2.2.1
theorem b_.tab (h:b_ w a j k):∀P,k.tab=H P->oE a j.code (j.qualname++ ".<locals>.") P:=h.2.2.2.2.2.2.2.2.2.2.2.2.2.2.2.2.2.2
abbrev KD (w:aM)(a:Heap):Prop:=
 ∀j k,d_ j=H k->∃o m,a.get? j=H o/\o.data=.func m/\b_ w a m k
theorem KD.fn (h:KD w a):∀j k,d_ j=H k->∃o m,a.get? j=H o/\o.data=.func m/\b_ w a m k:=h
abbrev fR (w:aM)(a:Heap)(l:List aA)(g:G)(h:Heap)(r:List<|ae×E)(t:ia)(y:Option Z)(c:R)(e:aA)(j:G)(b:Heap):Prop:=
 ST w a j b e (e::l) ⟨r,T,t.names,[],l.length+1,y⟩ c []/\
 g.Le j/\
 (∀d n p,bt a j b n p (PP e d)->(∀k o,n.F k o->p.get? k=H o)->bt a g h n p λk=>k∈d)/\
 h.objs.size<=e.locals/\
 (∀x q,e.cells.lookup x=H q->h.objs.size<=q\/∃o,g.F q o)/\
 ∀m o,h.get? m=H o->o.cls≠.type "frame" ->bU a g m->b.get? m=H o/\bU a j m
theorem fR.st (j:fR w a l g h k m n c e p b):ST w a p b e (e::l) ⟨k,T,m.names,[],l.length+1,n⟩ c []:=j.1
theorem fR.le (j:fR w a l g h m n p c e k b):g.Le k:=j.2.1
theorem fR.leave (n:fR w a l g h q r t c e p b):∀d k m,bt a p b k m (PP e d)->(∀j o,k.F j o->m.get? j=H o)->bt a g h k m λj=>j∈d:=n.2.2.1
theorem fR.loc (j:fR w a l g h k m n c e p b):h.objs.size<=e.locals:=j.2.2.2.1
theorem fR.cells (k:fR w a l g h m n p c e q b):∀x j,e.cells.lookup x=H j->h.objs.size<=j\/∃o,g.F j o:=k.2.2.2.2.1
theorem fR.bb (k:fR w a l g h n p q c e m b):∀j o,h.get? j=H o->o.cls≠.type "frame" ->bU a g j->b.get? j=H o/\bU a m j:=k.2.2.2.2.2
theorem fR.size (X:fR w a l g h k m n c e j b):h.objs.size<=b.objs.size:=(X.leave [] j b (bt.refl j b) X.st.sr.fz).size
set_option backward.match.sparseCases true in
abbrev yi (w:aM)(A:bu)(p:List bM)(e:aA)(j:j_->az->Prop)(s:az):Prop:=
 av (ak PR w) (A.deeper e) (iM p e) (λq k=>j (.ok<|.ret<|match q with|.ret v=>v|_=>.none) k)
  (λn k=>av (ak PR w) (A.deeper e) (leaving e n) (λ_ m=>j (.error n) m) (λr m=>j (.error r) m) k) s
set_option backward.match.sparseCases true in
theorem tR (t:AR w a g s.heap l c)(O:fX A l)(a5:l.length<100)(a6:a.NoLimit)
  (a7:a.get? a8=H o) (hd:o.data=.func fd) (X:b_ w a fd j) (a9:hq j.params j.hk p=H b0) (P:aQ w g p a0)
  (k:∀e x b y,fR w a l g s.heap b0 j.scope j.tab c e x b->AC (A.deeper e) (e::l)->yi w A j.body e R' {s with heap:=b,toks:=y}):gc (ak PR w) A (.call (.ref a8) ⟨a0,[]⟩) R' s:=by
 refine du (ou a9) ?_;rintro r z a1 a2 rfl
 refine aK X.dflt λB m b1=>?_
 have m:=aQ.mono t.sr.Q6 _ _ m
 have b2:(p++z).length=j.params.length:=by refine J eJ ?_;exact a2
 have M:=t.sr.base
 have a3:=(m.drop r.length).length
 rw [a1,EL] at a3
 refine codeAny_call_function (dH O.depth<|ay (eA 3 a5)<|by simp+arith only [SI]) (M _ _ a7) hd X.co X.gen X.body (X.code.keeps M) ?_
 refine AL (f:=B) X.pos X.vo X.va X.ka X.args X.nodup ?_ (nH r.length B).symm (by refine rT a3 ?_;refine rT P.length ?_;exact a2) (m.length▸X.vf) ?_
 .rcases b1 with q|⟨b3,o,n,q1,q2,q3⟩
  .exact .inl q
  .exact .inr ⟨b3,o,n,q1,M _ _ q2,q3⟩
 refine aW X.glob▸aW X.blt▸aW X.bR▸?_
 have nm:(j.params.zip<|p++z).map (·.1)=j.params:=EH<|bh b2.symm
 have rs:bj w g (j.params.zip<|p++z)<|j.params.zip<|a0++B.drop r.length:=
  bj.zip<|P.append<|by have:=m.drop r.length;rwa [a1,EL] at this
 refine Dq t a6 rs (by refine J nm ?_;exact X.nodup) (by refine J nm ?_;refine J X.scope ?_;exact X.kinds) X.kind (.inl rfl) (a9:=j.tab) X.tab λe x b y e1 e2 a4 nl b4 le b5 cs b6=>?_
 rw [X.scope] at a4
 exact ⟨nl,codeAny_func<|k e x b y ⟨a4,le,b5,b4,cs,b6⟩<|O.deeper (by exact ig<|by assumption) e⟩
set_option backward.match.sparseCases true in
theorem Cr {O:List bM}{e:aA}{r:G}{b:Heap}{a2:Nat}{P:j_->az->Prop}{d:List Z}{i:Y}{a0:R}{k:Fl->Y->R->Prop}{X:Prop}
  (a3:∀g2 h2,bt a r b g2 h2 (PP e d)->(∀a4 o,g2.F a4 o->h2.get? a4=H o)->bt a g h g2 h2 hU) (a7:h.objs.size<=b.objs.size)
  (a8:bz w a f) (a5:AC (A.deeper e)<|e::l) (a9:ST w a r b e (e::l) i a0 d) (b0:f.execs i a0 O k X)
  (k1:∀t x y,k t x y->∀m z j p B,bt a g h m j hU->Go w a e (e::l) r b d m j B x y->jd w m j B t z->P (.ok<|.ret<|match z with|.ret v=>v|_=>.none) {s with heap:=j,toks:=p})
  (k2:X->∀M m j p n,bt a g h m j hU->AR w a m j l (dE n)->XC a h.objs.size T m j M->P (.error M) {s with heap:=j,toks:=p}):
  yi w A O e P {s with heap:=b,toks:=a2}:=by
 refine a8.execs O i a0 e (e::l) (A.deeper e) r d {s with heap:=b,toks:=a2} a5 a9 ⟨l,rfl⟩ k X b0 _ _ (λt x y b1 m z j p B q b2=>?_) λb3 M m j p n q b4=>?_
 .exact k1 t x y b1 m z j p B (a3 m j q.ext q.st.sr.fz) q b2
 .refine AH (s:={s with heap:=j,toks:=p}) (r:=l) rfl a5 q b4 λa6 a1 b5=>?_
  exact k2 b3 M m a6 p n (a3 m a6 a1.ext a1.st.sr.fz) (mc a1.st)<|b5.mono a7
theorem yR {t:Z}{y:jJ}{P:List E}{a0:List ah}{z:j_->az->Prop}{k:E->R->Prop}{X:Prop}(a4:bz w a f)(a5:KD w a)(a6:AR w a g s.heap l c)(a7:fX A l)(a8:l.length<100)(a9:a.NoLimit)
  (b0:d_ t=H y) (b1:aQ w g P a0) (B:pv f.execs l.length y P c k X)
  (k1:∀v r,k v r->∀m a1 j p,bt a g s.heap m j hU->AR w a m j l r->aq w m v a1->z (.ok<|.ret a1) {s with heap:=j,toks:=p})
  (k2:X->∀ev m j p n,bt a g s.heap m j hU->AR w a m j l (dE n)->XC a s.heap.objs.size T m j ev->z (.error ev) {s with heap:=j,toks:=p}):
  gc (ak PR w) A (.call (.ref t) ⟨a0,[]⟩) z s:=by
 refine du (a5.fn t y b0) λo fd b2 hd b3=>?_
 refine zo B λb9 b4 B=>?_
 refine tR a6 a7 a8 a9 b2 hd b3 b4 b1 λe g' b c0 M C'=>?_
 refine Cr (h:=s.heap) (g:=g) (λg2 h2 x b5=>(M.leave [] g2 h2 x b5).mono λt q=>nomatch q) M.size a4 C' M.st B (λb6 c1 r a2 m b7 j p c2 x a3 O=>?_) k2
 cases b6 with
 |next=>
  obtain rfl:b7=.next:=O
  exact k1 .none r a2 m .none j p x (mc a3.st) jI
 |ret v=>
  refine aK O ?_;clear O;rintro u rfl b8
  exact k1 v r a2 m u j p x (mc a3.st) b8
end
end
mutual
section
variable {w:aM}{b:Heap}{e:aA}{l:List aA}{g:G}{f:List Z}{s:az}{i:Y}{a:R}{d:Ev}{A:bu}{h c:Heap}
abbrev KM (K:aU):Prop:=
 ∀j k,gB j=H k->d_ j=T/\EP K j=I/\cY K (.ref j) "__init__" =H (H<|.ref k)/\iP K (.ref k)=H (.type "function")
theorem KM.make {K:aU}(h:KM K):∀j k,gB j=H k->d_ j=T/\EP K j=I/\cY K (.ref j) "__init__" =H (H<|.ref k)/\iP K (.ref k)=H (.type "function"):=h
theorem AR.grow (j:AR w b g h l a)(k:∀m o,h.get? m=H o->c.get? m=H o)(n:h.objs.size<=c.objs.size):AR w b g c l a:=
 ⟨j.sr.grow k n,j.tb.grow k,j.ff.grow k⟩
theorem AR.add (j:AR w b g h l a)(k:h.get? m=H o)(p:bU b g m)(n:∀k∈l,k.frame≠H m):AR w b (g.add m o) h l a:=
 ⟨j.sr.add k p.ν,j.tb.add p.tab,j.ff.add n⟩
theorem AR.i_ (m:AR w b g h l a)(y:bU b g r)(a2:∀k∈l,k.frame≠H r)(a3:r<h.objs.size)(a1:gU w (g.loc a.next a0 r) h a.next P):AR w b (g.loc a.next a0 r) h l<|a.alloc P:=by
 refine dI (m.sr.dA a.next<|aT _) λd1 d2 d3=>?_
 have le:=G.kh (s:=a0) (t:=r) d1 d2
 refine ⟨⟨m.sr.base,m.sr.fz,λj B q=>?_,λj q=>?_,λj p q=>?_,λj p o q=>?_,λj x p q q'=>?_,m.sr.low,m.sr.hF,λj p q=>?_⟩,m.tb.mono le λ_ _ q _=>q,λk he=>?_⟩
 .have n:(if j=a.next then H P else a.get j)=H B:=q
  clear q
  by_cases k:j=a.next
  .rw [if_pos k] at n;refine J k ?_;refine aG n ?_;clear n;rintro rfl;exact a1
  .rw [if_neg k] at n;exact (m.sr.st j B n).mono le
 .have M:j≠a.next:=by
   have:a.next+1<=j:=q
   exact dN this
  refine dI (m.sr.dA j<|by have:a.next+1<=j:=q;exact dg<|by assumption) λx1 X x3=>?_
  refine ⟨?_,?_,?_⟩
  .show (if j=a.next then H a0 else g.μ j)=T;refine J (if_neg M) ?_;exact x1
  .show (if j=a.next then H r else g.ν j)=T;refine J (if_neg M) ?_;exact X
  .show (if j=a.next then H P else a.get j)=T;refine J (if_neg M) ?_;exact x3
 .have q:(if j=a.next then H r else g.ν j)=H p:=q
  split at q
  .refine aG q ?_;clear q;rintro rfl;exact ⟨a3,y.base,y.tab⟩
  .exact m.sr.da j p q
 .have q:(if j=a.next then H r else g.ν j)=H p:=q
  rintro ⟨B,z⟩
  have z:(if j=a.next then H P else a.get j)=H B:=z
  split at q
  .refine aG q ?_;clear q;rintro rfl;exact y.F o
  .rename_i M
   rw [if_neg M] at z
   exact m.sr.fC j p o q ⟨B,z⟩
 .have n:(if j=a.next then H r else g.ν j)=H p:=q
  have t:(if x=a.next then H r else g.ν x)=H p:=q'
  by_cases k:j=a.next
  .replace n:=if_pos k▸n
   refine aG n ?_;clear n;rintro rfl
   by_cases O:x=a.next
   .simp only [k,O]
   .rw [if_neg O] at t;exact absurd t<|y.ν x
  .rw [if_neg k] at n
   by_cases O:x=a.next
   .rw [if_pos O] at t;refine aG t ?_;clear t;rintro rfl;exact absurd n<|y.ν j
   .replace t:=if_neg O▸t;exact m.sr.inj j x p n t
 .by_cases k:j=a.next
  .subst k;exact a1.jH q
  .have q:(if j=a.next then H r else g.ν j)=H p:=q
   rw [if_neg k] at q
   exact m.sr.fb j p q
 .refine aL (m.ff k he) λx1 zz=>fe zz λL o X x3 x4 x5 x6=>?_;clear zz
  exact ⟨x1,L,o,X,x3,x4,x5,x6.loc λz=>a2 k he<|z▸X⟩
def fT (h:Heap)(j:Z):Heap:=(h.push emptyDict).push<|fs j h.objs.size
theorem qG (k) (j) (o)(m:h.get? j=H o):(fT h k).get? j=H o:=Heap.get?_push_of_some _<|Heap.get?_push_of_some _ m
theorem oz (j):(fT h j).objs.size=h.objs.size+2:=by unfold fT;rw [Heap.size_push,Heap.size_push]
theorem Bb (j):(fT h j).get? h.objs.size=H (ft [] 0):=Heap.get?_push_of_some _<|Heap.get?_push_size _ rfl
theorem CX (j):(fT h j).get? (h.objs.size+1)=H (fs j h.objs.size):=by
 have:=Heap.get?_push_size (h.push emptyDict) (o:=fs j h.objs.size) rfl
 rwa [Heap.size_push] at this
theorem FF.fresh (m:FF b g h l){k:Z}(n:h.objs.size<=k):∀j∈l,j.frame≠H k:=λj p q=>absurd (m.lt j p _ q)<|de.mpr n
theorem AR.JK (m:AR w b g h l a) (k):AR w b ((g.add (h.objs.size+1)<|fs k h.objs.size).loc a.next (h.objs.size+1) h.objs.size) (fT h k) l (a.alloc<|.inst k [])/\
  bt b g h ((g.add (h.objs.size+1)<|fs k h.objs.size).loc a.next (h.objs.size+1) h.objs.size) (fT h k) hU:=by
 have n:h.objs.size<=(fT h k).objs.size:=by rw [oz];exact bZ _ _
 have y:AR w b g (fT h k) l a:=m.grow (qG k) n
 have p:=y.add (CX k) (m.nc<|dX _)<|m.ff.fresh<|dX _
 refine dI (p.sr.dA a.next<|aT _) λr t O=>?_
 have z:bU b (g.add (h.objs.size+1)<|fs k h.objs.size) h.objs.size:=m.mS.add<|cA<|fw _
 refine ⟨p.i_ z (m.ff.fresh<|aT _) (by rw [oz];exact Nat.lt_add_of_pos_right<|by decide) ?_,?_⟩
 .refine ⟨h.objs.size+1,h.objs.size,[],0,[],G.js ..,G.pb ..,(G.kh (s:=h.objs.size+1) (t:=h.objs.size) r t).F _ _<|G.eZ ..,Bb k,.nil,?_⟩
  rfl
 .refine ⟨(g.c_ _ _).trans<|G.kh (s:=h.objs.size+1) (t:=h.objs.size) r t,n,λx o q=>?_,λj x q=>?_,λB o M _ _ _=>.inl<|qG k B o M⟩
  .rcases q with q|⟨rfl,_⟩
   .exact .inl q
   .exact .inr<|.inl<|dX _
  .have q:(if j=a.next then H h.objs.size else g.ν j)=H x:=q
   split at q
   .refine aG q ?_;clear q;rintro rfl;exact .inr<|aT _
   .exact .inl q
theorem Ky {K:aU}{j r:Z}{a1:jJ}{a2:List E}{m:List ah}(a6:bz w b d)(a7:KD w b)(a8:K.In b)(M:KM K)(a3:AR w b g s.heap l a)(a9:AC A l)(b0:l.length<100)(b1:b.NoLimit)
  (b2:gB j=H r) (b3:d_ r=H a1) (b4:aQ w g a2 m):
  WC w b l g s (cG w) (λk X=>pv d.execs l.length a1 (.loc a.next::a2) (a.alloc<|.inst j []) (λv b5=>isNone v=I/\k (.loc a.next) b5) X) λa4 a5=>av (ak PR w) A (dG (.ref j) m) a4 a5 s:=by
 intro k X b6 a4 a5 k1 k2
 refine hJ (M.make j r b2) λm0 b7 b8 b9=>?_
 have x:=a8.keeps a3.sr.base
 refine aL (a3.JK j) λR' z=>?_
 obtain ⟨p,c0,c1,t,os⟩:=s
 refine mn<|make_core (makes_of x b7) (tr x b8) (λc2=>ER x c2 b9) (.inl rfl) ?_
 refine yR (s:=⟨fT p j,c0,c1,t,os⟩) (a0:=.ref (p.objs.size+1)::m) a6 a7 R' (a9.ug j m) b0 b1 b3 (fQ (x:=.loc a.next) ⟨_,G.js ..,rfl⟩<|aQ.mono z.le _ _ b4) b6 (λv c3 q B c8 O P y a0 c4=>?_) λc5 ev B O P n y a0 c6=>?_
 .refine aL q ?_;clear q;intro c7 q
  have:v=.none:=by cases v<;>first|rfl|(exact ff c7)
  subst this
  exact ⟨c4.none_,k1 (.loc a.next) c3 q B _ O P (z.trans y) a0 ⟨_,y.le.μ _ _<|G.js ..,rfl⟩⟩
 .exact k2 c5 ev B O P n (z.trans y) a0<|c6.mono<|by show p.objs.size<=(fT p j).objs.size;refine J (oz j) ?_;exact bZ _ _
end
end
mutual
section
variable {w:aM}{a:Heap}{e:aA}{l:List aA}{g:G}{i:List Z}{s:az}{f:Y}{b:R}{c:Ev}{A:bu}{h d:Heap}
theorem Qd (n:y≠x):aI x ((y,v)::j)=aI x j:=by
 show (if y=x then H v else aI x j)=_
 exact J (if_neg n) rfl
theorem Br:aI x k=H v->x∈k.map (·.1):=by
 induction k with
 |nil=>
  intro j
  exact ao j
 |cons m r n=>
  obtain ⟨y,u⟩:=m
  intro j
  rw [hT] at j
  split at j
  .rename_i q;refine J q ?_;exact .head _
  .exact .tail _<|n j
theorem ST.K6 {B:ae}{M:List<|ae×E}{O:List<|ae×fq}{x t z:Z}{n:Nat}{P:Option Z}(j:ST w a g h e l ⟨(B,.ag<|.ref x)::M,T,O,[],n,P⟩ b [])(X:aZ B O=H .local)(a1:B∉M.map (·.1))
  (a2:h.get? x=H (fs z t)) (hd:h.get? t=H (ft [] 0)) (a3:bU a g x) (a4:bU a g t) (ne:x≠t) (a5:e.locals∉[x,t]) (a6:∀y z,e.cells.lookup y=H z->z∉[x,t]):
  ST w a g h e l ⟨M,H (B,.inst z []),O,[],n,P⟩ b [x,t]:=by
 have up:∀y v,aI y M=H v->aI y ((B,E.ag<|.ref x)::M)=H v:=λy v p=>by
  rw [Qd]
  .exact p
  .exact λq=>a1<|q▸Br p
 obtain ⟨m,a7,a0,_⟩:=j.fr.vals
 refine ⟨j.sr,⟨j.fr.fn,j.fr.glob,j.fr.blt,j.fr.kinds,⟨m,a7,λy v p k=>a0 y v (up y v p) k,.so ⟨X,x,?_,t,[],0,[],rfl,ne,a3,a4,a2,hd,.nil,?_⟩⟩,λy v p k=>j.fr.cell y v (up y v p) k,λy z p=>?_,j.fr.gu,j.fr.eE,j.fr.bb,a5⟩,j.tb,j.ff,j.dep,j.top⟩
 .refine aK (a0 B (.ag<|.ref x) (if_pos rfl) X) λb1 p r=>?_
  exact p▸r.gq▸rfl
 .rfl
 .refine iw (j.fr.cells y z p) λa8 a9 b0 e' _=>?_
  exact ⟨a8,a9,b0,e',a6 y z p⟩
theorem K0 (j:vh p k r f b):r=.next/\∃m n,f.own=H (p,.inst m n)/\k (.inst m n) b:=by
 cases r with
 |ret v=>exact j.elim
 |next=>
  unfold vh at j
  dsimp only at j
  cases q:f.own with
  |none=>rw [q] at j;exact j.elim
  |some x=>
   rw [q] at j
   obtain ⟨y,o⟩:=x
   cases o with
   |inst m n=>
    by_cases t:y=p
    .subst t
     dsimp only at j
     rw [decide_eq_true rfl] at j
     exact ⟨rfl,m,n,rfl,j⟩
    .dsimp only at j
     rw [decide_eq_false t] at j
     exact j.elim
   |_=>exact j.elim
set_option tactic.hygienic true in
theorem O2 {K:aU}(d0:bz w a c)(d1:KD w a)(d2:K.In a)(M:KM K)(a3:AR w a g s.heap l b)(d3:AC A l)(d4:l.length<100)(d5:a.NoLimit)
  (d6:gB p=H a6) (d7:d_ a6=H B) (d8:aQ w g a7 a8):
  WC w a l g s (cG w) (uF c.execs p l.length B a7 b) λb2 b3=>av (ak PR w) A (dG (.ref p) a8) b2 b3 s:=by
 intro k X P b2 b3 k1 k2
 refine zo P λa2 a4 P=>?_
 refine aL (mU P) λhw P=>?_
 have d9:aZ a2 B.scope.names=H .local:=by simpa using hw
 refine zo P λb4 b5 P=>?_
 refine hJ (M.make p a6 d6) λm0 e0 e2 e4=>?_
 have a9:=d2.keeps a3.sr.base
 refine du (d1.fn a6 B d7) λo fd e5 hd b6=>?_
 obtain ⟨j,b7,b8,t,os⟩:=s
 have b0:j.objs.size<=(fT j p).objs.size:=by rw [oz];exact bZ _ _
 have R':AR w a g (fT j p) l b:=a3.grow (qG p) b0
 have e1:B.params=a2::B.params.tail:=by
  cases q:B.params with
  |nil=>rw [q] at a4;exact ao a4
  |cons O r=>rw [q] at a4;cases a4;rfl
 have e6:hq B.params B.hk (.ag (.ref<|j.objs.size+1)::a7)=H ((a2,.ag<|.ref<|j.objs.size+1)::b4):=by
  refine J e1 ?_
  show (hq B.params.tail B.hk a7).map _=_
  refine J b5 ?_;rfl
 have e7:a2∉b4.map (·.1):=by
  refine du (ou b5) ?_;rintro _ _ _ _ rfl
  have b9:=b6.nodup
  rw [e1] at b9
  intro q
  refine zl q ?_;rintro ⟨O,g8⟩ z rfl
  exact (gd.mp b9).1 (EG z).1
 refine mn<|make_core (makes_of a9 e0) (tr a9 e2) (λa2=>ER a9 a2 e4) (.inl rfl) ?_
 refine tR (s:=⟨fT j p,b7,b8,t,os⟩) (a0:=.ref (j.objs.size+1)::a8) R' (d3.ug p a8) d4 d5 e5 hd b6 e6 (fQ (x:=.ag<|.ref<|j.objs.size+1) (by rfl) d8) λe g' d g9 a0 C'=>?_
 have c0:bU a g<|j.objs.size+1:=a3.nc<|dX _
 have c1:bU a g j.objs.size:=a3.mS
 refine aL (a0.bb _ _ (CX p) (by simp) c0) λex e8=>?_
 refine aL (a0.bb _ _ (Bb p) (by trivial) c1) λe9 f0=>?_
 have c2:∀O,(fT j p).objs.size<=O->O∉[j.objs.size+1,j.objs.size]:=λO c3 q=>by
  rw [oz] at c3
  simp only [bF,xS,or_false] at q
  have:∀n,n=O->n<j.objs.size+2->False:=λn a1 l=>by subst a1;exact absurd l<|de.mpr c3
  rcases q with q|q
  .exact this _ q.symm<|by exact fw _
  .exact this _ q.symm<|dX _
 have f1:=a0.st.K6 (z:=p) d9 e7 ex e9 e8 f0 (dN<|fw _) (c2 _ a0.loc) λy c' a1=>by
  rcases a0.cells y c' a1 with q|⟨o',q⟩
  .exact c2 _ q
  .intro z
   simp only [bF,xS,or_false] at z
   rcases z with z|z
   .exact c0.F o'<|z▸q
   .exact c1.F o'<|z▸q
 have c4:∀g2 h2,bt a g' d g2 h2 (PP e [j.objs.size+1,j.objs.size])->(∀O o,g2.F O o->h2.get? O=H o)->bt a g j g2 h2 hU:=λg2 h2 x f2=>by
  refine (a0.leave _ g2 h2 x f2).drop (λO q=>.inr ?_) (qG p) b0
  simp only [bF,xS,or_false] at q
  rcases q with q|q
  .refine J q ?_;exact dX _
  .refine J q ?_;exact aT _
 refine Cr (h:=j) (g:=g) (s:=⟨fT j p,b7,b8,t,os⟩) c4 (ai b0 a0.size) d0 C' f1 P (λh0 h1 f3 a1 h3 f5 c5 f4 h4 x a5 f6=>?_) k2
 .refine aL (K0 a1) ?_;rintro rfl zz;refine hg zz ?_;clear zz;intro f7 f8 c6 a1
  obtain rfl:f5=.next:=f6
  refine ⟨rfl,?_⟩
  refine jB (Go.KA a5.st c6) λc7 f9 b1 g1 _ g3=>?_
  obtain ⟨m,g4,_,g5⟩:=a5.st.fr.vals
  obtain ⟨_,c8,g6,h5,_,_,_,c9,_⟩:=g5.1 _ _ c6
  have e3:=g3 m g4
  rw [g6] at e3;obtain rfl:c8=f9:=by injection e3 with e3;injection e3
  have g7:c8=j.objs.size+1:=by
   rcases a5.oa with q|q
   .rw [c9] at q;exact (sR q).1
   .rw [c9] at q;cases q
  refine g7▸?_
  exact k1 (.inst f7 f8) f3 a1 c7 _ c5 f4 (c4 c7 c5 (a5.trans b1).ext b1.st.sr.fz) (mc b1.st) g1
end
end
mutual
section
variable {w:aM}{b:Heap}{e:aA}{l:List aA}{g:G}{f:List Z}{s:az}{i:Y}{a:R}{d:Ev}{A:bu}{h c:Heap}
theorem yy (h:aI x (k++m)=H v):aI x k=H v\/aI x m=H v:=by
 induction k with
 |nil=>exact .inr h
 |cons p r n=>
  by_cases j:p.1=x
  .exact .inl<|(if_pos j).trans<|(if_pos j).symm.trans h
  .exact (n<|(if_neg j).symm.trans h).elim (λq=>.inl<|(if_neg j).trans q) .inr
theorem ST.Rj (j:ST w b g h e l ⟨r,T,z,[],n,M⟩ a [])
  (B:∀x v,aI x t=H v->aZ x z=H .free/\qL w g h e x v):ST w b g h e l ⟨r++t,T,z,[],n,M⟩ a []:=by
 obtain ⟨m,O,P,X⟩:=j.fr.vals
 refine ⟨j.sr,⟨j.fr.fn,j.fr.glob,j.fr.blt,j.fr.kinds,⟨m,O,λy v p k=>?_,X⟩,λy v p k=>?_,j.fr.cells,j.fr.gu,j.fr.eE,j.fr.bb,j.fr.f_⟩,j.tb,j.ff,j.dep,j.top⟩
 .change aI y (r++t)=H v at p
  rcases yy p with q|p
  .exact P y _ q k
  .refine aL (B y v p) λk' _=>?_
   rw [k'] at k;exact nomatch k
 .change aI y (r++t)=H v at p
  rcases yy p with q|p
  .exact j.fr.cell y _ q k
  .exact (B y v p).2
theorem bj.aI:∀{k},bj w g m k->∀{x} {v},Mine.Internal.aI x m=H v->∃u,(x,u)∈k/\aq w g v u:=by
 induction m with
 |nil=>
  intro _ r x v j
  exact ao j
 |cons n m p=>
  obtain ⟨y,X⟩:=n
  intro k r x v j
  obtain ⟨u,q,rfl,t,z⟩:=r
  rw [hT] at j
  split at j
  .rename_i B
   subst B
   refine aG j ?_;clear j;rintro rfl
   exact ⟨u,.head _,t⟩
  .refine aK (p z j) λM O P=>?_
   exact ⟨M,.tail _ O,P⟩
theorem Hr {k:Nat}{a2:List<|ae×E}{b0:ah}{p:List E}{a3:List ah}(c2:bz w b d)(a4:AR w b g s.heap l a)(b1:AC A l)(c3:l.length<100)(c4:b.NoLimit)(hf:aq w g (.bR k a2) b0)(b2:aQ w g p a3):
  WC w b l g s (cG w) (λb3 X=>bw (mw k) λj=>bw (hq j.params [] p) λb4=>d.eval ⟨b4++a2,T,j.scope,[],l.length+1,T⟩ a j.body (λv _ a=>b3 v a) X)
   λb5 b6=>av (ak PR w) A (dG b0 a3) b5 b6 s:=by
 intro b3 X r b5 b6 k1 k2
 obtain ⟨f6,o,nm,b7,b8,f7,sc,a5,pm,c',b9,f8,j,rfl,c5,rfl,c6,c7,⟨O,m,c8⟩,c9,⟨a6,d0,t,d1,d2,d3⟩,⟨d4,d5,d6⟩,d7⟩:=hf
 refine zo r λf9 e0 r=>?_
 obtain rfl:=bf<|c6.symm.trans e0
 refine zo r λb4 d8 r=>?_
 subst c7
 refine du (ou d8) ?_;rintro g1 g2 d9 e1 rfl
 refine aL (List.append_eq_nil_iff.mp d9.symm) ?_;rintro rfl rfl
 rw [hz] at*
 refine mn ?_
 refine kla_callFunE (fd:=kla_fn nm b7 b8 j.body sc a5 pm (.ref c') b9) (dH b1.depth<|ay (eA 3 c3)<|by simp+arith only [SI]) (a4.sr.fz _ _ c5) rfl m.co m.gen rfl ⟨c',a6,d0,t,rfl,a4.sr.fz _ _ d1,d2,d3⟩ ?_
 have l3:p.length=j.params.length:=e1
 refine AL (d:=kla_fn nm b7 b8 j.body sc a5 pm (.ref c') b9) (f:=[]) (O:=[]) (q:=[]) m.pos m.vo m.va m.ka O (by refine rT O ?_;exact m.nodup) (.inl ⟨rfl,rfl⟩) rfl (b2.length▸l3) (jV _) ?_
 rw [hz]
 have c0:(j.params.zip p).map (·.1)=j.params:=EH<|bh l3.symm
 have rs:bj w g (j.params.zip p)<|j.params.zip a3:=bj.zip b2
 refine Dq (a9:=T) a4 c4 rs (by refine J c0 ?_;refine rT O ?_;exact m.nodup) (by refine J c0 ?_;refine rT O ?_;exact λx a7=>.inl<|m.params x a7) m.kind (.inr ⟨m.jH,d5,d6⟩) (λ_ q=>ao q) λe g' c e3 g3 e2 y nl e4 le a8 cs e5=>⟨nl,?_⟩
 have e6:fR w b l g s.heap (j.params.zip p) sc T a e g' c:=⟨y,le,a8,e4,cs,e5⟩
 replace y:=c9▸y
 have e7:=y.Rj (t:=a2) λx v P=>by
  refine ⟨c8 x<|Br P,?_⟩
  refine aK (d7.aI P) λu e8 e9=>?_
  refine du (d4 x u e8) λf0 a6 q1 q2 q3=>?_
  have ne:a5≠[]:=λz=>by rw [z] at q1;exact ao q1
  rw [if_neg ne] at e2
  exact ⟨f0,u,by refine J e2 ?_;exact q1,⟨a6,y.sr.fz _ _<|le.F _ _ q2,q3⟩,aq.mono le _ _ e9⟩
 have C':=b1.two.deeper (by exact ig<|by assumption) e
 refine kla_codeExpr ?_
 refine c2.eval j.body _ a e (e::l) (A.deeper e) g' [] {s with heap:=c,toks:=e3} C' e7 _ X r _ _ (λv g4 f1 P B f2 a0 a1 g5 M f3=>?_) λa7 ev B a0 a1 n M f4=>?_
 .exact k1 v f1 P B f2 a0 a1 ((a8 [] B a0 M.ext M.st.sr.fz).mono λ_ q=>nomatch q) (mc M.st) f3
 .refine AH (s:={s with heap:=a0,toks:=a1}) (r:=l) rfl C' M f4 λc1 a9 f5=>?_
  exact k2 a7 ev B c1 a1 n ((a8 [] B c1 a9.ext a9.st.sr.fz).mono λ_ q=>nomatch q) (mc a9.st)<|f5.mono e6.size
end
end
mutual
open Mine
theorem Jc {h c:Heap}{o:cT}(d:∀a:Z,a<h.objs.size->h.get? a=T->(c.push o).get? a=T)(g:∀b o,h.get? b=H o->c.get? b=H o)(i:o.isFreed=N):h.objs.size<=c.objs.size:=by
 refine Nat.le_of_not_lt λj=>?_
 have f:=Heap.get?_push_size c (o:=o) i
 cases e:h.get? c.objs.size with
 |none=>rw [d _ j e] at f;exact ao f
 |some k=>exact absurd (Heap.lt_size<|g _ _ e)<|jT _
section
variable {w:aM}{b:Heap}{e:aA}{l:List aA}{g:G}{f:List Z}{s:az}{i:Y}{a:R}{d:Ev}{A:bu}{h c:Heap}
abbrev gm (K:aU):Prop:=
 (∀j,el j=I->ES K j "__class__" =I/\nF K j=I/\cY K (.ref j) "__class__" =H (H<|.builtin "object.__class__")/\pW K j (.type "object")=H I)/\
 (pX K (.builtin "object.__class__") "__get__" =H (H<|.builtin "getset_descriptor.__get__")/\ET K (.builtin "object.__class__")=H I)/\
 ∀k∈oH,∀t∈sg,(k==.type "bool" && t==.type "int")=N->kitOne K k t=H (k==t)
theorem gm.own {K:aU}(h:gm K):∀j,el j=I->ES K j "__class__" =I/\nF K j=I/\cY K (.ref j) "__class__" =H (H<|.builtin "object.__class__")/\pW K j (.type "object")=H I:=h.1
theorem gm.gs {K:aU}(h:gm K):pX K (.builtin "object.__class__") "__get__" =H (H<|.builtin "getset_descriptor.__get__")/\ET K (.builtin "object.__class__")=H I:=h.2.1
theorem gm.one {K:aU}(h:gm K):∀j∈oH,∀t∈sg,(j==.type "bool" && t==.type "int")=N->kitOne K j t=H (j==t):=h.2.2
abbrev WB (w:aM)(b:Heap)(l:List aA)(A:bu)(g:G)(s:az)(a:R)(r:aY E)(j:ah)(m:List ah):Prop:=
 WC w b l g s (cG w) (λk X=>wp r λv=>k v a) λn p=>av (ak PR w) A (dG j m) n p s
theorem WB.stuck:WB w b l A g s a (.stuck:aY E) j k:=λ_ _ h=>h.elim
theorem WB.pure (O:AR w b g s.heap l a) 
  (h:∀a0 a2,(∀p c a3 a1,g.Le p->(∀B o,s.heap.get? B=H o->c.get? B=H o)->s.heap.objs.size<=c.objs.size->(∀m o,p.F m o->g.F m o\/s.heap.objs.size<=m/\c.get? m=H o)->p.μ=g.μ->p.ν=g.ν->aq w p v a1->a0 a1 {s with heap:=c,toks:=a3})->av (ak PR w) A (dG t a7) a0 a2 s):
  WB w b l A g s a (aS v) t a7:=by
 intro k X a8 a0 a2 k1 _
 refine h a0 a2 λp c a3 a1 le a5 a6 fn a9 a4 r=>?_
 have n:=O.grow a5 a6
 refine k1 v a a8 p a1 c a3 ⟨le,a6,λm o q=>(fn m o q).imp id λz=>.inl z.1,λj m q=>.inl<|by rw [a4] at q;exact q,λB o M _ _ _=>.inl<|a5 B o M⟩ ?_ r
 have x:∀j m,p.ν j=H m->g.ν j=H m:=λj m q=>by rw [a4] at q;exact q
 refine ⟨⟨n.sr.base,λm o q=>?_,λj b0 q=>(n.sr.st j b0 q).mono le,λj q=>?_,λj m q=>n.sr.da j m<|x j m q,λj m o q z t=>?_,λj j' m q q'=>n.sr.inj j j' m (x j m q)<|x j' m q',n.sr.low,λB o M=>le.F _ _<|n.sr.hF B o M,λj m q=>n.sr.fb j m<|x j m q⟩,n.tb.mono le λP o q z=>(fn P o q).elim id λy=>absurd (O.tb.lt z)<|de.mpr y.1,λM he=>?_⟩
 .rcases fn m o q with q|⟨_,q⟩
  .exact n.sr.fz m o q
  .exact q
 .refine J a9 ?_;refine J a4 ?_;exact n.sr.dA j q
 .rcases fn m o t with t|⟨t,_⟩
  .exact O.sr.fC j m o (x j m q) z t
  .exact absurd (O.sr.da j m<|x j m q).1<|de.mpr t
 .refine aL (n.ff M he) λx1 zz=>fe zz λL o x2 x3 x4 x5 x6=>?_;clear zz
  refine ⟨x1,L,o,x2,x3,x4,x5,⟨λj q=>x6.ν j<|x j _ q,λo' q=>?_,x6.tab,x6.base⟩⟩
  rcases fn L o' q with q|⟨q,_⟩
  .exact x6.F o' q
  .exact absurd (O.ff.lt M he L x2)<|de.mpr q
theorem WB.plain (z:AR w b g s.heap l a){v:E}{t:ah}{x:List ah}
  (h:∀j n,(∀c p m,(∀y o,s.heap.get? y=H o->c.get? y=H o)->s.heap.objs.size<=c.objs.size->aq w g v m->j m {s with heap:=c,toks:=p})->av (ak PR w) A (dG t x) j n s):WB w b l A g s a (aS v) t x:=
 WB.pure z λj n k=>h j n λc p m B M r=>k g c p m (G.Le.refl g) B M (λ_ _ q=>.inl q) rfl rfl r
theorem WB.ask (x:j->WB w b l A g s a r m n):WB w b l A g s a (Mine.Internal.ask j>>=λ_=>r) m n:=λk X p=>have h:=xq pA p;x h.1 k X h.2
theorem eW.tup (j:h.get? k=H o)(q:eW "tuple" m o):IsTup h k m.toArray:=by
 refine aL q ?_;clear q;intro _ zz;refine aC zz ?_;clear zz;rintro n rfl;exact ⟨_,j,rfl,n,rfl⟩
theorem eW.list (j:h.get? k=H o)(q:eW "list" m o):h.IsList k m.toArray:=by
 refine aL q ?_;clear q;intro _ zz;refine aC zz ?_;clear zz;rintro n rfl;exact ⟨_,j,rfl,n,rfl⟩
theorem MD {K:aU}(a0:K.In b)(z:gm K)(x:AR w b g s.heap l a)(p:aq w g v a3)(j:nB a v=H y)(B:kB y=I)(h2:lK t=I)(h3:(y==.type "bool" && t==.type "int")=N)
  (k:∀a1,a4 (.bool<|y==t) {s with toks:=a1}):av (ak PR w) A (dG (.builtin "isinstance") [a3,t]) a4 a5 s:=by
 have X:=a0.keeps x.sr.base
 have q:=z.one y (by simpa [kB] using B) t (by simpa [lK] using h2) h3
 have j:yq (res a v)=H y:=j
 cases m:res a v with
 |none=>
  rw [m] at j;refine aG j ?_;clear j;rintro rfl;obtain rfl:=DH m;refine J p.none_ ?_
  exact lp kitx_none X trivial q (by simp) k
 |bool _=>
  rw [m] at j;refine aG j ?_;clear j;rintro rfl;obtain rfl:=qX m;refine J p.lC ?_
  exact lp kitx_bool X trivial q (by simp) k
 |int _=>
  rw [m] at j;refine aG j ?_;clear j;rintro rfl;obtain rfl:=kK m;refine aC p.cO ?_;rintro u rfl
  exact lp kitx_int X trivial q (by simp) k
 |str _=>
  rw [m] at j;refine aG j ?_;clear j;rintro rfl;obtain rfl:=nC m;refine aC p.fj ?_;rintro u rfl
  exact lp kitx_str X trivial q (by simp) k
 |dk _=>
  rw [m] at j;refine aG j ?_;clear j;rintro rfl;obtain rfl:=yC m;refine aC p.pw ?_;rintro u rfl
  exact lp kitx_bytes X trivial q (by simp) k
 |tup _=>
  rw [m] at j;refine aG j ?_;clear j;rintro rfl;obtain ⟨M,o,O,rfl,r,⟨_,n,rfl⟩,_⟩:=x.sr.fU p m
  exact lp kitx_tuple X ⟨_,r,rfl⟩ q (by simp) k
 |lst _=>
  rw [m] at j;refine aG j ?_;clear j;rintro rfl;obtain ⟨M,o,O,rfl,r,⟨_,n,rfl⟩,_⟩:=x.sr.fS p m
  exact lp kitx_list X ⟨_,r,rfl⟩ q (by simp) k
 |aa _=>
  rw [m] at j;refine aG j ?_;clear j;rintro rfl;obtain ⟨M,o,O,rfl,r,⟨_,ex,_⟩,_⟩:=x.sr.lG p m
  exact lp kitx_dict X ⟨_,r,ex.1⟩ q (by simp) k
 |inst P a6=>
  rw [m] at j;refine aG j ?_;clear j;rintro rfl;obtain ⟨M,a7,a8,n,a9,rfl,r,e2,_⟩:=x.sr.wt p m
  have a2:el P=I:=by
   simp only [kB,oH,pY,SJ,xT,pP,beq_iff_eq,T9,reduceCtorEq,false_or] at B
   unfold el
   simp only [pY,SJ,xT,pP,beq_iff_eq]
   exact B
  refine hJ (z.own P a2) λq1 q2 q3 q4=>?_
  exact lp (kitx_own q1 q2 q3 z.gs.1 z.gs.2 q4) X (kx r e2) q (by simp) k
 |_=>rw [m] at j;exact ao j
theorem WB.one (m:aQ w g k n)(h:∀v j,aq w g v j->WB w b l A g s a (p v) t [j]):WB w b l A g s a (jP p k) t n:=by
 cases k with
 |nil=>exact WB.stuck
 |cons v r=>cases r with
  |cons=>exact WB.stuck
  |nil=>
   obtain ⟨j,q,rfl,x,y⟩:=ep m
   refine fY y▸?_
   exact h _ _ x
theorem WB.two (n:aQ w g m p)(h:∀v j u k,aq w g v j->aq w g u k->WB w b l A g s a (t v u) x [j,k]):WB w b l A g s a (nV t m) x p:=by
 cases m with
 |nil=>exact WB.stuck
 |cons v r=>cases r with
  |nil=>exact WB.stuck
  |cons u r=>cases r with
   |cons=>exact WB.stuck
   |nil=>
    obtain ⟨j,q,rfl,y,z⟩:=ep n
    obtain ⟨k,q,rfl,B,M⟩:=ep z
    refine fY M▸?_
    exact h _ _ _ _ y B
theorem Q5 (v):(∃j,v=.int j)\/cR v=T:=by cases v<;>first|exact .inl ⟨_,rfl⟩|exact .inr rfl
theorem WB.sD (h:∀j,v=.int j->WB w b l A g s a (k j) m n):WB w b l A g s a (jC k v) m n:=by
 rcases Q5 v with ⟨j,rfl⟩|p
 .exact h j rfl
 .rewrite [jC];refine J p ?_;exact WB.stuck
theorem WB.vs (k:aQ w g m n)(h:∀j t,WB w b l A g s a (p j) q [.int j t]):WB w b l A g s a (jP (jC p) m) q n:=
 WB.one k λv y r=>WB.sD λj x=>by
  subst x
  refine aC r.cO ?_;rintro t rfl
  exact h j t
theorem WB.kE (n:aQ w g p q)(h:∀k t j u,WB w b l A g s a (m k j) r [.int k t,.int j u]):WB w b l A g s a (nV (xd m) p) r q:=
 WB.two n λv O x P y z=>WB.sD (k:=λk=>jC (m k) x) λk B=>WB.sD λj M=>by
  subst B;subst M
  refine aC y.cO ?_;rintro t rfl
  refine aC z.cO ?_;rintro u rfl
  exact h k t j u
theorem WB.bJ {o:Option k}{j:k->aY E}(h:∀y,o=H y->WB w b l A g s a (j y) m n):WB w b l A g s a (Mine.Internal.bJ o j) m n:=by
 cases o with
 |none=>exact WB.stuck
 |some y=>exact h y rfl
theorem Lc (n:AR w b g s.heap l a)(x:aq w g v z):WB w b l A g s a (uH a v) (.builtin "len") [z]:=
 WB.bJ λy j=>by
  rcases rv j with j|j
  .obtain ⟨B,o,m,rfl,p,q,r⟩:=n.sr.fU x j
   have t:m.length<=16777216:=q.1
   refine WB.plain n λM O k=>len_tuple (q.tup p) (by simp;exact jk.mpr<|ay t<|by simp+arith only) ?_
   refine J (show (m.toArray.size:Int)=(y.length:Int) from by simp [r.length]) ?_
   exact k s.heap _ _ (λ_ _ j=>j) (aT _)<|eP _ _
  .obtain ⟨B,o,m,rfl,p,q,r⟩:=n.sr.fS x j
   have t:m.length<=16777216:=q.1
   refine WB.plain n λM O k=>T_ (q.list p) (by simp;exact jk.mpr<|ay t<|by simp+arith only) ?_
   refine J (show (m.toArray.size:Int)=(y.length:Int) from by simp [r.length]) ?_
   exact k s.heap _ _ (λ_ _ j=>j) (aT _)<|eP _ _
theorem WB.oo {o:Option m}{j:m->aY E}(h:∀y,o=H y->WB w b l A g s a (j y) n p):WB w b l A g s a (Mine.Internal.oo o>>=j) n p:=by
 cases o with
 |none=>exact WB.stuck
 |some y=>exact λk X q=>h y rfl k X<|xq pA q
theorem WB.cJ (h:j=I->WB w b l A g s a (m ()) n p):WB w b l A g s a (gM j>>=m) n p:=by
 cases j with
 |false=>exact WB.stuck
 |true=>exact λk X q=>h rfl k X<|xq pA q
theorem GL {K:aU}(p:K.In b)(q:gm K)(m:AR w b g s.heap l a)(P:AC A l)(r:aq w g v x)(y:aq w g u n):WB w b l A g s a (Bf a v u) (.builtin "isinstance") [x,n]:=
 WB.bJ λt z=>by
  refine (PG z▸y:aq w g (.ag t) n).gq▸?_
  exact WB.oo λX B=>WB.cJ λj=>WB.plain m λa0 a1 k=>MD p q m r B (bl<|bl j) (br<|bl j) ((EU _).mp<|br j) λM=>k s.heap M _ (λ_ _ O=>O) (aT _)<|oP _
theorem GR (m:AR w b g s.heap l a) (j) (t):WB w b l A g s a (aS<|.int j.natAbs) (.builtin "abs") [.int j t]:=
 WB.plain m λp q k=>call_abs_int λu r=>by
  refine J (show (if j<0 then -j else j)=(j.natAbs:Int) from by split;(next h=>exact (Int.ofNat_natAbs_of_nonpos<|SK h).symm);(next h=>exact (Int.natAbs_of_nonneg<|jl.mp h).symm)) ?_
  exact k s.heap _ _ (λ_ _ n=>n) (aT _)<|eP _ _
theorem Ou (n:AR w b g s.heap l a)(p:AC A l) (m) (t) (j) (u):WB w b l A g s a (aS<|.int<|if m<j then j else m) (.builtin "max") [.int m t,.int j u]:=
 WB.plain n λz B k=>mY<|max_two_ints p.hand λc r x y=>k c r _ x y<|by
  by_cases q:j>m
  .refine J (if_pos q) ?_;refine J (if_pos<|show m<j from q) ?_;exact eP _ _
  .refine J (if_neg q) ?_;refine J (if_neg<|show ¬m<j from q) ?_;exact eP _ _
theorem Ij (n:AR w b g s.heap l a)(p:AC A l) (m) (t) (j) (u):WB w b l A g s a (aS<|.int<|if j<m then j else m) (.builtin "min") [.int m t,.int j u]:=
 WB.plain n λz B k=>mY<|min_two_ints p.hand λc r x y=>k c r _ x y<|by
  by_cases q:j<m
  .refine J (if_pos q) ?_;refine J (if_pos q) ?_;exact eP _ _
  .refine J (if_neg q) ?_;refine J (if_neg q) ?_;exact eP _ _
theorem MY (m:AR w b g s.heap l a)(p:aq w g v M):WB w b l A g s a (zi a v) (.type "tuple") [M]:=
 WB.bJ λO j=>by
  rcases rv j with j|j
  .obtain ⟨x,o,n,rfl,t,q,r⟩:=m.sr.fU p j
   exact WB.plain m λP X k=>call_tuple_tup (q.tup t)<|k s.heap s.toks _ (λ_ _ j=>j) (aT _)<|by rwa [tM j] at p
  .obtain ⟨x,o,n,rfl,t,q,r⟩:=m.sr.fS p j
   refine WB.pure m λP X k=>G_<|call_tuple_list (q.list t) (λc y B=>?_)<|by simpa using q.1
   have a0:s.heap.objs.size<=c.objs.size:=Jc B.2 y rfl
   refine k (g.add c.objs.size {cls:=.type "tuple",data:=.seq n.toArray}) _ s.toks _ (g.c_ ..) (λa1 o j=>Heap.get?_push_of_some _<|y a1 o j) B.1 (λx o q=>q.imp id λz=>?_) rfl rfl ?_
   .refine aL z ?_;clear z;rintro rfl rfl
    exact ⟨a0,Heap.get?_push_size c (o:={cls:=.type "tuple",data:=.seq n.toArray}) rfl⟩
   .show aq w _ (.tup O) _
    exact ⟨_,_,n,rfl,G.eZ ..,⟨q.1,0,rfl⟩,aQ.mono (g.c_ ..) _ _ r⟩
theorem II (j:AR w b g s.heap l a)(m:AC A l)(n:aq w g v p):WB w b l A g s a (CG v) (.type "bytes") [p]:=
 WB.bJ λy z=>by
  cases y with
  |nil=>exact WB.stuck
  |cons v r=>cases r with
   |cons=>exact WB.stuck
   |nil=>
    refine WB.sD λB M=>WB.ask λO=>?_
    subst M
    obtain ⟨a3,o,a4,rfl,P,q,r⟩:=j.sr.fS (b:=a) (uM z▸n) rfl
    obtain ⟨x,t,rfl,X,h0⟩:=ep r
    obtain rfl:=fY h0
    refine aC X.cO ?_;rintro u rfl
    refine WB.plain j λa5 a6 k=>mY<|call_bytes_ints (ns:=[B]) (q.list P) (by first|exact .cons .nil|(constructor;constructor)|simp [IntsAre]) (by simpa using O) (by simpa using q.1) m.hand λc t a0 a1 a2=>k c a0 _ a1 a2 ?_
    exact vC _ _
theorem WB.str {j:String->ah}(y:WB w b l A g s a r (j m) k)(z:WB w b l A g s a p (j n) k):WB w b l A g s a (if n=m then r else p) (j n) k:=by
 by_cases h:n=m
 .subst h;exact J (if_pos rfl) y
 .exact J (if_neg h) z
theorem ME {K:aU}(B:K.In b)(M:gm K)(m:AR w b g s.heap l a)(r:AC A l)(p:aQ w g O X):WB w b l A g s a (dB a y O) y X:=by
 cases y with
 |builtin n=>
  exact WB.str (j:=.builtin) (WB.one p λ_ _ h=>Lc m h)<|WB.str (j:=.builtin) (WB.two p λ_ _ _ _ h c=>GL B M m r h c)<|WB.str (j:=.builtin) (WB.vs p λq t=>GR m q t)
   <|WB.str (j:=.builtin) (WB.kE p λq t j u=>Ou m r q t j u)<|WB.str (j:=.builtin) (WB.kE p λq t j u=>Ij m r q t j u) WB.stuck
 |type n=>
  refine WB.str (j:=.type) (WB.vs p λq t=>WB.plain m λa0 a1 k=>call_int_int<|k s.heap s.toks _ (λ_ _ x=>x) (aT _)<|eP _ _)
   <|WB.str (j:=.type) (WB.vs p λq t=>WB.ask λz=>WB.plain m λa0 a1 k=>P.str_of_int (shown_abs (N:=1001) (by split;(next h=>exact absurd z.1<|pM.mpr h);(next=>exact pJ z.2<|by decide))<|by decide+kernel) ?_)<|WB.str (j:=.type) (WB.one p λ_ _ h=>MY m h)<|WB.str (j:=.type) (WB.one p λ_ _ h=>II m r h) WB.stuck
  exact k s.heap _ _ (λ_ _ x=>x) (aT _)<|km _ _
 |_=>exact WB.stuck
end
end
mutual
section
variable {w:aM}{a:Heap}{c:Ev}{e:aU}{d:Nat}{r:List E}{b:R}{k:E->R->Prop}{X:Prop}
theorem Ho (f:bz w a c)(i:KD w a)(j:a.NoLimit)(m:d<100)(n:d_ p=H q)(h:pv c.execs d q r b k X):kC w a d (.ag<|.ref p) r b k X:=λl A g s P a0 t x y z B a3 a1 M O=>by
 subst t
 refine z.gq▸?_
 exact mn<|yR f i y x.two m j n B h M O
theorem Nu (j:bz w a c)(m:KD w a)(n:e.In a)(M:KM e)(p:a.NoLimit)(q:d<100)(t:gB f=H i)(x:d_ i=H y)
  (h:pv c.execs d y (.loc b.next::r) (b.alloc<|.inst f []) (λv z=>isNone v=I/\k (.loc b.next) z) X):kC w a d (.ag<|.ref f) r b k X:=λl A g s a3 a1 B O P hf a0=>by
 subst B
 refine hf.gq▸?_
 exact Ky j m n M P O q p t x a0 k X h
theorem OP (j:bz w a c)(m:KD w a)(n:e.In a)(M:KM e)(p:a.NoLimit)(q:d<100)(t:gB f=H i)(x:d_ i=H y)
  (h:uF c.execs f d y r b k X):kC w a d (.ag<|.ref f) r b k X:=λl A g s a3 a1 z B O P a0=>by
 subst z
 refine P.gq▸?_
 exact O2 j m n M O B q p t x a0 k X h
theorem J3 (i:bz w a c)(m:a.NoLimit)(n:d<100)(p:mw j=H f)(q:hq f.params [] r=H t)
  (h:c.eval ⟨t++x,T,f.scope,[],d+1,T⟩ b f.body (λv _ b=>k v b) X):kC w a d (.bR j x) r b k X:=λl A g s P a0 y z B M O=>by
 subst y
 exact Hr i B z n m M O k X<|by refine J p ?_;show bw (hq f.params [] r) _;refine J q ?_;exact h
theorem JS (i:e.In a)(j:gm e)(h:wp (dB b f r) λv=>k v b):kC w a d (.ag f) r b k X:=λl A g s t x y m n p q=>by
 refine p.gq▸?_
 exact ME i j n m q k X h
end
end
mutual
section
variable {w:aM}{b:Heap}{e:aA}{l:List aA}{g:G}{a:List Z}{s:az}{f:Y}{c:R}{d:Ev}{A:bu}{h i:Heap}
theorem Go.seal {x:ae}{t:Z}{B:cT}{v:Option ah}(j:ST w b g h e l f c a)(a1:e.func.isSome=I)(O:e.cells.lookup x=H t)(a0:h.get? t=H B)(hd:B.data=.cell v):
  Go w b e l g h a (g.add t B) h a {f with sealed:=x::f.sealed} c:=by
 refine iw (j.fr.cells x t O) λ_ z1 z2 z3 z4=>?_
 refine ⟨bt.add<|.inr<|.inr<|.inr<|.inl ⟨a1,x,O⟩,.inl rfl,j.sr.add a0 z1,⟨j.fr.fn,j.fr.glob,j.fr.blt,j.fr.kinds,?_,λy u r k=>?_,j.fr.cells,λy q=>?_,j.fr.eE,j.fr.bb.add<|fu z3,j.fr.f_⟩,j.tb.add z2,j.ff.add (j.ff.ne_data a0 λa7 k q=>by rw [hd] at q;exact nomatch q),j.dep,j.top⟩
 .obtain ⟨m,a2,a3,a4⟩:=j.fr.vals
  refine ⟨m,a2,λy u r k=>?_,?_⟩
  .refine aK (a3 y u r k) λP M X=>?_
   exact ⟨P,M,aq.mono (g.c_ t B) _ _ X⟩
  .refine a4.imp (λy a8 _ x=>?_) id
   refine aL x ?_;clear x;intro z zz;refine aK zz ?_;clear zz;intro M r p
   exact ⟨z,M,r,p.add z4⟩
 .obtain ⟨c',P,M,X,a5⟩:=j.fr.cell y u r k
  exact ⟨c',P,M,X,aq.mono (g.c_ t B) _ _ a5⟩
 .refine cK (j.fr.gu y q) λc' r a6 p=>?_
  refine ⟨c',r,a6,λn=>?_⟩
  have n':y≠x/\y∉f.sealed:=by simpa using n
  exact (p n'.2).add λz=>n'.1<|j.fr.eE y x t (z▸r) O
theorem IZ (z:List<|ae×fq):∀(t:List<|ae×E),kg f z=H t->ST w b g h e l f c a->
  ∃p B,Go w b e l g h a p h a {f with sealed:=cS z++f.sealed} c/\bj w p t B/\(∀x u,(x,u)∈B->∃m n,e.cells.lookup x=H m/\p.F m n/\n.data=.cell (H u))/\
   (∀x∈cS z,∃m n v,e.cells.lookup x=H m/\p.F m n/\n.data=.cell v)/\t.map (·.1)=cS z:=by
 induction z with
 |nil=>
  intro t j M
  refine aG j ?_;clear j;rintro rfl
  exact ⟨g,[],Go.refl M,by rfl,λx u q=>(nomatch q),λx q=>(nomatch q),rfl⟩
 |cons p0 r a5=>
  obtain ⟨x,k⟩:=p0
  intro t j M
  by_cases a0:k=.free
  .subst a0
   rw [Ma] at j
   split at j
   .rename_i P
    refine zb j λv ev j=>?_
    refine zb j λa6 a8 j=>?_
    refine aG j ?_;clear j;rintro rfl
    refine fe (a5 a6 a8 M) λp B o rs h1 h2 h3=>?_
    have P:aZ x f.scope=H .cell:=by simpa using P
    obtain ⟨m,a7,O,⟨n,e2,e3⟩,e4⟩:=o.st.fr.cell x v ev<|.inl P
    have X:=p.c_ m n
    refine ⟨p.add m n,(x,a7)::B,o.trans<|Go.seal o.st (M.fr.gu x P).choose_spec.2.1 O e2 e3,?_,λy u q=>?_,λy q=>?_,?_⟩
    .skip
     exact ⟨a7,B,rfl,aq.mono X _ _ e4,bj.mono X _ _ rs⟩
    .rcases bF.mp q with q|q
     .refine jL q ?_;clear q;rintro rfl rfl;exact ⟨m,n,O,G.eZ ..,e3⟩
     .refine du (h1 y u q) λc' a1 a2 a3 a4=>?_
      exact ⟨c',a1,a2,X.F _ _ a3,a4⟩
    .have q:y∈x::cS r:=q
     rcases bF.mp q with rfl|q
     .exact ⟨m,n,_,O,G.eZ ..,e3⟩
     .refine kv (h2 y q) λc' a1 v' a2 a3 a4=>?_
      exact ⟨c',a1,v',a2,X.F _ _ a3,a4⟩
    .show x::a6.map (·.1)=x::cS r
     exact J h3 rfl
   .exact ao j
  .have O:kg f ((x,k)::r)=kg f r:=by cases k<;>first|rfl|exact absurd rfl a0
   have e2:cS ((x,k)::r)=cS r:=by cases k<;>first|rfl|exact absurd rfl a0
   rw [O] at j
   refine J e2 ?_
   exact a5 t j M
theorem Po (e) (O):∀m,(∀x∈cS O,∃j,e.cells.lookup x=H j)->
  ∃n,(forIn O m λp cs=>(if p.2==.free then do let a3 <-cellOf e p.1;aS<|Ua<|(p.1,a3)::cs else aS<|.yield cs:Sem<|ForInStep<|List<|ae×Z))=aS n/\
   (∀x j,n.lookup x=H j->m.lookup x=H j\/x∈cS O/\e.cells.lookup x=H j)/\∀x j,m.lookup x=H j\/x∈cS O->(∀B,m.lookup x=H B->e.cells.lookup x=H B)->e.cells.lookup x=H j->n.lookup x=H j:=by
 induction O with
 |nil=>
  intro m _
  exact ⟨m,by exact J xP rfl,λx j q=>.inl q,λx j q k P=>by
   rcases q with q|q
   .exact q
   .cases q⟩
 |cons p0 r a2=>
  obtain ⟨y,k⟩:=p0
  intro m a0
  simp only [xQ]
  by_cases X:k=.free
  .subst X
   refine aC (a0 y<|.head _) λj P=>?_
   have e1:cellOf e y=(aS j:Sem Z):=by unfold cellOf;exact J P rfl
   refine cK (a2 ((y,j)::m) λx a1=>a0 x<|.tail _ a1) λn h1 h2 h3=>?_
   refine ⟨n,?_,λx B q=>?_,λx B q a4 e'=>?_⟩
   .simp only [beq_self_eq_true,if_true,e1,xU]
    exact h1
   .rcases h2 x B q with z|⟨z1,z2⟩
    .rw [fI] at z
     cases t:x==y with
     |true=>
      rw [t] at z;refine aG z ?_;clear z;rintro rfl
      have:=sT t
      refine aW this▸?_
      exact .inr ⟨.head _,P⟩
     |false=>rw [t] at z;exact .inl z
    .exact .inr ⟨.tail _ z1,z2⟩
   .refine h3 x B ?_ (λc2 M=>?_) e'
    .by_cases z:x=y
     .cases z
      rw [P] at e';refine aG e' ?_;clear e';rintro rfl
      exact .inl<|by refine J fI ?_;rw [beq_self_eq_true]
     .rcases q with q|q
      .exact .inl<|by refine J fI ?_;refine J (beq_eq_false_iff_ne.mpr z) ?_;exact q
      .rcases bF.mp q with q|q
       .exact absurd q z
       .exact .inr q
    .rw [fI] at M
     cases t:x==y with
     |true=>rw [t] at M;refine aG M ?_;clear M;rintro rfl;refine J (sT t) ?_;exact P
     |false=>rw [t] at M;exact a4 c2 M
  .refine cK (a2 m λx a1=>a0 x<|by cases k<;>first|exact a1|exact absurd rfl X) λn h1 h2 h3=>?_
   have e2:cS ((y,k)::r)=cS r:=by cases k<;>first|rfl|exact absurd rfl X
   refine aW e2▸?_
   refine ⟨n,?_,h2,h3⟩
   have:(k==EW)=N:=beq_eq_false_iff_ne.mpr X
   simp only [this,tm,if_false,xU]
   exact h1
theorem yt (n:∀x∈cS m.names,∃j,e.cells.lookup x=H j):
  ∃k,EY m e=aS k/\(∀x j,k.lookup x=H j->x∈cS m.names/\e.cells.lookup x=H j)/\∀x j,x∈cS m.names->e.cells.lookup x=H j->k.lookup x=H j:=by
 refine cK (Po e m.names [] n) λk p r t=>?_
 refine ⟨k,?_,λx j q=>(r x j q).elim (λz=>ao z) id,λx j q y=>t x j (.inr q) (λ_ z=>ao z) y⟩
 unfold EY
 refine rT (xU k (aS:List (ae×Z)->Sem _)) ?_
 exact rT p rfl
end
end
mutual
section
variable {w:aM}{b:Heap}{e:aA}{l:List aA}{g:G}{c:List Z}{s:az}{f:Y}{d:R}{i:Ev}{A:bu}{h a:Heap}
theorem TB.at (x:TB g h)(k:lU P=H (m,j,q)):eS g h P m j q/\ee P:=by
 rcases Iz k with ⟨rfl,k⟩|⟨rfl,k⟩|⟨rfl,k⟩
 .refine nv k ?_;clear k;rintro rfl rfl rfl;exact ⟨x.t1,by exact .head _⟩
 .refine nv k ?_;clear k;rintro rfl rfl rfl;exact ⟨x.t2,by exact .tail _<|.head _⟩
 .refine nv k ?_;clear k;rintro rfl rfl rfl;exact ⟨x.t3,by exact cD (i:=2) rfl⟩
theorem Go.tab {P x:Z}{y:cT}(B:dF w b)(X:ST w b g h e l f d c)(M:ee P)(a4:Heap.ExtBut P h a)(a1:h.objs.size<=a.objs.size)(a2:h.objs.size<=x)(a5:a.get? x=H y)(a6:TB (g.add x y) a):Go w b e l g h c (g.add x y) a c f d:=by
 have le:=g.c_ x y
 have O:∀k o,k≠P->h.get? k=H o->a.get? k=H o:=λk o n q=>a4 k o n q
 have x0:bt b g h (g.add x y) a hU:=⟨le,a1,λa0 o q=>Or.imp id (λ(z:a0=x/\o=y)=>.inl<|z.1▸a2) q,λ_ _ q=>.inl q,λk o q _ t _=>.inl<|O k o (λz=>t<|z▸M) q⟩
 have m:=X.sr
 refine ⟨⟨le,a1,λa0 o q=>Or.imp id (λ(z:a0=x/\o=y)=>.inl<|z.1▸a2) q,λ_ _ q=>.inl q,λk o q _ t _=>.inl<|O k o (λz=>t<|z▸M) q⟩,.inl rfl,⟨λk o q=>O k o (λz=>by rw [z,B.tab P M] at q;exact ao q)<|m.base k o q,λk o r=>?_,λj a7 q=>((m.st j a7 q).keep λk o z q=>O k o (λzz=>by refine aC z ?_;clear z;intro j z;exact (m.da j k z).2.2<|zz▸M) q).mono le,m.dA,
  λj k q=>⟨bE (m.da j k q).1 a1,(m.da j k q).2⟩,λj k o q z r=>?_,m.inj,ai m.low a1,λk o q=>le.F _ _<|m.hF k o q,λj k q=>?_⟩,X.fr.ext x0 id (λ_ _ _ q=>q) λ_ _ q=>q,a6,λe' he=>?_,X.dep,X.top⟩
 .rcases r with r|⟨rfl,rfl⟩
  .exact O k o (λz=>X.tb.nf P o M<|z▸r)<|m.fz k o r
  .exact a5
 .rcases r with r|⟨rfl,rfl⟩
  .exact m.fC j k o q z r
  .exact absurd (m.da j _ q).1<|de.mpr a2
 .refine aK (m.fb j k q) λo p z=>?_
  exact ⟨o,O k o (λzz=>(m.da j k q).2.2<|zz▸M) p,z⟩
 .refine aL (X.ff e' he) λa0 zz=>fe zz λL o k a3 r a8 p=>?_;clear zz
  exact ⟨a0,L,o,k,O L o (λz=>p.tab<|z▸M) a3,r,a8,p.add λz=>absurd (Heap.lt_size a3)<|de.mpr<|z▸a2⟩
theorem P7 (k:j.defaults=[])(m:j.kw_defaults=[]):defaultsOf j e=([],[]):=by
 cases j
 subst k
 subst m
 rfl
theorem bj.names:∀{j},bj w g m j->m.map (·.1)=j.map (·.1):=by
 induction m with
 |nil=>
  intro j r
  subst r;rfl
 |cons n m p=>
  obtain ⟨k,x⟩:=n
  intro j r
  obtain ⟨v,q,rfl,_,z⟩:=r
  show k::_=k::_
  exact p z▸rfl
theorem PJ (B:dF w b)(a9:ST w b g s.heap e l f d c) (a4) (a5) (a0) (b5):WR w b e l A g c s (dJ i.O i.eval f d<|.Lambda a4 a5 a0 b5)<|.Lambda a4 a5 a0 b5:=by
 refine W.cJ λ_=>W.bw λc4 d6=>W.ask λ⟨⟨d7,b1⟩,P,q,d8,b6⟩=>?_
 refine fe (IZ a0.names c4 d6 a9) λg' d9 o rs h1 h2 h3=>?_
 refine cK (yt (m:=a0) (e:=e) λx p=>let ⟨M,_,_,a6,_⟩:=h2 x p;⟨M,a6⟩) λcl c5 c1 e0=>?_
 obtain ⟨M,b2,j,c6,c7,b3⟩:=a9.fr.blt.2 P d8
 replace b3:=b6▸b3
 refine nv b3 ?_;clear b3;rintro rfl rfl rfl
 have a3:=o.st
 refine aL (a3.tb.at b6) ?_;rintro ⟨g9,c8,e3⟩ b7
 refine aK B.bmod λa7 e4 e5=>?_
 have b4:=a3.sr.base
 have c9:s.heap.Ns ha a7:=e4.keeps b4
 have d0:s.heap.BuiltinsAt a7 P:=by
  refine fe (e5 P b7) λbm e6 e7 e8 e9 f0 zz=>aL zz λf1 f2=>?_;clear zz
  exact ⟨bm,e6,e7,e8,e9,f0,b4 _ _ f1,f2⟩
 have f3:ha≠P:=by
  intro z
  rcases nS b7 with rfl|rfl|rfl<;>exact absurd z<|by decide
 have d1:∀b0 O m n a1 t pm a2,g'.Le b0->b0.F O (xo "<lambda>" (e.qual++ "<lambda>") a4 a5 a0 cl pm m a2)->b0.F m n->n.data=.fields a1->a1[1]?=H (.str (e.qual++ "<lambda>") t)->
   aq w b0 (.bR (qR b5) c4) (.ref O):=λb0 O m n a1 t pm a2 le f4 f5 hd a8=>by
  refine ⟨O,_, "<lambda>",e.qual++ "<lambda>",a4,a5,a0,cl,pm,m,a2,d9,_,rfl,f4,rfl,d7,rfl,⟨rfl,b1,λx p=>?_⟩,rfl,⟨n,a1,t,f5,hd,a8⟩,⟨λx u p=>?_,λx M p=>?_,λx y M p f6=>?_⟩,bj.mono le _ _ rs⟩
  .rw [h3] at p
   have:∀ns,x∈cS ns->(x,EW)∈ns:=λns=>by
    induction ns with
    |nil=>exact λq=>nomatch q
    |cons O r d2=>
     obtain ⟨y,k⟩:=O
     cases k<;>first|(intro q;exact .tail _<|d2 q)|skip
     intro q
     rcases bF.mp<|show x∈y::cS r from q with rfl|q
     .exact .head _
     .exact .tail _<|d2 q
   exact b1.free (x,.free) (this _ p) rfl
  .refine du (h1 x u p) λM n O b8 f7=>?_
   have f8:x∈cS a0.names:=by
    refine h3▸aW rs.names▸?_
    exact mm (f:=(·.1)) p
   exact ⟨M,n,e0 x M f8 O,le.F _ _ b8,f7⟩
  .refine aL (c1 x M p) λO b8=>?_
   refine kv (h2 x O) λm n v e1 e2 f9=>?_
   rw [b8] at e1;refine aG e1 ?_;clear e1;rintro rfl
   exact ⟨n,v,le.F _ _ e2,f9⟩
  .exact a9.fr.eE x y M (c1 x M p).2 (c1 y M f6).2
 refine λk X d3 h4 h0 k1 _=>kla_eval (P7 b1.df b1.kd) ?_
 rcases e3 with rfl|⟨m,n,a1,t,rfl,g1,hd,a8⟩
 .refine kla_makeFunction (mg:=a7) (P:=P) c5 a9.fr.glob c9 c6 (c7.keeps b4) c8 trivial rfl f3 d0 λm a2 a b9 p c0 g2 d4 g3=>?_
  refine dx d4 ?_;clear d4;intro h5 n zz;refine jB zz ?_;clear zz;intro a1 t e2 g4 hd a8
  cases e2
  have g5:TB (g'.add m n) a:=by
   have c2:∀{P' b2 j q'},lU P'=H (b2,j,q')->eS (g'.add m n) a P' b2 j q':=λ{P' b2 j q'} a6=>by
    by_cases z:P'=P
    .cases z
     rw [b6] at a6;refine nv a6 ?_;clear a6;rintro rfl rfl rfl
     exact ⟨_,g3,.inr ⟨m,n,a1,t,by rfl,G.eZ ..,hd,a8⟩⟩
    .refine aL (a3.tb.at a6) ?_;rintro ⟨g6,e1,e2⟩ _
     exact eS.mono (g'.c_ ..) ⟨g6,p _ _ z e1,e2⟩
   refine ⟨c2 rfl,c2 rfl,c2 rfl,λP' o' d5 c3=>?_⟩
   rcases c3 with c3|⟨rfl,_⟩
   .exact a3.tb.nf P' o' d5 c3
   .exact absurd (a3.tb.lt d5)<|de.mpr c0
  have o2:=Go.tab B a3 b7 p (ig<|dH c0 g2) c0 g4 g5
  have o3:=Go.wZ o2.st<|xo "<lambda>" (e.qual++ "<lambda>") a4 a5 a0 cl ((a7 "__name__").getD .none) m a2
  exact k1 _ _ _ d3 _ _ _ b9 _ ((o.trans o2).trans o3)<|d1 _ _ m n a1 t _ a2 (o2.ext.le.trans o3.ext.le) (G.eZ ..) (o3.ext.le.F _ _<|G.eZ ..) hd a8
 .refine kla_makeFunctionHit (mg:=a7) (P:=P) (cv:=.ref m) c5 a9.fr.glob c9 c6 (c7.keeps b4) c8 trivial (by simp [codeAmong,gI]) d0 λa2 a b9 g7 g8=>?_
  have o2:=Go.grow a3 g7 g8
  have o3:=Go.wZ o2.st<|xo "<lambda>" (e.qual++ "<lambda>") a4 a5 a0 cl ((a7 "__name__").getD .none) m a2
  exact k1 _ _ _ d3 _ _ _ b9 _ ((o.trans o2).trans o3)<|d1 _ _ m n a1 t _ a2 (o2.ext.le.trans o3.ext.le) (G.eZ ..) (o3.ext.le.F _ _ g1) hd a8
end
end
mutual
section
variable {w:aM}{a:Heap}{e:aA}{l:List aA}{g:G}{b:List Z}{s:az}{f:Y}{c:R}{i:Ev}{A:bu}{h d:Heap}
theorem xc:∀{j},x∈cS j->(x,EW)∈j
 |[],q=>nomatch q
 |(y,k)::r,q=>by
  cases k<;>first|exact .tail _<|xc (j:=r) q|skip
  rcases bF.mp<|show x∈y::cS r from q with rfl|q
  .exact .head _
  .exact .tail _<|xc q
theorem yZ:∀{m},fZ f n=H m->(∀x v,aI x m=H v->x∈cS n/\aI x f.vals=H v)/\
  ∀x∈cS n,∃v,aI x f.vals=H v/\(aZ x f.scope=H .cell\/aZ x f.scope=H .free):=by
 induction n with
 |nil=>
  intro m j
  refine aG j ?_;clear j;rintro rfl;exact ⟨λx v q=>ao q,λx q=>nomatch q⟩
 |cons X r B=>
  obtain ⟨y,k⟩:=X
  intro m j
  by_cases p:k=.free
  .subst p
   rw [H_] at j
   split at j
   .rename_i t
    refine zb j λv M j=>?_
    refine zb j λa1 a0 j=>?_
    refine aG j ?_;clear j;rintro rfl
    refine aL (B a0) λO h2=>?_
    have t:aZ y f.scope=H .cell\/aZ y f.scope=H .free:=by simpa using t
    refine ⟨λx P q=>?_,λx q=>?_⟩
    .rw [hT] at q
     split at q
     .rename_i z
      refine z▸?_
      refine q▸?_
      exact ⟨.head _,M⟩
     .exact ⟨.tail _ (O x P q).1,(O x P q).2⟩
    .rcases bF.mp<|show x∈y::cS r from q with rfl|q
     .exact ⟨v,M,t⟩
     .exact h2 x q
   .exact ao j
  .have e1:fZ f ((y,k)::r)=fZ f r:=by cases k<;>first|rfl|exact absurd rfl p
   have e2:cS ((y,k)::r)=cS r:=by cases k<;>first|rfl|exact absurd rfl p
   rw [e1] at j
   refine J e2 ?_
   exact B j
theorem N1 (j:aZ x m.names=H k):(ts m e).names.lookup x=H k\/k=.free/\(ts m e).names.lookup x=H .cell:=by
 unfold ts
 dsimp only
 revert j
 generalize m.names=n
 induction n with
 |nil=>exact λq=>ao q
 |cons p r t=>
  obtain ⟨y,B⟩:=p
  intro j
  rw [nh] at j
  refine J dQ ?_
  split at j
  .rename_i z
   refine z▸?_
   refine aG j ?_;clear j;rintro rfl
   split
   .rename_i q
    simp only [eI,beq_iff_eq] at q
    exact .inr ⟨q.1.1,by refine J fI ?_;rw [beq_self_eq_true]⟩
   .exact .inl<|by refine J fI ?_;rw [beq_self_eq_true]
  .rename_i z
   have:(x==y)=N:=beq_eq_false_iff_ne.mpr λq=>z q.symm
   split<;>(refine J fI ?_;refine J this ?_;exact t j)
abbrev jo (e:aA)(k:ia)(m:List<|ae×Z):Prop:=
 (∀x j,m.lookup x=H j->x∈cS k.names/\e.cells.lookup x=H j)/\
 ∀x j,x∈cS k.names->e.cells.lookup x=H j->m.lookup x=H j
theorem jo.sub (h:jo e k m):∀x j,m.lookup x=H j->x∈cS k.names/\e.cells.lookup x=H j:=h.1
theorem jo.all (h:jo e k m):∀x j,x∈cS k.names->e.cells.lookup x=H j->m.lookup x=H j:=h.2
theorem ST.comp (j:ST w a g h e l f c b)(a3:fZ f r.names=H a0)(B:hc r)(t:jo e r cl)(a1:bL a g e l b M)(a4:h.Ns M m):
  ST w a g h (nK r cl M e) l ⟨a0,T,r.names,[],f.depth,T⟩ c []:=by
 refine aL (yZ a3) λc1 c2=>?_
 have a5:∀x v,aI x a0=H v->aZ x r.names=H .free:=λx v p=>B.free (x,.free) (xc (c1 x v p).1) rfl
 refine ⟨j.sr,⟨B.kind,j.fr.glob,⟨j.fr.blt.1,λ_ q=>ao q⟩,λx k p=>N1 p,⟨m,a4,λx v p k=>?_,.no⟩,λx v p k=>?_,λx n p=>?_,λx q=>absurd q<|Du B.jH,λx y n e1 e2=>j.fr.eE x y n (t.sub x n e1).2 (t.sub y n e2).2,a1.bb,by simp⟩,j.tb,j.ff,j.dep,j.top⟩
 .have:=a5 x v p
  rw [this] at k;exact nomatch k
 .refine aL (c1 x v p) λa2 ev=>?_
  refine aK (c2 x a2) λ_ _ a6=>?_
  obtain ⟨n,a7,O,P,X⟩:=j.fr.cell x v ev a6
  exact ⟨n,a7,t.all x n a2 O,P,X⟩
 .refine aL (t.sub x n p) λ_ e'=>?_
  refine hJ (j.fr.cells x n e') λO P X _=>?_
  exact ⟨O,P,X,λz=>a1.cell x<|(show n=M from z)▸e',by simp⟩
theorem lH (q:PP (nK m n j e) [] k):k=j:=by
 rcases q with q|⟨q,_⟩|q
 .exact q
 .exact ff q
 .exact nomatch q
theorem Go.comp (x:Go w a e l n k p g h b f c)(j:bL a g e l b m)(r:k.objs.size<=m)
  (y:Go w a (nK P X m e) l g h [] t d a0 a3 B):Go w a e l n k p t d b f B:=by
 refine ⟨x.ext.trans' y.ext λa1 q=>.inr<|lH q▸r,x.oa,y.st.sr,x.st.fr.ext y.ext (λq=>j.loc (lH q).symm) (λz a2 M q=>j.cell z<|lH q▸M) λa4 O q=>j.oa<|lH q▸O,y.st.tb,y.st.ff,x.st.dep,x.st.top⟩
theorem bL.comp (y:Go w a (nK t x m e) l g h [] p d z B M)(j:bL a g e l b k)(r:h.get? k=H o)(n:k≠m):bL a p e l b k:=
 ⟨y.ext.bb r j.bb λq=>n<|lH q,j.loc,j.cell,j.oa,j.fr⟩
theorem bz.vI (m:bz w a i) (f) (c) (j) (k) (X)(h:i.eval f c j k X):jM w a f c j k X:=
 λe l A g b s n p=>m.eval j f c e l A g b s n p k X h
inductive xi (w:aM)(a:Heap)(e:aA)(l:List aA)(A:bu)(M:Y->R->aD->(E->Y->R->Prop)->Prop->Prop)(O P:aD)(X f:Y)(a0:G)(a1 b:List Z)(q:az)(r x y:Z)(j:List E)(z:Nat->Heap->Prop)(a2:List E->R->Prop)(n:Nat)(s:az):Prop
 |mk:∀p g h t c a3 k B,s={q with heap:=h,toks:=t}->p+n=j.length->Go w a e l a0 q.heap a1 g h b f c->kY w A g r j z->z p h->bL a g e l b r->bL a g e l b x->bL a g e l b y->(∃m,h.Ns y m)->IsL h x (a3:List ah).toArray k->aQ w g B a3->B.length=p->iA M P O (j.drop p) X c (λa4 a5=>a2 (B++a4) a5)->xi w a e l A M O P X f a0 a1 b q r x y j z a2 n s
theorem compLoop (g3:∀f c b6 k X,b7 f c b6 k X->jM w a f c b6 k X)(e2:AC A l){a3:az}{a5 j M:Z}{c8:Nat->Heap->Prop} 
  (e3:a3.heap.objs.size<=a5) (g4:a3.heap.objs.size<=j) (g5:a3.heap.objs.size<=M) (c9:a5≠j) (b8:a5≠M) (d0:j≠M) (e4:p.length<=1000000) (g6:fZ f a6.names=H d1) (g7:hc a6) (g8:jo e a6 cl)
  (k1:∀O a4,b2 O a4->∀g' a1 k d b3,Go w a e l e5 a3.heap e6 g' d b f a4->bL a g' e l b j->bL a g' e l b M->(∃m,d.Ns M m)->IsL d j (a1:List ah).toArray k->aQ w g' O a1->O.length<=1000000->g9 (.ok .next) {a3 with heap:=d,toks:=b3}):
  ∀n s,xi w a e l A b7 b9 c0 ⟨d1,T,a6.names,[],f.depth,T⟩ f e5 e6 b a3 a5 j M p c8 b2 n s->
   gc (ak PR w) A (.compLoop (.ListComp c0 [⟨b9,j7,[],0⟩] a6 j8) 0 (.ref a5) (.ref j)<|nK a6 cl M e) g9 s:=by
 intro h0 j9 e7
 refine kcp_loop (xi w a e l A b7 b9 c0 ⟨d1,T,a6.names,[],f.depth,T⟩ f e5 e6 b a3 a5 j M p c8 b2) ?_ h0 e7
 clear e7
 intro n k0 c1
 obtain ⟨y,g,h,t,c,a1,k,a8,rfl,c2,o,it,st,e8,c3,a9,⟨m,c4⟩,e9,d2,d3,c5⟩:=c1
 obtain ⟨k2,P,c6,h1,f0⟩:=it.walk
 obtain ⟨h2,nm,O,f1,h3,k3,k4,h4⟩:=it.obj y h st
 have f3:h2.cls≠.type "frame" :=λz=>h4<|by rw [h3] at z;injection z
 refine mY ?_
 cases n with
 |zero=>
  have c1:y=p.length:=by exact mG c2<|by simp+arith only
  refine c6.done _ _ _ (c1▸st) λd b3 b0 d4=>?_
  refine aL (o.turn f1 f3 b0 d4 e3 e8) λo2 f2=>?_
  rw [c1,Sv] at c5
  refine k1 a8 c (hz a8▸c5) g a1 k d b3 o2 c3 a9 ?_ ?_ d2<|ay (bK (bh d3)<|bK (bh c2) e4)<|by simp+arith only
  .refine mZ c4 ?_;clear c4;intro d5 d6 d7 d8 r
   exact ⟨m,d5,d6,d7,b0 _ _ (by simpa using b8.symm) d8,r⟩
  .exact b0 _ _ (by simpa using c9.symm) e9
 |succ n=>
  have b4:y<p.length:=by exact ay (bh c2)<|by simp+arith only
  refine c6.item y _ _ _ b4 st λv d b3 h5 f4 b0 d4=>?_
  refine aK (h1 y v b4 h5) λx a7 h6=>?_
  refine aL (o.turn f1 f3 b0 d4 e3 e8) λo2 f2=>?_
  obtain ⟨f5,k5,k6,q1,q2,q3,q4,q5⟩:=it.obj (y+1) d f4
  have h7:f5.cls≠.type "frame" :=λz=>q5<|by rw [q2] at z;injection z
  have h8:d.Ns M m:=by
   refine mZ c4 ?_;clear c4;intro d5 d6 d7 d8 r
   exact ⟨d5,d6,d7,b0 _ _ (by simpa using b8.symm) d8,r⟩
  have f6:IsL d j a1.toArray k:=b0 _ _ (by simpa using c9.symm) e9
  have hd:p.drop y=x::p.drop (y+1):=by
   have:=xM b4
   refine J this ?_
   rw [iQ b4] at a7
   injection a7 with a7
   exact J a7 rfl
  rw [hd] at c5
  refine zW q1 q2 q3 q4 ?_
  refine zS (s:={a3 with heap:=d,toks:=b3}) e2 (o2.st.comp g6 g7 g8 a9 h8) b9 h6 (λ_ f7 c=>b7 f7 c c0 (λv _ c=>iA b7 c0 b9 (p.drop<|y+1) ⟨d1,T,a6.names,[],f.depth,T⟩ c λO a4=>b2 (a8++v::O) a4) False) False c5 _ _ (λB f7 a4 b6 h9 k7 i0 i1 i2 f8 _=>?_) λa7=>a7.elim
  .refine g3 _ _ _ _ _ b6 (nK a6 cl M e) l A h9 i2 {a3 with heap:=i0,toks:=i1} e2 f8.st _ _ (λu k8 i3 i4 c7 b1 a2 i5 k9 i6 i7=>?_) λa7=>a7.elim
   have a0:=f8.trans i6
   have i8:=o2.comp a9 g5 a0
   have i9:bL a c7 e l b j:=bL.comp a0 c3 f6 d0
   have j0:bL a c7 e l b a5:=bL.comp a0 f2 q1 b8
   have d9:a2.get? j=H _:=a0.ext.kc f6 c3.bb (λq=>d0<|lH q)<|by simp
   have j1:a2.get? a5=H f5:=a0.ext.kc q1 f2.bb (λq=>b8<|lH q) h7
   obtain ⟨m5,j2,_⟩:=a0.st.fr.vals
   have j3:bL a c7 e l b M:=⟨a0.st.fr.bb,a9.loc,a9.cell,a9.oa,a9.fr⟩
   have j4:c8 (y+1) a2:=c6.frame (y+1) d a2 f4 λB e0 o' q=>by
    rcases f0 B e0 with rfl|⟨f9,b5⟩
    .rw [q1] at q;refine aG q ?_;clear q;rintro rfl;exact j1
    .have:=o2.st.sr.fz B f9 b5
     rw [this] at q;refine aG q ?_;clear q;rintro rfl
     exact a0.st.sr.fz B _<|a0.ext.le.F _ _ b5
   have ln:a8.length=a1.length:=d2.length
   refine BL (n:=k) d9 (by refine J gJ ?_;exact ai (bh<|ln.symm.trans d3)<|ai (ig b4)<|ai e4<|by decide) ?_
   have e1:Heap.SameBut j a2<|a2.update j<|mj λp=>p.push b1:=Heap.SameBut.update _ _ _
   have g1:∀B o,B∉[j]->a2.get? B=H o->(a2.update j<|mj λp=>p.push b1).get? B=H o:=λB o n q=>(e1.2 B<|by simpa using n).trans q
   refine aL (i8.turn d9 (by simp) g1 (bh e1.1.symm) g4 i9) λo6 j5=>?_
   have g2:=R_ (show IsL a2 j a1.toArray k from d9) λp=>p.push b1
   have j6:a1.toArray.push b1=(a1++[b1]).toArray:=by simp
   rw [j6] at g2
   refine ⟨n,fw n,y+1,c7,_,i5,i3,a1++[b1],_,a8++[u],rfl,by exact mG c2<|by simp+arith only,o6,it.mono a0.ext.le,?_,j0,j5,j3,⟨m5,?_⟩,g2,?_,by simp [d3],?_⟩
   .refine c6.frame (y+1) a2 _ j4 λB e0 o' q=>g1 B o' ?_ q
    rcases f0 B e0 with rfl|⟨f9,b5⟩
    .simpa using c9
    .intro z
     rw [bW.mp z] at b5
     exact c3.bb.F _ b5
   .exact j2.sameBut e1<|fu d0
   .exact (aQ.mono a0.ext.le _ _ d2).append<|fQ i7 gW
   .refine J (show (λO a4=>b2 (a8++[u]++O) a4)=λO a4=>b2 (a8++u::O) a4 from funext λO=>by rw [hE];rfl) ?_
    exact i4
end
end
mutual
section
variable {w:aM}{a:Heap}{e:aA}{l:List aA}{g:G}{c:List Z}{s:az}{f:Y}{b:R}{i:Ev}{A:bu}{h d:Heap}
theorem Go.Kx {a2:G}{a0:Heap}{a3:List Z}{O:Z}(x:Go w a e l a2 a0 a3 g h c f b)(a1:Heap.SameBut O h d)(n:a0.objs.size<=O)(B:bL a g e l c O):Go w a e l a2 a0 a3 g d c f b:=by
 have M:∀k o,k≠O->h.get? k=H o->d.get? k=H o:=λk o q=>(a1.2 k q).trans
 have P:h.objs.size<=d.objs.size:=bh a1.1.symm
 have m:=x.st.sr
 refine ⟨⟨x.ext.le,ai x.ext.size P,x.ext.Fn,x.ext.eF,λk o r q t p=>?_⟩,x.oa,⟨λk o r=>M k o (λz=>by rw [z,B.bb.base] at r;exact ao r)<|m.base k o r,λk o q=>M k o (λz=>B.bb.F o<|z▸q)<|m.fz k o q,
   λj a5 q=>(m.st j a5 q).keep λk o z q=>M k o (λzz=>by refine aC z ?_;clear z;intro j z;exact B.bb.ν j<|zz▸z) q,m.dA,λj k q=>⟨bE (m.da j k q).1 P,(m.da j k q).2⟩,m.fC,m.inj,ai m.low P,m.hF,λj k q=>let ⟨o,p,z⟩:=m.fb j k q;⟨o,M k o (λzz=>B.bb.ν j<|zz▸q) p,z⟩⟩,
   x.st.fr.ext ⟨G.Le.refl g,P,λ_ _ q=>.inl q,λ_ _ q=>.inl q,λk o r _ _ p=>.inl<|M k o p r⟩ (λz=>B.loc z.symm) (λy a4 q z=>B.cell y<|z▸q) λk X z=>B.oa<|z▸X,x.st.tb.but a1 B.bb.tab,λr he=>?_,x.st.dep,x.st.top⟩
 .have X:k≠O:=λz=>absurd (Heap.lt_size r)<|de.mpr<|z▸n
  rcases x.ext.keep k o r q t p with e1|⟨o1,e1,f1⟩
  .exact .inl<|M k o X e1
  .exact .inr ⟨o1,M k o1 X e1,f1⟩
 .refine aL (x.st.ff r he) λa6 zz=>du zz λL o' q a4 a7=>?_;clear zz
  exact ⟨a6,L,o',q,M L o' (λz=>B.fr r he<|z▸q) a4,a7⟩
inductive CC (w:aM)(a:Heap)(e:aA)(l:List aA)(n:Nat)(g:G)(h:Heap)(c:List Z)(k:List E)(p:ah×Z):Prop
 |mk:∀j,p.1=.ref j->n<=j->n<=p.2->j≠p.2->bL a g e l c j->e_ w a g h j [j] (.lst k)->bL a g e l c p.2->(∃m,h.Ns p.2 m)->CC w a e l n g h c k p
def zv (w:aM)(a:Heap)(e:aA)(l:List aA)(n:Nat):G->Heap->List Z->List E->ah×Z->Prop:=CC w a e l n
def nQ (w:aM)(A:bu)(e:aA)(q t m:aD)(k:ia)(y:Pos)(z:List<|ae×Z)(s:az)(B:ah×Z->az->Prop)(j:ah->az->Prop):Prop:=
 av (ak PR w) A (cP m e) (λx M=>av (ak PR w) A (pS x) (λO P=>av (ak PR w) A (EZ []) (λn X=>
   av (ak PR w) A (tk k e.globals z [] e.qual T .none<|H e) (λp a0=>
    gc (ak PR w) A (.compStart (.ListComp q [⟨t,m,[],0⟩] k y) 0 O n {p with scope:=ts k e}) (λr s'=>match r with|.ok _=>B (n,p.locals) s'|.error _=>False) a0) j X) j P) j M) j s
theorem LM (B:dF w a)(b0:bz w a i)(b8:AC A l)(d0:ST w a g s.heap e l f b c) (a4 a5 a6) (p) (b9)(d1:jo e p cl)(b1:hc p) (n):
  W w a e l g c s (zv w a e l s.heap.objs.size) (λk X=>o_ i.eval f b a6 (λO f b=>bw (fZ f p.names) λb2=>wp (ask<|O.length<=1000000) λ_=>
   z_ i.O i.eval n a4 a5 O ⟨b2,T,p.names,[],f.depth,T⟩ b (λt b=>k t f b) X) X)<|nQ w A e a4 a5 a6 p b9 cl s:=by
 intro k X d2 d3 f1 k1 k2
 refine CL B b0 b8 d0 a6 _ X d2 _ _ (λO a0 c0 b3 b4 it j f2 a7 a1 a8=>?_) k2
 obtain ⟨c1,c2,rfl,it,st,d4,d5⟩:=a8
 refine cK (AS b3) λb2 d6 d7 b3=>?_
 have:∃b5,(∀f b m k X,b5 f b m k X->jM w a f b m k X)/\iA b5 a4 a5 O ⟨b2,T,p.names,[],a0.depth,T⟩ c0 λt b=>k t a0 b:=by
  revert b3
  cases n with
  |true=>exact λm=>⟨_,λ_ _ _ _ _ h=>h,b0.le.comp m⟩
  |false=>exact λm=>⟨_,b0.vI,m⟩
 refine aK this ?_;clear this;intro b5 d8 d9
 refine pL<|wpAny_newFunctionEnv b1.jH (by intro y e0;exact nomatch e0) (λx b6 a2=>?_) b1.kind
 dsimp only at b6 a2 |-
 generalize a9:j.push {cls:=.type "list",dict:=T,data:=.seq ([]:List ah).toArray}=z at b6 a2 |-
 have M:z.objs.size=j.objs.size+1:=by refine rT a9 ?_;rw [Heap.size_push]
 have c3:∀n o,j.get? n=H o->x.get? n=H o:=λn o m=>(a2.2 n<|by have:=Heap.lt_size m;refine J M ?_;exact cA<|tv this).trans<|Heap.get?_push_of_some _<|by refine rT a9 ?_;exact Heap.get?_push_of_some _ m
 have e1:j.objs.size<=x.objs.size:=by refine J a2.1 ?_;rewrite [Heap.size_push];refine J M ?_;simp+arith only
 have b7:j.objs.size≠z.objs.size:=by refine J M ?_;exact cA<|fw _
 have e2:x.get? j.objs.size=H {cls:=.type "list",dict:=T,data:=.seq ([]:List ah).toArray}:=(a2.2 _ b7).trans<|Heap.get?_push_of_some _<|by refine rT a9 ?_;exact Heap.get?_push_size _ rfl
 have e3:bL a b4 e l a7 j.objs.size:=a1.st.free
 have e4:bL a b4 e l a7 z.objs.size:=by refine rT a9 ?_;exact (Go.push (h:=j) a1.st _).st.free
 obtain ⟨f3,P,c4,f4,f5⟩:=it.walk
 obtain ⟨f6,nm,t,e5,_⟩:=it.obj 0 j st
 have c5:c1<j.objs.size:=Heap.lt_size e5
 have c6:c2 0 x:=c4.frame 0 j x st λn _ o' q=>c3 n o' q
 have s1:s.heap.objs.size<=j.objs.size:=a1.ext.size
 let c7:j_->az->Prop:=λr s'=>match r with|.ok _=>d3 (.ref j.objs.size,z.objs.size) s'|.error _=>False
 have c8:∀a3,gc (ak PR w) A (.compLoop (.ListComp a4 [⟨a5,a6,[],0⟩] p b9) 0 (.ref c1) (.ref j.objs.size)<|nK p cl z.objs.size e) c7 {s with heap:=x,toks:=a3}:=λa3=>by
  refine compLoop (a3:=s) (e5:=g) (e6:=c) (b:=a7) (f:=a0) (g9:=c7) d8 b8 d4 s1 (by refine J M ?_;exact jX s1) (cA c5) (by refine J M ?_;exact cA<|tv c5) b7 d7 d6 b1 d1
   (b2:=λt b=>k t a0 b) (c8:=c2) ?_ O.length _ ⟨0,b4,x,a3,c0,[],0,[],rfl,by simp+arith only,a1.trans<|Go.grow a1.st c3 e1,it,c6,d5,e3,e4,⟨_,b6⟩,e2,gW,rfl,d9⟩
  intro t e6 m g' e7 k d a3 o c9 e8 e9 f0 a8 f7
  exact k1 t a0 e6 m g' (.ref j.objs.size,z.objs.size) d a3 a7 o ⟨_,rfl,s1,by refine J M ?_;exact jX s1,b7,c9,⟨rfl,c9.bb,_,e7,f0,⟨by refine rT a8.length ?_;have:dr=16777216:=rfl;exact ai (by assumption)<|by decide,_,rfl⟩,a8⟩,e8,e9⟩
 exact codeAny_compStart_list (c8 _)<|c4.self 0 _ _ _ c6<|c8 _
end
end
mutual
section
variable {w:aM}{a:Heap}{e:aA}{l:List aA}{g:G}{b:List Z}{s:az}{f:Y}{c:R}{i:Ev}{A:bu}{h d:Heap}
theorem W.letGo {t:G->Heap->List Z->y->z×Z->Prop}{B:G->Heap->List Z->y->z->Prop}{r:Cp y}{P:(z×Z->az->Prop)->(ah->az->Prop)->Prop}(x:W w a e l g b s t r P)
  (a1:∀g h b j p,t g h b j p->s.heap.objs.size<=p.2/\bL a g e l b p.2/\(∃m,h.Ns p.2 m)/\∀d,Heap.SameBut p.2 h d->B g d b j p.1):
  W w a e l g b s B r λM n=>P (λp q=>∃m,q.heap.Ns p.2 m/\∀d,Heap.SameBut p.2 q.heap d->M p.1 {q with heap:=d}) n:=by
 intro k X a2 M n k1 k2
 refine x k X a2 _ n (λj a3 a4 a5 g' p d a6 a7 o a8=>?_) k2
 refine hJ (a1 _ _ _ _ _ a8) ?_;rintro q1 q2 ⟨m,a9⟩ q4
 exact ⟨m,a9,λO a0=>k1 j a3 a4 a5 g' p.1 O a6 a7 (o.Kx a0 q1 q2)<|q4 O a0⟩
theorem nQ.mono {y:ah->Z->j_->az->Prop}(k:∀m z B p,a3 (m,z) p->y m z (.ok B) p)
  (x:nQ w A e a4 a5 M q a6 cl s a3 n):av (ak PR w) A (cP M e) (λx O=>av (ak PR w) A (pS x) (λP X=>av (ak PR w) A (EZ []) (λm a0=>
   av (ak PR w) A (tk q e.globals cl [] e.qual T .none<|H e) (λt a1=>
    gc (ak PR w) A (.compStart (.ListComp a4 [⟨a5,M,[],0⟩] q a6) 0 P m {t with scope:=ts q e}) (y m t.locals) a1) n a0) n X) n O) n s:=by
 unfold nQ at x
 refine ej x (λx O a7=>ej a7 (λP X a8=>ej a8 (λm a0 a9=>ej a9 (λt a1 b0=>SM b0 λr p a2=>?_) λ_ _ j=>j) λ_ _ j=>j) λ_ _ j=>j) λ_ _ j=>j
 cases r with
 |ok B=>exact k _ _ _ _ a2
 |error j=>exact a2.elim
theorem B5 (m:ST w a g h e l f c b)(n:fZ f k.names=H P):∃j,EY k e=aS j/\jo e k j:=by
 refine aL (yZ n) λ_ p=>?_
 refine cK (yt (m:=k) (e:=e) λx q=>by
  obtain ⟨v,r,t⟩:=p x q
  obtain ⟨y,_,z,_⟩:=m.fr.cell x v r t
  exact ⟨y,z⟩) λj B M O=>?_
 exact ⟨j,B,M,O⟩
theorem ur {k:List aD}{m:Int}{j:ia}(h:(k.isEmpty && m==0 && (fZ f j.names).isSome && mV j)=I):k=[]/\m=0/\(∃n,fZ f j.names=H n)/\hc j:=
 ⟨lg.mp<|bl<|bl<|bl h,sT<|br<|bl<|bl h,pV.mp<|br<|bl h,A_<|br h⟩
def vS (w:aM)(a:Heap)(e:aA)(l:List aA)(n:Nat):G->Heap->List Z->E->ah×Z->Prop:=λg h b v p=>aq w g v p.1/\n<=p.2/\bL a g e l b p.2/\∃m,h.Ns p.2 m
def GW (a:Heap)(e:aA)(l:List aA)(n:Nat):G->Heap->List Z->Unit->Unit×Z->Prop:=λg h b _ p=>n<=p.2/\bL a g e l b p.2/\∃m,h.Ns p.2 m
theorem bL.i_ (j:bL a g e l b m)(n:m≠p):bL a (g.loc k q p) e l b m:=⟨j.bb.loc n,j.loc,j.cell,j.oa,j.fr⟩
theorem MS {r:Cp<|List E}{p:Pos}{P:(ah×Z->az->Prop)->(ah->az->Prop)->Prop}(x:W w a e l g b s (zv w a e l s.heap.objs.size) r P):
  W w a e l g b s (vS w a e l s.heap.objs.size) (λk X=>r (λn f c=>oX p (.lst n) f c k) X) P:=by
 refine W.ghost (a0:=λn f c k _=>oX p (.lst n) f c k) x λn z t B q a6 O y a4 k X j=>?_
 obtain ⟨m,e1,n1,n2,ne,a0,a5,a1,a2⟩:=a4
 obtain ⟨_,a7,o,us,M,a3,r⟩:=a5
 have j:nU (Pos.is p iu) (lJ p) (.lst n) z t k:=j
 revert j
 cases Pos.is p iu with
 |true=>cases lJ p with
  |true=>exact λj=>j.elim
  |false=>
   exact λj=>⟨B.loc t.next m m,O,_,z,_,j,y.i_ a0 (Heap.lt_size M) n1 ⟨m,o,us,G.js ..,G.pb ..,M,a3,aQ.mono (G.kh (s:=m) (t:=m) (y.st.sr.dA t.next<|aT _).1 (y.st.sr.dA t.next<|aT _).2.1) _ _ r⟩,⟨m,G.js ..,e1⟩,n2,a1.i_ ne.symm,a2⟩
 |false=>exact λj=>⟨B.add m o,O,_,z,t,j,y.freeze M a0 n1,⟨m,o,us,e1,G.eZ ..,a3,aQ.mono (B.c_ ..) _ _ r⟩,n2,a1.add ne.symm,a2⟩
theorem C9 (B:dF w a)(r:bz w a i)(t:AC A l)(x:ST w a g s.heap e l f c b) (n p q) (j) (m)(y:jo e j z)
  (M:(([]:List aD).isEmpty && (0:Int)==0 && (fZ f j.names).isSome && mV j)=I):
  W w a e l g b s (vS w a e l s.heap.objs.size) (dJ i.O i.eval f c<|.ListComp n [⟨p,q,[],0⟩] j m)<|nQ w A e n p q j m z s:=by
 refine W.pre (λk X h=>?_)<|MS (p:=m)<|LM B r t x n p q j m y (ur M).2.2.2<|hv (m.line*1000+m.col) yA
 exact (mU h).2
theorem MM (B:dF w a)(a1:bz w a i)(z:AC A l)(M:ST w a g s.heap e l f c b) (j) (m) (n) (t):WR w a e l A g b s (dJ i.O i.eval f c<|.ListComp j m n t)<|.ListComp j m n t:=by
 cases m with
 |nil=>exact W.stuck
 |cons a2 r=>cases r with
  |cons=>exact W.stuck
  |nil=>
   intro k X O
   refine aL (mU O) λP a3=>?_
   refine hJ (ur P) ?_;rintro h1 h2 ⟨b3,a4⟩ a0
   obtain ⟨a5,a6,b4,b5⟩:=a2
   dsimp only at h1 h2
   subst h1 h2
   refine aK (B5 M a4) λcl a7 a8=>?_
   intro a9 b0 k1 k2
   have x:=W.letGo (B:=cG w) (C9 B a1 z M j a5 a6 n t a8 P) (λg h b b6 p q=>⟨q.2.1,q.2.2.1,q.2.2.2,λ_ _=>q.1⟩) k X O a9 b0 k1 k2
   refine SN (use:=T) rfl (vV a3) a7 a0.kind (λy b1 b2=>?_)<|x.mono λb7 z b8 s' q=>q
   rw [<-qk]
   exact a0.loc y b1 b2
end
end
mutual
section
variable {w:aM}{a:Heap}{e:aA}{l:List aA}{g:G}{i:List Z}{s:az}{f:Y}{b:R}{d:Ev}{A:bu}{h j:Heap}{t:aD}{n:List Comprehension}{c:ia}{p:Pos}
set_option maxHeartbeats 1000000 in
theorem F9 (x1:W w a e l g i s (vS w a e l s.heap.objs.size) r P):
  W w a e l g i s (GW a e l s.heap.objs.size) (λk X=>r (λv f b=>bw (eD f x v) λf=>k () f b) X)
   λa0 O=>P (λM a1=>av (ak PR w) A (fv (.Name x a4) e M.1) (λ_ a2=>a0 ((),M.2) a2) O a1) O:=by
 refine W.bind (a9:=λv f b k _=>bw (eD f x v) λf=>k () f b) (K:=λM a1 a0 O=>av (ak PR w) A (fv (.Name x a4) e M.1) (λ_ a2=>a0 ((),M.2) a2) O a1) x1 λv b6 b7 b8 M a5 a6 a7 a8 a3=>?_
 refine hJ a3 ?_;clear a3;rintro r1 r2 B ⟨m,r4⟩
 intro k X a9 Q' b9 j1 j2
 refine xN<|kf (s:={s with heap:=a5,toks:=a6}) a8.st x r1 k X a9 _ _ (λb0 b1 b2 e' g' u j b3 b4 o _=>?_) j2
 have np:¬PP e a7 M.2:=λq=>by
  rcases q with q|⟨_,y,q⟩|q
  .exact B.loc q
  .exact B.cell y q
  .exact B.oa q
 refine mZ (id r4) λc0 c1 c2 b5 _=>?_
 refine j1 b0 b1 b2 e' g' ((),M.2) j b3 b4 o ⟨r2,⟨o.ext.bb b5 B.bb np,B.loc,B.cell,λq=>?_,B.fr⟩,m,o.ext.ns r4 B.bb.ν B.bb.tab np⟩
 rcases o.oa with z|z
 .exact B.oa<|z▸q
 .exact nomatch z▸q
set_option maxHeartbeats 1000000 in
theorem FC (B:dF w a)(a8:bz w a d)(a0:AC A l)(a1:ST w a g s.heap e l f b i)(a9:WR w a e l A g i s (dJ d.O d.eval f b<|.ListComp t n c p)<|.ListComp t n c p)
  (x) (m) (z):WS w a e l A g i s (fV d.O d.eval d.execs f b<|.Assign [.Name x m] (.ListComp t n c p) z)<|.Assign [.Name x m] (.ListComp t n c p) z:=by
 show WS w a e l A g i s (λk X=>dJ d.O d.eval f b (.ListComp t n c p) (λv f b=>bw (eD f x v) λf=>k .next f b) X) _
 cases a2:e.blockKind==.function && e.kindOf x==H .local && m.line==p.line && ! c.names.any λ(b0,k)=>b0==x && (k==.local||k==.cell) with
 |false=>
  have M:Ex (.ListComp t n c p) (H<|.Name x m) z.line e=aS N:=by
   show (aS _:Sem Bool)=_
   refine rT a2 ?_;rfl
  refine W.imp (λO a3 h=>Sp h M) ?_
  refine W.bind a9 λv b1 b2 c6 c7 b3 b4 c8 b5 b6=>?_
  exact W.nx (r:=sf (eD b1 x v) b2)<|kf (s:={s with heap:=b3,toks:=b4}) b5.st x b6
 |true=>
  have M:Ex (.ListComp t n c p) (H<|.Name x m) z.line e=aS I:=by
   show (aS _:Sem Bool)=_
   refine rT a2 ?_;rfl
  cases n with
  |nil=>exact W.stuck
  |cons b7 r=>cases r with
   |cons=>exact W.stuck
   |nil=>
    intro k X a4
    refine aL (mU<|show cj _ _ from a4) λa5 b8=>?_
    refine hJ (ur a5) ?_;rintro h1 h2 ⟨c9,b9⟩ a6
    obtain ⟨a7,P,d0,d1⟩:=b7
    dsimp only at h1 h2
    subst h1 h2
    refine aK (B5 a1 b9) λcl c0 c1=>?_
    intro O a3 k1 k2
    refine J (exec_Assign_Name_used _ _ _ _ M) ?_
    refine aF<|tg<|aF ?_
    show av _ A (do let _ <-comprehension (.ListComp t [⟨a7,P,[],0⟩] c p) c e _ (EZ []) N (cP P e)<|H<|fv (.Name x m) e) _ _ s
    refine aF<|ej (SN (use:=H<|fv (.Name x m) e) (Q:=λ_ s'=>O .next s') rfl (vV b8) c0 a6.kind (λy c2 c3=>?_)<|(W.nx (W.letGo (B:=hO) (F9 (A:=A) (x:=x) (a4:=m)<|C9 B a8 a0 a1 t a7 P c p c1 a5) λg h i d2 m q=>⟨q.1,q.2.1,q.2.2,λ_ _=>trivial⟩) k X a4 O a3 k1 k2).mono λd3 a0 d4 s' q=>q) (λ_ s' c4=>bp<|bp c4) λ_ _ c5=>c5
    rw [<-qk]
    exact a6.loc y c2 c3
end
end
mutual
section
variable {w:aM}{a:Heap}{e:aA}{l:List aA}{g:G}{c:List Z}{s:az}{f:Y}{d:R}{b:Ev}{A:bu}{h i:Heap}
abbrev dV (w:aM)(a:Heap)(K:aU):Prop:=
 dF w a/\
 K.In a/\
 KB K/\
 KC K/\
 KD w a/\
 KM K/\
 gm K
theorem dV.B {K:aU}(h:dV w a K):dF w a:=h.1
theorem dV.KI {K:aU}(h:dV w a K):K.In a:=h.2.1
theorem dV.KF {K:aU}(h:dV w a K):KB K:=h.2.2.1
theorem dV.KX {K:aU}(h:dV w a K):KC K:=h.2.2.2.1
theorem dV.D {K:aU}(h:dV w a K):KD w a:=h.2.2.2.2.1
theorem dV.M {K:aU}(h:dV w a K):KM K:=h.2.2.2.2.2.1
theorem dV.KN {K:aU}(h:dV w a K):gm K:=h.2.2.2.2.2.2
theorem A3 {K:aU}(z:dV w a K)(n:bz w a b)(y:AC A l)(m:ST w a g s.heap e l f d c) (P):WR w a e l A g c s (dJ b.O b.eval f d P) P:=by
 have O:∀{P},WR w a e l A g c s (λ_ _=>False) P:=W.stuck
 cases P with
 |Constant a7 k j=>exact KL m a7 k j
 |Name x j=>exact HE z.B m x j
 |BinOp B X a1 j=>exact GC n y m B X a1 j
 |UnaryOp X x j=>cases X<;>first|exact Pj n y m x j|exact Og n y m x j|exact O
 |BoolOp X M j=>exact NK n y m X M j
 |Compare B a8 rs j=>exact NJ n y m B a8 rs j
 |IfExp t B a1 j=>exact Lz n y m t B a1 j
 |Call a9 a2 b0 j=>cases b0 with
  |nil=>exact LF z.B n z.KI z.KF z.KX y m a9 a2 j
  |cons k r=>exact O
 |Attribute o B j=>exact H5 n z.KI z.KF y m o B j
 |Subscript o a6 j=>
  by_cases a3:∃lo a0 O p,a6=.Slice lo a0 O p
  .refine dx a3 ?_;clear a3;intro lo a0 zz;refine dx zz ?_;clear zz;rintro a4 p rfl
   cases a4 with
   |none=>exact PM n y m o lo a0 p j
   |some=>exact O
  .exact Nz n y m o a6 j λlo a0 a4 p q=>a3 ⟨lo,a0,a4,p,q⟩
 |Tuple M k j=>exact P_ n y m M k j
 |List M j=>exact LA n y m M j
 |Dict b1 M j=>exact OL n y m b1 M j
 |ListComp b2 b3 a5 j=>exact MM z.B n y m b2 b3 a5 j
 |Lambda a2 b4 a5 j=>exact PJ z.B m a2 b4 a5 j
 |_=>exact O
end
end
mutual
section
variable {w:aM}{M:Model}{A:bu}{s:az}{a:aU}{b:ah->az->Prop}{e:aA}
def iK (h:Heap)(d f:Z)(g:Array ah):Prop:=∃c,h.get? f=H c/\c.cls=.ref d/\c.data=.fields g
inductive wL (a:aU)(d:Z)(f:String):Prop
 |mk:∀g q h i c j k l m n p r t x y z,a.lookup d=H (excClassObj g q d h i c j k l m n p r t x y z f)->
  c.contains (.type "Exception")=I->c.contains (.type "AttributeError")=N->c.contains (.type "NameError")=N->wL a d f
abbrev KR (a:aU)(c d:Z)(f:String):Prop:=
 iP a (.ref c)=H (.type "type")/\
 jm a (.ref c)=I/\
 subIn a (.ref c) (.type "BaseException")=H I/\
 cY a (.ref c) "__init__" =H (H<|.ref d)/\
 iP a (.ref d)=H (.type "function")/\
 pX a (.ref c) "__call__" =H (H<|.builtin "type.__call__")/\
 instIn a (.ref c) (.type "type")=H I/\
 wL a c f
theorem KR.typ (h:KR a c d f):iP a (.ref c)=H (.type "type"):=h.1
theorem KR.keep (h:KR a c d f):jm a (.ref c)=I:=h.2.1
theorem KR.base (h:KR a c d f):subIn a (.ref c) (.type "BaseException")=H I:=h.2.2.1
theorem KR.init (h:KR a c d f):cY a (.ref c) "__init__" =H (H<|.ref d):=h.2.2.2.1
theorem KR.fn (h:KR a d c f):iP a (.ref c)=H (.type "function"):=h.2.2.2.2.1
theorem KR.call (h:KR a c d f):pX a (.ref c) "__call__" =H (H<|.builtin "type.__call__"):=h.2.2.2.2.2.1
theorem KR.inst (h:KR a c d f):instIn a (.ref c) (.type "type")=H I:=h.2.2.2.2.2.2.1
theorem KR.obj (h:KR a c f d):wL a c d:=h.2.2.2.2.2.2.2
theorem iK.type (x:iK h c d i):hb M h (td<|.ref d)<|.ref c:=by
 refine cK x ?_;clear x;intro j f g k
 refine g▸?_
 exact (Eo f).andThen .now
theorem iK.notType (x:iK h g c i):hb M h (isType<|.ref c) N:=by
 refine cK x ?_;clear x;intro j d l f
 intro A m b s k q
 refine aF<|mi (k _ _ d) ?_
 refine J f ?_
 exact bp q
theorem GF (i:KR a l z B)(m:A.handled=T)
  (h:av M A x (λv c=>∃d g,v=.ref d/\a.In c.heap/\iK c.heap l d g/\g[1]?=H .none/\b (.ref d) c) b s):av M A (raiseStmt e (H x) T) O b s:=by
 refine aF<|ej h (λv c j=>?_) λ_ _ x=>x
 refine fe j ?_;clear j;rintro d g rfl X f n p
 refine cK (id f) λP q a0 r=>?_
 have k:=f.type (M:=M)
 have t:hb M c.heap (E0 (.ref d)<|.type "BaseException") I:=k.andThen<|looks_subIn X i.base
 have y:=SP (M:=M) X i.typ
 refine aF<|bp ?_
 refine aF<|xy<|aF<|aF<|f.notType (M:=M).here<|bp ?_
 refine aF<|t.here ?_
 refine bp ?_
 refine aF<|f.notType (M:=M).here ?_
 refine aF ?_
 refine aF<|k.here<|aF<|y.here ?_
 refine bp ?_
 refine aF<|aF<|iO q r n ?_
 refine bp ?_
 exact wpAny_raiseNew_none m p
end
end
mutual
section
variable {w:aM}{A:bu}{c:aU}{h:Heap}{g:Array E1}{d:Drawn}{t:Nat}{s:E2}{B n i:String}{m:List ah}{a f:Z}{b:j_->az->Prop}
def hM (h:Heap)(a:Z)(e:List ah):Heap:=(h.push {cls:=.type "tuple",data:=.seq e.toArray}).push {cls:=.ref a,data:=.fields #[.ref h.objs.size,.none,.none,.none,.bool N,.none]}
theorem H2 (e:xV "Exception" n i m)(x:KR c a f n)(X:c.In h)(a2:l.length<=dr)(y:b (.ok<|.ret<|.ref<|h.objs.size+1) ⟨hM h a l,g,d,t,s⟩):
  gc (ak PR w) A (.call (.builtin n) ⟨.ref a::l,[]⟩) b ⟨h,g,d,t,s⟩:=by
 obtain ⟨nm,q,a3,bs,k,a4,sn,a5,a6,a7,a8,k0,k1,k2,k3,k5,z,M,O,P⟩:=x.obj
 have j:=X _ _ z
 have r:(ic a::k).contains (.type "Exception")=I:=by refine J pY ?_;refine J M ?_;rw [E3]
 have a0:(ic a::k).contains (.type "AttributeError")=N:=by refine J pY ?_;refine J O ?_;rfl
 have a1:(ic a::k).contains (.type "NameError")=N:=by refine J pY ?_;refine J P ?_;rfl
 refine codeAny_call_builtin_code (SQ _ e.quiet) ?_
 .simp only [SS,e.newKind,e.newSplit,e.newRow]
  repeat (first|refine xW j ?_|(refine E4 j ?_;refine J r ?_)|refine wpAny_staticBase_exc j ?_|refine SU j ?_|simp only [bne_self_eq_false,tm,if_false]|wp_step)
  have a9:=e.ends
  refine codeAny_builtinAt e.entry ?_
  refine SW ?_
  refine SW<|PySem.wpAt_stack λp b0=>SX ?_
  wp_walk
  refine SX ?_
  refine J e.owner ?_
  repeat (first|with_reducible refine wpAny_madeHere_exc e.canon j ?_|with_reducible refine xW j ?_|(with_reducible refine E4 j ?_;first|rewrite [r]|rewrite [a0]|rewrite [a1])|wp_step)
  show b _ _
  rw [Heap.size_push]
  exact y
end
end
mutual
section
variable {w:aM}{A:bu}{b:aU}{h:Heap}{g:Array E1}{d:Drawn}{t:Nat}{s:E2}{B n i:String}{m:List ah}{a f:Z}{c:j_->az->Prop}
theorem BP (j) (o)(e:h.get? j=H o):(hM h a k).get? j=H o:=Heap.get?_push_of_some _<|Heap.get?_push_of_some _ e
theorem Bh:(hM h a e).objs.size=h.objs.size+2:=by unfold hM;rw [Heap.size_push,Heap.size_push]
theorem zK:(hM h a e).get? (h.objs.size+1)=H {cls:=.ref a,data:=.fields #[.ref h.objs.size,.none,.none,.none,.bool N,.none]}:=by
 have:=Heap.get?_push_size (h.push {cls:=.type "tuple",data:=.seq e.toArray}) (o:={cls:=.ref a,data:=.fields #[.ref h.objs.size,.none,.none,.none,.bool N,.none]}) rfl
 rwa [Heap.size_push] at this
theorem NW (O:xV "Exception" n i m)(l:KR b a f n)(X:b.In h)(P:j.length<=dr)
  (a0:gc (ak PR w) (A.under<|.builtin "type.__call__" ⟨.ref a::j,[]⟩) (.call (.ref f) ⟨.ref (h.objs.size+1)::j,[]⟩) (InitBack (h.objs.size+1) c) ⟨hM h a j,g,d,t,s⟩):
  gc (ak PR w) A (.call (.ref a) ⟨j,[]⟩) c ⟨h,g,d,t,s⟩:=by
 obtain ⟨nm,q,a1,bs,p,a2,sn,a3,a4,a5,b1,k0,k1,k2,k3,k5,x,b2,b3,b4⟩:=id l.obj
 have y:=X _ _ x
 have a6:=looks_specialIn (M:=ak PR w) X l.call
 have a7:=looks_instIn (M:=ak PR w) X l.inst
 have M:nL b a=H {name:=nm,bases:=bs,mro:=.ref a::p,ns:=a1,qualname:=q,hasDict:=a2,slotNames:=sn,subclasses:=a3,abstract:=a4,collection:=a5,hasDel:=N}:=by unfold nL;exact J x rfl
 have hm:hb (ak PR w) h (mroOf<|.ref a)<|.ref a::p:=(ta X M).andThen .now
 have b5:hb (ak PR w) h (Bind.madeBy<|.ref a)<|H n:=λA' Q' E' s' k q'=>by
  exact SU (k _ _ y) q'
 have a8:hb (ak PR w) h (isSubtype (.ref a)<|.ref a) I:=E5 X<|by unfold pW;refine J M ?_;simp
 refine Sw ?_
 refine nd_load y ?_
 show av _ _ (callAny.viaDunder (.ref a) _) _ _ _
 refine aF<|a6.at ?_
 dsimp only
 refine aF<|bp<|aF<|bp ?_
 refine bp (a:=Fin.again<|.call (.builtin "type.__call__") ⟨.ref a::j,[]⟩)<|And.intro rfl ?_
 refine codeAny_call_builtin_at (SQ _<|by decide+kernel) entry_typeCall ?_
 with_reducible refine check_slot tc_kind tc_split a7 (tc_args _ _ _) ?_
 unfold Builtin.«type.__call__»
 repeat (first|simp only [List.isEmpty_cons,tm,if_false]|with_reducible refine mn ?_|lk)
 refine H2 O l X P ?_
 have k:=λa9 o e=>BP (h:=h) (a:=a) (k:=j) a9 o e
 have b0:=zK (h:=h) (a:=a) (e:=j)
 have t1:hb (ak PR w) (hM h a j) (td<|.ref<|h.objs.size+1)<|.ref a:=(Eo b0).andThen .now
 have s1:=a8.keeps k
 have i1:=(tr (M:=ak PR w) X l.init).keeps k
 have b6:=(ER (M:=ak PR w) X (.ref<|h.objs.size+1) l.fn).keeps k
 repeat (first|with_reducible refine mn ?_|lk)
 refine SM a0 λr s' z=>?_
 rcases r with e|(v|_|_|_)<;>first|exact z|exact z.elim|skip
 refine aL z ?_;clear z;rintro rfl z
 exact bp<|bp z
end
end
mutual
section
variable {w:aM}{A:bu}{e:aU}{s:az}{a x P:Z}{b:Array ah}{d:j_->az->Prop}{c:ah->az->Prop}{n:ae}{v:ah}{t:Tok}
def hp (h:Heap)(a x:Z)(b:Array ah):Option (Z×List (ae×ah))->Prop
 |T=>h.get? x=H {cls:=.ref a,data:=.fields b}
 |H (f,g)=>h.get? x=H {cls:=.ref a,dict:=H f,data:=.fields b}/\∃i j,h.get? f=H (ft i j)/\fk i g/\g.length<=10
theorem hp.exc (X:hp h a x b f):iK h a x b:=by
 cases f with
 |none=>exact ⟨_,X,rfl,rfl⟩
 |some g=>exact ⟨_,X.1,rfl,rfl⟩
theorem AD (g:s.heap.get? i=H (ft f k))(l:f.any (·.refKey)=N)(m:f.length<=1000)
  (h:p (.done<|.ret .none) {s with heap:=s.heap.update i<|hB n (dY w.params n) (.str n s.toks) v,toks:=s.toks+1}):
  av (ak PR w) A (Ub i (.str n t) n v) p c s:=by
 have j:=mh n (dY w.params n) (.str n s.toks) v f k
 refine aF<|bp<|aF ?_
 refine aF<|aF<|Ee<|bp<|aF<|Ef<|aF<|mi g ?_
 dsimp only
 have q:(!f.toArray.any (·.key.isStr n) && f.toArray.any (·.refKey))=N:=by
  refine rT xD ?_;refine rT xD ?_
  refine J l ?_;rw [tc]
 rewrite [Eg];refine J q ?_
 refine Eh g ?_
 refine aF<|R8 (Heap.get?_update_self (hB n (dY w.params n) (.str n s.toks) v) g<|by refine J j ?_;rfl) (by refine J j ?_;exact R9<|by refine J gJ ?_;refine J sizeLine_eq ?_;have:=wF n (dY w.params n) (.str n s.toks) v f;exact ay (bK this m)<|by simp+arith only) ?_
 exact bp h
end
end
mutual
open Mine
abbrev KS (K:aU)(a P:Z)(c:List ae):Prop:=
 (∃b,nL K a=H b/\b.mro=[.ref a,.ref P,.type "Exception",.type "BaseException",.type "object"]/\b.hasDict=I)/\
 cY K (.ref a) "__setattr__" =H (H<|.builtin "object.__setattr__")/\
 ∀x∈c,cY K (.ref a) x=H T
theorem KS.cls {K:aU}(h:KS K b P c):∃a,nL K b=H a/\a.mro=[.ref b,.ref P,.type "Exception",.type "BaseException",.type "object"]/\a.hasDict=I:=h.1
theorem KS.set {K:aU}(h:KS K a P b):cY K (.ref a) "__setattr__" =H (H<|.builtin "object.__setattr__"):=h.2.1
theorem KS.free {K:aU}(h:KS K a P b):∀x∈b,cY K (.ref a) x=H T:=h.2.2
section
variable {w:aM}{A:bu}{c:aU}{s:az}{a x P:Z}{b:Array ah}{e:j_->az->Prop}{d:ah->az->Prop}{n:ae}{v:ah}{t:Tok}{m:List ae}
theorem Cc (X:c.In s.heap)(k:KS c a P m)(r:iK s.heap a x b)(y:n∈m)
  (h:av (ak PR w) A.in1 (E6 (.ref x) (.ref a) (.str n t) n v N)
   (λz i=>match z with|.done f=>e (.ok f) i|.again l=>l.quiet=I/\gc (ak PR w) A l e i) (λB i=>e (.error B) i) s):
  gc (ak PR w) A (.call (.builtin "object.__setattr__") ⟨[.ref x,.str n t,v],[]⟩) e s:=by
 have g:=PySem.F.store_Exception
 refine cK k.cls λM p q _=>?_
 have j:=r.type (M:=ak PR w)
 have O:hb (ak PR w) s.heap (E0 (.ref x)<|.type "object") I:=j.andThen<|E5 X<|by unfold pW;refine J p ?_;rewrite [Option.bind_some];refine J q ?_;rfl
 refine SY g.slot.plain g.entry<|@check_slot (ak PR w) _ _ s "object.__setattr__" "object" "__setattr__" (.ref x) [.str n t,v] [] _ g.kind g.split O (g.args (.ref x) (.str n t) v) ?_
 have hm:hb (ak PR w) s.heap (mroOf<|.ref a) M.mro:=(ta X p).andThen .now
 rw [osa_eq,refuse_eq]
 refine aF<|aF<|j.here<|aF<|hm.here ?_
 refine J q ?_;rewrite [S0,S0]
 refine bp<|aF<|j.here<|aF<|(tr X<|k.free n y).here<|aF<|bp ?_
 exact h
theorem N6 (X:c.In s.heap)(z:KS c a P m)(B:hp s.heap a x b T)
  (h:∀g t,hp g a x b (H (s.heap.objs.size,[(n,v)]))->(∀f o,f≠x->s.heap.get? f=H o->g.get? f=H o)->g.objs.size=s.heap.objs.size+1->M (.done<|.ret .none) {s with heap:=g,toks:=t}):
  av (ak PR w) A (E6 (.ref x) (.ref a) (.str n t) n v N) M d s:=by
 refine cK z.cls λcd O a2 hd=>?_
 have i:s.heap.get? x=H {cls:=.ref a,data:=.fields b}:=B
 refine aF<|bp<|aF<|aF<|mi i<|aF<|(ta X O).here ?_
 refine aW hd▸?_
 have l:x≠s.heap.objs.size:=cA<|Heap.lt_size i
 have p:=Heap.get?_push_of_some {cls:=.type "dict",data:=.dict #[]} i
 refine aF<|wpAny_alloc<|aF<|wpAny_update p ?_
 refine bp ?_
 have a0:=Heap.get?_update_self (λo:cT=>{cls:=o.cls,dict:=H s.heap.objs.size,data:=o.data,slots:=o.slots}) p rfl
 have j:Heap.SameBut x (s.heap.push {cls:=.type "dict",data:=.dict #[]})<|(s.heap.push {cls:=.type "dict",data:=.dict #[]}).update x λo=>{cls:=o.cls,dict:=H s.heap.objs.size,data:=o.data,slots:=o.slots}:=Heap.SameBut.update _ _ _
 have q:((s.heap.push {cls:=.type "dict",data:=.dict #[]}).update x λo=>{cls:=o.cls,dict:=H s.heap.objs.size,data:=o.data,slots:=o.slots}).get? s.heap.objs.size=H (ft [] 0):=(j.2 _<|fu l).trans<|Heap.get?_push_size _ rfl
 refine AD (f:=[]) (k:=0) q rfl (by trivial) ?_
 have k:=Heap.SameBut.update ((s.heap.push {cls:=.type "dict",data:=.dict #[]}).update x λo=>{cls:=o.cls,dict:=H s.heap.objs.size,data:=o.data,slots:=o.slots}) s.heap.objs.size<|hB n (dY w.params n) (.str n s.toks) v
 have r:=mh n (dY w.params n) (.str n s.toks) v [] 0
 have D':=Heap.get?_update_self (hB n (dY w.params n) (.str n s.toks) v) q<|by refine J r ?_;rfl
 refine h _ _ ⟨(k.2 x l).trans a0,_,_,D'.trans<|congrArg H r,fk.nil.put n _ _ v,by exact mq _⟩ (λf o a1 y=>?_) ?_
 .exact (k.2 f<|cA<|Heap.lt_size y).trans<|(j.2 f a1).trans<|Heap.get?_push_of_some _ y
 .simp only [k.1,j.1,Heap.size_push]
theorem NT (X:c.In s.heap)(M:KS c a P m)(k:hp s.heap a x b<|H (i,g))(O:i≠x)(l:g.length<=9)
  (h:∀j t,hp j a x b (H (i,jD n v g))->Heap.SameBut i s.heap j->a0 (.done<|.ret .none) {s with heap:=j,toks:=t}):
  av (ak PR w) A (E6 (.ref x) (.ref a) (.str n t) n v N) a0 d s:=by
 refine cK M.cls λcd a1 a6 hd=>?_
 refine aL k ?_;clear k;intro p zz;refine du zz ?_;clear zz;intro q a2 y f a7
 refine aF<|bp<|aF<|aF<|mi p<|aF<|(ta X a1).here ?_
 refine aW hd▸?_
 refine bp (a:=H i) ?_
 have a3:q.length=g.length:=f.length
 refine AD y (f.look n).2 (ai (ai (bh a3) l)<|by decide) ?_
 have z:=Heap.SameBut.update s.heap i<|hB n (dY w.params n) (.str n s.toks) v
 have B:=mh n (dY w.params n) (.str n s.toks) v q a2
 have D':=Heap.get?_update_self (hB n (dY w.params n) (.str n s.toks) v) y<|by refine J B ?_;rfl
 refine h _ _ ⟨(z.2 x<|fu O).trans p,_,_,D'.trans<|congrArg H B,f.put n _ _ v,?_⟩ z
 have a4:∀g,(jD n v g).length<=g.length+1:=λg=>by
  induction g with
  |nil=>exact aT _
  |cons a8 r a5=>
   refine J uE ?_
   split;(next=>exact dX _);(next=>exact hy a5)
 have:=a4 g
 exact ay (bK this l)<|by simp+arith only
theorem N4 (X:c.In s.heap)(g:KS c a P m)(i:hp s.heap a x b T)(k:n∈m)
  (h:∀f t,hp f a x b (H (s.heap.objs.size,[(n,v)]))->(∀j o,j≠x->s.heap.get? j=H o->f.get? j=H o)->f.objs.size=s.heap.objs.size+1->l () {s with heap:=f,toks:=t}):
  av (ak PR w) A (xE (.ref x) n v) l d s:=by
 have p:InstAt s.heap x {cls:=.ref a,data:=.fields b} a T:=⟨i,rfl,rfl,trivial⟩
 refine xF X p g.set ?_
 refine Cc (s:={s with toks:=s.toks+1}) (P:=P) X g i.exc k ?_
 exact N6 (s:={s with toks:=s.toks+1}) X g i h
theorem Lu (X:c.In s.heap)(i:KS c a P m)(j:hp s.heap a x b<|H (g,l))(p:g≠x)(q:l.length<=9)(r:n∈m)
  (h:∀k t,hp k a x b (H (g,jD n v l))->Heap.SameBut g s.heap k->y () {s with heap:=k,toks:=t}):
  av (ak PR w) A (xE (.ref x) n v) y d s:=by
 refine aL (id j) λz zz=>du zz λB M O f a1=>?_;clear zz
 have a0:InstAt s.heap x {cls:=.ref a,dict:=H g,data:=.fields b} a<|H<|ft B M:=⟨z,rfl,rfl,O⟩
 refine xF X a0 i.set ?_
 refine Cc (s:={s with toks:=s.toks+1}) (P:=P) X i j.exc r ?_
 exact NT (s:={s with toks:=s.toks+1}) X i j p q h
end
end
mutual
section
variable {w:aM}{A:bu}{a:aU}{b f P e:Z}{j:Array ah}{c:ah->az->Prop}{n i:String}{m:List ah}{h:Heap}{g:Array E1}{d:Drawn}{t:Nat}{s:E2}
theorem G1 (k:xV "Exception" n i m)(z:KR a b f n)(X:a.In h)(B:hp h b e #[.ref M,.none,.none,.none,.bool N,.none] T) 
  (O:∀t1 p t',hp p b e #[.ref t1,.none,.none,.none,.bool N,.none] T->(∀l o,l≠e->h.get? l=H o->p.get? l=H o)->p.objs.size=h.objs.size+1->a0 .none ⟨p,g,d,t',s⟩):
  av (ak PR w) A (dG (.builtin i) [.ref e,v]) a0 c ⟨h,g,d,t,s⟩:=by
 obtain ⟨nm,q,a5,bs,bm,a6,sn,a7,a8,a9,b0,k0,k1,k2,k3,k5,a1,a2,b1,b2⟩:=id z.obj
 have r:=X _ _ a1
 have y:h.get? e=H {cls:=.ref b,data:=.fields #[.ref M,.none,.none,.none,.bool N,.none]}:=B
 have a3:(ic b::bm).contains (.type "Exception")=I:=by refine J pY ?_;refine J a2 ?_;rw [E3]
 have b3:=k.noStar
 refine mn<|SY k.init.plain k.initEntry ?_
 simp only [SS,k.initKind,k.initSplit,k.initRow]
 repeat (first|with_reducible refine xW y ?_|with_reducible refine xW r ?_|(with_reducible refine E4 r ?_;refine J a3 ?_)|wp_step)
 refine O h.objs.size _ t ?_ (λl o a4 q=>((Heap.SameBut.update (h.push {cls:=.type "tuple",data:=.seq #[v]}) e<|gf λx=>x.setIfInBounds 0<|ic h.objs.size).2 l a4).trans<|Heap.get?_push_of_some _ q)<|by refine J (Heap.SameBut.update (h.push {cls:=.type "tuple",data:=.seq #[v]}) e<|gf λx=>x.setIfInBounds 0<|ic h.objs.size).1 ?_;rw [Heap.size_push]
 exact Heap.get?_update_self _ (Heap.get?_push_of_some _ y) rfl
theorem Np (X:a.In l.heap)(x:td (.type k)=aS (.type "type"))(y:Manifest.isStub k=N)
  (e:findCls a (.type k) (.type "type") B=H (.val v)) (M:handedIn v=I) (h:p (v,[]) {l with toks:=l.toks+1}):av (ak PR w) A (pO (.type k) B a3) p c l:=by
 have O:E7 (.type k)=aS T:=by unfold E7;dsimp only;refine J y ?_;rfl
 have q:hb (ak PR w) l.heap (td<|.type k)<|.type "type" :=xX x
 have r:cY a (.type "type") "__getattribute__" =H (H<|.builtin "type.__getattribute__"):=type_tga
 refine aF<|aF<|q.here<|(tr X r).here ?_
 dsimp only
 refine aF<|ej (Q:=λv=>p (v,[])) (E:=c) ?_ (λ_ _ z=>bp z) λ_ _ z=>z
 have a0:hb (ak PR w) l.heap (E7<|.type k) T:=xX O
 exact cls_open X a0 q r (looks_hook X (r:=T)<|by rfl) (by show subIn a _ _=_;rfl) e
  <|bp<|by show av _ _ (handedOut v) _ _ _;refine J (handedOut_of M) ?_;exact bp h
end
end
mutual
open Mine
inductive BF:Prop
 |mk:∀a,d_ 36=H a->a.params=[U "self",U "what",U "at"]->a.hk=[.int<|-1]->a.tab=T->a.scope.names=[(U "self",.local),(U "what",.local),(U "at",.local),(U "Exception",.globalImplicit)]->∀d b e f c g h i j k l m n p,a.body=[.Expr (.Call (.Attribute (.Name "Exception" d) "__init__" b) [.Name "self" e,.Name "what" f] [] c) g,.Assign [.Attribute (.Name "self" h) "what" i] (.Name "what" j) k,.Assign [.Attribute (.Name "self" l) "at" m] (.Name "at" n) p]->(b.endLine==c.line)=I->BF
theorem CI:BF:=
 ⟨_,rfl,rfl,rfl,rfl,rfl,_,_,_,_,_,_,_,_,_,_,_,_,_,_,rfl,rfl⟩
section
variable {w:aM}{a:Heap}{e:aA}{l:List aA}{g:G}{c:List Z}{s:az}{f:Y}{d:R}{A:bu}{i:aU}{h b:Heap}
theorem Go.base (j:ST w a g h e l f d c):Go w a e l ⟨λ_ _=>False,λ_=>T,λ_=>T⟩ {h with objs:=#[]} c g h c f d:=
 ⟨⟨⟨λ_ _ q=>q.elim,λ_ _ q=>ao q,λ_ _ q=>ao q⟩,jV _,λ_ _ _=>.inr<|.inl<|jV _,λ_ _ _=>.inr<|jV _,λm o k _ _ _=>absurd (Heap.lt_size k)<|S1 _⟩,.inl rfl,j⟩
theorem ST.turn (m:ST w a g h e l f d c)(p:h.get? k=H o)(r:o.cls≠.type "frame")(t:∀j o,j≠k->h.get? j=H o->b.get? j=H o)(x:h.objs.size<=b.objs.size)(y:bL a g e l c k):ST w a g b e l f d c:=
 ((Go.base m).turn p r (λj o n q=>t j o (by simpa using n) q) x (jV _) y).1.st
set_option maxHeartbeats 2000000 in
theorem QI (B:dF w a)(a1:i.In a)(b9:xV "Exception" "Exception.__new__" "Exception.__init__" d4)(KF:KR i 59 d5 "Exception.__new__")(a8:KS i 59 P [U "what",U "at"])
  (c0:d_ 36=H fd) 
  (p:ST w a g s.heap e l ⟨[(U "self",.ag<|.ref j),(U "what",.str m),(U "at",.int<|-1)],T,fd.scope.names,[],l.length,T⟩ d []) (a9:bL a g e l [] j)
  (ex:hp s.heap 59 j #[.ref t0,.none,.none,.none,.bool N,.none] T)
  (c1:∀b c2 x,iK b 59 j #[.ref x,.none,.none,.none,.bool N,.none]->(∀r o,r≠j->s.heap.get? r=H o->b.get? r=H o)->s.heap.objs.size<=b.objs.size->c3 .next {s with heap:=b,toks:=c2}):
  av (ak PR w) A (iM fd.body e) c3 b0 s:=by
 obtain ⟨d6,y,_,_,_,c4,p1,ap,p2,p3,c5,sp,q1,q2,q3,q4,q5,q6,q7,q8,c6,c7⟩:=CI
 have y:=c0▸y
 refine aG y ?_;clear y;rintro rfl
 replace p:=c4▸p
 refine J c6 ?_
 have c8:gT ⟨[(U "self",.ag<|.ref j),(U "what",.str m),(U "at",.int<|-1)],T,[(U "self",.local),(U "what",.local),(U "at",.local),(U "Exception",.globalImplicit)],[],l.length,T⟩ "Exception" =H (.ag<|.type "Exception"):=rfl
 have a2:gT ⟨[(U "self",.ag<|.ref j),(U "what",.str m),(U "at",.int<|-1)],T,[(U "self",.local),(U "what",.local),(U "at",.local),(U "Exception",.globalImplicit)],[],l.length,T⟩ "self" =H (.ag<|.ref j):=rfl
 have b1:gT ⟨[(U "self",.ag<|.ref j),(U "what",.str m),(U "at",.int<|-1)],T,[(U "self",.local),(U "what",.local),(U "at",.local),(U "Exception",.globalImplicit)],[],l.length,T⟩ "what" =H (.str m):=rfl
 have c9:gT ⟨[(U "self",.ag<|.ref j),(U "what",.str m),(U "at",.int<|-1)],T,[(U "self",.local),(U "what",.local),(U "at",.local),(U "Exception",.globalImplicit)],[],l.length,T⟩ "at" =H (.int<|-1):=rfl
 have X:=a1.keeps p.sr.base
 refine pZ<|Ey ?_ (tV p.fr) rfl
 refine A6 (by rfl) (by rfl) (by simp) c7 ?_
 refine hI B p (by decide) c8 λt k=>?_
 obtain rfl:=k.gq
 with_reducible refine Np (v:=.builtin "Exception.__init__") X rfl (by decide+kernel) (by kernel_rfl) rfl ?_
 have d0:∀h,gE w h<|.builtin "Exception.__init__" :=λh=>wk _
 refine xI (P:=λh=>gE w h<|.builtin "Exception.__init__") rfl (λ_ q=>q)<|En ?_
 show av _ _ (sX<|fK c5<|eV [.Name "self" p2,.Name "what" p3] e) _ _ _
 refine xv ?_
 refine hI (s:={s with toks:=s.toks+1}) B p (by decide) a2 λt k=>?_
 refine k.gq▸?_
 refine xv ?_
 refine hI (s:={s with toks:=s.toks+1}) B p (by decide) b1 λt k=>?_
 refine D4 ⟨d0 _,?_⟩
 obtain ⟨d1,z,M,tt,O⟩:=s
 refine G1 b9 KF X ex λx h1 b2 b3 b4 a3=>?_
 dsimp only at*
 have e1:d1.get? j=H {cls:=.ref 59,data:=.fields #[.ref t0,.none,.none,.none,.bool N,.none]}:=ex
 have a0:=p.turn e1 (by simp) b4 (ay (bh a3.symm)<|by simp+arith only) a9
 have X1:=a1.keeps a0.sr.base
 refine pZ<|EA (E:=b0) ?_ rfl rfl
 refine hI B a0 (by decide) b1 λt k=>?_
 refine xO ?_
 refine hI (s:=⟨h1,z,M,b2,O⟩) B a0 (by decide) a2 λt k=>?_
 refine k.gq▸?_
 have b5:h1.get? j=H {cls:=.ref 59,data:=.fields #[.ref x,.none,.none,.none,.bool N,.none]}:=b3
 have d2:j<h1.objs.size:=Heap.lt_size b5
 refine N4 (s:=⟨h1,z,M,b2,O⟩) (P:=P) X1 a8 b3 (by trivial) λh2 b6 b7 a4 a5=>?_
 dsimp only at b7 a4 a5 |-
 have a6:=a0.turn b5 (by simp) a4 (ay (bh a5.symm)<|by simp+arith only) a9
 have X2:=a1.keeps a6.sr.base
 refine pZ<|EA (E:=b0) ?_ rfl rfl
 refine hI B a6 (by decide) c9 λt k=>?_
 refine xO ?_
 refine hI (s:=⟨h2,z,M,b6,O⟩) B a6 (by decide) a2 λt k=>?_
 refine k.gq▸?_
 refine Lu (s:=⟨h2,z,M,b6,O⟩) (P:=P) X2 a8 b7 (dN d2) (by exact mq _) (by trivial) λh3 d3 b8 a7=>?_
 dsimp only at b8 a7 |-
 refine pT<|c1 h3 d3 x b8.exc (λr o n q=>?_) ?_
 .have lt:=Heap.lt_size q
  refine (a7.2 r<|cA<|bE lt ?_).trans<|a4 r o n<|b4 r o n q
  exact ay (bh a3.symm)<|by simp+arith only
 .have:=a7.1
  exact ay (bK (bh a3.symm)<|bK (bh a5.symm)<|bh this.symm)<|by simp+arith only
end
end
mutual
section
variable {w:aM}{a:Heap}{n:aA}{l:List aA}{g:G}{e:List Z}{s:az}{f:Y}{d:R}{i:Ev}{A:bu}{c:aU}{h b:Heap}
abbrev KE (c:aU):Prop:=
 KR c 59 36 "Exception.__new__" /\
 ∃P,KS c 59 P [U "what",U "at"]
set_option maxHeartbeats 1000000 in
theorem KJ (O:dV w a c)(a1:KE c)(b7:AC A l)(a0:ST w a g s.heap n l f d e)(b8:l.length<100)(b9:aq w g (.str m) r) 
  (k:∀y p b a2 t1,Go w a n l g s.heap e p b e f d->iK b 59 y #[.ref t1,.none,.none,.none,.bool N,.none]->s.heap.objs.size<=y->bU a p y->c0 (.ref y) {s with heap:=b,toks:=a2}):
  av (ak PR w) A (dG (.ref 59) [r]) c0 d1 s:=by
 refine aC a1.2 λP c1=>?_
 obtain ⟨fd,a6,c2,c3,c4,d2,_⟩:=CI
 refine du (O.D.fn 36 fd a6) λd3 d4 c5 hd c6=>?_
 have X:=O.KI.keeps a0.sr.base
 obtain ⟨j,a7,a8,tt,os⟩:=s
 dsimp only at*
 refine mn<|NW S2 a1.1 X (by show 1<=16777216;exact ab _ _) ?_
 have a9:∀B o,j.get? B=H o->(hM j 59 [r]).get? B=H o:=λB o y=>BP B o y
 have b0:j.objs.size<=(hM j 59 [r]).objs.size:=by refine J Bh ?_;exact bZ _ _
 have c7:AR w a g (hM j 59 [r]) l d:=a0.ar.grow a9 b0
 have c8:=zK (h:=j) (a:=59) (e:=[r])
 have ge:j.objs.size<=j.objs.size+1:=dX _
 have b1:bU a g<|j.objs.size+1:=a0.ar.nc ge
 have c9:hq fd.params fd.hk [.ag<|.ref<|j.objs.size+1,.str m]=H [(U "self",.ag<|.ref<|j.objs.size+1),(U "what",.str m),(U "at",.int<|-1)]:=by refine J c2 ?_;refine J c3 ?_;rfl
 refine tR (s:=⟨hM j 59 [r],a7,a8,tt,os⟩) c7 (b7.ug 59 [r]) b8 O.B.oG c5 hd c6 c9 (fQ (x:=.ag _) (by rfl)<|fQ b9 gW) λM p b a2 t C'=>?_
 replace t:=c4▸t
 refine aL (t.bb _ _ c8 (by simp) b1) λa3 b2=>?_
 have lt:j.objs.size+1<(hM j 59 [r]).objs.size:=by refine J Bh ?_;exact fw _
 have b3:bL a p M (M::l) []<|j.objs.size+1:=by
  refine ⟨b2,λz=>?_,λx z=>?_,by simp,λe' he z=>?_⟩
  .have:=t.loc;rw [<-z] at this;exact absurd lt<|de.mpr this
  .rcases t.cells x _ z with q|⟨o,q⟩
   .exact absurd lt<|de.mpr q
   .exact b1.F o q
  .rcases bF.mp he with rfl|he
   .refine aL (t.st.ff _<|.head _) λ_ zz=>jB zz λL o q1 q2 q3 _=>?_;clear zz
    rw [z] at q1;refine aG q1 ?_;clear q1;rintro rfl
    rw [a3] at q2;refine aG q2 ?_;clear q2;rintro rfl
    cases q3
   .exact a0.ff.fresh ge e' he z
 have b4:ST w a p b M (M::l) ⟨[(U "self",.ag<|.ref<|j.objs.size+1),(U "what",.str m),(U "at",.int<|-1)],T,fd.scope.names,[],(M::l).length,T⟩ d []:=t.st
 refine QI (s:=⟨b,a7,a8,a2,os⟩) O.B O.KI S2 a1.1 c1 a6 b4 b3 a3 λh3 d0 t1 b5 a4 a5=>?_
 dsimp only at b5 a4 a5
 have b6:=b4.turn a3 (by simp) a4 a5 b3
 have x3:bt a p b p h3<|PP M [j.objs.size+1]:=⟨G.Le.refl _,a5,λ_ _ q=>.inl q,λ_ _ q=>.inl q,λB o q _ _ np=>.inl<|a4 B o λz=>np<|.inr<|.inr<|by simp [z] q⟩
 have x4:bt a g j p h3 hU:=(t.leave _ p h3 x3 b6.sr.fz).drop (λd5 q=>.inr<|by refine J (bW.mp q) ?_;exact ge) a9 b0
 exact ⟨rfl,k _ p h3 d0 t1 (a0.back x4<|mc b6) b5 ge b2⟩
end
end
section
variable {w:aM}{c:Heap}{e:aA}{l:List aA}{g:G}{i:List Z}{s:az}{f:Y}{d:R}{b:Ev}{A:bu}{j:aU}{h a:Heap}
set_option tactic.hygienic true in
set_option maxHeartbeats 1000000 in
theorem QV (r:dV w c j)(M:KE j)(a7:bz w c b)(O:AC A l)(P:ST w c g s.heap e l f d i) (x) (np) (m) (a0 a1):
  WS w c e l A g i s (fV b.O b.eval b.execs f d<|.Raise (H<|.Call (.Name x np) [m] [] a0) T a1)<|.Raise (H<|.Call (.Name x np) [m] [] a0) T a1:=by
 refine W.cJ (t:=λk X=>wp (bQ f.depth) λ_=>b.eval f d m (λv _ _=>wp (qJ v) λ_=>X) X) λa2=>W.wh (n:=aP<|f.depth<100) λt=>?_
 simp only [eI,decide_eq_true_eq,beq_iff_eq] at a2
 refine aL a2 ?_;clear a2;rintro ⟨rfl,a8⟩ a6
 have t:=of_decide_eq_true t
 rw [P.dep] at t
 intro b9 X a3 c0 y _ k2
 have a9:gT f (U "PaintFault")=H (.ag<|.ref 59):=by
  unfold gT
  refine J a8 ?_
  rfl
 have b0:∀g' a a4 z a5,Go w c e l g s.heap i g' a a5 a4 z->gE w a (.ref 59):=λ_ a _ _ _ o=>uR M.1.keep<|r.KI.keeps o.st.sr.base
 refine aF<|tg<|GF M.1 O.hand<|aF ?_
 refine wpAny_Call_ofName<|hI r.B P (by decide) a9 λc1 b1=>?_
 refine b1.gq▸?_
 have q:av (ak PR w) A (sX<|fK a0<|eV [m] e) (λB n=>gE w n.heap (.ref 59)/\av (ak PR w) A (dG (.ref 59)<|[]++B) (λv b2=>av (ak PR w) A (do D5 a1;aS v) (λv n=>∃p B,v=.ref p/\j.In n.heap/\iK n.heap 59 p B/\B[1]?=H .none/\y (.ref p) n) y b2) y n) y s:=by
  refine xv ?_<|pk a6 _ _
  refine a7.eval m f d e l A g i s O P _ X a3 _ _ (λb3 a4 z p g' c2 a c3 a5 o a3=>?_) k2
  cases b3 with
  |str c4=>
   refine D4 ⟨b0 g' a a4 z a5 o,?_⟩
   refine KJ r M O o.st t a3 λe' b4 b5 b6 t1 o2 ex ge b7=>?_
   refine aF<|tg<|bp ⟨e',_,rfl,r.KI.keeps o2.st.sr.base,ex,rfl,?_⟩
   refine cK ex ?_;clear ex;intro b8 x1 x2 x3
   exact k2 p (.ref e') b4 b5 b6 z.next (o.trans o2).sE ⟨e',b8,_,rfl,x1,x2,x3,by simp,ai o.ext.size ge,b7,.inl rfl⟩
  |_=>exact p.elim
 rw [pk a6] at q |-
 exact xI (P:=λh=>gE w h<|.ref 59) rfl (λ_ q=>q)<|En q
end
mutual
section
variable {w:aM}{a:Heap}{e:aA}{l:List aA}{g:G}{i:List Z}{s:az}{j:Y}{f:R}{d:Ev}{A:bu}{b:aU}{h c:Heap}
def G.cut (g:G)(n:Nat):G:={g with μ:=λl=>if l<n then g.μ l else T,ν:=λl=>if l<n then g.ν l else T}
theorem G.lM (q:(g.cut n).ν k=H m):g.ν k=H m:=by
 have q:(if k<n then g.ν k else T)=H m:=q
 split at q
 .exact q
 .exact ao q
theorem bU.cut (p:bU a g k):bU a (g.cut n) k:=⟨λm q=>p.ν m<|G.lM q,p.F,p.tab,p.base⟩
theorem Go.cut (a6:ST w a a0 a3 e l a9 P a4)(x:Go w a e l a0 a3 a4 g h [] (dW l)<|dE n):Go w a e l a0 a3 a4 (g.cut P.next) h [] (dW l)<|dE P.next:=by
 have O:=x.st.sr
 have M:=x.st.fr
 have a5:∀t,a0.μ t≠T\/a0.ν t≠T->t<P.next:=λt q=>nM λle=>by
  refine dI (a6.sr.dA t le) λB X _=>?_
  rcases q with q|q
  .exact q B
  .exact q X
 refine ⟨⟨⟨x.ext.le.F,λt B q=>?_,λt B q=>?_⟩,x.ext.size,x.ext.Fn,λt B q=>x.ext.eF t B<|G.lM q,x.ext.keep⟩,x.oa,⟨O.base,O.fz,λt b0 q=>ao q,λt q=>?_,λt B q=>O.da t B<|G.lM q,λ_ _ _ _ ⟨_,q⟩=>ao q,λt j' B q q'=>O.inj t j' B (G.lM q)<|G.lM q',O.low,O.hF,λt B q=>O.fb t B<|G.lM q⟩,
  ⟨M.fn,M.glob,M.blt,λy k q=>ao q,?_,λy v q=>ao q,λy a1 a2=>?_,λy q=>ao q,M.eE,M.bb.cut,M.f_⟩,⟨x.st.tb.t1,x.st.tb.t2,x.st.tb.t3,x.st.tb.nf⟩,λa2 he=>?_,x.st.dep,x.st.top⟩
 .show (if t<P.next then g.μ t else T)=H B
  refine J (if_pos<|a5 t<|.inl<|by rw [q];exact λz=>ao z.symm) ?_
  exact x.ext.le.μ t B q
 .show (if t<P.next then g.ν t else T)=H B
  refine J (if_pos<|a5 t<|.inr<|by rw [q];exact λz=>ao z.symm) ?_
  exact x.ext.le.ν t B q
 .have nl:¬t<P.next:=de.mpr q
  exact ⟨if_neg nl,if_neg nl,rfl⟩
 .obtain ⟨m,a7,_,_⟩:=M.vals
  exact ⟨m,a7,λy v q=>ao q,.no⟩
 .refine dI (M.cells y a1 a2) λB X r=>?_
  exact ⟨B,λt q=>X t<|G.lM q,r⟩
 .refine aL (x.st.ff a2 he) λB zz=>fe zz λL o X a1 a8 e' p=>?_;clear zz
  exact ⟨B,L,o,X,a1,a8,e',p.cut⟩
theorem ST.Gf {n:Nat}{x:ae}(p:ST w a g h e l (dW l) (dE n) [])(r:e.kindOf x=H .globalImplicit):ST w a g h e l ⟨[],T,[(x,.globalImplicit)],[],l.length,T⟩ (dE n) []:=by
 refine ⟨p.sr,⟨p.fr.fn,p.fr.glob,p.fr.blt,λy k q=>?_,?_,λy v q=>ao q,p.fr.cells,λy q=>?_,p.fr.eE,p.fr.bb,p.fr.f_⟩,p.tb,p.ff,rfl,p.top⟩
 .rw [nh] at q
  split at q
  .rename_i t;subst t;refine aG q ?_;clear q;rintro rfl;exact .inl r
  .exact ao q
 .obtain ⟨m,z,_,_⟩:=p.fr.vals
  exact ⟨m,z,λy v q=>ao q,.no⟩
 .change aZ y [(x,.globalImplicit)]=_ at q
  rw [nh] at q
  split at q
  .exact nomatch q
  .exact ao q
theorem PZ {t:G}{q:Heap}{y:List Z}{n:Nat}{B:ah}{M:Unit->az->Prop}{a2:ah->az->Prop}(x:Go w a e l t q y g s.heap [] (dW l)<|dE n)(X:XC a q.objs.size T g s.heap B)
  (k:∀c,Go w a e l t q y g c [] (dW l) (dE n)->M () {s with heap:=c}):av (ak PR w) A (setFlight B T) M a2 s:=by
 obtain ⟨a8,a9,b0,rfl,O,e2,P,e4,e5,e6,r⟩:=X
 rcases r with r|⟨p,a3,a4,b1,t1,b2,t3,t4,t5,t6,t7,t8⟩
 .refine aF<|iO O P r ?_
  exact bp<|k s.heap x
 .refine aF<|iO O P t1 ?_
  refine tj t5 t6 (pR.mp t7).1 ?_
  have a0:Heap.SameBut p s.heap<|s.heap.update p<|gf (·.setIfInBounds 3 .none):=Heap.SameBut.update _ _ _
  have a5:mE [p] (l.filterMap (·.frame)) s.heap<|s.heap.update p<|gf (·.setIfInBounds 3 .none):=
   ⟨bh a0.1.symm,λa1 o a6 m=>.inl<|(a0.2 a1 λz=>m<|by simp [z]).trans a6⟩
  exact k _<|x.mM a5 λa1 a7=>by refine J (bW.mp a7) ?_;exact ⟨t4,t3,a3,a4,t5,t6⟩
theorem JX {x:Z}{y:String}{n:Z}{z:Array ah}{p:Bool->az->Prop}{B:ah->az->Prop}(X:b.In s.heap)(m:KR b 59 x y)(M:iK s.heap 59 n z)(h:p I s):av (ak PR w) A (excMatches (.ref n)<|.ref 59) p B s:=by
 obtain ⟨O,q,P,bs,bm,a0,sn,a1,a2,a3,a8,k0,k1,k2,k3,k5,r,_⟩:=id m.obj
 have LT:=M.type (M:=ak PR w)
 have t:=SP (M:=ak PR w) X m.typ
 have a4:=looks_subIn (M:=ak PR w) X m.base
 have a5:nL b 59=H {name:=O,bases:=bs,mro:=.ref 59::bm,ns:=P,qualname:=q,hasDict:=a0,slotNames:=sn,subclasses:=a1,abstract:=a2,collection:=a3,hasDel:=N}:=by unfold nL;exact J r rfl
 have a6:hb (ak PR w) s.heap (isSubtype (.ref 59)<|.ref 59) I:=E5 X<|by unfold pW;refine J a5 ?_;rfl
 have a7:hb (ak PR w) s.heap (isType<|.ref 59) I:=λA' Q' E' s' k q'=>by
  exact aF<|mi (k _ _<|X _ _ r)<|bp q'
 have a9:hb (ak PR w) s.heap (E0 (.ref 59)<|.type "tuple") N:=t.andThen<|xX tc_notTuple
 refine aF<|aF<|t.here<|(xX tc_notTuple).here ?_
 simp only [tm,if_false,xU,xQ,xP]
 refine aF<|aF<|aF<|aF<|a7.here ?_
 refine a4.here ?_
 refine bp ?_
 refine bp ?_
 refine aF<|LT.here<|aF<|aF<|aF<|a6.here ?_
 exact bp<|bp<|bp h
end
end
section
variable {w:aM}{d:Heap}{e:aA}{l:List aA}{g:G}{i:List Z}{s:az}{f:Y}{a:R}{b:Ev}{A:bu}{j:aU}{h c:Heap}
theorem PT (a7:dV w d j)(b5:KE j)(b6:bz w d b)(a8:AC A l)(O:ST w d g s.heap e l f a i)(b7:l=e::r) (P) (a9) (x) (np) (a0) (k) (a4 b0 b1 b2):
  WS w d e l A g i s (fV b.O b.eval b.execs f a<|.Try [.Expr P a9] [.ExceptHandler (H<|.Name x np) T [.Return (H<|.Constant a0 k a4) b0] b1] [] [] b2)<|.Try [.Expr P a9] [.ExceptHandler (H<|.Name x np) T [.Return (H<|.Constant a0 k a4) b0] b1] [] [] b2:=by
 refine W.cJ (t:=λ(a5:Fl->Y->R->Prop) X=>b.eval f a P (λ_ f a=>a5 .next f a)<|bw (qT a0) λv=>a5 (.ret v) ⟨[],T,[],[],f.depth,T⟩ a.wipe) λa6=>?_
 simp only [eI,decide_eq_true_eq,beq_iff_eq] at a6
 refine aL a6 ?_;clear a6;rintro ⟨rfl,b8⟩ b9
 intro a5 X p d2 d3 k1 _
 refine wpAny_Try_except<|pZ<|Ey ?_ (tV O.fr)<|nZ b9 _ _ _
 refine b6.eval P f a e l A g i s a8 O _ _ p _ _ (λB a1 a2 e' g' a3 c y c0 o _=>pT<|pT<|k1 .next a1 a2 e' g' .next c y c0 o rfl) λM ev g' c y n o c1=>?_
 .refine zo M λv m M=>?_
  refine rR (s:={s with heap:=c,toks:=y}) b7 a8 o c1 λh2 o2 c2=>?_
  refine yM (s:={s with heap:=h2,toks:=y}) (r:=r) o2 c2 λh3 o3 b3=>?_
  obtain ⟨c3,c4,d4,rfl,e1,e2,e3,e4,e5,e6,e7⟩:=id b3
  have X:=a7.KI.keeps o3.st.sr.base
  have M:e.kindOf (U "PaintFault")=H .globalImplicit:=by
   rcases O.fr.kinds _ _ b8 with q|⟨q,_⟩
   .exact q
   .exact nomatch q
  have c5:=o3.st.Gf M
  have c6:gT ⟨[],T,[(U "PaintFault",.globalImplicit)],[],l.length,T⟩ (U "PaintFault")=H (.ag<|.ref 59):=rfl
  refine wpAny_handleBy_cons (codeAny_handlers_test ?_)<|by simp [byPass]
  refine hI (s:={s with heap:=h3,toks:=y}) a7.B c5 (by decide) c6 λd5 c7=>?_
  refine c7.gq▸?_
  refine JX (s:={s with heap:=h3,toks:=y}) X b5.1 ⟨c4,e1,e2,e3⟩ ?_
  simp only [if_true]
  refine codeAny_handlers_suite ?_
  refine PZ (s:={s with heap:=h3,toks:=y}) o3 b3 λh4 o4=>?_
  refine pZ<|So ?_
  refine Av (A:=A.mark<|H<|.ref c3) (s:={s with heap:=h4,toks:=y}) o4.st m k a4 (λB a1 a2=>B=v/\a1=dW l/\a2=dE n) False ⟨rfl,rfl,rfl⟩ _ _ (λB a1 a2 e' b4 a3 h5 c8 c9 o5 p=>?_) λM=>M.elim
  refine dI e' ?_;clear e';rintro rfl rfl rfl
  have o6:=o4.trans o5
  have d0:c9=[]:=by
   obtain ⟨_,_,_,z⟩:=o5.st.fr.vals
   exact z.2 rfl
  subst d0
  have o7:=o6.cut O
  have hd:(⟨[],T,[],[],f.depth,T⟩:Y)=dW l:=by refine J O.dep ?_;rfl
  refine k1 (.ret B) (dW l) (dE a.next) (hd▸M) (b4.cut a.next) (.ret a3) h5 c8 [] o7 ⟨a3,rfl,?_⟩
  .have p:aq w b4 B a3:=p
   cases a0 with
   |none=>refine aG m ?_;clear m;rintro rfl;refine J p.none_ ?_;exact jI
   |bool B=>refine aG m ?_;clear m;rintro rfl;refine J p.lC ?_;exact oP _
   |int d1=>refine aG m ?_;clear m;rintro rfl;refine aC p.cO ?_;rintro t rfl;exact eP _ _
   |str d1=>refine aG m ?_;clear m;rintro rfl;refine aC p.fj ?_;rintro t rfl;exact km _ _
   |bytes B=>refine aG m ?_;clear m;rintro rfl;refine aC p.pw ?_;rintro t rfl;exact vC _ _
   |_=>exact ao m
end
mutual
section
variable {w:aM}{b:Heap}{e:aA}{l:List aA}{g:G}{c:List Z}{s:az}{f:Y}{a:R}{d:Ev}{A:bu}{i:aU}{h j:Heap}
theorem Gu (z:dV w b i)(a6:KE i)(m:bz w b d)(n:AC A l)(y:ST w b g s.heap e l f a c)(P:l=e::r) (st):WS w b e l A g c s (fV d.O d.eval d.execs f a st) st:=by
 cases st with
 |Expr=>exact K3 m n y _ _
 |Return=>exact M9 m n y _ _
 |Assign B a0 a1=>cases B with
  |nil=>exact W.stuck
  |cons t B=>cases B with
   |cons=>exact W.stuck
   |nil=>
    by_cases a2:∃x p,t=.Name x p
    .refine dx a2 ?_;clear a2;rintro x p rfl
     by_cases a7:iT a0=I
     .exact Pf m n y x p a0 a1 a7
     .cases a0 with
      |ListComp b2 b3 b4 b5=>exact FC z.B m n y (A3 z m n y _) x p a1
      |SetComp a8 O M a3=>exact W.stuck
      |DictComp a8 O M a3 a4=>exact W.stuck
      |_=>exact absurd rfl a7
    .by_cases a5:∃B k p,t=.Tuple B k p
     .refine dx a5 ?_;clear a5;intro B k zz;refine aC zz ?_;clear zz;rintro p rfl
      exact LK m z.KI z.KF n y _ _ _ _ _
     .exact PX m z.KI z.KF n y t a0 a1 (λx p q=>a2 ⟨x,p,q⟩) λB k p q=>a5 ⟨B,k,p,q⟩
 |If=>exact P8 m n y ⟨r,P⟩ _ _ _ _
 |While t O M _=>cases M with
  |nil=>exact Ir m n y P _ _ _
  |cons=>exact W.stuck
 |For a8 O M a3 _=>cases a3 with
  |nil=>exact Qx z.B m n y P _ _ _ _
  |cons=>exact W.stuck
 |Raise a4 M p=>
  cases h:ro a4 M with
  |none=>
   refine W.pre (λk X q=>?_) W.stuck
   have q:C8 d.eval f a (ro a4 M) X:=q
   rw [h] at q;exact q
  |some r=>refine hg (LX h) ?_;rintro p q rfl rfl;exact QV z a6 m n y _ _ _ _ _
 |Try O a9 b0 b1 p=>
  cases h:qV O a9 b0 b1 with
  |none=>
   refine W.pre (λk X q=>?_) W.stuck
   have q:CU d.eval f a (qV O a9 b0 b1) k X:=q
   rw [h] at q;exact q
  |some r=>refine dx (LJ h) ?_;intro p1 p2 zz;refine dx zz ?_;clear zz;intro k p3 zz;refine jB zz ?_;clear zz;rintro p4 p5 rfl rfl rfl rfl;exact PT z a6 m n y P _ _ _ _ _ _ _ _ _ _
 |_=>exact W.stuck
set_option backward.match.sparseCases true in
theorem I4 (a0:dV w b i)(a1:KE i)(a2:bz w b d) (x):∀f a e l A g c s,AC A l->ST w b g s.heap e l f a c->(∃r,l=e::r)->
  W w b e l g c s (jd w) (hh d.O d.eval d.execs f a x) λm n=>av (ak PR w) A (iM x e) m n s:=by
 induction x with
 |nil=>
  intro f a e l A g c s y t z
  exact W.ret t λm n k=>pT<|k _ _ _ s.toks _ (Go.refl t) rfl
 |cons O P a3=>
  rintro f a e l A g c s y t ⟨r,z⟩
  refine W.imp (P:=λm n=>av (ak PR w) A (exec O e) (λp q=>match p with|.next=>av (ak PR w) A (iM P e) m n q|p=>m p q) n s) (λm n h=>pZ h) ?_
  refine W.bind (K:=λp q m n=>match p with|.next=>av (ak PR w) A (iM P e) m n q|p=>m p q) (Gu a0 a1 a2 y t z O) λa4 a5 a6 a7 a8 a9 X b0 B M=>?_
  cases a4 with
  |next=>
   obtain rfl:a8=.next:=M
   exact a3 a5 a6 e l A a7 b0 {s with heap:=a9,toks:=X} y B.st ⟨r,z⟩
  |ret v=>
   refine aK M ?_;clear M;rintro u rfl b1
   exact W.ret B.st λm n k=>k _ _ _ X _ (Go.refl B.st) ⟨_,rfl,b1⟩
theorem iL (k:dV w b i)(p:KE i){m:Or}(L:Le m<|OM w b):∀n,bz w b ⟨ei m n,dT m n,m⟩
 |0=>⟨λ_ _ _ _ _ _ _ _ _ _ _=>W.stuck,λ_ _ _ _ _ _ _ _ _ _ _ _=>W.stuck,L⟩
 |n+1=>
  ⟨λq f a e l A g c s r t=>A3 k (iL k p L n) r t q,I4 k p<|iL k p L n,L⟩
theorem jG.mono (h:jG w b f a n k X)(q:∀m f a,k m f a->p m f a):jG w b f a n p X:=
 λe l A g c s r t x y z B M=>h e l A g c s r t x y z (λ_ _ _ O=>B _ _ _<|q _ _ _ O) M
theorem jM.mono (h:jM w b f a m k X)(q:∀n f a,k n f a->p n f a):jM w b f a m p X:=
 λe l A g c s r t x y z B=>h e l A g c s r t x y (λ_ _ _ m=>z _ _ _<|q _ _ _ m) B
theorem Ap {n:Y->R->List bM->(Fl->Y->R->Prop)->Prop->Prop}(p:∀f a m k X,n f a m k X->jG w b f a m k X):
  ∀q f a,iy n t m q f a k X->iy (jG w b) t m q f a k X
 |[],_,_,h=>h
 |_::r,_,_,h=>nX h λ_ h=>(p _ _ _ _ _ h).mono λx f a h=>by
  cases x with
  |next=>exact Ap p r f a h
  |ret v=>exact h
theorem OH {p:Y->R->aD->(E->Y->R->Prop)->Prop->Prop}(q:∀f a m k X,p f a m k X->jM w b f a m k X) (n):∀a k,iA p m t n f a k->iA (jM w b) m t n f a k:=by
 induction n with
 |nil=>
  intro _ _ h
  exact h
 |cons _ r x=>
  intro _ _ h
  exact nX h λ_ h=>(q _ _ _ _ _ h).mono λ_ _ a h=>x a _ h
theorem Rr (k:dV w b i)(m:KE i):dd<|OM w b:=
 ⟨λL n h=>by refine zo h λr p h=>?_;exact Ho (iL k m L 40) k.D k.B.oG n p h,
 λL n h=>by refine zo h λz q h=>?_;refine zo h λr p h=>?_;exact OP (iL k m L 40) k.D k.KI k.M k.B.oG n q p h,
 λL n q h=>by refine zo h λr p h=>?_;exact Nu (iL k m L 40) k.D k.KI k.M k.B.oG n q p h,
 λL n h=>by refine zo h λB t h=>?_;refine zo h λM x h=>?_;exact J3 (iL k m L 40) k.B.oG n t x h,
 λh=>JS k.KI k.KN h,λh=>h,λL y h=>QY (iL k m L _) y h,λL h=>Ap (iL k m L _).v_ _ _ _ h,λL h=>OH (iL k m L _).vI _ _ _ h,λh=>h,
 λL h=>nX h λ_ h=>(iL k m L _).v_ _ _ _ _ _ h,λh=>h,λL h=>nX h λ_ h=>(iL k m L _).vI _ _ _ _ _ h⟩
end
end
mutual
open Mine
def sL:List Z:=[155,204,226,247,275,391,443,480,604,746,927]
def B1 (K:aU):Bool:=sL.all λc=>
 cY K (.ref c) "__getattribute__" ==H (H<|.builtin "object.__getattribute__") && cY K (.ref c) "__getattr__" ==H T && cY K (.ref c) "__setattr__" ==H (H<|.builtin "object.__setattr__") &&
 nF K c && xB K c && ((DO c).all λa=>cY K (.ref c) a==H T) &&
 (pE c).all λp=>cY K (.ref c) p.1==H (H<|.ref p.2) && iP K (.ref p.2)==H (.type "function") && jm K (.ref p.2)
theorem CF (h:el c=I):c∈sL:=by
 have:sL.contains c=I:=h
 simpa using this
theorem Q_ (h:ja c m=H f):(m,f)∈pE c:=by
 unfold ja at h
 generalize pE c=l at h |-
 induction l with
 |nil=>exact ao h
 |cons p r a=>
  obtain ⟨y,g⟩:=p
  have h:(if y=m then H g else ja.go m r)=H f:=h
  split at h
  .rename_i e;refine aG h ?_;clear h;rintro rfl;refine J e ?_;exact .head _
  .exact .tail _<|a h
theorem OW (h:p∈pE c):el c=I:=by
 refine aK (ym h) λa h _=>?_
 exact eU.mp (show (Cx.all λp=>el p.1)=I by decide+kernel) _ h
theorem KB.of {K:aU}(h:B1 K=I):KB K:=by
 have z:=λc b=>eU.mp h c<|CF b
 have y:=λc b=>bl<|bl<|z c b
 refine ⟨λc b=>beq_iff_eq.mp<|bl<|bl<|bl<|bl<|y c b,λc b=>beq_iff_eq.mp<|br<|bl<|bl<|bl<|y c b,λc b=>beq_iff_eq.mp<|br<|bl<|bl<|y c b,λc b=>br<|bl<|y c b,λc b=>br<|y c b,λc a d=>?_,λc m f i=>?_⟩
 .exact beq_iff_eq.mp<|eU.mp (br<|bl<|z c<|nr d) a<|xC.mp d
 .have e:=Q_ i
  have g:=OW e
  have q:=eU.mp (br<|z c g) _ e
  exact ⟨g,beq_iff_eq.mp<|bl<|bl q,beq_iff_eq.mp<|br<|bl q,br q⟩
theorem mH {a:Type}:∀{x:Option a},x.isNone=I->x=T
 |T,_=>rfl
theorem bn:∀{b},(!b)=I->b=N
 |N,_=>rfl
theorem BH (h:gB c=H i):(c,i)∈rV:=sN h
def Dz (K:aU):Bool:=(lz.map (·.1)).all λa=>jm K<|.ref a
def B9 (K:aU):Bool:=rV.all λp=>jm K<|.ref p.1
theorem KC.of {K:aU}(h:Dz K=I)(b:B9 K=I):KC K:=by
 intro a c
 rcases pP ..▸c with q|q
 .refine aC (pV.mp q) λd e=>?_
  exact eU.mp h a<|mm (f:=(·.1))<|sN e
 .refine aC (pV.mp q) λi e=>?_
  exact eU.mp b _<|BH e
def Cw (K:aU):Bool:=rV.all λp=>(d_ p.1).isNone && EP K p.1 && cY K (.ref p.1) "__init__" ==H (H<|.ref p.2) && iP K (.ref p.2)==H (.type "function")
theorem KM.of {K:aU}(h:Cw K=I):KM K:=
 λc i e=>have q:=eU.mp h _<|BH e;⟨mH<|bl<|bl<|bl q,br<|bl<|bl q,beq_iff_eq.mp<|br<|bl q,beq_iff_eq.mp<|br q⟩
def yu (K:aU):Bool:=(sL.all λc=>ES K c "__class__" && nF K c && cY K (.ref c) "__class__" ==H (H<|.builtin "object.__class__") && pW K c (.type "object")==H I) &&
 pX K (.builtin "object.__class__") "__get__" ==H (H<|.builtin "getset_descriptor.__get__") && ET K (.builtin "object.__class__")==H I
def Dj (K:aU):Bool:=oH.all λa=>sg.all λt=>a==.type "bool" && t==.type "int" ||kitOne K a t==H (a==t)
theorem gm.of {K:aU}(h:yu K=I)(b:Dj K=I):gm K:=
 ⟨λc a=>have q:=eU.mp (bl<|bl h) c<|CF a;⟨bl<|bl<|bl q,br<|bl<|bl q,beq_iff_eq.mp<|br<|bl q,beq_iff_eq.mp<|br q⟩,⟨beq_iff_eq.mp<|br<|bl h,beq_iff_eq.mp<|br h⟩,λd f t a e=>
  have q:=eU.mp (eU.mp b d f) t a
  beq_iff_eq.mp<|(S3.mp q).resolve_left λz=>DR<|z.symm.trans e⟩
def Q3 (K:aU):Bool:=iP K (.ref 59)==H (.type "type") && jm K (.ref 59) && subIn K (.ref 59) (.type "BaseException")==H I &&
 cY K (.ref 59) "__init__" ==H (H<|.ref 36) && iP K (.ref 36)==H (.type "function") && pX K (.ref 59) "__call__" ==H (H<|.builtin "type.__call__") &&
 instIn K (.ref 59) (.type "type")==H I && cY K (.ref 59) "__setattr__" ==H (H<|.builtin "object.__setattr__") &&
 cY K (.ref 59) (U "what")==H T && cY K (.ref 59) (U "at")==H T
def ck {b:Type}(o:Option b)(f:b->Bool):Bool:=match o with
 |H a=>f a
 |T=>N
theorem Ak {o:Option b}{f:b->Bool}(h:ck o f=I):∃a,o=H a/\f a=I:=by
 cases o with
 |none=>exact ff h
 |some a=>exact ⟨a,rfl,h⟩
theorem zk {o:Option c}{f:c->Bool}{b:Prop}(h:ck o f=I)(k:∀a,o=H a->f a=I->b):b:=aK (Ak h) k
def B0:ah->Option Int
 |.int j _=>H j
 |_=>T
theorem Qe (h:B0 v=H j):∃t,v=.int j t:=by
 cases v<;>first|exact ⟨_,congrArg (λy=>Value.int y _)<|bf h⟩|exact ao h
def px:ah->Option ae
 |.str j _=>H j
 |_=>T
theorem rP (h:px v=H j):∃t,v=.str j t:=by
 cases v<;>first|exact ⟨_,congrArg (λy=>R5 y _)<|bf h⟩|exact ao h
def tZ:Data->Option (List ah)
 |.seq a _=>H a.toList
 |_=>T
theorem Dv (h:tZ d=H a):∃n,d=.seq a.toArray n:=by
 cases d<;>first|exact ⟨_,congrArg (λy=>Data.seq (S4 y) _)<|bf h⟩|exact ao h
def Ae:Data->Option (Array ah)
 |.fields a=>H a
 |_=>T
theorem NG (h:Ae d=H a):d=.fields a:=by
 cases d<;>first|exact congrArg Data.fields<|bf h|exact ao h
def qo:Data->Option (List jU)
 |.dict a _=>H a.toList
 |_=>T
theorem JU (h:qo d=H a):∃n,d=.dict a.toArray n:=by
 cases d<;>first|exact ⟨_,congrArg (λy=>Data.dict (S4 y) _)<|bf h⟩|exact ao h
def B8:Data->Option pU
 |.func a=>H a
 |_=>T
theorem Ls (h:B8 d=H a):d=.func a:=by
 cases d<;>first|exact congrArg Data.func<|bf h|exact ao h
end
mutual
noncomputable def nD (K:aU):E->ah->Bool
 |.none,v=>v==.none
 |.bool b,v=>v==.bool b
 |.int i,v=>ck (B0 v) λj=>i==j
 |.str s,v=>ck (px v) λt=>s==t
 |.tup d,v=>ck (oy v) λa=>ck (K.lookup a) λo=>o.cls==.type "tuple" && o.dict.isNone && o.slots.isEmpty && ck (tZ o.data) λc=>ih c.length dr && su K d c
 |.ag u,v=>v==u
 |_,_=>N
noncomputable def su (K:aU):List E->List ah->Bool
 |[],c=>c.isEmpty
 |x::d,c=>ck c.head? λv=>nD K x v && su K d c.tail
end
mutual
theorem tH {w:aM}{f:Heap}{K:aU}(X:K.In f):∀(x:E)(v:ah),nD K x v=I->aq w (g0 f) x v
 |.none,v,h=>by exact beq_iff_eq.mp h
 |.bool b,v,h=>by exact beq_iff_eq.mp h
 |.int i,v,h=>by
  refine zk h λj e h=>?_
  refine aC (Qe e) ?_;rintro t rfl
  exact ⟨t,by exact J (beq_iff_eq.mp h) rfl⟩
 |.str s,v,h=>by
  refine zk h λj e h=>?_
  refine aC (rP e) ?_;rintro t rfl
  exact ⟨t,by exact J (beq_iff_eq.mp h) rfl⟩
 |.tup d,v,h=>by
  refine zk h λa e h=>?_
  refine qm e▸?_
  refine zk h λo l h=>?_
  refine zk (br h) λc g k=>?_
  refine aC (Dv g) λn g=>?_
  obtain ⟨m,z,p,q⟩:=o
  obtain rfl:m=_:=beq_iff_eq.mp<|bl<|bl<|bl h
  obtain rfl:=mH<|br<|bl<|bl h
  obtain rfl:p=_:=g
  have y:q=#[]:=by simpa using br<|bl h
  exact ⟨a,_,c,rfl,X _ _ l,⟨fL<|bl k,n,by exact J y rfl⟩,vz X d c<|br k⟩
 |.ag u,v,h=>by exact beq_iff_eq.mp h
 |.dk _,v,h=>ff h
 |.lst _,v,h=>ff h
 |.inst _ _,v,h=>ff h
 |.aa _,v,h=>ff h
 |.bR _ _,v,h=>ff h
 |.loc _,v,h=>ff h
theorem vz {w:aM}{f:Heap}{K:aU}(X:K.In f):∀(d:List E)(c:List ah),su K d c=I->aQ w (g0 f) d c
 |[],c,h=>by exact lg.mp h
 |x::d,c,h=>by
  refine zk h λv e h=>?_
  cases c with
  |nil=>exact ao e
  |cons u r=>
   obtain rfl:=bf e
   exact ⟨u,r,rfl,tH X x u<|bl h,vz X d r<|br h⟩
end
mutual
open Mine
def lI (K:aU)(x:ae):Option ah:=(K.lookup 3).bind λo=>(qo o.data).bind λa=>(a.find? λe=>e.key.isStr x).map (·.val)
def BB (K:aU)(a:Z):Option<|List jU:=(K.lookup a).bind λo=>match o.cls==.type "dict" && o.dict.isNone && o.slots.isEmpty with
 |I=>qo o.data
 |N=>T
theorem yn {K:aU}(X:K.In h)(g:h.Ns ha c)(d:(K.lookup 3).isSome=I) (x):lI K x=c x:=by
 refine mL g ?_;clear g;intro o e j a f _ i
 refine aC (pV.mp d) λk b=>?_
 have a:h.get? 3=H o:=a
 replace a:=X _ _ b▸a
 refine HA a ?_;clear a;rintro rfl
 unfold lI
 refine J b ?_
 show (qo o.data).bind _=_
 refine aW f▸i x▸?_
 show ((e.toList).find? _).map _=_
 unfold nsFind findBy
 exact Array.find?_toList▸rfl
theorem HL {K:aU}(h:BB K a=H c):∃o n,K.lookup a=H o/\o.ExactDict/\o.data=.dict c.toArray n:=by
 refine zb (show (K.lookup a).bind _=_ from h) λo d h=>?_
 revert h
 cases b:o.cls==.type "dict" && o.dict.isNone && o.slots.isEmpty with
 |false=>exact λh=>ao h
 |true=>
  intro h
  refine aC (JU h) λn e=>?_
  exact ⟨o,n,d,⟨beq_iff_eq.mp<|bl<|bl b,mH<|br<|bl b,by simpa using br b⟩,e⟩
def vn:List<|ae×ae:=[(U "f",U "nonzero"),(U "F",U "nonzero"),(U "B",U "nonzero"),(U "b",U "nonzero"),(U "f*",U "evenodd"),(U "B*",U "evenodd"),(U "b*",U "evenodd")]
def Ag (e:jU):Int×Option ae×Option ae:=(e.hash,px e.key,px e.val)
theorem HM:aI (U "FILLS") globals=H (.aa<|vn.map λp=>(p.1,.str p.2)):=by kernel_rfl
def Cb (K:aU)(x:ae)(v:E):Option ah->Bool
 |H a=>nD K v a
 |T=>x !=U "__name__" && ck (E8 x) (nD K v)
def Mm (K:aU):Bool:=globals.all λp=>p.1==U "FILLS" ||Cb K p.1 p.2 (lI K p.1)
theorem Qk {K:aU}:∀{o},Cb K x v o=I->(∃a,o=H a/\nD K v a=I)\/o=T/\x≠U "__name__" /\∃a,E8 x=H a/\nD K v a=I
 |H a,h=>.inl ⟨a,rfl,h⟩
 |T,h=>.inr ⟨rfl,bne_iff_ne.mp<|bl h,Ak<|br h⟩
def JW (K:aU):Bool:=(fG.all λP=>(K.lookup P).isNone) && (K.lookup 3).isSome && (K.lookup 719).isSome
section
variable {w:aM}{h:Heap}{m b:ae->Option ah}
theorem yV (w) (g):∀a (c:List<|ae×ae),a.map Ag=c.map (λp=>(dY w.params p.1,H p.1,H p.2))->
  (∀e∈a,∃k,(gH PR w).is k e.key=I/\e.hash=(gH PR w).hash k)/\∃d,Pairs (gH PR w) a d/\bj w (g0 g) (c.map λp=>(p.1,E.str p.2)) d/\d.map (·.1)=c.map (·.1)
 |[],[],_=>⟨(λ_ h=>nomatch h),[],.nil,rfl,rfl⟩
 |[],_::_,h=>nomatch h
 |_::_,[],h=>nomatch h
 |⟨hash,x,y⟩::a,(k,s)::c,h=>by
  refine aL (yV w g a c (sR h).2) λl zz=>cK zz λd n q r=>?_;clear zz
  have f:=(sR h).1
  refine aC (rP<|congrArg (·.2.1) f) ?_;rintro t rfl
  refine aC (rP<|congrArg (·.2.2) f) ?_;rintro i rfl
  have j:(gH PR w).is k (.str k t)=I:=kX k t
  exact ⟨List.forall_mem_cons.mpr ⟨⟨k,j,congrArg (·.1) f⟩,l⟩,(k,.str s i)::d,.cons j rfl n,⟨_,_,rfl,⟨i,rfl⟩,q⟩,congrArg _ r⟩
end
end
mutual
open Mine
def xg (K:aU)(a:Z):Option pU:=(K.lookup a).bind λo=>B8 o.data
def QM (K:aU)(a:ah)(q:ae):Bool:=ck (oy a) λc=>ck (K.lookup c) λo=>ck (Ae o.data) λb=>ck (b[1]?:Option ah) λx=>ck (px x) λs=>s==q
def Q7 (K:aU)(a:List E)(v:ah):Bool:=v==.none && a.isEmpty||ck (oy v) λb=>ck (K.lookup b) λo=>ck (tZ o.data) λc=>su K a c
def nW:List ae->Bool
 |[]=>I
 |x::r=>!r.contains x && nW r
theorem Ju:nW (x::r)=(!r.contains x && nW r):=rfl
theorem JN:nW l=I->l.Nodup:=by
 induction l with
 |nil=>
  intro _
  exact .nil
 |cons x r b=>
  intro h
  rw [Ju,eI] at h
  refine gd.mpr ⟨λc=>?_,b h.2⟩
  have a:=h.1
  rw [xC.mpr c] at a
  exact ff a
def DP:Option fq->Bool
 |H .local=>I
 |H .cell=>I
 |_=>N
def Aw (K:aU)(a:pU):Option Z->Bool
 |T=>I
 |H P=>ck (oy a.code) λc=>codeHdIn K c P && ck (lU P) λp=>p.2.2==a.qualname++ ".<locals>." ++ "<lambda>"
def yh (k:ScopeKind):Bool:=match k with
 |.function=>I
 |_=>N
def zX (K:aU)(b:jJ)(a:pU):Bool:=
 a.params.posonlyargs.isEmpty && a.params.kwonlyargs.isEmpty && a.params.vararg.isNone && a.params.kwarg.isNone && a.params.args.map (·.arg)==b.params &&
 (cC a.globals ha && cC a.builtins jj && a.closure.isEmpty && !a.scope.isCoroutine && !a.scope.isGenerator && yh a.scope.kind) &&
 (QM K a.code a.qualname && Q7 K b.hk a.defaults && nW b.params && (b.params.all λx=>DP<|aZ x b.scope.names) && ih b.hk.length b.params.length && Aw K a b.tab)
def Kf (K:aU):Bool:=lz.all λp=>ck (xg K p.1) λa=>zX K p.2 a
theorem FQ (h:yh k=I):k=.function:=by
 cases k<;>first|rfl|exact ff h
theorem FK (h:DP k=I):k=H .local\/k=H .cell:=by
 cases k with
 |none=>exact ff h
 |some k=>cases k<;>first|exact .inl rfl|exact .inr rfl|exact ff h
set_option tactic.hygienic true in
theorem Kq {K:aU}(X:K.In A)(B:k.body=.stmts l.body)(m:k.scope=l.scope)(h:zX K l k=I):b_ w A k l:=by
 have a:=bl<|bl h
 have b:=br<|bl h
 have d:=br<|bl<|bl<|bl<|bl<|br h
 refine ⟨B,lg.mp<|bl<|bl<|bl<|bl a,lg.mp<|br<|bl<|bl<|bl a,mH<|br<|bl<|bl a,mH<|br<|bl a,beq_iff_eq.mp<|br a,m,hC<|bl<|bl<|bl<|bl<|bl b,hC<|br<|bl<|bl<|bl<|bl b,
  lg.mp<|br<|bl<|bl<|bl b,bn<|br<|bl<|bl b,bn<|br<|bl b,FQ<|br b,?_,?_,JN<|br<|bl<|bl<|bl<|br h,λx p=>FK<|eU.mp (br<|bl<|bl<|br h) x p,fL<|br<|bl<|br h,λP M=>?_⟩
 .refine zk (bl<|bl<|bl<|bl<|bl<|br h) λc r f=>?_
  refine zk f λo y f=>?_
  refine zk f λO g f=>?_
  refine zk f λx p f=>?_
  refine zk f λs m f=>?_
  refine aC (rP m) ?_;rintro t rfl
  refine beq_iff_eq.mp f▸?_
  exact ⟨c,o,O,t,qm r,X _ _ y,NG g,p⟩
 .rcases (pP _ _).mp d with d|d
  .exact ⟨[],by refine J (lg.mp<|br d) ?_;rfl,.inl ⟨beq_iff_eq.mp<|bl d,rfl⟩⟩
  .refine zk d λa0 e d=>?_
   refine zk d λo y d=>?_
   refine zk d λus g d=>?_
   refine aC (Dv g) λn g=>?_
   exact ⟨us,vz X _ _ d,.inr ⟨a0,o,n,qm e,X _ _ y,g⟩⟩
 .refine zk (show Aw K k (H P)=I from M▸br (br h)) λc r z=>?_
  refine zk (br z) ?_;rintro ⟨i,j,q⟩ a1 d2
  exact ⟨c,i,j,qm r,codeHd_of_K X<|bl z,by refine J a1 ?_;exact rT (beq_iff_eq.mp d2) rfl⟩
structure mQ (K:xY->aU):Prop where
 La:∀P,B1 (K P)=I
 Oh:∀P,Dz (K P)=I
 O3:∀P,B9 (K P)=I
 PW:∀P,Cw (K P)=I
 Na:∀P,yu (K P)=I
 Li:∀P,Dj (K P)=I
 IV:∀P,Q3 (K P)=I
 BA:∀P,(K P).lookup 59=H (excClassObj (U "PaintFault") (U "PaintFault") 59 58 [.ref 46] [.ref 46,.type "Exception",.type "BaseException",.type "object"] I [] [] N T T (H<|.ref 50) T (H<|.str (U "PaintFault") 236) (H<|.str (U "PaintFault") 244) (H<|.bool I) "Exception.__new__")
 KO:∀P,(BB (K P) 719).map (·.map Ag)=H (vn.map λp=>(dY P p.1,H p.1,H p.2))
 Rb:∀P,lI (K P) (U "FILLS")=H (.ref 719)
 QX:∀P,Mm (K P)=I
 Im:∀P,lI (K P) (U "__builtins__")=H (.ref 4)
 wJ:∀P,JW (K P)=I
 Gv:∀P,lz.map (λp=>(xg (K P) p.1).map (·.body))=lz.map λp=>H<|.stmts p.2.body
 Hc:∀P,lz.map (λp=>(xg (K P) p.1).map (·.scope))=lz.map λp=>H p.2.scope
 GU:∀P,Kf (K P)=I
 JT:∀P,lI (K P) (U "law")=H (.ref 1043)
section
variable {a:xY->aU}
theorem Rl (b:mQ a) (P):KE<|a P:=by
 have h:=b.IV P
 have g:=bl<|bl<|bl h
 have f:=bl<|bl<|bl g
 refine ⟨⟨beq_iff_eq.mp<|bl<|bl<|bl f,br<|bl<|bl f,beq_iff_eq.mp<|br<|bl f,beq_iff_eq.mp<|br f,beq_iff_eq.mp<|br<|bl<|bl g,beq_iff_eq.mp<|br<|bl g,beq_iff_eq.mp<|br g,_,_,_,_,_,_,_,_,_,_,_,_,_,_,_,_,b.BA P,by decide+kernel,by decide+kernel,by decide+kernel⟩,46,⟨⟨_,by unfold nL;exact J (b.BA P) rfl,rfl,rfl⟩,beq_iff_eq.mp<|br<|bl<|bl h,λx c=>?_⟩⟩
 rcases bF.mp c with rfl|c
 .exact beq_iff_eq.mp<|br<|bl h
 .exact bW.mp c▸beq_iff_eq.mp (br h)
section
variable {w:aM}{h:Heap}{m b:ae->Option ah}
abbrev gN (h:Heap):Heap:=hideAll h fG
theorem tU (d:mQ a)(X:(a P).In h):(a P).In<|gN h:=by
 intro c o e
 refine p_ _ (X c o e) λf=>?_
 have t:=eU.mp (bl<|bl<|d.wJ P) c f
 exact ao<|(mH t).symm.trans e
theorem vm (n:h.Ns c d)(f:c∉fG):(gN h).Ns c d:=let ⟨o,g,i,e,r⟩:=n;⟨o,g,i,p_ _ e f,r⟩
theorem PS:(719:Z)≠ie:=by decide
theorem OS (c:mQ a)(X:(a w.params).In h)(g:h.Ns ha m)(p:h.Ns jj b)(a0:∀x:ae,x≠ "__name__" ->b x=E8 x)(B:h.NoLimit)
  (d:∃d i,m "__builtins__" =H (.ref d)/\d≠jj/\h.get? d=H i/\i.cls=.type "module" /\i.dict=H jj/\i.data=.plain):dF w<|gN h:=by
 have r:∀x,lI (a w.params) x=m x:=λx=>yn X g (br<|bl<|c.wJ w.params) x
 have s:=tU c X
 have M:=vm g<|show ha∉fG by decide
 refine ⟨⟨m,b,M,vm p<|by decide,λx v e=>?_⟩,?_,λP k=>S5 _ k,⟨m,M,λP k=>?_⟩⟩
 .rcases S3.mp<|eU.mp (c.QX w.params) _<|OJ e with q|q
  .obtain rfl:=beq_iff_eq.mp q
   refine zm (c.KO w.params) λO he f=>?_
   refine du (HL he) λo n l t y=>?_
   refine aL (yV w (gN h) O vn f) λi1 zz=>cK zz λa1 i2 i3 i4=>?_;clear zz
   refine ⟨.ref 719,.inl<|(r _).symm.trans<|c.Rb _,bf (HM.symm.trans e)▸?_⟩
   exact ⟨719,o,a1,rfl,s _ _ l,⟨PS,t,O.toArray,n,y,λx a2=>i1 x<|List.mem_toArray.mp a2,i2,i4.symm▸by decide+kernel⟩,i3⟩
  .rcases Qk<|r x▸q with ⟨j,z,q⟩|⟨z,q1,j,z2,q⟩
   .exact ⟨j,.inl z,tH s v j q⟩
   .exact ⟨j,.inr ⟨z,(a0 x q1).trans z2⟩,tH s v j q⟩
 .refine aK B ?_;clear B;intro a3 A p
  exact ⟨a3,vm A<|by decide,p⟩
 .refine fe d ?_;clear d;intro A i l t y e4 zz;refine aL zz ?_;clear zz;intro e5 e6
  have a4:A=4:=by
   have:=(r<|U "__builtins__").symm.trans<|c.Im w.params
   rw [l] at this;cases this;rfl
  subst a4
  refine ⟨4,i,l,t,by decide,λq=>?_,p_ _ y<|by decide,e4,e5,e6⟩
  rw [<-q] at k
  exact absurd k<|by unfold ee;decide
end
end
mutual
open Mine
theorem KQ (f:mQ a)(X:(a w.params).In h):KD w h:=by
 intro i m e
 have g:=sN e
 have b:=S6.mp (f.Gv w.params) _ g
 have c:=S6.mp (f.Hc w.params) _ g
 have d:=eU.mp (f.GU w.params) _ g
 dsimp only at b c d
 refine zk d λj z d=>?_
 rw [z] at b c
 rw [Option.map_some,Uc] at b c
 refine zb (show ((a w.params).lookup i).bind _=_ from z) λo k l=>?_
 exact ⟨o,j,X _ _ k,Ls l,Kq X b c d⟩
theorem zF {c:WRecords}:∀{f:List qa},WShape.hasItems c f .int=I->∃b:List Int,f=b.map .int
 |[],_=>⟨[],rfl⟩
 |d::r,h=>by
  cases d with
  |int i=>exact let ⟨b,e⟩:=zF (c:=c) (f:=r) h;⟨i::b,congrArg _ e⟩
  |_=>exact ff h
def LP (P:xY)(h:Heap)(b:List ah):List qa->Prop
 |[]=>b=[]
 |d::r=>∃v u,b=v::u/\Well P h v d/\qb P h u r
theorem sd:qb P h c d->LP P h c d
 |.nil=>rfl
 |.cons e b=>⟨_,_,rfl,e,b⟩
def WV (P:xY)(h:Heap)(v:ah):qa->Prop
 |.int i=>∃t,v=.int i t
 |.list d=>∃b c,v=.ref b/\h.get? b=H {cls:=.type "list",data:=.seq c.toArray}/\qb P h c d
 |_=>True
theorem Ce (x:Well P h v d):WV P h v d:=by
 cases x with
 |int i t=>exact ⟨_,rfl⟩
 |list c b=>exact ⟨_,_,rfl,c,b⟩
 |_=>trivial
theorem Bt {c:List Int}:∀{d},qb w.params h d (c.map .int)->aQ w (g0 i) (c.map .int) d:=by
 induction c with
 |nil=>
  intro _ h
  exact sd h
 |cons x c f=>
  intro _ h
  exact let ⟨v,u,e,g,b⟩:=sd h;⟨v,u,e,Ce g,f b⟩
theorem FJ (b:mQ a)(B:dF w<|gN h)(X:(a w.params).In h):dV w (gN h)<|a w.params:=
 ⟨B,tU b X,KB.of<|b.La _,KC.of (b.Oh _)<|b.O3 _,KQ b<|tU b X,KM.of<|b.PW _,gm.of (b.Na _)<|b.Li _⟩
def Be:R:=⟨λ_=>T,0⟩
theorem HB (d:∀P∈fG,h.get? P=H (xp #[])):AR w (gN h) (g0<|gN h) h [] Be:=by
 refine ⟨⟨λb o e=>E9 _ e,λc o e=>E9 _ e,λl i e=>ao e,λl _=>⟨rfl,rfl,rfl⟩,λl c e=>ao e,λl c o e=>ao e,λl j c e=>ao e,bh<|hideAll_size _ _,λb o e=>e,λl c e=>ao e⟩,
  ⟨⟨#[],d _<|by decide,.inl rfl⟩,⟨#[],d _<|by decide,.inl rfl⟩,⟨#[],d _<|by decide,.inl rfl⟩,λP o f e=>?_⟩,λk g=>nomatch g⟩
 have e:(gN h).get? P=H o:=e
 rw [S5 _ f] at e
 exact ao e
theorem NN:AC callerA []:=⟨rfl,by decide,by decide,rfl,rfl,by decide⟩
def AN (b:List Int):Prop:=∀(O:Or) (_:dd O)(c:R)(k:E->R->Prop)(X:Prop),(∀d,k (.bool I) d)->O.call 0 (.ag<|.ref 1043) [.lst<|b.map .int] c k X
theorem ze (f:TB g h)(d:b∈fG):∃c,h.get? b=H (xp c):=by
 unfold fG at d
 rcases bF.mp d with rfl|d
 .refine aK f.t1 λc e _=>?_;exact ⟨c,e⟩
 .rcases bF.mp d with rfl|d
  .refine aK f.t2 λc e _=>?_;exact ⟨c,e⟩
  .refine aW (bW.mp d)▸?_
   refine aK f.t3 λc e _=>?_;exact ⟨c,e⟩
theorem Jg (k:KD w l)(d:b∈fG):∃c o e,l.get? c=H o/\o.cls=.type "code" /\o.data=.fields e/\e[11]?=H (.ref b):=by
 obtain ⟨f,g,m,n⟩:∃f g,d_ f=H g/\g.tab=H b:=by
  unfold fG at d
  rcases bF.mp d with rfl|d
  .exact ⟨580,_,rfl,rfl⟩
  .rcases bF.mp d with rfl|d
   .exact ⟨587,_,rfl,rfl⟩
   .refine aW (bW.mp d)▸?_
    exact ⟨1043,_,rfl,rfl⟩
 refine du (k.fn f g m) λo t _ _ X=>?_
 obtain ⟨c,i,j,_,h,_⟩:=X.tab b n
 refine dx h ?_;clear h;intro o e zz;refine dx zz ?_;clear zz;intro _ _ zz;refine dx zz ?_;clear zz;intro _ _ zz;refine mL zz ?_;clear zz;intro _ _ _ p q r zz;refine aL zz ?_;clear zz;intro s _
 exact ⟨c,o,e,p,q,r,s⟩
theorem QP (b):PySem.Challenge.rw_pq0817_01.row.claim.post b (E_ I) b=I:=by kernel_rfl
theorem IU (f:qb P h g [xZ i]):
  ∃d e,g=[.ref d]/\h.get? d=H {cls:=.type "list",data:=.seq e.toArray}/\qb P h e i:=by
 refine du (sd f) ?_;rintro v u rfl d b
 refine du (Ce d) ?_;rintro c e rfl j k
 exact ⟨c,e,congrArg _<|sd b,j,k⟩
theorem Qc (b:WShape.hasAll [] e [.list .int]=I):∃c:List Int,e=[xZ<|c.map .int]:=by
 cases e with
 |nil=>exact ff b
 |cons d r=>cases r with
  |cons=>exact DR<|(tc _).symm.trans b
  |nil=>
   have f:WShape.has [] d (.list .int)=I:=(Fb.mp b).1
   cases d with
   |list g=>
    refine aC (zF (c:=[])<|(xT _).symm.trans f) ?_;rintro c rfl
    exact ⟨c,rfl⟩
   |_=>exact ff f
set_option backward.match.sparseCases true in
def L9 (v:Option qa):Bool:=
 let d:Option qa:=match v with
  |H (.bool b)=>H<|.bool !b
  |_=>T
 let c:Option qa:=match d with
  |H (.bool N)=>H<|.bool N
  |H (.bool I)=>match H<|E_ I with
   |H (.bool x)=>H<|.bool x
   |_=>T
  |_=>T
 match c with
 |H (.bool I)=>I
 |_=>N
theorem Pl {b:List Int}(d:WTm.holds [] PySem.Challenge.rw_pq0817_01.pre {args:=[xZ<|b.map .int]}=I):b.length<=63:=
 Ud λq=>
  have h:WTm.value [] (.lt (.lit<|.int 63)<|.len<|.arg 0) {args:=[xZ<|b.map .int]}=H (.bool I):=
   congrArg (λc=>H<|E_ c)<|decide_eq_true<|jk.mpr<|Nat.lt_of_lt_of_eq (nM q) (cb _).symm
  ff<|(congrArg L9 h).symm.trans d
set_option tactic.hygienic true in
theorem TN (h:mQ a)(O:∀i:List Int,i.length<=63->AN i)(a0:a3.name=U "law"):WalkO q b8 XP (kmHook a b9 c0 [575,582,1040]).says PySem.Challenge.rw_pq0817_01.row.toRowW a3 c5 λf m=>dG f m:=by
 intro w c6 d a1 c7 G s t o pm cd c8 c9 d0 d1 d2 d3 d4 a2 a4 d5 d6 as y d7 d8 a5 d9
 have X:(a w.params).In d.heap:=km_in_of s
 have n:∀P∈fG,d.heap.get? P=H (xp #[]):=km_tabs_of s
 have B:dF w<|gN d.heap:=OS h X G.T.g G.T.b G.T.builtins G.T.nolimit G.T.bmain
 have z:=FJ h B X
 have t3:((a w.params).lookup 3).isSome=I:=br<|bl<|h.wJ w.params
 have a6:t=1043:=by
  have e:a1 (U "law")=H (.ref t):=by refine rT a0 ?_;exact a2
  rw [<-yn X G.T.g t3,h.JT _] at e
  cases e;rfl
 refine a6▸?_
 refine aC (Qc (Fb.mp y).1) ?_;rintro i rfl
 have a7:=Pl (Fb.mp y).2
 refine du (IU a5) ?_;rintro j p rfl k A
 have a8:j∉fG:=λhm=>by
  replace k:=n _ hm▸k
  cases k
 have a9:=p_ fG k a8
 have b0:eW "list" p {cls:=.type "list",data:=.seq p.toArray}:=⟨by refine rT (Bt (w:=w) (i:=gN d.heap) A).length ?_;rewrite [cb];exact ai (by assumption)<|by decide,0,rfl⟩
 have b1:aq w (g0<|gN d.heap) (.lst<|i.map .int)<|.ref j:=by
  exact ⟨j,_,p,rfl,a9,b0,Bt A⟩
 have b2:=HB (w:=w) n
 have b3:=O i a7 (OM w<|gN d.heap) (Rr z<|Rl h w.params) Be (λv _=>v=.bool I) False (λ_=>rfl) [] callerA (g0<|gN d.heap) d (.ref 1043) [.ref j] rfl NN b2 (by rfl)<|fQ b1 gW
 refine b3 _ _ (λb e0 b4 g' e1 h' e2 x l b5=>?_) λb6=>b6.elim
 subst b4
 subst b5
 refine ⟨.inl ⟨.bool I,.bool I,[],rfl,λ_=>rfl,.bool I,QP _,λ_=>⟨.nil,λ_ q=>nomatch q⟩⟩,⟨λb o e=>?_,λb o e=>?_⟩,rfl,.of_eq a4⟩
 .by_cases g:b∈fG
  .replace e:=n b g▸e
   refine aG e ?_;clear e;rintro rfl
   refine aC (ze l.tb g) λM r=>?_
   refine mL (Jg z.D g) λc b7 m c1 c2 c3 c4=>?_
   exact .inr<|.inl ⟨⟨c,b7,m,E9 _ c1,c2,c3,c4⟩,rfl,#[],M,rfl,by refine J r ?_;simp⟩
  .exact .inl<|l.sr.base _ _<|p_ fG e g
 .by_cases g:b∈fG
  .refine aC (ze l.tb g) λM r=>?_
   exact ⟨_,r⟩
  .exact ⟨o,l.sr.base _ _<|p_ fG e g⟩
end
end
end
mutual
section
open PySem
structure bV where
 O:Or
 r:dd O
abbrev On (n:bV):Or:=n.O
theorem Le.refl (O):Le O O:=⟨id,id,id,id,id⟩
structure Lv (L:Nat)(n:bV)(d:Nat):Prop where
 depth:d+L<=99
section
variable {L d a:Nat}{n:bV}{r:List E}{b:R}{k:E->R->Prop}{X:Prop}
theorem Lv.le (h:Lv L n d)(q:L'<=L):Lv L' n d:=⟨ai (gZ q d) h.depth⟩
theorem Lv.down (h:Lv (L+1) n d):Lv L n<|d+1:=⟨ay h.depth<|by simp+arith only⟩
theorem Lv.lt (h:Lv L n d):d<100:=Fc<|dg h.depth
theorem cq (c:Lv (L+1) n d)(h:Lv L n (d+1)->aN (On n) a d r b k X):(On n).call d (.ag<|.ref a) r b k X:=n.r.body (Le.refl _) c.lt<|h c.down
theorem hK (h:wp (dB b v r) λc=>k c b):(On n).call d (.ag v) r b k X:=n.r.blt h
theorem tG {i:Nat}(c:Lv (L+1) n d)(e:gB a=H i)(h:Lv L n (d+1)->aN (On n) i d (.loc b.next::r) (b.alloc<|.inst a []) (λv f=>isNone v=I/\k (.loc b.next) f) X):(On n).call d (.ag<|.ref a) r b k X:=
 n.r.inst (Le.refl _) c.lt e<|h c.down
theorem Kt (c:Lv (L+1) n d)(h:Lv L n (d+1)->oh (On n) j e d r b k X):(On n).call d (.bR j e) r b k X:=n.r.bR (Le.refl _) c.lt<|h c.down
def rt (O:Or):Nat->Y->R->aD->List bM->(Fl->Y->R->Prop)->Prop->Prop
 |0,_,_,_,_,_,_=>False
 |j+1,e,b,t,f,k,X=>hR (ei O 35) 20 e b t (λc e b=>match c with
  |I=>dT O 35 e b f (λg e b=>match g with
   |.next=>rt O j e b t f k X
   |.ret v=>k (.ret v) e b) X
  |N=>k .next e b) X
theorem zQ (q:Le e n.O):∀j {c} {b} {k} {X},rt e j c b t f k X->n.O.ec c b t f k X
 |0,_,_,_,_,h=>h.elim
 |j+1,_,_,_,_,h=>n.r.ec (V:=λk X c b=>rt e j c b t f k X) q (zQ q j) h
theorem jz {k:Fl->Y->R->Prop}(h:k .next c b):(On n).bH t e [] c b k X:=n.r.G4 h
theorem hV {k:Fl->Y->R->Prop}(e:Lv (L+1) n d)
  (h:Lv L n d->eN (On n) a i x c b (λf c b=>match f with|.next=>(On n).bH (cN a i) (cB a i) g c b k X|.ret v=>k (.ret v) c b) X):(On n).bH (cN a i) (cB a i) (x::g) c b k X:=n.r.Hn (Le.refl _)<|h<|e.le<|dX _
theorem gD {k:List E->R->Prop}(h:k [] b):(On n).comp e t [] c b k X:=n.r.Ie h
theorem gC {k:List E->R->Prop}(e:Lv (L+1) n d)
  (h:Lv L n d->fO (On n) a i x c b λv b=>(On n).comp (cp a i) (cw a i) f c b (λg b=>k (v::g) b) X):(On n).comp (cp a i) (cw a i) (x::f) c b k X:=n.r.N8 (Le.refl _)<|h<|e.le<|dX _
end
end
mutual
open Mine
def cH (O:Or)(a j b:Nat)(c:Y)(d:R)(k:Fl->Y->R->Prop)(X:Prop):Prop:=hh O (ei O 39) (dT O 39) c d (((fH a).drop j).take<|b - j) k X
theorem vY (b):∀c a d k X,
  hh O e f a d (b++c) k X=hh O e f a d b (λg a d=>match g with|.next=>hh O e f a d c k X|.ret v=>k (.ret v) a d) X:=by
 induction b with
 |nil=>
  intro c a d k X
  exact rfl
 |cons s b h=>
  intro c a d k X
  show fV O e f a d s _ X=fV O e f a d s _ X
  refine congrArg (λq=>fV O e f a d s q X)<|funext λg=>funext λa=>funext λd=>?_
  cases g with
  |next=>exact h c a d k X
  |ret v=>rfl
theorem cI (j c)(g:j<=c)(h:cH O a j c f b (eO O a c k X) X):bB O a j f b k X:=by
 unfold bB
 have e:(fH a).drop j=((fH a).drop j).take (c - j)++(fH a).drop c:=by
  have:=nH (c - j)<|(fH a).drop j
  rw [Fd,show j+(c - j)=c by exact S7 g] at this
  exact this.symm
 refine J e ?_;rewrite [vY]
 have:(λd f b=>match d with|.next=>hh O (ei O 39) (dT O 39) f b ((fH a).drop c) (λd _ b=>k (ql d) b) X|.ret v=>k v b)=eO O a c k X:=by
  funext d f b
  cases d<;>rfl
 show hh O (ei O 39) (dT O 39) f b _ (λd f b=>match d with|.next=>hh O (ei O 39) (dT O 39) f b ((fH a).drop c) (λd _ b=>k (ql d) b) X|.ret v=>k v b) X
 exact h
abbrev Q (s:String):ae:=U s
abbrev S (s:String):E:=.str<|U s
abbrev F (a:Nat):E:=.ag<|.ref a
abbrev Sm:=Nat->List E->Option (Option Prop×E)
def BM (a:Nat):Bool:=match gB a with|H _=>I|T=>N
def ow (g O:Or)(h:Sm)(i:List Nat)(d:Nat)(f:E)(e:List E)(b:R)(k:E->R->Prop)(X:Prop):Prop:=match f with
 |.ag v=>match v with
  |.ref a=>match h a e with
   |H (T,v)=>d<=94/\k v b
   |H (H c,v)=>d<=94/\c/\k v b
   |T=>match hv a i with
    |N=>O.call d (.ag<|.ref a) e b k X
    |I=>d<=99/\match BM a with|I=>hX g a d e b k X|N=>aN g a d e b k X
  |v=>wp (dB b v e) λr=>k r b
 |.bR j l=>d<=99/\oh g j l d e b k X
 |f=>O.call d f e b k X
def inl (O:Or)(c:Sm)(h:List Nat)(i l:Bool):Nat->Or
 |0=>O
 |j+1=>{
  call:=ow (inl O c h i l j) O c h
  aE:=λd s m x q a k X=>match l with
   |N=>O.aE d s m x q a k X
   |I=>match x with
    |.fn f=>ow (inl O c h i l j) O c h d (.ag<|.ref f) (s::q) a k X
    |.bR g=>ow (inl O c h i l j) O c h d g q a k X
    |.blt=>wp (qC a s m q) λr=>k r.1 r.2
  ec:=λn a t b k X=>rt (inl O c h i l j) 3 n a t b k X
  bH:=λt b p n a k X=>match i with
   |I=>iy (dT (inl O c h i l j) 39) t b p n a k X
   |N=>O.bH t b p n a k X
  comp:=λe t p n a k X=>match i with
   |I=>iA (ei (inl O c h i l j) 38) e t p n a k
   |N=>O.comp e t p n a k X}
def MB:Option Prop->Prop
 |T=>True
 |H c=>c
def oY (f:Sm):Prop:=∀a b c v,f a b=H (c,v)->∀n d e k X,d<=94->MB c->k v e->(On n).call d (.ag<|.ref a) b e k X
section
variable {L d a:Nat}{n:bV}{r:List E}{b:R}{k:E->R->Prop}{X:Prop}{s:Sm}{c:List Nat}{l m:Bool}
theorem ux (i:oY s)(g:Le x n.O)(h:ow x n.O s c d f r b k X):n.O.call d f r b k X:=by
 unfold ow at h
 cases f with
 |ag v=>
  cases v with
  |ref a=>
   dsimp only at h
   cases q:s a r with
   |none=>
    rw [q] at h
    dsimp only at h
    cases j:hv a c with
    |false=>rw [j] at h;exact h
    |true=>
     replace h:=j▸h
     refine aL h ?_;clear h;intro e h
     have e:=Fc e
     cases p:BM a with
     |true=>rw [p] at h;exact n.r.init g e h
     |false=>rw [p] at h;exact n.r.body g e h
   |some y=>
    rw [q] at h
    obtain ⟨t,v⟩:=y
    cases t with
    |none=>exact i a r _ _ q n d b k X h.1 trivial h.2
    |some t=>exact i a r _ _ q n d b k X h.1 h.2.1 h.2.2
  |_=>exact n.r.blt h
 |bR z A=>exact n.r.bR g (Fc h.1) h.2
 |_=>exact h
theorem rk (h:oY s):∀j,Le (inl n.O s c l m j) n.O
 |0=>Le.refl _
 |j+1=>by
  have e:=rk h j
  refine ⟨ux h e,λ{d p t i x b k X} q=>?_,zQ e 3,λq=>?_,λq=>?_⟩
  .cases m with
   |false=>exact q
   |true=>cases i with
    |fn f=>exact n.r.aE<|ux h e (f:=.ag<|.ref f) q
    |bR g=>exact n.r.aE<|ux h e (f:=g) q
    |blt=>exact n.r.aE q
  .cases l with
   |true=>exact n.r.Iq e q
   |false=>exact q
  .cases l with
   |true=>exact n.r.FE e q
   |false=>exact q
theorem bN (f:oY s)(e:Lv (L+1) n d)(h:Lv L n (d+1)->aN (inl (On n) s c l m 8) a d r b k X):(On n).call d (.ag<|.ref a) r b k X:=n.r.body (rk f 8) e.lt<|h e.down
end
end
mutual
open Mine
def eh:Sm:=λ_ _=>T
theorem C7:oY eh:=λ_ _ _ _ h=>ao h
end
namespace Sh
mutual
open Mine
def D (x:Int):E:=.inst 155 [(Q "top",.int x),(Q "places",.int 0)]
def dh (a b c d e f:Int):E:=.inst 443 [(Q "a",D a),(Q "b",D b),(Q "c",D c),(Q "d",D d),(Q "e",D e),(Q "f",D f)]
def P0:E:=.inst 480 [(Q "parts",.tup [])]
end
end Sh
mutual
open Sh
def Kk (c:Z)(a b:ae×E):Option Int:=(cR a.2).bind λx=>(cR b.2).bind λy=>match cC c 155 && aP (a.1=Q "top") && aP (b.1=Q "places") && aP (y=0) with
 |I=>H x
 |N=>T
def Gn (c:Z):List (ae×E)->Option Int
 |[]=>T
 |a::r=>match r with
  |[]=>T
  |b::r=>match r with
   |[]=>Kk c a b
   |_::_=>T
def wA (v:E):Option Int:=match v with
 |.inst c a=>Gn c a
 |_=>T
def dv (v:E):Option Int:=match v with
 |.int x=>H x
 |v=>wA v
theorem AK (h:wA v=H x):v=D x:=by
 cases v with
 |inst c e=>cases e with
  |nil=>exact ao h
  |cons a r=>cases r with
   |nil=>exact ao h
   |cons b r=>cases r with
    |cons=>exact ao h
    |nil=>
     refine zb h λi f h=>?_
     refine zb h λj g h=>?_
     obtain ⟨t,u⟩:=a
     obtain ⟨p,v⟩:=b
     obtain rfl:=ea f
     obtain rfl:=ea g
     revert h
     generalize d:(cC c 155 && aP (t=Q "top") && aP (p=Q "places") && aP (j=0))=b
     cases b with
     |false=>exact λh=>ao h
     |true=>
      intro h
      rw [eI,eI,eI] at d
      refine aG h ?_;clear h;rintro rfl
      refine aW (hC d.1.1.1)▸aW (of_decide_eq_true d.1.1.2)▸aW (of_decide_eq_true d.1.2)▸aW (of_decide_eq_true d.2)▸?_
      rfl
 |_=>exact ao h
theorem rN (h:dv v=H x):v=.int x\/v=D x:=by
 cases v with
 |int i=>exact .inl<|congrArg E.int<|bf h
 |_=>exact .inr<|AK h
theorem Lv.dm (h:Lv L n d)(e:ih 99 (m+L)=I):d<=m:=DS<|ai h.depth<|fL e
theorem a_ {d m B:Nat}(h:d<=m)(e:ih (m+1) B=I):d+1<=B:=ai (dt h 1)<|fL e
theorem bk {d m B:Nat}(h:d<=m)(e:ih (m+2) B=I):d+1+1<=B:=ai (dt h 2)<|fL e
theorem cM {d m B:Nat}(h:d<=m)(e:ih (m+3) B=I):d+1+1+1<=B:=ai (dt h 3)<|fL e
theorem wy {d m B:Nat}(h:d<=m)(e:ih (m+4) B=I):d+1+1+1+1<=B:=ai (dt h 4)<|fL e
theorem iz:(0:Int)<=0/\(0:Int)<=1000/\10<18446744073709551616:=⟨by decide,by decide,by decide⟩
end
end
mutual
section
open Sh PySem PySem.W PyProof.Rows PySem.Calls
theorem Ha (a:k (E.inst 155 [(Q "top",E.int x),(Q "places",E.int 0)]) b):hX (inl O eh [] I I 8) 155 d [.int x,.int 0] b k X:=aj (by kernel_rfl) a
theorem K8 (a:d+1<=99/\k (E.inst 155 [(Q "top",E.int x),(Q "places",E.int 0)]) b):aN (inl O eh [155] I I 8) 180 d [.int x] b k X:=aj (by kernel_rfl) a
theorem Oc (a:k (E.inst 155 [(Q "top",E.int x),(Q "places",E.int 0)]) b):aN (inl O eh [155] I I 8) 180 d [D x] b k X:=aj (by kernel_rfl) a
theorem LQ (a:d<=96)(c:bg x 1)(e:bg y 1)(f:k (E.inst 155 [(Q "top",E.int<|x*1+y*1),(Q "places",E.int 0)]) b):aN (inl O eh [155,180,187] I I 8) 82 d [D x,.int y] b k X:=aj (β:=d+1<=99/\d+1+1<=99/\d+1+1<=99/\d+1+1+1<=99/\((0:Int)<=0/\(0:Int)<=1000/\10<18446744073709551616)/\bg x 1/\((0:Int)<=0/\(0:Int)<=1000/\10<18446744073709551616)/\bg y 1/\d+1<=99/\k (E.inst 155 [(Q "top",E.int<|x*1+y*1),(Q "places",E.int 0)]) b) (by kernel_rfl) ⟨a_ a rfl,bk a rfl,bk a rfl,cM a rfl,iz,c,iz,e,a_ a rfl,f⟩
theorem HT (a:d<=97)(c:bg x 1)(e:bg y 1)(f:k (E.inst 155 [(Q "top",E.int<|x*1+y*1),(Q "places",E.int 0)]) b):aN (inl O eh [155,180,187] I I 8) 82 d [D x,D y] b k X:=aj (β:=d+1<=99/\d+1+1<=99/\d+1+1<=99/\((0:Int)<=0/\(0:Int)<=1000/\10<18446744073709551616)/\bg x 1/\((0:Int)<=0/\(0:Int)<=1000/\10<18446744073709551616)/\bg y 1/\d+1<=99/\k (E.inst 155 [(Q "top",E.int<|x*1+y*1),(Q "places",E.int 0)]) b) (by kernel_rfl) ⟨a_ a rfl,bk a rfl,bk a rfl,iz,c,iz,e,a_ a rfl,f⟩
theorem HX (a:d<=96)(c:bg x 1)(e:bg y 1)(f:k (E.inst 155 [(Q "top",E.int<|x*1 - y*1),(Q "places",E.int 0)]) b):aN (inl O eh [155,180,187] I I 8) 89 d [D x,.int y] b k X:=aj (β:=d+1<=99/\d+1+1<=99/\d+1+1<=99/\d+1+1+1<=99/\((0:Int)<=0/\(0:Int)<=1000/\10<18446744073709551616)/\bg x 1/\((0:Int)<=0/\(0:Int)<=1000/\10<18446744073709551616)/\bg y 1/\d+1<=99/\k (E.inst 155 [(Q "top",E.int<|x*1 - y*1),(Q "places",E.int 0)]) b) (by kernel_rfl) ⟨a_ a rfl,bk a rfl,bk a rfl,cM a rfl,iz,c,iz,e,a_ a rfl,f⟩
theorem J2 (a:d<=97)(c:bg x 1)(e:bg y 1)(f:k (E.inst 155 [(Q "top",E.int<|x*1 - y*1),(Q "places",E.int 0)]) b):aN (inl O eh [155,180,187] I I 8) 89 d [D x,D y] b k X:=aj (β:=d+1<=99/\d+1+1<=99/\d+1+1<=99/\((0:Int)<=0/\(0:Int)<=1000/\10<18446744073709551616)/\bg x 1/\((0:Int)<=0/\(0:Int)<=1000/\10<18446744073709551616)/\bg y 1/\d+1<=99/\k (E.inst 155 [(Q "top",E.int<|x*1 - y*1),(Q "places",E.int 0)]) b) (by kernel_rfl) ⟨a_ a rfl,bk a rfl,bk a rfl,iz,c,iz,e,a_ a rfl,f⟩
theorem O_ (a:d<=97)(c:bg x y)(e:k (E.inst 155 [(Q "top",E.int<|x*y),(Q "places",E.int 0)]) b):aN (inl O eh [155,180,187] I I 8) 96 d [D x,.int y] b k X:=aj (β:=d+1<=99/\d+1+1<=99/\bg x y/\d+1<=99/\k (E.inst 155 [(Q "top",E.int<|x*y),(Q "places",E.int 0)]) b) (by kernel_rfl) ⟨a_ a rfl,bk a rfl,c,a_ a rfl,e⟩
theorem Gi (a:d<=98)(c:bg x y)(e:k (E.inst 155 [(Q "top",E.int<|x*y),(Q "places",E.int 0)]) b):aN (inl O eh [155,180,187] I I 8) 96 d [D x,D y] b k X:=aj (β:=d+1<=99/\bg x y/\d+1<=99/\k (E.inst 155 [(Q "top",E.int<|x*y),(Q "places",E.int 0)]) b) (by kernel_rfl) ⟨a_ a rfl,c,a_ a rfl,e⟩
end
end
mutual
section
open PySem Sh
def bq (x:Int):Prop:=-1000000000000<=x/\x<=1000000000000
theorem es (h:bq x):bg x y:=IntMulOk.of_left<|S8 (la (by decide) h.1)<|pJ h.2<|by decide
theorem jh (h:bq y):bg x y:=IntMulOk.of_right<|S8 (la (by decide) h.1)<|pJ h.2<|by decide
theorem ks:bg x 1:=jh ⟨by decide,by decide⟩
theorem ke {n:bV}{d a:Nat}{e:List Nat}{f g:Bool}{b:List E}{c:R}{k:E->R->Prop}{X:Prop}(i:d<100)
  (h:aN (inl (On n) eh e f g 8) a d b c k X):(On n).call d (.ag<|.ref a) b c k X:=n.r.body (rk C7 8) i h
theorem kH (b:d<100)
  (h:hX (inl (On n) eh f g i 8) a d c e k X):(On n).call d (.ag<|.ref a) c e k X:=n.r.init (rk C7 8) b h
def two (a:List E)(f:Int->Int->Option Prop×E):Option<|Option Prop×E:=(lS a).bind λp=>(wA p.1).bind λx=>(dv p.2).map λy=>f x y
def bS (a:Nat)(b:List E):Option<|Option Prop×E:=match cC a 180 with
 |I=>(one b).bind λv=>(dv v).map λx=>(T,D x)
 |N=>match cC a 155 with
  |I=>(lS b).bind λp=>(cR p.1).bind λx=>(cR p.2).bind λy=>match aP<|y=0 with
   |I=>H (T,D x)
   |N=>T
  |N=>match cC a 82 with
   |I=>two b λx y=>(T,D<|x+y)
   |N=>match cC a 89 with
    |I=>two b λx y=>(T,D<|x - y)
    |N=>match cC a 96 with
     |I=>two b λx y=>(H<|bg x y,D<|x*y)
     |N=>T
theorem uI (h:two a f=H r):∃x w y,a=[D x,w]/\dv w=H y/\f x y=r:=by
 refine zb (show (lS a).bind _=_ from h) ?_;rintro ⟨v,w⟩ e h
 refine zb h λx b h=>?_
 refine zm h λy c h=>?_
 exact ⟨x,w,y,by refine J (oL e) ?_;exact J (show v=D x from AK b) rfl,c,h⟩
theorem Ku (c:d<=94)(a:dv v=H x)(h:k (D x) b):(On n).call d (.ag<|.ref 180) [v] b k X:=by
 rcases rN a with rfl|rfl
 .refine ke (e:=[155]) (f:=I) (g:=I) (by exact dH (by assumption)<|by decide) ?_
  refine K8 ?_
  exact ⟨by exact ai (dt (by assumption) _)<|by decide,h⟩
 .refine ke (e:=[155]) (f:=I) (g:=I) (by exact dH (by assumption)<|by decide) ?_
  exact Oc h
theorem GD (a:d<=94)(c:dv w=H y)(h:k (D<|x+y) b):(On n).call d (.ag<|.ref 82) [D x,w] b k X:=by
 have h:k (D<|x*1+y*1) b:=by rw [nN,nN];exact h
 refine ke (e:=[155,180,187]) (f:=I) (g:=I) (dH a<|by decide) ?_
 rcases rN c with rfl|rfl
 .exact LQ (ai a<|by decide) ks ks h
 .exact HT (ai a<|by decide) ks ks h
theorem AO (a:d<=94)(c:dv w=H y)(h:k (D<|x - y) b):(On n).call d (.ag<|.ref 89) [D x,w] b k X:=by
 have h:k (D<|x*1 - y*1) b:=by rw [nN,nN];exact h
 refine ke (e:=[155,180,187]) (f:=I) (g:=I) (dH a<|by decide) ?_
 rcases rN c with rfl|rfl
 .exact HX (ai a<|by decide) ks ks h
 .exact J2 (ai a<|by decide) ks ks h
theorem Gw (a:d<=94)(c:dv w=H y)(b:bg x y)(h:k (D<|x*y) e):(On n).call d (.ag<|.ref 96) [D x,w] e k X:=by
 refine ke (e:=[155,180,187]) (f:=I) (g:=I) (dH a<|by decide) ?_
 rcases rN c with rfl|rfl
 .exact O_ (ai a<|by decide) b h
 .exact Gi (ai a<|by decide) b h
theorem NQ (b:d<=94)(h:k (D x) a):(On n).call d (.ag<|.ref 155) [.int x,.int 0] a k X:=by
 refine kH (f:=[]) (g:=I) (i:=I) (by exact dH (by assumption)<|by decide) ?_
 exact Ha h
theorem bO:oY bS:=by
 intro a r c v h n d s k X f l g
 revert h
 unfold bS
 cases q:cC a 180 with
 |true=>
  intro h
  obtain rfl:=hC q
  refine zb h λw i h=>?_
  refine zm h λx j h=>?_
  refine jL h ?_;clear h;rintro rfl rfl
  refine J (hP i) ?_
  exact Ku f j g
 |false=>cases q:cC a 155 with
  |true=>
   intro h
   obtain rfl:=hC q
   refine zb h ?_;rintro ⟨v,w⟩ i h
   refine zb h λx j h=>?_
   refine zb h λy m p=>?_
   clear h
   obtain rfl:=ea j
   obtain rfl:=ea m
   refine J (oL i) ?_
   revert p
   cases e:aP<|y=0 with
   |false=>exact λh=>ao h
   |true=>
    intro h
    refine kN h ?_;clear h;rintro rfl rfl
    refine of_decide_eq_true e▸?_
    exact NQ f g
  |false=>cases q:cC a 82 with
   |true=>
    intro h
    obtain rfl:=hC q
    refine kv (uI h) ?_;rintro x w y rfl e b
    refine jL b ?_;clear b;rintro rfl rfl
    exact GD f e g
   |false=>cases q:cC a 89 with
    |true=>
     intro h
     obtain rfl:=hC q
     refine kv (uI h) ?_;rintro x w y rfl e b
     refine jL b ?_;clear b;rintro rfl rfl
     exact AO f e g
    |false=>cases q:cC a 96 with
     |true=>
      intro h
      obtain rfl:=hC q
      refine kv (uI h) ?_;rintro x w y rfl e b
      refine jL b ?_;clear b;rintro rfl rfl
      exact Gw f e l g
     |false=>exact λh=>ao h
end
end
mutual
section
open Sh PySem PySem.W PyProof.Rows PySem.Calls
theorem JM (h:d<=93)(j:bg a x)(l:bg c y)(m:bg b x)(n:bg e y)(p:k (E.tup [D<|a*x+c*y+f,D<|b*x+e*y+g]) i):aN (inl O bS [] I I 8) 421 d [dh a b c e f g,D x,D y] i k X:=aj (β:=d+1<=94/\bg a x/\d+1<=94/\bg c y/\d+1<=94/\d+1<=94/\d+1<=94/\bg b x/\d+1<=94/\bg e y/\d+1<=94/\d+1<=94/\k (E.tup [D<|a*x+c*y+f,D<|b*x+e*y+g]) i) (by kernel_rfl) ⟨a_ h rfl,j,a_ h rfl,l,a_ h rfl,a_ h rfl,a_ h rfl,m,a_ h rfl,n,a_ h rfl,a_ h rfl,p⟩
theorem Gb (h:d<=92)(r:bg a i)(s:bg b j)(t:bg a l)(x:bg b m)(y:bg c i)(z:bg e j)(A:bg c l)(B:bg e m)(M:bg i f)(P:bg j g)(a0:bg l f)(a1:bg m g)(a2:k (E.inst 443 [(Q "a",D<|a*i+b*j),(Q "b",D<|a*l+b*m),(Q "c",D<|c*i+e*j),(Q "d",D<|c*l+e*m),(Q "e",D<|i*f+j*g+n),(Q "f",D<|l*f+m*g+p)]) q):aN (inl O bS [443,421] I I 8) 414 d [dh a b c e f g,dh i l j m n p] q k X:=aj (β:=d+1<=94/\bg a i/\d+1<=94/\bg b j/\d+1<=94/\d+1<=94/\bg a l/\d+1<=94/\bg b m/\d+1<=94/\d+1<=94/\bg c i/\d+1<=94/\bg e j/\d+1<=94/\d+1<=94/\bg c l/\d+1<=94/\bg e m/\d+1<=94/\d+1<=99/\d+1+1<=94/\bg i f/\d+1+1<=94/\bg j g/\d+1+1<=94/\d+1+1<=94/\d+1+1<=94/\bg l f/\d+1+1<=94/\bg m g/\d+1+1<=94/\d+1+1<=94/\d+1<=99/\d+1+1<=94/\d+1+1<=94/\d+1+1<=94/\d+1+1<=94/\d+1+1<=94/\d+1+1<=94/\k (E.inst 443 [(Q "a",D<|a*i+b*j),(Q "b",D<|a*l+b*m),(Q "c",D<|c*i+e*j),(Q "d",D<|c*l+e*m),(Q "e",D<|i*f+j*g+n),(Q "f",D<|l*f+m*g+p)]) q) (by kernel_rfl) ⟨a_ h rfl,r,a_ h rfl,s,a_ h rfl,a_ h rfl,t,a_ h rfl,x,a_ h rfl,a_ h rfl,y,a_ h rfl,z,a_ h rfl,a_ h rfl,A,a_ h rfl,B,a_ h rfl,a_ h rfl,bk h rfl,M,bk h rfl,P,bk h rfl,bk h rfl,bk h rfl,a0,bk h rfl,a1,bk h rfl,bk h rfl,a_ h rfl,bk h rfl,bk h rfl,bk h rfl,bk h rfl,bk h rfl,bk h rfl,a2⟩
theorem Kd (h:d<=98)(j:k (E.tup [E.tup [E.int a,E.int 0],E.tup [E.int b,E.int 0],E.tup [E.int c,E.int 0],E.tup [E.int e,E.int 0],E.tup [E.int f,E.int 0],E.tup [E.int g,E.int 0]]) i):aN (inl O bS [435,138] I I 8) 440 d [dh a b c e f g] i k X:=aj (β:=d+1<=99/\6<=1000000/\d+1<=99/\d+1<=99/\d+1<=99/\d+1<=99/\d+1<=99/\d+1<=99/\k (E.tup [E.tup [E.int a,E.int 0],E.tup [E.int b,E.int 0],E.tup [E.int c,E.int 0],E.tup [E.int e,E.int 0],E.tup [E.int f,E.int 0],E.tup [E.int g,E.int 0]]) i) (by kernel_rfl) ⟨a_ h rfl,by decide,a_ h rfl,a_ h rfl,a_ h rfl,a_ h rfl,a_ h rfl,a_ h rfl,j⟩
theorem J4 (a:d<=91)(c:k (E.inst 480 [(Q "parts",E.tup [E.tup [E.tup [S "move",E.tup [D x,D y]],E.tup [S "line",E.tup [D<|x+w,D y]],E.tup [S "line",E.tup [D<|x+w,D<|y+h]],E.tup [S "line",E.tup [D x,D<|y+h]],E.tup [S "close"]]])]) b):aN (inl O bS [491,498,505,512,519,526,533,561,480] I I 8) 568 d [P0,D x,D y,D w,D h] b k X:=aj (β:=d+1<=99/\d+1+1<=94/\d+1+1<=94/\d+1<=94/\d+1<=94/\d+1<=99/\d+1+1<=99/\d+1+1<=99/\d+1+1+1<=94/\d+1+1+1<=94/\1<=1000000/\d+1+1<=99/\d+1<=99/\d+1+1<=99/\d+1+1+1<=94/\d+1+1+1<=94/\d+1+1<=99/\d+1+1+1<=99/\d+1+1+1+1<=99/\d+1+1+1<=99/\2<=1000000/\1<=1000000/\d+1+1+1<=99/\d+1<=99/\d+1+1<=99/\d+1+1+1<=94/\d+1+1+1<=94/\d+1+1<=99/\d+1+1+1<=99/\d+1+1+1+1<=99/\d+1+1+1<=99/\3<=1000000/\1<=1000000/\d+1+1+1<=99/\d+1<=99/\d+1+1<=99/\d+1+1+1<=94/\d+1+1+1<=94/\d+1+1<=99/\d+1+1+1<=99/\d+1+1+1+1<=99/\d+1+1+1<=99/\4<=1000000/\1<=1000000/\d+1+1+1<=99/\d+1<=99/\d+1+1<=99/\5<=1000000/\1<=1000000/\d+1+1<=99/\k (E.inst 480 [(Q "parts",E.tup [E.tup [E.tup [S "move",E.tup [D x,D y]],E.tup [S "line",E.tup [D<|x+w,D y]],E.tup [S "line",E.tup [D<|x+w,D<|y+h]],E.tup [S "line",E.tup [D x,D<|y+h]],E.tup [S "close"]]])]) b) (by kernel_rfl) ⟨a_ a rfl,bk a rfl,bk a rfl,a_ a rfl,a_ a rfl,a_ a rfl,bk a rfl,bk a rfl,cM a rfl,cM a rfl,by decide,bk a rfl,a_ a rfl,bk a rfl,cM a rfl,cM a rfl,bk a rfl,cM a rfl,wy a rfl,cM a rfl,by decide,by decide,cM a rfl,a_ a rfl,bk a rfl,cM a rfl,cM a rfl,bk a rfl,cM a rfl,wy a rfl,cM a rfl,by decide,by decide,cM a rfl,a_ a rfl,bk a rfl,cM a rfl,cM a rfl,bk a rfl,cM a rfl,wy a rfl,cM a rfl,by decide,by decide,cM a rfl,a_ a rfl,bk a rfl,by decide,by decide,bk a rfl,c⟩
end
end
mutual
section
open PySem Sh
structure bo where
 (a b c d e f:Int)
def bo.bq (m:bo):Prop:=Mine.Internal.bq m.a/\Mine.Internal.bq m.b/\Mine.Internal.bq m.c/\Mine.Internal.bq m.d/\Mine.Internal.bq m.e/\Mine.Internal.bq m.f
def bo.dh (m:bo):E:=Sh.dh m.a m.b m.c m.d m.e m.f
def bo.lst (m:bo):E:=.lst [.int m.a,.int m.b,.int m.c,.int m.d,.int m.e,.int m.f]
def bo.told (m:bo):E:=.tup [.tup [.int m.a,.int 0],.tup [.int m.b,.int 0],.tup [.int m.c,.int 0],.tup [.int m.d,.int 0],.tup [.int m.e,.int 0],.tup [.int m.f,.int 0]]
def bo.mul (v m:bo):bo:=⟨v.a*m.a+v.b*m.c,v.a*m.b+v.b*m.d,v.c*m.a+v.d*m.c,v.c*m.b+v.d*m.d,m.a*v.e+m.c*v.f+m.e,m.b*v.e+m.d*v.f+m.f⟩
def bo.one:bo:=⟨1,0,0,1,0,0⟩
def bo.x (m:bo)(a y:Int):Int:=m.a*a+m.c*y+m.e
def bo.y (m:bo)(x a:Int):Int:=m.b*x+m.d*a+m.f
structure bX where
 (a b c d e f g h:Int)
def bX.gx (q:bX):E:=.inst 480 [(Q "parts",.tup [.tup [.tup [S "move",.tup [D q.a,D q.b]],.tup [S "line",.tup [D q.c,D q.d]],.tup [S "line",.tup [D q.e,D q.f]],.tup [S "line",.tup [D q.g,D q.h]],.tup [S "close"]]])]
def bX.pt (x y:Int):E:=.tup [.tup [.int x,.int 0],.tup [.int y,.int 0]]
def bX.out (q:bX):E:=.tup [.tup [.tup [S "move",bX.pt q.a q.b],.tup [S "line",bX.pt q.c q.d],.tup [S "line",bX.pt q.e q.f],.tup [S "line",bX.pt q.g q.h],.tup [S "close"]]]
def box (x y w h:Int):bX:=⟨x,y,x+w,y,x+w,y+h,x,y+h⟩
def bX.by (q:bX)(m:bo):bX:=⟨m.x q.a q.b,m.y q.a q.b,m.x q.c q.d,m.y q.c q.d,m.x q.e q.f,m.y q.e q.f,m.x q.g q.h,m.y q.g q.h⟩
def bX.bq (q:bX):Prop:=(Mine.Internal.bq q.a/\Mine.Internal.bq q.b)/\(Mine.Internal.bq q.c/\Mine.Internal.bq q.d)/\(Mine.Internal.bq q.e/\Mine.Internal.bq q.f)/\Mine.Internal.bq q.g/\Mine.Internal.bq q.h
def rg (n x:Int):Prop:=-n<=x/\x<=n
theorem rE {a m:Nat}(h:a<m)(b:(m:Int)<=k+k+1):rg k<|(a:Int) - k:=
 ⟨fx (hA a)<|by simp+arith only,fx (nO (jk.mpr h) b)<|by simp+arith only⟩
theorem rg.add (h:rg n x)(k:rg m y):rg (n+m)<|x+y:=⟨fx (nO h.1 k.1)<|by simp+arith only,nO h.2 k.2⟩
theorem rg.sub (h:rg n x)(k:rg m y):rg (n+m)<|x - y:=⟨fx (nO h.1 k.2)<|by simp+arith only,fx (nO h.2 k.1)<|by simp+arith only⟩
theorem rg.bq (h:rg n x)(d:n<=1000000000000):Mine.Internal.bq x:=⟨fp (RY d) h.1,fp h.2 d⟩
theorem AJ (a:n<=1000000000000)(d:n+m<=1000000000000)(b:rg n x)(c:rg n y)(e:rg m w)(f:rg m h):(box x y w h).bq:=
 ⟨⟨b.bq a,c.bq a⟩,⟨(b.add e).bq d,c.bq a⟩,⟨(b.add e).bq d,(c.add f).bq d⟩,⟨b.bq a,(c.add f).bq d⟩⟩
section
variable {n:bV}{d:Nat}{a:R}{k:E->R->Prop}{X:Prop}
theorem qZ {m:bo}(b:Lv 10 n d)(c:bq x)(e:bq y)(h:k (.tup [D<|m.x x y,D<|m.y x y]) a):(On n).call d (F 421) [m.dh,D x,D y] a k X:=by
 refine bN (c:=[]) (l:=I) (m:=I) bO b λ_=>?_
 exact JM (b.dm rfl) (jh c) (jh e) (jh c) (jh e) h
theorem AB {v m:bo}(b:Lv 10 n d)(c:v.bq)(h:k (v.mul m).dh a):(On n).call d (F 414) [v.dh,m.dh] a k X:=by
 refine bN (c:=[443,421]) (l:=I) (m:=I) bO b λ_=>?_
 refine iw c ?_;clear c;intro e f g i zz;refine aL zz ?_;clear zz;intro j l
 exact Gb (b.dm rfl) (es e) (es f) (es e) (es f) (es g) (es i) (es g) (es i) (jh j) (jh l) (jh j) (jh l) h
theorem L5 {m:bo}(b:Lv 10 n d)(h:k m.told a):(On n).call d (F 440) [m.dh] a k X:=by
 refine bN (c:=[435,138]) (l:=I) (m:=I) bO b λ_=>?_
 exact Kd (b.dm rfl) h
theorem zu (b:Lv 10 n d)(h:k (box x y w v).gx a):(On n).call d (F 568) [P0,D x,D y,D w,D v] a k X:=
 bN (c:=[491,498,505,512,519,526,533,561,480]) (l:=I) (m:=I) bO b λ_=>J4 (b.dm rfl) h
end
end
end
mutual
section
open Sh PySem PySem.W PyProof.Rows PySem.Calls
theorem Kh {q:bX}{m:bo}(c:wp (aV (a.alloc<|au.lst []) (E.loc a.2)<|Q "append") λe=>5<=1000000/\1<=1000000/\d+1<=99/\O.aE (d+1+1) (E.inst 443 [(Q "a",D m.a),(Q "b",D m.b),(Q "c",D m.c),(Q "d",D m.d),(Q "e",D m.e),(Q "f",D m.f)]) (Q "applied") (cL.fn 421) [D q.a,D q.b] (a.alloc<|au.lst []) (λf g=>2<=1000000/\1<=1000000/\d+1<=99/\O.aE (d+1+1) (E.inst 443 [(Q "a",D m.a),(Q "b",D m.b),(Q "c",D m.c),(Q "d",D m.d),(Q "e",D m.e),(Q "f",D m.f)]) (Q "applied") (cL.fn 421) [D q.c,D q.d] g (λh i=>2<=1000000/\1<=1000000/\d+1<=99/\O.aE (d+1+1) (E.inst 443 [(Q "a",D m.a),(Q "b",D m.b),(Q "c",D m.c),(Q "d",D m.d),(Q "e",D m.e),(Q "f",D m.f)]) (Q "applied") (cL.fn 421) [D q.e,D q.f] i (λj l=>2<=1000000/\1<=1000000/\d+1<=99/\O.aE (d+1+1) (E.inst 443 [(Q "a",D m.a),(Q "b",D m.b),(Q "c",D m.c),(Q "d",D m.d),(Q "e",D m.e),(Q "f",D m.f)]) (Q "applied") (cL.fn 421) [D q.g,D q.h] l (λn p=>2<=1000000/\0<=1000000/\1<=1000000/\O.aE (d+1) (E.loc a.2) (Q "append") e [E.tup [E.tup [S "move",f],E.tup [S "line",h],E.tup [S "line",j],E.tup [S "line",n],E.tup [S "close"]]] p (λt r=>wp (bG r<|E.loc a.2) λb=>wp (dB b.snd (cX "tuple") [b.1]) λs=>d+1<=99/\k (E.inst 480 [(Q "parts",s)]) b.snd) X) False) False) False) False):aN (inl O bS [480] I N 8) 573 d [q.gx,.bR 295028 [(Q "matrix",m.dh)]] a k X:=aj (by kernel_rfl) c
theorem IT {q:bX}(c:wp (aV (a.alloc<|au.lst []) (E.loc a.2)<|Q "append") λe=>5<=1000000/\1<=1000000/\d+1<=99/\O.aE (d+1+1) (D q.a) (Q "told") (cL.fn 138) [] (a.alloc<|au.lst []) (λf g=>O.aE (d+1+1) (D q.b) (Q "told") (cL.fn 138) [] g (λh i=>2<=1000000/\1<=1000000/\d+1<=99/\O.aE (d+1+1) (D q.c) (Q "told") (cL.fn 138) [] i (λj l=>O.aE (d+1+1) (D q.d) (Q "told") (cL.fn 138) [] l (λm n=>2<=1000000/\1<=1000000/\d+1<=99/\O.aE (d+1+1) (D q.e) (Q "told") (cL.fn 138) [] n (λp r=>O.aE (d+1+1) (D q.f) (Q "told") (cL.fn 138) [] r (λs t=>2<=1000000/\1<=1000000/\d+1<=99/\O.aE (d+1+1) (D q.g) (Q "told") (cL.fn 138) [] t (λx y=>O.aE (d+1+1) (D q.h) (Q "told") (cL.fn 138) [] y (λz A=>2<=1000000/\0<=1000000/\1<=1000000/\O.aE (d+1) (E.loc a.2) (Q "append") e [E.tup [E.tup [S "move",E.tup [f,h]],E.tup [S "line",E.tup [j,m]],E.tup [S "line",E.tup [p,s]],E.tup [S "line",E.tup [x,z]],E.tup [S "close"]]] A (λP B=>wp (bG B<|E.loc a.2) λb=>wp (dB b.snd (cX "tuple") [b.1]) λM=>d+1<=99/\k (E.inst 480 [(Q "parts",M)]) b.snd) X) False) False) False) False) False) False) False) False):aN (inl O bS [480] I N 8) 573 d [q.gx,.bR 297028 []] a k X:=aj (by kernel_rfl) c
theorem HG (a:(ki (mz 580)<|H 575)/\O.call (d+1) (F 573) [b,E.bR 295028 [(Q "matrix",c)]] e k X):aN O 580 d [b,c] e k X:=aj (by kernel_rfl) a
theorem OB (b:(ki (mz 587)<|H 582)/\O.call (d+1) (F 573) [c,E.bR 297028 []] e (λf a=>wp (aw a f<|Q "parts") λg=>k g a) X):aN O 587 d [c] e k X:=aj (by kernel_rfl) b
theorem Ov (a:k (E.tup [E.int x,E.int 0]) b):aN (inl O eh [] I I 8) 138 d [D x] b k X:=aj (by kernel_rfl) a
theorem FO (a:k (E.tup [E.int x,E.int y]) b):aN (inl O eh [] I I 8) 138 d [.inst 155 [(Q "top",.int x),(Q "places",.int y)]] b k X:=aj (by kernel_rfl) a
end
end
mutual
section
open PySem Sh
def yb (e:aD):Option ps×Option ps:=match e with
 |.Lambda a b c d=>(mw<|qR d,H ⟨a.args.map (·.arg),b,c.names⟩)
 |_=>(T,T)
def u_:Option fq->Bool
 |H .local=>I
 |_=>N
theorem GI (h:u_ k=I):k=H .local:=by
 cases k with
 |none=>exact ff h
 |some k=>cases k with
  |«local»=>rfl
  |_=>exact ff h
def Jh (e:aD):Bool:=match e with
 |.Lambda a _ s _=>a.posonlyargs.isEmpty && a.kwonlyargs.isEmpty && a.vararg.isNone && a.kwarg.isNone && a.defaults.isEmpty && a.kw_defaults.isEmpty && !s.isCoroutine && !s.isGenerator && mV s && aP (a.args.map (·.arg)).Nodup && (a.args.map (·.arg)).all λx=>u_<|aZ x s.names
 |_=>N
def BY (e:aD):Nat×Nat:=match e with
 |.Lambda _ _ _ p=>(p.line,p.col)
 |_=>(0,0)
set_option tactic.hygienic true in
theorem wg {P:Nat}(d:(yb e).1=(yb e).2)(c:Jh e=I)(g:lU P=H ((BY e).1,(BY e).2,q)):ki e<|H P:=by
 cases e with
 |Lambda a b s p=>
  have c:(a.posonlyargs.isEmpty && a.kwonlyargs.isEmpty && a.vararg.isNone && a.kwarg.isNone && a.defaults.isEmpty && a.kw_defaults.isEmpty && !s.isCoroutine && !s.isGenerator && mV s && aP (a.args.map (·.arg)).Nodup && (a.args.map (·.arg)).all λx=>u_<|aZ x s.names)=I:=c
  simp only [eI,lg,Sn,EU,eU,decide_eq_true_eq] at c
  refine aL c ?_;clear c;rintro ⟨⟨⟨⟨⟨⟨⟨⟨⟨h,i⟩,j⟩,k⟩,l⟩,m⟩,n⟩,r⟩,t⟩,y⟩ z
  have f:=A_ t
  exact ⟨⟨d,⟨h,i,j,k,l,m,n,r,f.kind,f.jH,y,λx A=>GI<|z x A,f.free⟩⟩,P,q,rfl,g⟩
 |_=>exact ff c
theorem Oi:ki (mz 580)<|H 575:=wg (q:=Q "transformed.<locals>.<lambda>") (by kernel_rfl) (by kernel_rfl)<|by kernel_rfl
theorem Iw:ki (mz 587)<|H 582:=wg (q:=Q "told_path.<locals>.<lambda>") (by kernel_rfl) (by kernel_rfl)<|by kernel_rfl
theorem Mo:ki (mz 1043)<|H 1040:=wg (q:=Q "law.<locals>.<lambda>") (by kernel_rfl) (by kernel_rfl)<|by kernel_rfl
theorem vT {a:R}:(a.free l).get x=if x=l then T else a.get x:=rfl
theorem bP {a:R}:(a.set l o).get l=H o:=if_pos rfl
theorem kj {a:R}(h:x≠l):(a.set l o).get x=a.get x:=if_neg h
theorem eg {a:R}:(a.alloc o).get a.next=H o:=if_pos rfl
theorem y_ {a:R}(h:x<a.next):(a.alloc o).get x=a.get x:=if_neg<|cA h
structure Fr (a b:R)(L:List Nat):Prop where
 next:a.next<=b.next
 get:∀l,l<a.next->l∉L->b.get l=a.get l
theorem Fr.refl (a) (L):Fr a a L:=⟨aT _,λ_ _ _=>rfl⟩
theorem Fr.trans (h:Fr b c L)(a:Fr c d L):Fr b d L:=
 ⟨ai h.next a.next,λl q m=>by refine J (a.get l (bE q h.next) m) ?_;exact J (h.get l q m) rfl⟩
theorem Fr.sub (h:Fr d e L)(q:∀l,l∈L->l∈L'):Fr d e L':=⟨h.next,λl a b=>h.get l a λc=>b<|q l c⟩
theorem Fr.alloc (h:Fr a b L):Fr a (b.alloc o) L:=
 ⟨jX h.next,λl q m=>by refine J (y_<|bE q h.next) ?_;exact J (h.get l q m) rfl⟩
theorem Fr.set (h:Fr a b L)(c:a.next<=x\/x∈L):Fr a (b.set x o) L:=
 ⟨h.next,λl q m=>by
  refine J (kj λe=>by subst e;cases c with
   |inl g=>(exact uG (bK q g)<|by simp+arith only)
   |inr g=>exact m g) ?_;exact J (h.get l q m) rfl⟩
theorem Fr.free (h:Fr a b L)(c:a.next<=x\/x∈L):Fr a (b.free x) L:=
 ⟨h.next,λl q m=>by
  refine J vT ?_;refine J (if_neg λe=>by subst e;cases c with
   |inl g=>(exact uG (bK q g)<|by simp+arith only)
   |inr g=>exact m g) ?_;exact J (h.get l q m) rfl⟩
section
variable {n:bV}{d:Nat}{a:R}
theorem fy {r:aY b}{e:b}{k:b->Prop}(h:r=.ok c e)(f:c.ok)(g:k e):wp r k:=by refine J h ?_;exact ek.mk f g
theorem aR {r:aY b}{c:b}{k:b->Prop}(h:r=.ok .t c)(e:k c):wp r k:=by refine J h ?_;exact e
theorem eR (h:a.get l=H o)(e:rh b (fh l<|H o)=H v)(c:jF v=N)(f:k v):wp (aw a (.loc l) b) k:=by
 refine aR (c:=v) ?_ f
 show (oo (rh b<|fh l<|a.get l)>>=λv=>gM (!jF v)>>=λ_=>aS v)=_
 refine aW h▸aW e▸?_
 show aY.bind (.ok .t v) _=_
 unfold aY.bind
 dsimp only
 refine J c ?_;rfl
theorem il (h:a.get l=H o)(e:q_ a l b v (H o)=H c)(f:k c):wp (setField a (.loc l) b v) k:=by
 refine aR (c:=c) ?_ f
 show oo (q_ a l b v<|a.get l)=_
 refine J h ?_;refine J e ?_;rfl
theorem cg (h:(On n).call d (F f) (b::c) a k X):(On n).aE d b m (.fn f) c a k X:=n.r.aE h
theorem N9 (h:(On n).call d g b a k X):(On n).aE d c m (.bR g) b a k X:=n.r.aE h
theorem BK (h:wp (qC a b m c) λr=>k r.1 r.2):(On n).aE d b m .blt c a k X:=n.r.aE h
theorem mP (h:a.get l=H o)(e:qU m (qi m<|H o) (fh l<|H o)=.ok .t r)(b:k r):wp (aV a (.loc l) m) k:=by
 refine aR (c:=r) ?_ b
 show qU m (qi m<|a.get l) (fh l<|a.get l)=_
 refine J h ?_;exact e
theorem uO (h:a.get l=H o)(e:qh a l m b (H o)=.ok c (v,f))(g:c.ok)(i:k v f):(On n).aE d (.loc l) m .blt b a k X:=by
 refine BK<|fy (c:=c) (e:=(v,f)) ?_ g i
 show qh a l m b (a.get l)=_
 refine J h ?_;exact e
theorem cU (h:a.get l=H (.lst c))(b:k .blt):wp (aV a (.loc l)<|Q "append") k:=mP h (by kernel_rfl) b
theorem B4 (h:a.get l=H (.lst c))(b:k .blt):wp (aV a (.loc l)<|Q "insert") k:=mP h (by kernel_rfl) b
theorem uK (h:a.get l=H (.lst c))(b:k .blt):wp (aV a (.loc l)<|Q "pop") k:=mP h (by kernel_rfl) b
theorem vM (h:a.get l=H (.lst c))(f:lX m e c=H (b,r))(g:b.length<=1000000)(i:k r<|a.set l<|.lst b):(On n).aE d (.loc l) m .blt e a k X:=by
 refine uO (c:=.p<|b.length<=1000000) h ?_ g i
 show bJ (lX m e c) _=_
 refine J f ?_;rfl
theorem eo (h:a.get l=H (.lst b))(c:b.length<1000000)(e:k .none<|a.set l<|.lst<|b++[v]):(On n).aE d (.loc l) (Q "append") .blt [v] a k X:=
 vM h (by kernel_rfl) (by refine J eJ ?_;simp;exact tw c) e
theorem vJ (h:a.get l=H (.lst<|b++[v]))(c:b.length<=1000000)(e:k v<|a.set l<|.lst b):(On n).aE d (.loc l) (Q "pop") .blt [] a k X:=
 vM h (by
  have:lX (Q "pop") [] (b++[v])=(b++[v]).getLast?.map λw=>((b++[v]).dropLast,w):=by kernel_rfl
  simp only [this]
  simp) c e
theorem hN (h:a.get l=H (.lst b))(c:k (.lst b,a.free l)):wp (bG a<|.loc l) k:=by
 have e:bG a (.loc l)=.ok .t (.lst b,a.free l):=by
  unfold bG
  dsimp only
  refine J h ?_
  rfl
 exact aR e c
theorem pe (h:a.get l=H (.aa b))(c:k (.aa b,a.free l)):wp (bG a<|.loc l) k:=by
 have e:bG a (.loc l)=.ok .t (.aa b,a.free l):=by
  unfold bG
  dsimp only
  refine J h ?_
  rfl
 exact aR e c
end
end
mutual
section
variable {n:bV}{d:Nat}{a:R}{k:E->R->Prop}{X:Prop}
theorem kU (b:Lv 10 n d)(h:k (.tup [.int x,.int 0]) a):(On n).call d (F 138) [D x] a k X:=by
 refine ke (e:=[]) (f:=I) (g:=I) b.lt ?_
 refine Ov ?_
 simpa only [true_and,and_true] using h
theorem IP (b:Lv 10 n d)(h:k (.tup [.int x,.int y]) a):(On n).call d (F 138) [.inst 155 [(Q "top",.int x),(Q "places",.int y)]] a k X:=by
 refine ke (e:=[]) (f:=I) (g:=I) b.lt ?_
 refine FO ?_
 simpa only [true_and,and_true] using h
theorem Nr {q:bX}(e:Lv 14 n d)(f:q.bq)(h:∀g,Fr a g []->k (q.by m).gx g):(On n).call d (F 573) [q.gx,.bR 295028 [(Q "matrix",m.dh)]] a k X:=by
 refine bN (c:=[480]) (l:=I) (m:=N) bO e λe=>?_
 have b:=e.depth
 refine hJ f ?_;clear f;rintro ⟨i,j⟩ ⟨l,p⟩ ⟨r,s⟩ ⟨t,x⟩
 refine Kh ?_
 simp only [true_and,and_true,Fe]
 have c:Lv 10 n<|d+1+1:=⟨by exact ay b<|by simp+arith only⟩
 refine cU eg ?_
 refine ⟨by exact ay b<|by simp+arith only,cg<|qZ (m:=m) c i j ⟨by exact ay b<|by simp+arith only,cg<|qZ (m:=m) c l p ⟨by exact ay b<|by simp+arith only,cg<|qZ (m:=m) c r s ⟨by exact ay b<|by simp+arith only,cg<|qZ (m:=m) c t x ?_⟩⟩⟩⟩
 refine eo eg (by trivial) ?_
 refine hN bP ?_
 refine aR (c:=.tup _) rfl ?_
 refine ⟨by exact ay b<|by simp+arith only,h _ ?_⟩
 exact ((Fr.refl a []).alloc (o:=.lst []).set<|.inl<|aT _).free<|.inl<|aT _
theorem Q0 {q:bX}(e:Lv 14 n d)(h:∀f,Fr a f []->k (.inst 480 [(Q "parts",q.out)]) f):(On n).call d (F 573) [q.gx,.bR 297028 []] a k X:=by
 refine bN (c:=[480]) (l:=I) (m:=N) bO e λe=>?_
 have c:=e.depth
 refine IT ?_
 simp only [true_and,and_true,Fe]
 have b:Lv 10 n<|d+1+1:=⟨by exact ay c<|by simp+arith only⟩
 refine cU eg ?_
 refine ⟨by exact ay c<|by simp+arith only,cg<|kU b<|cg<|kU b ⟨by exact ay c<|by simp+arith only,cg<|kU b<|cg<|kU b ⟨by exact ay c<|by simp+arith only,cg<|kU b<|cg<|kU b ⟨by exact ay c<|by simp+arith only,cg<|kU b<|cg<|kU b ?_⟩⟩⟩⟩
 refine eo eg (by trivial) ?_
 refine hN bP ?_
 refine aR (c:=.tup _) rfl ?_
 refine ⟨by exact ay c<|by simp+arith only,h _ ?_⟩
 exact ((Fr.refl a []).alloc (o:=.lst []).set<|.inl<|aT _).free<|.inl<|aT _
theorem By {q:bX}(b:Lv 15 n d)(e:q.bq)(h:∀c,Fr a c []->k (q.by m).gx c):(On n).call d (F 580) [q.gx,m.dh] a k X:=by
 refine cq b λb=>?_
 refine HG ?_
 exact ⟨Oi,Nr b e h⟩
theorem wj {q:bX}(c:Lv 15 n d)(h:∀b,Fr a b []->k q.out b):(On n).call d (F 587) [q.gx] a k X:=by
 refine cq c λc=>?_
 refine OB ?_
 refine ⟨Iw,Q0 c λb f=>?_⟩
 have e:aw b (.inst 480 [(Q "parts",q.out)]) (Q "parts")=.ok .t q.out:=by kernel_rfl
 exact aR e<|h _ f
end
end
end
mutual
section
open Sh PySem PySem.W PyProof.Rows PySem.Calls
theorem MR {O:Or}(b:wp (aw a (E.loc p)<|Q "path") λc=>wp (aw a c<|Q "parts") λe=>wp (ax a .NotEq e<|E.tup []) λf=>match f with|I=>wp (bQ<|d+1) λi=>15<=1000/\X|N=>wp (aw a (E.loc p)<|Q "text") λg=>wp (ax a .IsNot g E.none) λh=>match h with|I=>wp (bQ<|d+1) λj=>15<=1000/\X|N=>k E.none a):aN (inl O bS [] N N 8) 771 d [.loc p,S "q"] a k X:=aj (by kernel_rfl) b
theorem KP (b:wp (aw a (E.loc p)<|Q "path") λc=>wp (aw a c<|Q "parts") λe=>wp (ax a .NotEq e<|E.tup []) λf=>match f with|I=>wp (bQ<|d+1) λi=>15<=1000/\X|N=>wp (aw a (E.loc p)<|Q "text") λg=>wp (ax a .IsNot g E.none) λh=>match h with|I=>wp (bQ<|d+1) λj=>15<=1000/\X|N=>k E.none a):aN (inl O bS [] N N 8) 771 d [.loc p,S "Q"] a k X:=aj (by kernel_rfl) b
theorem PY (b:wp (aw a (E.loc p)<|Q "path") λc=>wp (aw a c<|Q "parts") λe=>wp (ax a .NotEq e<|E.tup []) λf=>match f with|I=>wp (bQ<|d+1) λi=>16<=1000/\X|N=>wp (aw a (E.loc p)<|Q "text") λg=>wp (ax a .IsNot g E.none) λh=>match h with|I=>wp (bQ<|d+1) λj=>16<=1000/\X|N=>k E.none a):aN (inl O bS [] N N 8) 771 d [.loc p,S "cm"] a k X:=aj (by kernel_rfl) b
theorem Gm (b:wp (aw a (E.loc p)<|Q "path") λc=>wp (aw a c<|Q "parts") λe=>wp (ax a .NotEq e<|E.tup []) λf=>match f with|I=>wp (bQ<|d+1) λi=>15<=1000/\X|N=>wp (aw a (E.loc p)<|Q "text") λg=>wp (ax a .IsNot g E.none) λh=>match h with|I=>k E.none a|N=>k E.none a):aN (inl O bS [] N N 8) 771 d [.loc p,S "g"] a k X:=aj (by kernel_rfl) b
theorem LV (b:wp (aw a (E.loc p)<|Q "path") λc=>wp (aw a c<|Q "parts") λe=>wp (ax a .NotEq e<|E.tup []) λf=>match f with|I=>(wp (aw a (E.loc p)<|Q "text") λg=>wp (ax a .IsNot g E.none) λh=>match h with|I=>wp (bQ<|d+1) λl=>16<=1000/\X|N=>k E.none a)|N=>wp (aw a (E.loc p)<|Q "text") λi=>wp (ax a .IsNot i E.none) λj=>match j with|I=>wp (bQ<|d+1) λm=>16<=1000/\X|N=>k E.none a):aN (inl O bS [] N N 8) 771 d [.loc p,S "re"] a k X:=aj (by kernel_rfl) b
theorem Jw (b:wp (aw a (E.loc p)<|Q "path") λc=>wp (aw a c<|Q "parts") λe=>wp (ax a .NotEq e<|E.tup []) λf=>match f with|I=>(wp (aw a (E.loc p)<|Q "text") λg=>wp (ax a .IsNot g E.none) λh=>match h with|I=>wp (bQ<|d+1) λl=>15<=1000/\X|N=>k E.none a)|N=>wp (aw a (E.loc p)<|Q "text") λi=>wp (ax a .IsNot i E.none) λj=>match j with|I=>wp (bQ<|d+1) λm=>15<=1000/\X|N=>k E.none a):aN (inl O bS [] N N 8) 771 d [.loc p,S "f"] a k X:=aj (by kernel_rfl) b
theorem HO (b:wp (aw a (E.loc p)<|Q "path") λc=>wp (aw a c<|Q "parts") λe=>wp (ax a .NotEq e<|E.tup []) λf=>match f with|I=>(wp (aw a (E.loc p)<|Q "text") λg=>wp (ax a .IsNot g E.none) λh=>match h with|I=>wp (bQ<|d+1) λl=>15<=1000/\X|N=>k E.none a)|N=>wp (aw a (E.loc p)<|Q "text") λi=>wp (ax a .IsNot i E.none) λj=>match j with|I=>wp (bQ<|d+1) λm=>15<=1000/\X|N=>k E.none a):aN (inl O bS [] N N 8) 771 d [.loc p,S "W"] a k X:=aj (by kernel_rfl) b
theorem N_ (b:wp (aw a (E.loc p)<|Q "path") λc=>wp (aw a c<|Q "parts") λe=>wp (ax a .NotEq e<|E.tup []) λf=>match f with|I=>(wp (aw a (E.loc p)<|Q "text") λg=>wp (ax a .IsNot g E.none) λh=>match h with|I=>wp (bQ<|d+1) λl=>15<=1000/\X|N=>k E.none a)|N=>wp (aw a (E.loc p)<|Q "text") λi=>wp (ax a .IsNot i E.none) λj=>match j with|I=>wp (bQ<|d+1) λm=>15<=1000/\X|N=>k E.none a):aN (inl O bS [] N N 8) 771 d [.loc p,S "n"] a k X:=aj (by kernel_rfl) b
theorem G0 (b:wp (aw a (E.loc p)<|Q "path") λc=>wp (aw a c<|Q "parts") λe=>wp (ax a .NotEq e<|E.tup []) λf=>match f with|I=>wp (bQ<|d+1) λi=>16<=1000/\X|N=>wp (aw a (E.loc p)<|Q "text") λg=>wp (ax a .IsNot g E.none) λh=>match h with|I=>wp (bQ<|d+1) λj=>16<=1000/\X|N=>k E.none a):aN (inl O bS [] N N 8) 771 d [.loc p,S "BI"] a k X:=aj (by kernel_rfl) b
theorem Pt (b:wp (aw a (E.loc p)<|Q "path") λc=>wp (aw a c<|Q "parts") λe=>wp (ax a .NotEq e<|E.tup []) λf=>match f with|I=>wp (bQ<|d+1) λi=>16<=1000/\X|N=>wp (aw a (E.loc p)<|Q "text") λg=>wp (ax a .IsNot g E.none) λh=>match h with|I=>k E.none a|N=>k E.none a):aN (inl O bS [] N N 8) 771 d [.loc p,S "BX"] a k X:=aj (by kernel_rfl) b
theorem PC (b:wp (aw a (E.loc p)<|Q "path") λc=>wp (aw a c<|Q "parts") λe=>wp (ax a .NotEq e<|E.tup []) λf=>match f with|I=>wp (bQ<|d+1) λi=>16<=1000/\X|N=>wp (aw a (E.loc p)<|Q "text") λg=>wp (ax a .IsNot g E.none) λh=>match h with|I=>k E.none a|N=>k E.none a):aN (inl O bS [] N N 8) 771 d [.loc p,S "EX"] a k X:=aj (by kernel_rfl) b
theorem OU (b:wp (aw a (E.loc p)<|Q "path") λc=>wp (aw a c<|Q "parts") λe=>wp (ax a .NotEq e<|E.tup []) λf=>match f with|I=>wp (bQ<|d+1) λi=>16<=1000/\X|N=>wp (aw a (E.loc p)<|Q "text") λg=>wp (ax a .IsNot g E.none) λh=>match h with|I=>k E.none a|N=>k E.none a):aN (inl O bS [] N N 8) 771 d [.loc p,S "zz"] a k X:=aj (by kernel_rfl) b
theorem I0 (b:wp (aw a (E.loc p)<|Q "path") λc=>wp (aw a c<|Q "parts") λe=>wp (ax a .NotEq e<|E.tup []) λf=>match f with|I=>wp (bQ<|d+1) λi=>16<=1000/\X|N=>wp (aw a (E.loc p)<|Q "text") λg=>wp (ax a .IsNot g E.none) λh=>match h with|I=>wp (bQ<|d+1) λj=>16<=1000/\X|N=>k E.none a):aN (inl O bS [] N N 8) 771 d [.loc p,S "Do"] a k X:=aj (by kernel_rfl) b
theorem Nm (c:O.call (d+1) (F 771) [E.loc p,S "q"] e (λl a=>d+1<=99/\wp (aw a (E.loc p)<|Q "pile") λb=>wp (aV a b<|Q "append") λf=>wp (aw a (E.loc p)<|Q "state") λg=>O.call (d+1+1) (F 637) [g] a (λh i=>O.aE (d+1+1) b (Q "append") f [h] i (λm j=>k E.none j) X) X) X):aN (inl O bS [792] I N 8) 778 d [.loc p,S "q",.lst []] e k X:=aj (by kernel_rfl) c
theorem zZ (c:O.call (d+1) (F 771) [E.loc p,S "Q"] e (λq a=>d+1<=99/\wp (aw a (E.loc p)<|Q "pile") λf=>wp (dB a (dR "len") [f]) λg=>wp (aw a (E.loc p)<|Q "floor") λh=>wp (ax a .LtE g h) λi=>match i with|I=>wp (bQ<|d+1+1) λr=>X|N=>wp (aw a (E.loc p)<|Q "pile") λb=>wp (aV a b<|Q "pop") λj=>O.aE (d+1+1) b (Q "pop") j [] a (λl m=>wp (setField m (E.loc p) (Q "state") l) λn=>k E.none n) X) X):aN (inl O bS [792] I N 8) 778 d [.loc p,S "Q",.lst []] e k X:=aj (by kernel_rfl) c
theorem Kg {v:bo}(c:O.call (d+1) (F 771) [E.loc p,S "cm"] e (λl a=>d+1<=99/\d+1+1<=99/\d+1+1+1<=99/\d+1+1+1+1<=99/\d+1+1+1+1+1<=99/\d+1+1+1+1<=99/\d+1+1+1+1+1<=99/\d+1+1+1+1<=99/\d+1+1+1+1+1<=99/\d+1+1+1+1<=99/\d+1+1+1+1+1<=99/\d+1+1+1+1<=99/\d+1+1+1+1+1<=99/\d+1+1+1+1<=99/\d+1+1+1+1+1<=99/\6<=1000000/\d+1+1+1+1<=94/\d+1+1+1+1<=94/\d+1+1+1+1<=94/\d+1+1+1+1<=94/\d+1+1+1+1<=94/\d+1+1+1+1<=94/\d+1+1+1<=99/\d+1+1+1+1<=94/\d+1+1+1+1<=94/\d+1+1+1+1<=94/\d+1+1+1+1<=94/\d+1+1+1+1<=94/\d+1+1+1+1<=94/\wp (aw a (E.loc p)<|Q "state") λf=>wp (aw a f<|Q "matrix") λg=>O.aE (d+1+1) (E.inst 443 [(Q "a",D v.a),(Q "b",D v.b),(Q "c",D v.c),(Q "d",D v.d),(Q "e",D v.e),(Q "f",D v.f)]) (Q "times") (cL.fn 414) [g] a (λh b=>wp (aw b (E.loc p)<|Q "state") λi=>wp (setField b i (Q "matrix") h) λj=>k E.none j) X) X):aN (inl O bS [792,799,642,293,286,443] I N 8) 778 d [.loc p,S "cm",v.lst] e k X:=aj (by kernel_rfl) c
theorem JY (b:O.call (d+1) (F 771) [E.loc p,S "g"] c (λg a=>wp (aw a (E.loc p)<|Q "state") λe=>O.call (d+1) (F 684) [e,S "g",E.lst [t]] a (λh f=>k E.none f) X) X):aN (inl O bS [] I N 8) 778 d [.loc p,S "g",.lst [t]] c k X:=aj (by kernel_rfl) b
theorem Lf (f:O.call (d+1) (F 771) [E.loc p,S "re"] g (λB a=>d+1<=99/\wp (aw a (E.loc p)<|Q "rule") λi=>wp (ax a .NotEq i<|S "") λj=>match j with|I=>wp (bQ<|d+1+1) λM=>11<=1000/\X|N=>d+1+1<=99/\d+1+1+1<=99/\d+1+1+1+1<=99/\d+1+1+1<=99/\d+1+1+1+1<=99/\d+1+1+1<=99/\d+1+1+1+1<=99/\d+1+1+1<=99/\d+1+1+1+1<=99/\4<=1000000/\d+1+1+1<=94/\d+1+1+1<=94/\d+1+1+1<=94/\d+1+1+1<=94/\wp (aw a (E.loc p)<|Q "state") λl=>wp (aw a l<|Q "matrix") λm=>d+1+1<=99/\O.call (d+1+1) (F 568) [E.inst 480 [(Q "parts",E.tup [])],D x,D y,D w,D h] a (λn b=>wp (aw b (E.loc p)<|Q "path") λq=>O.call (d+1+1) (F 512) [q] b (λr s=>O.call (d+1+1) (F 580) [n,m] s (λt c=>wp (aw c t<|Q "parts") λz=>wp (bA N N c .Add r z) λe=>d+1+1<=99/\wp (setField e.snd (E.loc p) (Q "path")<|E.inst 480 [(Q "parts",e.1)]) λA=>k E.none A) X) X) X) X):aN (inl O bS [818,642,293,286,480] I N 8) 778 d [.loc p,S "re",.lst [.int x,.int y,.int w,.int h]] g k X:=aj (by kernel_rfl) f
theorem H3 (e:O.call (d+1) (F 771) [E.loc p,S "f"] f (λz a=>d+1<=99/\wp (aw a (E.loc p)<|Q "path") λg=>wp (aw a g<|Q "parts") λh=>wp (ax a .Eq h<|E.tup []) λi=>match i with|I=>wp (bQ<|d+1+1) λA=>16<=1000/\X|N=>wp (aw a (E.loc p)<|Q "path") λc=>wp (aw a (E.loc p)<|Q "state") λj=>wp (aw a j<|Q "fill") λl=>O.call (d+1+1) (F 764) [E.loc p,E.tup [S "fill",S "nonzero",c,l]] a (λB b=>wp (aw b (E.loc p)<|Q "rule") λm=>wp (ax b .NotEq m<|S "") λn=>match n with|I=>wp (aw b (E.loc p)<|Q "rule") λq=>O.call (d+1+1) (F 839) [E.loc p,q,c] b (λM r=>d+1+1<=99/\wp (setField r (E.loc p) (Q "path")<|E.inst 480 [(Q "parts",E.tup [])]) λs=>wp (setField s (E.loc p) (Q "rule")<|S "") λt=>k E.none t) X|N=>d+1+1<=99/\wp (setField b (E.loc p) (Q "path")<|E.inst 480 [(Q "parts",E.tup [])]) λx=>wp (setField x (E.loc p) (Q "rule")<|S "") λy=>k E.none y) X) X):aN (inl O bS [832,480] I N 8) 778 d [.loc p,S "f",.lst []] f k X:=aj (by kernel_rfl) e
theorem Gk (b:O.call (d+1) (F 771) [E.loc p,S "W"] c (λl a=>d+1<=99/\wp (aw a (E.loc p)<|Q "path") λe=>wp (aw a e<|Q "parts") λf=>wp (ax a .Eq f<|E.tup []) λg=>match g with|I=>wp (bQ<|d+1+1) λm=>27<=1000/\X|N=>wp (aw a (E.loc p)<|Q "rule") λh=>wp (ax a .NotEq h<|S "") λi=>match i with|I=>wp (bQ<|d+1+1) λn=>27<=1000/\X|N=>wp (setField a (E.loc p) (Q "rule")<|S "nonzero") λj=>k E.none j) X):aN (inl O bS [825] I N 8) 778 d [.loc p,S "W",.lst []] c k X:=aj (by kernel_rfl) b
theorem Ik (b:O.call (d+1) (F 771) [E.loc p,S "n"] c (λt a=>d+1<=99/\wp (aw a (E.loc p)<|Q "path") λe=>wp (aw a e<|Q "parts") λf=>wp (ax a .Eq f<|E.tup []) λg=>match g with|I=>wp (bQ<|d+1+1) λx=>16<=1000/\X|N=>wp (aw a (E.loc p)<|Q "path") λh=>wp (aw a (E.loc p)<|Q "state") λy=>wp (aw a (E.loc p)<|Q "rule") λi=>wp (ax a .NotEq i<|S "") λj=>match j with|I=>wp (aw a (E.loc p)<|Q "rule") λl=>O.call (d+1+1) (F 839) [E.loc p,l,h] a (λz m=>d+1+1<=99/\wp (setField m (E.loc p) (Q "path")<|E.inst 480 [(Q "parts",E.tup [])]) λn=>wp (setField n (E.loc p) (Q "rule")<|S "") λq=>k E.none q) X|N=>d+1+1<=99/\wp (setField a (E.loc p) (Q "path")<|E.inst 480 [(Q "parts",E.tup [])]) λr=>wp (setField r (E.loc p) (Q "rule")<|S "") λs=>k E.none s) X):aN (inl O bS [832,480] I N 8) 778 d [.loc p,S "n",.lst []] c k X:=aj (by kernel_rfl) b
theorem Gz (b:O.call (d+1) (F 771) [E.loc p,S "BI"] c (λh a=>d+1<=99/\wp (aw a (E.loc p)<|Q "state") λe=>wp (aw a e<|Q "matrix") λf=>O.call (d+1+1) (F 764) [E.loc p,E.tup [S "image",S "",f]] a (λi g=>k E.none g) X) X):aN (inl O bS [785] I N 8) 778 d [.loc p,S "BI",.lst [.aa [],.inst 226 [(Q "octets",.dk #[]),(Q "is_hex",.bool N)]]] c k X:=aj (by kernel_rfl) b
theorem N5 (c:O.call (d+1) (F 771) [E.loc p,S "BX"] e (λh a=>d+1<=99/\wp (aw a (E.loc p)<|Q "skips") λf=>wp (bA N N a .Add f<|E.int 1) λb=>wp (setField b.snd (E.loc p) (Q "skips") b.1) λg=>k E.none g) X):aN (inl O bS [785] I N 8) 778 d [.loc p,S "BX",.lst []] e k X:=aj (by kernel_rfl) c
theorem AP (c:O.call (d+1) (F 771) [E.loc p,S "EX"] e (λj a=>d+1<=99/\wp (aw a (E.loc p)<|Q "skips") λf=>wp (ax a .Eq f<|E.int 0) λg=>match g with|I=>wp (bQ<|d+1+1) λl=>X|N=>wp (aw a (E.loc p)<|Q "skips") λh=>wp (bA N N a .Sub h<|E.int 1) λb=>wp (setField b.snd (E.loc p) (Q "skips") b.1) λi=>k E.none i) X):aN (inl O bS [785] I N 8) 778 d [.loc p,S "EX",.lst []] e k X:=aj (by kernel_rfl) c
theorem CJ (b:O.call (d+1) (F 771) [E.loc p,S "zz"] c (λg a=>d+1<=99/\wp (aw a (E.loc p)<|Q "skips") λe=>wp (ax a .Eq e<|E.int 0) λf=>match f with|I=>wp (bQ<|d+1+1) λh=>15<=1000/\X|N=>k E.none a) X):aN (inl O bS [785] I N 8) 778 d [.loc p,S "zz",.lst []] c k X:=aj (by kernel_rfl) b
theorem Jv (a:O.call (d+1) (F 771) [E.loc p,S "Do"] b (λf c=>d+1<=99/\d+1+1<=99/\O.call (d+1+1) (F 874) [E.loc p,E.str s] c (λg e=>k E.none e) X) X):aN (inl O bS [785,649] I N 8) 778 d [.loc p,S "Do",.lst [.inst 204 [(Q "text",.str s)]]] b k X:=aj (by kernel_rfl) a
theorem ND (b:d<=92)(c:bg x 1)(e:bg y 1)(f:match x*1 - y*1==0 with|I=>k (E.int 0) a|N=>match aP<|0<x*1 - y*1 with|I=>k (E.int 1) a|N=>k (E.int<|-1) a):aN (inl O bS [180,187,173] I I 8) 110 d [D x,.int y] a k X:=aj (β:=d+1<=99/\d+1+1<=94/\d+1+1<=94/\((0:Int)<=0/\(0:Int)<=1000/\10<18446744073709551616)/\bg x 1/\((0:Int)<=0/\(0:Int)<=1000/\10<18446744073709551616)/\bg y 1/\d+1<=99/\match x*1 - y*1==0 with|I=>k (E.int 0) a|N=>match aP<|0<x*1 - y*1 with|I=>k (E.int 1) a|N=>k (E.int<|-1) a) (by kernel_rfl) ⟨a_ b rfl,bk b rfl,bk b rfl,iz,c,iz,e,a_ b rfl,f⟩
theorem Q4 (b:d<=92)(c:bg x 1)(e:bg y 10)(f:match x*1 - y*10==0 with|I=>k (E.int 0) a|N=>match aP<|0<x*1 - y*10 with|I=>k (E.int 1) a|N=>k (E.int<|-1) a):aN (inl O bS [180,187,173] I I 8) 110 d [.inst 155 [(Q "top",.int x),(Q "places",.int 1)],.int y] a k X:=aj (β:=d+1<=99/\d+1+1<=99/\d+1+1<=94/\((0:Int)<=0/\(0:Int)<=1000/\10<18446744073709551616)/\bg x 1/\((0:Int)<=1/\(1:Int)<=1000/\10<18446744073709551616)/\bg y 10/\d+1<=99/\match x*1 - y*10==0 with|I=>k (E.int 0) a|N=>match aP<|0<x*1 - y*10 with|I=>k (E.int 1) a|N=>k (E.int<|-1) a) (by kernel_rfl) ⟨a_ b rfl,bk b rfl,bk b rfl,iz,c,by decide,e,a_ b rfl,f⟩
theorem LW (b:wp (aw a (E.loc s)<|Q "fill") λg=>d+1<=99/\d+1+1<=99/\O.call (d+1+1) (F 663) [E.lst [t],E.int 1] a (λc e=>wp (setField e (E.loc s) (Q "fill")<|E.tup [S "DeviceGray",c]) λf=>k E.none f) X):aN (inl O bS [677,670] I I 8) 684 d [.loc s,S "g",.lst [t]] a k X:=aj (by kernel_rfl) b
theorem zI {x:Int}(g:d<=92)(y:match aP<|x<0 with|I=>wp (aV (a.alloc<|au.lst []) (E.loc a.2)<|Q "append") λh=>d+1<=94/\O.aE (d+1) (E.loc a.2) (Q "append") h [D 0] (a.alloc<|au.lst []) (λz i=>wp (bG i<|E.loc a.2) λc=>wp (dB c.snd (cX "tuple") [c.1]) λj=>k j c.snd) X|N=>O.aE (d+1) (D x) (Q "compared") (cL.fn 110) [E.int 1] (a.alloc<|au.lst []) (λl b=>wp (ax b .Gt l<|E.int 0) λm=>match m with|I=>wp (aV b (E.loc a.2)<|Q "append") λn=>d+1<=94/\O.aE (d+1) (E.loc a.2) (Q "append") n [D 1] b (λA p=>wp (bG p<|E.loc a.2) λe=>wp (dB e.snd (cX "tuple") [e.1]) λq=>k q e.snd) X|N=>wp (aV b (E.loc a.2)<|Q "append") λr=>O.aE (d+1) (E.loc a.2) (Q "append") r [D x] b (λB s=>wp (bG s<|E.loc a.2) λf=>wp (dB f.snd (cX "tuple") [f.1]) λt=>k t f.snd) X) X):aN (inl O bS [642,293,286] I N 8) 663 d [.lst [D x],.int 1] a k X:=aj (β:=d+1<=99/\d+1+1<=99/\d+1+1+1<=99/\1<=1000000/\d+1+1<=94/\match aP<|x<0 with|I=>wp (aV (a.alloc<|au.lst []) (E.loc a.2)<|Q "append") λh=>d+1<=94/\O.aE (d+1) (E.loc a.2) (Q "append") h [D 0] (a.alloc<|au.lst []) (λz i=>wp (bG i<|E.loc a.2) λc=>wp (dB c.snd (cX "tuple") [c.1]) λj=>k j c.snd) X|N=>O.aE (d+1) (D x) (Q "compared") (cL.fn 110) [E.int 1] (a.alloc<|au.lst []) (λl b=>wp (ax b .Gt l<|E.int 0) λm=>match m with|I=>wp (aV b (E.loc a.2)<|Q "append") λn=>d+1<=94/\O.aE (d+1) (E.loc a.2) (Q "append") n [D 1] b (λA p=>wp (bG p<|E.loc a.2) λe=>wp (dB e.snd (cX "tuple") [e.1]) λq=>k q e.snd) X|N=>wp (aV b (E.loc a.2)<|Q "append") λr=>O.aE (d+1) (E.loc a.2) (Q "append") r [D x] b (λB s=>wp (bG s<|E.loc a.2) λf=>wp (dB f.snd (cX "tuple") [f.1]) λt=>k t f.snd) X) X) (by kernel_rfl) ⟨a_ g rfl,bk g rfl,cM g rfl,by decide,bk g rfl,y⟩
theorem QT {x:Int}(g:d<=96)(y:match aP<|x<0 with|I=>wp (aV (a.alloc<|au.lst []) (E.loc a.2)<|Q "append") λh=>d+1<=94/\O.aE (d+1) (E.loc a.2) (Q "append") h [D 0] (a.alloc<|au.lst []) (λz i=>wp (bG i<|E.loc a.2) λc=>wp (dB c.snd (cX "tuple") [c.1]) λj=>k j c.snd) X|N=>O.aE (d+1) (E.inst 155 [(Q "top",E.int x),(Q "places",E.int 1)]) (Q "compared") (cL.fn 110) [E.int 1] (a.alloc<|au.lst []) (λl b=>wp (ax b .Gt l<|E.int 0) λm=>match m with|I=>wp (aV b (E.loc a.2)<|Q "append") λn=>d+1<=94/\O.aE (d+1) (E.loc a.2) (Q "append") n [D 1] b (λA p=>wp (bG p<|E.loc a.2) λe=>wp (dB e.snd (cX "tuple") [e.1]) λq=>k q e.snd) X|N=>wp (aV b (E.loc a.2)<|Q "append") λr=>O.aE (d+1) (E.loc a.2) (Q "append") r [E.inst 155 [(Q "top",E.int x),(Q "places",E.int 1)]] b (λB s=>wp (bG s<|E.loc a.2) λf=>wp (dB f.snd (cX "tuple") [f.1]) λt=>k t f.snd) X) X):aN (inl O bS [642,293,286,180] I N 8) 663 d [.lst [.inst 155 [(Q "top",.int x),(Q "places",.int 1)]],.int 1] a k X:=aj (β:=d+1<=99/\d+1+1<=99/\d+1+1+1<=99/\1<=1000000/\d+1+1<=99/\match aP<|x<0 with|I=>wp (aV (a.alloc<|au.lst []) (E.loc a.2)<|Q "append") λh=>d+1<=94/\O.aE (d+1) (E.loc a.2) (Q "append") h [D 0] (a.alloc<|au.lst []) (λz i=>wp (bG i<|E.loc a.2) λc=>wp (dB c.snd (cX "tuple") [c.1]) λj=>k j c.snd) X|N=>O.aE (d+1) (E.inst 155 [(Q "top",E.int x),(Q "places",E.int 1)]) (Q "compared") (cL.fn 110) [E.int 1] (a.alloc<|au.lst []) (λl b=>wp (ax b .Gt l<|E.int 0) λm=>match m with|I=>wp (aV b (E.loc a.2)<|Q "append") λn=>d+1<=94/\O.aE (d+1) (E.loc a.2) (Q "append") n [D 1] b (λA p=>wp (bG p<|E.loc a.2) λe=>wp (dB e.snd (cX "tuple") [e.1]) λq=>k q e.snd) X|N=>wp (aV b (E.loc a.2)<|Q "append") λr=>O.aE (d+1) (E.loc a.2) (Q "append") r [E.inst 155 [(Q "top",E.int x),(Q "places",E.int 1)]] b (λB s=>wp (bG s<|E.loc a.2) λf=>wp (dB f.snd (cX "tuple") [f.1]) λt=>k t f.snd) X) X) (by kernel_rfl) ⟨a_ g rfl,bk g rfl,cM g rfl,by decide,bk g rfl,y⟩
theorem Mb {a b c e f g:E}(h:wp (setField i a (Q "matrix") b) λj=>wp (setField j a (Q "clips") c) λl=>wp (setField l a (Q "fill") e) λm=>wp (setField m a (Q "stroke") f) λn=>wp (setField n a (Q "values") g) λp=>k E.none p):aN O 601 d [a,b,c,e,f,g] i k X:=aj (by kernel_rfl) h
theorem Oa (a:d+1<=94/\k (E.tup [S "DeviceGray",E.tup [D 0]]) b):aN (inl O bS [] I I 8) 615 d [S "DeviceGray"] b k X:=aj (by kernel_rfl) a
theorem Kl (c:d<=93)(n:wp (setItem (a.alloc<|au.aa [(Q "width",D 1),(Q "cap",E.int 0),(Q "join",E.int 0),(Q "miter",D 10),(Q "dash",E.tup [E.tup [],D 0])]) (E.loc a.2) (S "spacing")<|D 0) λe=>wp (setItem e (E.loc a.2) (S "word_spacing")<|D 0) λf=>wp (setItem f (E.loc a.2) (S "leading")<|D 0) λg=>wp (setItem g (E.loc a.2) (S "size")<|D 0) λh=>wp (setItem h (E.loc a.2) (S "rise")<|D 0) λi=>d+1<=94/\wp (setItem i (E.loc a.2) (S "scale")<|D 100) λj=>wp (setItem j (E.loc a.2) (S "font")<|S "") λl=>wp (setItem l (E.loc a.2) (S "mode")<|E.int 0) λm=>wp (bG m<|E.loc a.2) λb=>k b.1 b.snd):aN (inl O bS [] I N 8) 622 d [] a k X:=aj (β:=d+1<=94/\d+1<=94/\d+1<=94/\wp (setItem (a.alloc<|au.aa [(Q "width",D 1),(Q "cap",E.int 0),(Q "join",E.int 0),(Q "miter",D 10),(Q "dash",E.tup [E.tup [],D 0])]) (E.loc a.2) (S "spacing")<|D 0) λe=>wp (setItem e (E.loc a.2) (S "word_spacing")<|D 0) λf=>wp (setItem f (E.loc a.2) (S "leading")<|D 0) λg=>wp (setItem g (E.loc a.2) (S "size")<|D 0) λh=>wp (setItem h (E.loc a.2) (S "rise")<|D 0) λi=>d+1<=94/\wp (setItem i (E.loc a.2) (S "scale")<|D 100) λj=>wp (setItem j (E.loc a.2) (S "font")<|S "") λl=>wp (setItem l (E.loc a.2) (S "mode")<|E.int 0) λm=>wp (bG m<|E.loc a.2) λb=>k b.1 b.snd) (by kernel_rfl) ⟨a_ c rfl,a_ c rfl,a_ c rfl,n⟩
theorem J6 (a:d<=91)(j:O.call (d+1) (F 615) [S "DeviceGray"] i (λb c=>O.call (d+1) (F 615) [S "DeviceGray"] c (λe f=>O.call (d+1) (F 622) [] f (λg h=>O.call (d+1) (F 604) [E.inst 443 [(Q "a",D 1),(Q "b",D 0),(Q "c",D 0),(Q "d",D 1),(Q "e",D 0),(Q "f",D 0)],E.tup [],b,e,g] h k X) X) X) X):aN (inl O bS [454,443] I N 8) 630 d [.none] i k X:=aj (β:=d+1<=99/\d+1+1<=99/\d+1+1+1<=94/\d+1+1+1<=94/\d+1+1+1<=94/\d+1+1+1<=94/\d+1+1+1<=94/\d+1+1+1<=94/\O.call (d+1) (F 615) [S "DeviceGray"] i (λb c=>O.call (d+1) (F 615) [S "DeviceGray"] c (λe f=>O.call (d+1) (F 622) [] f (λg h=>O.call (d+1) (F 604) [E.inst 443 [(Q "a",D 1),(Q "b",D 0),(Q "c",D 0),(Q "d",D 1),(Q "e",D 0),(Q "f",D 0)],E.tup [],b,e,g] h k X) X) X) X) (by kernel_rfl) ⟨a_ a rfl,bk a rfl,cM a rfl,cM a rfl,cM a rfl,cM a rfl,cM a rfl,cM a rfl,j⟩
theorem IE (e:wp (aw a b<|Q "matrix") λf=>wp (aw a b<|Q "clips") λg=>wp (aw a b<|Q "fill") λh=>wp (aw a b<|Q "stroke") λi=>wp (aw a b<|Q "values") λj=>wp (kM N N a (E.ag<|cX "dict") j) λc=>O.call (d+1) (F 604) [f,g,h,i,c.1] c.snd k X):aN O 637 d [b] a k X:=aj (by kernel_rfl) e
theorem N2 (g:wp (setField h a (Q "shelf") i) λj=>wp (setField j a (Q "resources") l) λm=>wp (setField m a (Q "opener") n) λp=>O.call (d+1) (F 630) [E.none] p (λq r=>wp (setField r a (Q "state") q) λb=>wp (setField (b.alloc<|au.lst []) a (Q "pile")<|E.loc b.2) λs=>wp (setField s a (Q "floor")<|E.int 0) λt=>O.call (d+1) (F 480) [] t (λx y=>wp (setField y a (Q "path") x) λz=>wp (setField z a (Q "rule")<|S "") λA=>wp (setField A a (Q "text") E.none) λB=>wp (setField B a (Q "skips")<|E.int 0) λc=>wp (setField (c.alloc<|au.lst []) a (Q "open_forms")<|E.loc c.2) λe=>wp (setField (e.alloc<|au.lst []) a (Q "marks")<|E.loc e.2) λf=>wp (setField (f.alloc<|au.lst []) a (Q "clips")<|E.loc f.2) λM=>k E.none M) X) X):aN O 736 d [a,i,l,n,.none] h k X:=aj (by kernel_rfl) g
theorem Oo (g:wp (aw b c<|Q "marks") λe=>wp (aV b e<|Q "append") λh=>O.aE (d+1) e (Q "append") h [i] b (λp a=>wp (aw a c<|Q "clips") λf=>wp (aV a f<|Q "append") λj=>wp (aw a c<|Q "state") λl=>wp (aw a l<|Q "clips") λm=>O.aE (d+1) f (Q "append") j [m] a (λq n=>k E.none n) X) X):aN O 764 d [c,i] b k X:=aj (by kernel_rfl) g
theorem GY {a b c:E}(g:wp (aw e a<|Q "state") λh=>wp (aw e h<|Q "clips") λi=>wp (bA N N e .Add i<|E.tup [E.tup [b,c]]) λf=>wp (aw f.snd a<|Q "state") λj=>wp (setField f.snd j (Q "clips") f.1) λl=>O.call (d+1) (F 764) [a,E.tup [S "clip",b,c]] l (λn m=>k E.none m) X):aN O 839 d [a,b,c] e k X:=aj (by kernel_rfl) g
theorem Gp (g:wp (aw a e<|Q "shelf") λf=>wp (aV a f<|Q "get") λh=>wp (aw a e<|Q "resources") λi=>O.aE (d+1) f (Q "get") h [i,j] a (λc l=>O.call (d+1) (E.ag<|dR "isinstance") [c,E.ag<|cX "dict"] l (λm b=>wp (truthy b m) λn=>match !n with|I=>k E.none b|N=>wp (aV b c<|Q "get") λp=>O.aE (d+1) c (Q "get") p [q] b k X) X) X):aN O 806 d [e,j,q] a k X:=aj (by kernel_rfl) g
theorem Ab (e:wp (aV a b<|Q "fetch") λf=>wp (aV a c<|Q "get") λg=>O.aE (d+1) c (Q "get") g [h] a (λi j=>O.aE (d+1) b (Q "fetch") f [i] j k X) X):aN O 334 d [b,c,h] a k X:=aj (by kernel_rfl) e
end
end
mutual
section
open PySem Sh
structure PF where
 (sh:Nat) (res:List<|ae×E) (kk:Nat) (ir:List<|ae×E) (s pl:Nat) (fl:Int) (pa:List E) (ru:ae) (sk:Int) (of ma cl:Nat)
def PO (w:PF):au:=.inst 746 [(Q "shelf",.loc w.sh),(Q "resources",.aa w.res),(Q "opener",.bR w.kk w.ir),(Q "state",.loc w.s),(Q "pile",.loc w.pl),(Q "floor",.int w.fl),(Q "path",.inst 480 [(Q "parts",.tup w.pa)]),(Q "rule",.str w.ru),(Q "text",.none),(Q "skips",.int w.sk),(Q "open_forms",.loc w.of),(Q "marks",.loc w.ma),(Q "clips",.loc w.cl)]
structure SF where
 (m:bo) (cs fi sk:List E) (vd:List<|ae×E)
def SO (w:SF):au:=.inst 604 [(Q "matrix",bo.dh w.m),(Q "clips",.tup w.cs),(Q "fill",.tup w.fi),(Q "stroke",.tup w.sk),(Q "values",.aa w.vd)]
section
variable {a:R}{X:Prop}
theorem jt (h:a.get p=H (PO w))(b:k<|.loc w.sh):wp (aw a (.loc p)<|Q "shelf") k:=eR h (by kernel_rfl) rfl b
theorem yz (h:a.get p=H (PO w))(b:k<|.aa w.res):wp (aw a (.loc p)<|Q "resources") k:=eR h (by kernel_rfl) rfl b
theorem CA (h:a.get p=H (PO w))(b:k<|a.set p<|PO {w with res:=v}):wp (setField a (.loc p) (Q "resources")<|.aa v) k:=il h (by kernel_rfl) b
theorem GJ (h:a.get p=H (PO w))(b:k<|.bR w.kk w.ir):wp (aw a (.loc p)<|Q "opener") k:=eR h (by kernel_rfl) rfl b
theorem fN (h:a.get p=H (PO w))(b:k<|.loc w.s):wp (aw a (.loc p)<|Q "state") k:=eR h (by kernel_rfl) rfl b
theorem uv (h:a.get p=H (PO w))(b:k<|a.set p<|PO {w with s:=v}):wp (setField a (.loc p) (Q "state")<|.loc v) k:=il h (by kernel_rfl) b
theorem ny (h:a.get p=H (PO w))(b:k<|.loc w.pl):wp (aw a (.loc p)<|Q "pile") k:=eR h (by kernel_rfl) rfl b
theorem HS (h:a.get p=H (PO w))(b:k<|a.set p<|PO {w with pl:=v}):wp (setField a (.loc p) (Q "pile")<|.loc v) k:=il h (by kernel_rfl) b
theorem wC (h:a.get p=H (PO w))(b:k<|.int w.fl):wp (aw a (.loc p)<|Q "floor") k:=eR h (by kernel_rfl) rfl b
theorem Cf (h:a.get p=H (PO w))(b:k<|a.set p<|PO {w with fl:=v}):wp (setField a (.loc p) (Q "floor")<|.int v) k:=il h (by kernel_rfl) b
theorem eC (h:a.get p=H (PO w))(b:k<|.inst 480 [(Q "parts",.tup w.pa)]):wp (aw a (.loc p)<|Q "path") k:=eR h (by kernel_rfl) rfl b
theorem vZ (h:a.get p=H (PO w))(b:k<|a.set p<|PO {w with pa:=v}):wp (setField a (.loc p) (Q "path")<|.inst 480 [(Q "parts",.tup v)]) k:=il h (by kernel_rfl) b
theorem oU (h:a.get p=H (PO w))(b:k<|.str w.ru):wp (aw a (.loc p)<|Q "rule") k:=eR h (by kernel_rfl) rfl b
theorem tT (h:a.get p=H (PO w))(b:k<|a.set p<|PO {w with ru:=v}):wp (setField a (.loc p) (Q "rule")<|.str v) k:=il h (by kernel_rfl) b
theorem gX (h:a.get p=H (PO w))(b:k .none):wp (aw a (.loc p)<|Q "text") k:=eR h (by kernel_rfl) rfl b
theorem lV (h:a.get p=H (PO w))(b:k<|.int w.sk):wp (aw a (.loc p)<|Q "skips") k:=eR h (by kernel_rfl) rfl b
theorem qe (h:a.get p=H (PO w))(b:k<|a.set p<|PO {w with sk:=v}):wp (setField a (.loc p) (Q "skips")<|.int v) k:=il h (by kernel_rfl) b
theorem qz (h:a.get p=H (PO w))(b:k<|.loc w.of):wp (aw a (.loc p)<|Q "open_forms") k:=eR h (by kernel_rfl) rfl b
theorem Dc (h:a.get p=H (PO w))(b:k<|.loc w.ma):wp (aw a (.loc p)<|Q "marks") k:=eR h (by kernel_rfl) rfl b
theorem Dd (h:a.get p=H (PO w))(b:k<|.loc w.cl):wp (aw a (.loc p)<|Q "clips") k:=eR h (by kernel_rfl) rfl b
theorem lW (h:a.get p=H (SO w))(b:k<|bo.dh w.m):wp (aw a (.loc p)<|Q "matrix") k:=eR h (by kernel_rfl) rfl b
theorem Bz (h:a.get p=H (SO w))(b:k<|a.set p<|SO {w with m:=v}):wp (setField a (.loc p) (Q "matrix")<|bo.dh v) k:=il h (by kernel_rfl) b
theorem um (h:a.get p=H (SO w))(b:k<|.tup w.cs):wp (aw a (.loc p)<|Q "clips") k:=eR h (by kernel_rfl) rfl b
theorem IC (h:a.get p=H (SO w))(b:k<|a.set p<|SO {w with cs:=v}):wp (setField a (.loc p) (Q "clips")<|.tup v) k:=il h (by kernel_rfl) b
theorem uS (h:a.get p=H (SO w))(b:k<|.tup w.fi):wp (aw a (.loc p)<|Q "fill") k:=eR h (by kernel_rfl) rfl b
theorem Hy (h:a.get p=H (SO w))(b:k<|a.set p<|SO {w with fi:=v}):wp (setField a (.loc p) (Q "fill")<|.tup v) k:=il h (by kernel_rfl) b
theorem JB (h:a.get p=H (SO w))(b:k<|.tup w.sk):wp (aw a (.loc p)<|Q "stroke") k:=eR h (by kernel_rfl) rfl b
theorem OK (h:a.get p=H (SO w))(b:k<|.aa w.vd):wp (aw a (.loc p)<|Q "values") k:=eR h (by kernel_rfl) rfl b
theorem eX (c:k<|.tup b):wp (aw a (.inst 480 [(Q "parts",.tup b)])<|Q "parts") k:=
 aR (c:=.tup b) (by kernel_rfl) c
end
end
mutual
open Mine
inductive aB where
 |re (x y w h:Int)|cm (m:bo)|gr (t:Int)|qq|W (x y w h:Int)|BI|BX|Do (b:Bool)|Q|EX|zz
set_option genCtorIdx true in
inductive hY where
 |cx (g:Nat) (a:Bool)|eb|odd
abbrev cn:=Bool->Option hY
set_option genCtorIdx true in
inductive Mx where
 |no|six (m:bo)|bad
inductive Ed where
 |no|box (l b r t:Int)|bad
structure Fm where
 (mx:Mx) (ed:Ed) (nm:Option cn) (ds:List aB)
structure St where
 (m:bo) (t:Int) (cs:List bX)
inductive lL where
 |eb (o:Option Bool) (m:bo)|clip (q:bX)|fill (q:bX) (t:Int)
structure Mk where
 (k:lL) (cs:List bX)
def bC (b:Bool):ae:=match b with|I=>Q "A" |N=>Q "B"
def zE:Option Bool->ae
 |T=>Q ""
 |H b=>bC b
abbrev R2:=Option<|Option<|List Mk
def eT (a:St)(q:bX):St×Mk:=({a with cs:=a.cs++[q]},⟨.clip q,a.cs++[q]⟩)
def kz (c:List St)(b:Nat)(a:St)(d:List Mk):aB->Option (List St×Nat×St×List Mk)
 |.re x y w h=>H (c,b,a,d++[⟨.fill ((box x y w h).by a.m) a.t,a.cs⟩])
 |.cm m=>H (c,b,{a with m:=m.mul a.m},d)
 |.gr t=>H (c,b,{a with t:=t},d)
 |.qq=>H (a::c,b,a,d)
 |.W x y w h=>H (c,b,(eT a<|(box x y w h).by a.m).1,d++[(eT a<|(box x y w h).by a.m).2])
 |.BI=>H (c,b,a,d++[⟨.eb T a.m,a.cs⟩])
 |.BX=>H (c,b+1,a,d)
 |.Do _=>T
 |.Q=>match c with
  |[]=>T
  |s::c=>H (c,b,s,d)
 |.EX=>match b with
  |0=>T
  |b+1=>H (c,b,a,d)
 |.zz=>match b with
  |0=>T
  |b+1=>H (c,b+1,a,d)
def ue (f:List St->Nat->St->List Mk->R2):Option (List St×Nat×St×List Mk)->R2
 |T=>H T
 |H x=>f x.1 x.2.1 x.2.2.1 x.2.2.2
def kJ (f:List Mk->R2):R2->R2
 |H (H a)=>f a
 |r=>r
def lE (h:Bool->St->List Mk->R2)(f:List St->Nat->St->List Mk->R2)(c:List St)(e:Nat)(a:St)(g:List Mk):aB->R2
 |.Do b=>kJ (f c e a)<|h b a g
 |d=>ue f<|kz c e a g d
def row (b:Bool->St->List Mk->R2):List aB->List St->Nat->St->List Mk->R2
 |[],_,_,_,a=>H<|H a
 |d::r,c,f,e,a=>if 900<=a.length\/900<=c.length\/900<=e.cs.length then T else lE b (row b r) c f e a d
def fE:aB->Bool
 |.Do _=>I
 |_=>N
theorem tK (h:fE x=I):∃b,x=.Do b:=by
 cases x with
 |Do b=>exact ⟨b,rfl⟩
 |_=>exact absurd h jY
theorem rn:∀{x},fE x=N->lE gY f a b c d x=ue f (kz a b c d x)
 |.re ..,_=>rfl|.cm ..,_=>rfl|.gr ..,_=>rfl|.qq,_=>rfl|.W ..,_=>rfl|.BI,_=>rfl|.BX,_=>rfl|.Q,_=>rfl|.EX,_=>rfl|.zz,_=>rfl
theorem Rc {h:Bool->St->List Mk->R2}{f:List St->Nat->St->List Mk->R2}{c:List St}{d:Nat}{a:St}{g:List Mk}{P:aB->R2->Prop}(i:∀b,P (.Do b)<|kJ (f c d a)<|h b a g)(j:∀x,fE x=N->P x (ue f<|kz c d a g x))(x:aB):P x<|lE h f c d a g x:=by
 cases e:fE x with
 |true=>
  refine aC (tK e) ?_;rintro b rfl
  exact i b
 |false=>exact rn e▸j x e
theorem n_ (h:row d (x::e) a f b c=H r):
  (c.length<900/\a.length<900/\b.cs.length<900)/\lE d (row d e) a f b c x=H r:=by
 by_cases g:900<=c.length\/900<=a.length\/900<=b.cs.length
 .exact nomatch (if_pos g).symm.trans h
 .rw [not_or,not_or] at g
  exact ⟨⟨nM g.1,nM g.2.1,nM g.2.2⟩,(if_neg λq=>q.elim g.1 λq=>q.elim g.2.1 g.2.2).symm.trans h⟩
def lN (b:Mx)(a:St):Option St:=match b with
 |.no=>H a
 |.six m=>H {a with m:=m.mul a.m}
 |.bad=>T
def hL (d:Ed)(a:St)(c:List Mk):Option<|St×List Mk:=match d with
 |.no=>H (a,c)
 |.box l b r t=>H ((eT a<|(box l b (r - l)<|t - b).by a.m).1,c++[(eT a<|(box l b (r - l)<|t - b).by a.m).2])
 |.bad=>T
abbrev lZ:=List (Nat×Bool)->Nat->Bool->Bool
def iB:lZ:=λa g _=>a.any λx=>!x.2 && cC x.1 g
def dM:lZ:=λa g b=>(!b && a.any λx=>!x.2 && cC x.1 g)||ih 8 a.length
def iU (e:Option<|St×List Mk)(k:St->List Mk->R2):R2:=match e with
 |T=>H T
 |H p=>k p.1 p.2
def qv (a:Fm)(m:Option St)(k:St->List Mk->R2)(b:List Mk):R2:=match m with
 |T=>H T
 |H c=>iU (hL a.ed c b) k
def gv (a:Fm)(k:St->List Mk->R2)(b:St)(c:List Mk):R2:=if 900<=c.length\/900<=b.cs.length then T else qv a (lN a.mx b) k c
def iF (b:Bool)(r:R2):R2:=match b with
 |I=>H T
 |N=>r
def oI (c:lZ)(d:cn)(a:List<|Nat×Bool)(go:Fm->cn->List (Nat×Bool)->St->List Mk->R2)(e:St)(f:List Mk)(g:Nat)(b:Bool):Option Fm->R2
 |T=>T
 |H F=>iF (c a g b)<|gv F (go F (F.nm.getD d)<|a++[(g,b)]) e f
def HW (c:lZ)(d:List Fm)(e:cn)(f:List<|Nat×Bool)(go:Fm->cn->List (Nat×Bool)->St->List Mk->R2)(l:Bool)(a:St)(b:List Mk):hY->R2
 |.eb=>H<|H<|b++[⟨.eb (H l) a.m,a.cs⟩]
 |.odd=>H T
 |.cx g h=>oI c e f go a b g h d[g]?
def ox (f:hY->R2):Option hY->R2
 |T=>H T
 |H x=>f x
def gY (b:lZ)(c:List Fm)(a:cn)(d:List<|Nat×Bool)(go:Fm->cn->List (Nat×Bool)->St->List Mk->R2)(l:Bool)(e:St)(f:List Mk):R2:=ox (HW b c a d go l e f)<|a l
section
variable {l h:lZ}{d:List Fm}{n:cn}{p:List<|Nat×Bool}{e g:Fm->cn->List (Nat×Bool)->St->List Mk->R2}{b:Bool}{a:Fm}{k f:St->List Mk->R2}{s:St}{c:List Mk}{r:Option<|List Mk}{P:Prop}
theorem Ad {m:R2->Prop}(y:n b=T->m (H T))(z:n b=H .eb->m (H<|H<|c++[⟨.eb (H b) s.m,s.cs⟩]))(A:n b=H .odd->m (H T))(B:∀i j,n b=H (.cx i j)->d[i]?=T->m T)
  (M:∀i j a,n b=H (.cx i j)->d[i]?=H a->m (iF (l p i j)<|gv a (e a (a.nm.getD n)<|p++[(i,j)]) s c)):m<|gY l d n p e b s c:=by
 show m<|ox _<|n b
 cases q:n b with
 |none=>exact y q
 |some x=>
  cases x with
  |eb=>exact z q
  |odd=>exact A q
  |cx i j=>
   show m<|oI l n p e s c i j d[i]?
   cases t:d[i]? with
   |none=>exact B i j q t
   |some a=>exact M i j a q t
theorem tS (i:gY l d n p e b s c=H r)(t:n b=T->r=T->P)(x:n b=H .eb->r=H (c++[⟨.eb (H b) s.m,s.cs⟩])->P)(y:n b=H .odd->r=T->P)
  (A:∀m q a,n b=H (.cx m q)->d[m]?=H a->iF (l p m q) (gv a (e a (a.nm.getD n)<|p++[(m,q)]) s c)=H r->P):P:=
 Ad (m:=λz=>z=H r->P) (λj i=>t j (bf i).symm) (λj i=>x j (bf i).symm) (λj i=>y j (bf i).symm) (λ_ _ _ _ i=>ao i) A i
theorem Ke (m:n b=H (.cx i j))(q:d[i]?=H a):gY l d n p e b s c=iF (l p i j) (gv a (e a (a.nm.getD n)<|p++[(i,j)]) s c):=by
 show ox _ (n b)=_
 refine J m ?_
 show oI l n p e s c i j d[i]?=_
 refine J q ?_
 rfl
theorem nq (j:iF i x=H r)(t:i=I->r=T->P)(m:i=N->x=H r->P):P:=by
 cases i with
 |true=>exact t rfl (bf j).symm
 |false=>exact m rfl j
theorem Q9 (j:iF (i||m) x=H r)(t:i=I->r=T->P)(q:i=N->iF m x=H r->P):P:=by
 cases i with
 |true=>exact t rfl (bf j).symm
 |false=>exact q rfl j
theorem wM (j:qv a (lN i s) k c=H r)(no:i=.no->iU (hL a.ed s c) k=H r->P)(q:i=.bad->r=T->P)(t:∀m,i=.six m->iU (hL a.ed {s with m:=m.mul s.m} c) k=H r->P):P:=by
 cases i with
 |no=>exact no rfl j
 |bad=>exact q rfl (bf j).symm
 |six m=>exact t m rfl j
theorem ua (m:iU (hL j s c) k=H r)(no:j=.no->k s c=H r->P)(x:j=.bad->r=T->P)(y:∀i b q t,j=.box i b q t->k (eT s<|(box i b (q - i)<|t - b).by s.m).1 (c++[(eT s<|(box i b (q - i)<|t - b).by s.m).2])=H r->P):P:=by
 cases j with
 |no=>exact no rfl m
 |bad=>exact x rfl (bf m).symm
 |box i b r t=>exact y i b r t rfl m
inductive yj (a:Fm)(k:St->List Mk->R2)(s:St)(c:List Mk)(r:Option<|List Mk):Prop
 |out (q:r=T)
 |go (i j:St) (m:List Mk) (t:lN a.mx s=H i) (x:hL a.ed i c=H (j,m)) (y:k j m=H r)
theorem we (i:gv a k s c=H r):¬(900<=c.length\/900<=s.cs.length):=λq=>ao<|(if_pos q).symm.trans i
theorem qr (i:gv a k s c=H r):qv a (lN a.mx s) k c=H r:=(if_neg<|we i).symm.trans i
theorem tI (i:gv a k s c=H r):yj a k s c r:=by
 have go:∀q,lN a.mx s=H q->iU (hL a.ed q c) k=H r->yj a k s c r:=λq j i=>ua i (λt i=>.go q _ _ j (t▸rfl) i) (λ_=>.out) λ_ _ _ _ t i=>.go q _ _ j (t▸rfl) i
 exact wM (qr i) (λj i=>go _ (j▸rfl) i) (λ_=>.out) λm j i=>go _ (j▸rfl) i
theorem Rk (m:∀s c r,k s c=H r->f s c=H r)(i:gv a k s c=H r):gv a f s c=H r:=by
 refine (if_neg<|we i).trans ?_
 have i:=qr i
 revert i
 cases lN a.mx s with
 |none=>exact id
 |some j=>
  show iU (hL a.ed j c) k=H r->iU (hL a.ed j c) f=H r
  cases hL a.ed j c with
  |none=>exact id
  |some q=>exact m _ _ _
theorem P6 (m:gY l d n p e b s c=H r)(q:∀i j a,n b=H (.cx i j)->d[i]?=H a->iF (l p i j) (gv a (e a (a.nm.getD n)<|p++[(i,j)]) s c)=H r->iF (h p i j) (gv a (g a (a.nm.getD n)<|p++[(i,j)]) s c)=H r):gY h d n p g b s c=H r:=by
 revert m
 show ox _ (n b)=_->ox _ (n b)=_
 cases t:n b with
 |none=>exact id
 |some x=>
  cases x with
  |cx i j=>
   show oI l n p e s c i j d[i]?=_->oI h n p g s c i j d[i]?=_
   cases y:d[i]? with
   |none=>exact id
   |some a=>exact q i j a t y
  |_=>exact id
end
end
mutual
open Mine
def go (e:lZ)(g:List Fm):Nat->List aB->cn->List (Nat×Bool)->St->List Mk->R2
 |0,_,_,_,_,_=>T
 |f+1,h,a,b,c,d=>row (gY e g a b λF a b c d=>go e g f F.ds a b c d) h [] 0 c d
structure af (a:R)(b:List<|Nat×au):Prop where
 nd:(b.map hG).Nodup
 at_:∀x∈b,a.get x.1=H x.2/\x.1<a.next
theorem af.get (h:af a b)(m:(l,o)∈b):a.get l=H o:=(h.at_ _ m).1
theorem af.lt (h:af a b)(m:(l,o)∈b):l<a.next:=(h.at_ _ m).2
theorem af.set (h:af f<|A++(l,o)::B):af (f.set l g)<|A++(l,g)::B:=by
 obtain ⟨d,b⟩:=h
 refine ⟨by simpa using d,λx a=>?_⟩
 have c:=d
 rw [jn,dQ,ml,gd] at c
 refine dI c ?_;clear c;rintro _ ⟨i,_⟩ j
 rw [gh,bF] at a
 rcases a with a|a|a
 .have:=b x<|gg _<|by assumption
  refine J (kj<|j x.1 (mm a) l<|.head _) ?_
  exact ⟨this.1,this.2⟩
 .subst a
  exact ⟨bP,(b (l,o)<|by simp).2⟩
 .have:=b x<|by simp [a]
  refine J (kj λe=>i<|by
   have:=mm (f:=hG) a
   rw [e] at this
   exact this) ?_
  exact ⟨this.1,this.2⟩
theorem af.alloc (h:af b d):af (b.alloc o)<|(b.next,o)::d:=by
 obtain ⟨f,c⟩:=h
 refine ⟨?_,λx a=>?_⟩
 .refine J dQ ?_;rewrite [gd]
  refine ⟨λg=>?_,f⟩
  refine zl g λx a e=>?_
  have:=(c x a).2
  dsimp only at e
  exact uG (bK this<|bh e.symm)<|by simp+arith only
 .rw [bF] at a
  rcases a with a|a
  .subst a
   exact ⟨eg,fw _⟩
  .have:=c x a
   refine J (y_ this.2) ?_
   exact ⟨this.1,tv this.2⟩
theorem af.free (h:af i<|A++(l,o)::B):af (i.free l)<|A++B:=by
 obtain ⟨d,f⟩:=h
 rw [jn,dQ,ml,gd] at d
 refine dI d ?_;rintro j ⟨k,m⟩ g
 refine ⟨?_,λx c=>?_⟩
 .refine J jn ?_;rewrite [ml]
  exact ⟨j,m,λa n b p=>g a n b<|dz _ p⟩
 .rw [gh] at c
  have q:x.1≠l:=by
   rcases c with c|c
   .exact g x.1 (mm c) l<|.head _
   .exact λe=>k<|by
     have:=mm (f:=hG) c
     rw [e] at this
     exact this
  refine J vT ?_;refine J (if_neg q) ?_
  rcases c with c|c
  .exact f x<|gg _<|by assumption
  .exact f x<|by simp [c]
theorem af.fr (h:af a b)(f:Fr a c []):af c b:=
 ⟨h.nd,λx d=>by
  have:=h.at_ x d
  exact ⟨by refine J (f.get _ this.2<|by simp) ?_;exact this.1,bE this.2 f.next⟩⟩
theorem af.perm (h:af a b)(p:b.Perm H'):af a H':=
 ⟨(p.map hG).nodup_iff.mp h.nd,λx c=>h.at_ x<|p.mem_iff.mpr c⟩
theorem af.sub (h:af a b)(p:H'.Sublist b):af a H':=
 ⟨h.nd.sublist<|p.map hG,λx c=>h.at_ x<|p.subset c⟩
theorem af.tail (h:af a<|x::b):af a b:=h.sub<|nP _ _
end
end
mutual
section
def dc (a:List aB):Prop:=a.countP fE<=1
theorem Mt {a:List aB}(h:a.countP fE=0)(m:aB.Do b∈a):False:=by
 rw [S9] at h
 exact h _ m rfl
theorem dc.uniq:dc a->aB.Do b∈a->aB.Do d∈a->b=d:=by
 induction a with
 |nil=>exact λ_ m=>nomatch m
 |cons x a l=>
  intro h m i
  have no:∀c j,x=.Do c->aB.Do j∈a->b=d:=λc j e m=>(Mt (by
   subst e
   exact D7.mp<|S_<|ai (bh (Ta (l:=a) (a:=.Do c) rfl).symm)<|show List.countP fE (.Do c::a)<=1 from h) m).elim
  rcases bF.mp m with e|k
  .rcases bF.mp i with f|g
   .cases e.trans f.symm;rfl
   .exact no b d e.symm g
  .rcases bF.mp i with f|g
   .exact no d b f.symm k
   .exact l (ai (Tb<|nP _ _) h) k g
section
variable (a:List Fm)
def own (g:Nat):Prop:=∃b c,a[g]?=H b/\b.nm=H c
def mB (d:Int)(e:cn):Prop:=∀b g c,e b=H (.cx g c)->g<a.length/\(c=I->d<g/\own a g)
abbrev hn:Prop:=
 a.length<=3/\
 (∀(g:Nat) b,a[g]?=H b->dc b.ds)/\
 ∀(g:Nat) b c,a[g]?=H b->b.nm=H c->mB a g c
variable {a} in
theorem hn.len (h:hn a):a.length<=3:=h.1
variable {a} in
theorem hn.one (h:hn a):∀(g:Nat)(b:Fm),a[g]?=H b->dc b.ds:=h.2.1
variable {a} in
theorem hn.nm (h:hn a):∀(g:Nat)(b:Fm)(c:cn),a[g]?=H b->b.nm=H c->mB a g c:=h.2.2
def yE (P:Nat->Bool->Prop):hY->Prop
 |.cx g b=>P g b
 |_=>False
def wB (a:List Fm)(e:List aB)(f:cn)(c:List<|Nat×Bool)(h:Fm->List (Nat×Bool)->Prop):Prop:=
 ∃b,aB.Do b∈e/\bw (f b) (yE λg d=>bw a[g]? λF=>d=N/\(g,N)∈c\/d=I/\h F c)
def DE:Nat->List aB->cn->List (Nat×Bool)->Prop
 |0,_,_,_=>False
 |k+1,d,c,b=>wB a d c b λF b=>DE k F.ds (F.nm.getD c) b
variable {a}
theorem Ai {x:Option b}{c:b}{k:b->Prop}(e:x=H c)(h:bw x k):k c:=by
 rw [e] at h;exact h
theorem Di {c:Prop}(h:yE P x)(k:∀g b,x=.cx g b->P g b->c):c:=by
 cases x with
 |cx g b=>exact k g b rfl h
 |_=>exact h.elim
theorem uL {c:Fm}(f:aB.Do b∈i)(j:k b=H (.cx g d))(l:a[g]?=H c)(h:d=N/\(g,N)∈e\/d=I/\m c e):wB a i k e m:=
 ⟨b,f,aW j▸show bw a[g]? _ from J l h⟩
theorem NA {c:Fm}(j:dc f)(k:aB.Do b∈f)(l:m b=H (.cx g d))(n:a[g]?=H c)(h:wB a f m e i):d=N/\(g,N)∈e\/d=I/\i c e:=by
 refine aK h ?_;clear h;intro q p h
 have h:=j.uniq p k▸h
 have h:=Ai l h
 exact Ai (k:=λc=>d=N/\(g,N)∈e\/d=I/\i c e) n h
theorem DE.mono:∀{c} {d} {f i},DE a k c d f->(∀x∈f,x∈i)->DE a k c d i:=by
 induction k with
 |zero=>exact λh=>h.elim
 |succ k l=>
  intro c d f i h j
  refine aK h ?_;clear h;intro b m h
  refine zo h λx e h=>?_
  refine Di h λg q n h=>?_
  refine zo h λF p h=>?_
  exact uL m (n▸e) p<|h.imp (λh=>⟨h.1,j _ h.2⟩) λh=>⟨h.1,l h.2 j⟩
theorem dc.tl (h:dc<|x::b):dc b:=ai (Tb<|nP _ _) h
theorem QD {i:Bool->St->List Mk->R2}(l:∀f g r,i b f g=H r->r=T):∀d j k f g r,dc d->aB.Do b∈d->row i d j k f g=H r->r=T:=by
 intro d
 induction d with
 |nil=>intro _ _ _ _ _ _ m;cases m
 |cons x d n=>
  intro j k f g r h m c
  refine Rc (P:=λx z=>dc (x::d)->aB.Do b∈x::d->z=H r->r=T) (λt h m c=>?_) (λx p h m c=>?_) x h m (n_ c).2
  .cases h.uniq (.head _) m
   cases e:i b f g with
   |none=>rw [e] at c;exact ao c
   |some q=>
    cases l f g q e
    rw [e] at c
    exact (bf c).symm
  .have s:aB.Do b∈d:=(bF.mp m).resolve_left λe=>by cases e;exact ff p.symm
   cases e:kz j k f g x with
   |none=>rw [e] at c;exact (bf c).symm
   |some y=>rw [e] at c;exact n _ _ _ _ _ h.tl s c
theorem vp {b:List<|Nat×Bool}{g:Nat}:(b.any λx=>!x.2 && cC x.1 g)=I<->(g,N)∈b:=by
 rw [List.any_eq_true]
 refine ⟨λ⟨x,d,c⟩=>?_,λh=>⟨_,h,by simp⟩⟩
 refine rT (hC<|br c) ?_;refine rT (show x.2=N from (EU x.2).mp<|bl c) ?_
 exact d
theorem AV (h:(g,N)∈b):dM b g N=I:=by
 unfold dM
 refine J (vp.mpr h) ?_;rfl
theorem Oz (t:hn a):∀f k d n p i j r,dc d->DE a k d n p->go dM a f d n p i j=H r->r=T:=by
 intro f
 induction f with
 |zero=>intro k d n p i j r _ _ h;exact ao h
 |succ f y=>
  intro k d n p i j r z c l
  cases k with
  |zero=>exact c.elim
  |succ k=>
  refine aK c ?_;clear c;intro b A c
  refine zo c λx q c=>?_
  refine Di c λg P B c=>?_
  have q:=B▸q
  refine zo c λF s m=>?_
  refine QD (b:=b) (λi j r l=>?_) d [] 0 i j r z A l
  refine nq ((Ke q s).symm.trans l) (λ_=>id) λM l=>?_
  rcases m with ⟨e,m⟩|⟨e,m⟩
  .exact ff<|M.symm.trans<|e▸AV m
  .cases tI l with
   |out e=>exact e
   |go X a0 a1 e1 e2 h=>exact y k _ _ _ _ _ r (t.one g F s) (m.mono λx O=>gg _ O) h
def vP (f:Int)(h:List aB)(i:cn)(e:List<|Nat×Bool)(g:Nat):Prop:=∀c d,a[g]?=H c->c.nm=H d->(∀b,(∀x∈e,x∈b)->∃k,DE a k c.ds d b)\/(g:Int)<=f/\∀b k,(∀x∈e,x∈b)->DE a k h i b->∃j,DE a j c.ds d b
def Rq (a:List Fm)(c:Int)(d:List aB)(e:cn)(b:List<|Nat×Bool):Prop:=
 (∀x∈b,x.1<a.length/\(x.2=I->own a x.1))/\mB a c e/\dc d/\(((b.map hG).Nodup/\∀g∈b.map hG,vP (a:=a) c d e b g)\/(∃k,DE a k d e b)/\(b.length:Int)<=4+c)
theorem MO {l n:Bool->St->List Mk->R2}:∀g i j d f r,(∀b,aB.Do b∈g->∀d f r,l b d f=H r->n b d f=H r)->row l g i j d f=H r->row n g i j d f=H r:=by
 intro g
 induction g with
 |nil=>intro _ _ _ _ _ _ h;exact h
 |cons x g z=>
  intro i j d f r t c
  refine aL (n_ c) ?_;rintro ⟨B,M,O⟩ c
  refine (if_neg λq=>q.elim (tx.mpr B) λq=>q.elim (tx.mpr M)<|tx.mpr O).trans ?_
  cases q:fE x with
  |true=>
   refine aC (tK q) ?_;rintro b rfl
   have c:kJ (row l g i j d) (l b d f)=H r:=c
   show kJ (row n g i j d) (n b d f)=H r
   cases e:l b d f with
   |none=>rw [e] at c;exact ao c
   |some A=>
    rw [e] at c
    refine J (t b (.head _) d f A e) ?_
    cases A with
    |none=>exact c
    |some P=>exact (λp k s m=>z p k s m r λb m=>t b<|.tail _ m) _ _ _ _ c
  |false=>
   rw [rn q] at c |-
   cases e:kz i j d f x with
   |none=>rw [e] at c;exact c
   |some y=>rw [e] at c;exact (λp k s m=>z p k s m r λb m=>t b<|.tail _ m) _ _ _ _ c
theorem Dl (c:hn a){b:List<|Nat×Bool}(d:∀x∈b,x.1<a.length/\(x.2=I->own a x.1))(h:(b.map hG).Nodup):b.length<=3:=by
 have:=h.length_le_of_subset (l₂:=ib a.length) λx f=>by
  refine zl f λy g e=>?_
  exact List.mem_range.mpr<|e▸(d y g).1
 rw [cb,List.length_range] at this
 exact ai this c.len
theorem Km (a8:hn a){r:List aB}{l:cn}{f:List<|Nat×Bool}{s:Int}{b:Bool}{g:Nat}{i:Bool}{j:Fm}(i1:∀x∈f,x.1<a.length/\(x.2=I->own a x.1))(i4:((f.map hG).Nodup/\∀g∈f.map hG,vP (a:=a) s r l f g)\/(∃k,DE a k r l f)/\(f.length:Int)<=4+s)
  (a2:aB.Do b∈r) (a3:l b=H (.cx g i)) (t:a[g]?=H j) (a4:¬(g,N)∈f) (O:g<a.length/\(i=I->s<g/\∃p,j.nm=H p))
  (a9:∀k d,DE a k r l d->i=N/\(g,N)∈d\/i=I/\∃P,DE a P j.ds (j.nm.getD l) d) (X:Int) (m:X=match j.nm with|H _=>(g:Int)|T=>s):
  (((f++[(g,i)]).map hG).Nodup/\∀g'∈(f++[(g,i)]).map hG,vP (a:=a) X j.ds (j.nm.getD l) (f++[(g,i)]) g')\/(∃k,DE a k j.ds (j.nm.getD l)<|f++[(g,i)])/\((f++[(g,i)]).length:Int)<=4+X:=by
 have q:∀{d:List<|Nat×Bool},(∀x∈f++[(g,i)],x∈d)->∀x∈f,x∈d:=λh x a0=>h x<|gg _ a0
 have a5:∀{d:List<|Nat×Bool},(∀x∈f++[(g,i)],x∈d)->(g,i)∈d:=λh=>h _<|eK _<|.head _
 have a6:∀d,i=N->(g,N)∈d->DE a 1 r l d:=λd e h=>uL a2 a3 t<|.inl ⟨e,h⟩
 have b0:(f++[(g,i)]).length=f.length+1:=eJ
 refine J b0 ?_
 rcases i4 with ⟨v1,A⟩|⟨⟨k,v⟩,A⟩
 .by_cases a1:g∈f.map hG
  .right
   obtain ⟨b5,p,o2,n⟩:own a g:=by
    refine zl a1 λy B e=>?_
    exact tf y.2 (λc=>e▸(i1 _ B).2 c) λc=>absurd (e▸c▸B) a4
   have n:j.nm=H p:=bf (o2.symm.trans t)▸n
   have b1:=Dl a8 i1 v1
   rw [n] at m |-
   refine ⟨?_,by refine J m ?_;exact fp (dO.mpr<|hy b1)<|Ff<|hA g⟩
   rcases A g a1 j p t n with v|⟨v,M⟩
   .exact v _<|q λ_=>id
   .refine tf i (λe=>?_) λe=>M _ 1 (q λ_=>id)<|a6 _ e<|e▸a5 λ_=>id
    exact absurd (O.2 e).1<|jl.mpr v
  .left
   refine J jn ?_
   refine ⟨ml.mpr ⟨v1,gd.mpr ⟨λh=>(nomatch h),Tc⟩,λx a0 y B e=>a1<|(show x=g from e.trans<|bW.mp B)▸a0⟩,λa7 z b2 b3 x1 x2=>?_⟩
   rcases gh.mp z with z|z
   .rcases A a7 z b2 b3 x1 x2 with v|⟨v,M⟩
    .exact .inl λd h=>v d<|q h
    .refine tf i (λe=>?_) λe=>.inl λd h=>M d 1 (q h)<|a6 d e<|e▸a5 h
     refine aL (O.2 e) λo1 zz=>aC zz λp n=>?_;clear zz
     rw [n] at m
     refine .inr ⟨?_,λd k h hd=>M d (k+1) (q h)<|uL a2 a3 t<|.inr ⟨e,hd⟩⟩
     refine J m ?_;exact fx (nO o1 v)<|by simp+arith only
   .have e0:a7=g:=bW.mp z
    have b4:=bf<|(e0▸x1).symm.trans t
    rw [<-b4,x2] at m |-
    exact .inr ⟨e0▸Int.le_of_eq m.symm,λd k _ hd=>⟨k,hd⟩⟩
 .right
  rcases a9 k f v with ⟨e,h⟩|⟨e,P,h⟩
  .exact absurd h a4
  .refine aL (O.2 e) λo1 zz=>aC zz λp n=>?_;clear zz
   refine ⟨⟨P,h.mono<|q λ_=>id⟩,?_⟩
   rw [n] at m
   refine J m ?_
   show (f.length:Int)+1<=4+(g:Int)
   exact fx (nO (show s+1<=(g:Int) from o1) A)<|by simp+arith only
theorem Ru (m:hn a):∀f y d c M n p r,Rq a M y d c->go dM a f y d c n p=H r->go iB a f y d c n p=H r:=by
 intro f
 induction f with
 |zero=>intro _ _ _ _ _ _ _ _ h;exact ao h
 |succ f a4=>
  intro y d c M n p r ⟨i1,O,i3,i4⟩ i
  refine MO (l:=gY dM a d c λF d c n p=>go dM a f F.ds d c n p) y [] 0 n p r (λb a3 n p r i=>P6 i λg j F A s i=>?_) i
  have a1:∀k P,DE a k y d P->j=N/\(g,N)∈P\/j=I/\∃k',DE a k' F.ds (F.nm.getD d) P:=by
   intro k P h
   cases k with
   |zero=>exact h.elim
   |succ k=>exact (NA i3 a3 A s h).imp id λh=>⟨h.1,k,h.2⟩
  have B:g<a.length/\(j=I->M<g/\∃t,F.nm=H t):=by
   refine ⟨(O b g j A).1,λe=>?_⟩
   refine aL ((O b g j A).2 e) λo1 zz=>hg zz λa8 t o2 X=>?_;clear zz
   exact ⟨o1,t,bf (o2.symm.trans s)▸X⟩
  by_cases z:(g,N)∈c
  .refine J (show iB c g j=I from vp.mpr z) ?_
   refine congrArg H<|aW<|nq i (λ_=>id) λa5 i=>?_
   have hd:j=I:=tf j id λe=>ff<|a5.symm.trans<|e▸AV z
   refine aL (B.2 hd) λo1 zz=>aC zz λt X=>?_;clear zz
   have a0:∃k,DE a k F.ds (F.nm.getD d)<|c++[(g,j)]:=by
    rcases i4 with ⟨_,v⟩|⟨⟨k,v⟩,_⟩
    .rcases v g (mm (f:=hG) z) F t s X with v|⟨v,_⟩
     .exact aW X▸v _ λx l=>gg _ l
     .exact absurd o1<|jl.mpr v
    .rcases a1 k c v with ⟨e,_⟩|⟨_,k',e⟩
     .exact ff<|e.symm.trans hd
     .exact ⟨k',e.mono λx l=>gg _ l⟩
   refine aC a0 ?_;clear a0;intro k a0
   cases tI i with
   |out e=>exact e
   |go a9 a6 a7 e1 e2 h=>exact Oz m f k _ _ _ _ _ r (m.one g F s) a0 h
  .have na:(c.any λx=>!x.2 && cC x.1 g)=N:=(Bool.not_eq_true _).mp λh=>z<|vp.mp h
   refine J (show iB c g j=N from na) ?_
   have ol:c.length<=6:=by
    rcases i4 with ⟨h1,_⟩|⟨⟨k,v⟩,h2⟩
    .exact ai (Dl m i1 h1)<|by decide
    .rcases a1 k c v with ⟨e,h⟩|⟨e,_⟩
     .exact absurd h z
     .have:=(B.2 e).1
      exact dO.mp<|fp h2<|fp (DT (SK this) 4)<|fp (DT (dO.mpr<|tw<|bE B.1 m.len) 4)<|by decide
   refine nq i (λa2 _=>?_) λ_ i=>Rk (λa6 a7 r i=>a4 _ _ _ (match F.nm with|H _=>(g:Int)|T=>M) _ _ r ⟨?_,?_,m.one g F s,Km m i1 i4 a3 A s z B a1 _ rfl⟩ i) i
   .refine absurd (ai (fL ?_) ol)<|show ¬8<=6 by decide
    unfold dM at a2
    rw [na,tc,DZ] at a2
    exact a2
   .intro x l
    rcases gh.mp l with l|l
    .exact i1 x l
    .refine J (bW.mp l) ?_
     exact ⟨B.1,λe=>((O b g j A).2 e).2⟩
   .have q:=λd=>m.nm g F d s
    revert q
    cases F.nm with
    |none=>exact λ_=>O
    |some t=>exact λq=>q t rfl
end
end
mutual
open Mine
theorem Ds {c:List St}{i:Nat}{f:St}{p:List Mk}{x:aB}{y:List St×Nat×St×List Mk}(h:kz c i f p x=H y):
  y.1.length<=c.length+1/\y.2.2.2.length<=p.length+1/\∀A,(∀s∈f::c,s.cs.length+1<=A)->∀s∈y.2.2.1::y.1,s.cs.length<=A:=by
 have g:∀{r:Type} (l:List r) (a:r),(l++[a]).length<=l.length+1:=λl a=>bh eJ
 have d:∀A,(∀s∈f::c,s.cs.length+1<=A)->∀s∈f::c,s.cs.length<=A:=λA h s m=>nJ<|h s m
 have j:∀n:St,n.cs.length<=f.cs.length+1->∀A,(∀s∈f::c,s.cs.length+1<=A)->∀s∈n::c,s.cs.length<=A:=λn q A h s m=>by
  rcases bF.mp m with rfl|m
  .exact ai q<|h f<|.head _
  .exact d A h s<|.tail _ m
 have b:=dX
 cases x with
 |re=>refine aG h ?_;rintro rfl;exact ⟨b _,g _ _,d⟩
 |W=>refine aG h ?_;rintro rfl;exact ⟨b _,g _ _,j _<|g _ _⟩
 |cm=>refine aG h ?_;rintro rfl;exact ⟨b _,b _,j _<|b _⟩
 |gr=>refine aG h ?_;rintro rfl;exact ⟨b _,b _,j _<|b _⟩
 |qq=>refine aG h ?_;rintro rfl;exact ⟨aT _,b _,λA h s m=>(bF.mp m).elim (λe=>d A h s<|e▸.head _)<|d A h s⟩
 |BI=>refine aG h ?_;rintro rfl;exact ⟨b _,g _ _,d⟩
 |BX=>refine aG h ?_;rintro rfl;exact ⟨b _,b _,d⟩
 |Do=>exact ao h
 |Q=>cases c with
  |nil=>exact ao h
  |cons s c=>refine aG h ?_;rintro rfl;exact ⟨ai (b _)<|b _,b _,λA h s m=>d A h s<|.tail _ m⟩
 |EX=>cases i with
  |zero=>exact ao h
  |succ k=>refine aG h ?_;rintro rfl;exact ⟨b _,b _,d⟩
 |zz=>cases i with
  |zero=>exact ao h
  |succ k=>refine aG h ?_;rintro rfl;exact ⟨b _,b _,d⟩
def yG (e:Bool->St->List Mk->R2)(B M:Nat):Prop:=∀b c a,a.length+B<=300->c.cs.length+B<=300->∃r,e b c a=H r/\∀d,r=H d->d.length<=a.length+M
theorem Ic:∀c d j f g,c.countP fE=0->(∀s∈f::d,s.cs.length+c.length<=800)->d.length+c.length<=800->g.length+c.length<=800->
  ∃r,row A c d j f g=H r/\∀l,r=H l->l.length<=g.length+c.length:=by
 intro c
 induction c with
 |nil=>intro d j f g _ _ _ _;exact ⟨_,rfl,λl e=>by refine aG e ?_;clear e;rintro rfl;exact aT _⟩
 |cons x c O=>
  intro d j f g i p n t
  replace i:=tC▸i
  have q:fE x=N:=by
   cases e:fE x with
   |true=>rw [e] at i;cases i
   |false=>rfl
  have i:c.countP fE=0:=(Nat.add_eq_zero_iff.mp i).1
  replace p:=fM▸p
  replace n:=fM▸n
  replace t:=fM▸t
  have z:∀{a b},a+(b+1)<=800->¬900<=a:=λh q=>absurd (ai q<|dg h)<|by decide
  show ∃r,(if 900<=g.length\/900<=d.length\/900<=f.cs.length then T else lE A (row A c) d j f g x)=H r/\_
  refine J (if_neg λq=>q.elim (z t) λq=>q.elim (z n)<|z<|p f<|.head _) ?_;refine J (rn q) ?_
  cases e:kz d j f g x with
  |none=>exact ⟨T,rfl,λ_ h=>ao h⟩
  |some y=>
   refine dI (Ds e) λP B X=>?_
   have M:∀{a b},a<=b+1->b+(c.length+1)<=800->a+c.length<=800:=λh k=>by exact ay (bK h k)<|by simp+arith only
   refine aK (O y.1 y.2.1 y.2.2.1 y.2.2.2 i (λs m=>by have:=X (800 - c.length) λs m=>by have:=p s m;exact Td<|ay this<|by simp+arith only s m;exact Te (ai (ai (dX _)<|ab _ _) n) this) (M P n)<|M B t) λr e a0=>?_
   exact ⟨r,e,λl e'=>ai (a0 l e')<|by refine J fM ?_;exact ay B<|by simp+arith only⟩
theorem OC (a1:yG l B M):∀c f j d g,dc c->(∀s∈d::f,s.cs.length+c.length+B<=300)->f.length+c.length<=300->g.length+c.length+B<=300->M<=400->
  ∃r,row l c f j d g=H r/\∀i,r=H i->i.length<=g.length+c.length+M:=by
 intro c
 induction c with
 |nil=>intro f j d g _ _ _ _ _;exact ⟨_,rfl,λi e=>by refine aG e ?_;clear e;rintro rfl;exact bZ _ _⟩
 |cons x c X=>
  intro f j d g t n p k a0
  replace n:=fM▸n
  replace p:=fM▸p
  replace k:=fM▸k
  have z:∀{a b},a+b<=300->¬900<=a:=λh q=>absurd (ai q<|dg h)<|by decide
  have s0:=n d<|.head _
  show ∃r,(if 900<=g.length\/900<=f.length\/900<=d.cs.length then T else lE l (row l c) f j d g x)=H r/\_
  refine J (if_neg λq=>q.elim (z<|dg k) λq=>q.elim (z p)<|z<|dg s0) ?_
  simp only [fM]
  cases q:fE x with
  |true=>
   refine aC (tK q) ?_;rintro b rfl
   have c3:c.countP fE=0:=D7.mp<|S_<|ai (bh (Ta (l:=c) q).symm) t
   show ∃r,kJ (row l c f j d) (l b d g)=H r/\_
   clear X t
   refine aK (a1 b d g (ay k<|by simp+arith only)<|ay s0<|by simp+arith only) λr1 e1 q1=>?_
   refine J e1 ?_
   cases r1 with
   |none=>exact ⟨T,rfl,λ_ h=>ao h⟩
   |some i=>
    have q2:=q1 i rfl
    refine aK (Ic (A:=l) c f j d i c3 λs m=>by have:=n s m;exact ay this<|by simp+arith only (ay p<|by simp+arith only)<|ay (bK q2<|bK k a0)<|by simp+arith only) λr e A=>?_
    exact ⟨r,e,λa2 O=>ai (A a2 O)<|ay q2<|by simp+arith only⟩
  |false=>
   refine J (rn q) ?_
   cases e:kz f j d g x with
   |none=>exact ⟨T,rfl,λ_ h=>ao h⟩
   |some y=>
    refine dI (Ds e) λb1 b2 P=>?_
    have P:=P (300 - (c.length+B)) λs m=>by have:=n s m;exact Td<|ay this<|by simp+arith only
    clear e
    refine aK (X y.1 y.2.1 y.2.2.1 y.2.2.2 t.tl (λs m=>ai (bh<|SD ..)<|Te (ai (dt (ai (dX _)<|ab _ _) B) k)<|P s m) (ay (bK b1 p)<|by simp+arith only) (ay (bK b2 k)<|by simp+arith only) a0) λr e A=>?_
    exact ⟨r,e,λi O=>ai (A i O)<|ay b2<|by simp+arith only⟩
section
variable {a:List Fm}
theorem Lx (a3:hn a)(b4:∀(g:Nat)(j:Fm),a[g]?=H j->j.ds.length<=10):∀f t x n k l i,k.length+t=8->t<f->dc x->x.length<=10->(∀b g p,n b=H (.cx g p)->g<a.length)->i.length+11*t+11<=300->l.cs.length+11*t+11<=300->
  ∃r,go dM a f x n k l i=H r/\∀d,r=H d->d.length<=i.length+11*t+11:=by
 intro f
 induction f with
 |zero=>intro t x n k l i _ X;exact absurd X<|S1 _
 |succ f b5=>
  intro t x n k l i h1 X b6 B a4 hm a5
  have b7:yG (gY dM a n k λj n k l i=>go dM a f j.ds n k l i) (11*t+1)<|11*t+1:=by
   clear hm a5
   intro b l i b1 b2
   have no:∃r,(H T:R2)=H r/\∀d,r=H d->d.length<=i.length+(11*t+1):=⟨T,rfl,λ_ h=>ao h⟩
   refine Ad (m:=λz=>∃r,z=H r/\∀d,r=H d->d.length<=i.length+(11*t+1)) (λ_=>no) (λ_=>⟨_,rfl,λd e=>bf e▸ai (bh eJ) (gZ (ab _ _) _)⟩) (λ_=>no) (λg p a0 y=>?_) λg p j a0 y=>?_
   .exact ao<|y.symm.trans<|iQ<|a4 b g p a0
   have g1:∀{a6 c:Nat},a6+11*t+11<=300->¬900<=a6:=λh q=>absurd (ai q<|dg<|dg h)<|by decide
   cases a7:dM k g p with
   |true=>exact no
   |false=>
   have a8:¬(900<=i.length\/900<=l.cs.length):=λq=>q.elim λq=>absurd (ai q<|ai (bZ _ _) b1)<|by decide λq=>absurd (ai q<|ai (bZ _ _) b2)<|by decide
   cases t with
   |zero=>
    refine ff<|a7.symm.trans ?_
    unfold dM
    refine J (show ih 8 k.length=I from Tf.mpr<|bh h1.symm) ?_;rw [E3]
   |succ t=>
   have b8:(k++[(g,p)]).length+t=8:=by refine J eJ ?_;exact (tp ..).trans h1
   show ∃r,gv _ _ l i=H r/\_
   unfold gv
   refine J (if_neg a8) ?_
   clear a7 a0 a8
   have a9:∀M O,M.cs.length<=l.cs.length+1->O.length<=i.length+1->∃r,go dM a f j.ds (j.nm.getD n) (k++[(g,p)]) M O=H r/\∀d,r=H d->d.length<=i.length+(11*(t+1)+1):=by
    intro M O c1 c2
    refine aK (b5 t j.ds (j.nm.getD n) (k++[(g,p)]) M O b8 (Nat.lt_of_succ_lt_succ X) (a3.one g _ y) (b4 g _ y) (λb' g' b0 A=>by
     have q:=λa1=>a3.nm g j a1 y
     revert q A
     cases j.nm with
     |none=>exact λA _=>a4 b' g' b0 A
     |some a1=>exact λA q=>(q a1 rfl b' g' b0 A).1) (ay (bK c2 b1)<|by simp+arith only)<|ay (bK c1 b2)<|by simp+arith only) λr e a2=>?_
    exact ⟨r,e,λd e'=>ai (a2 d e')<|ay c2<|by simp+arith only⟩
   have b3:∀P,P.cs=l.cs->∃r,iU (hL j.ed P i) (go dM a f j.ds (j.nm.getD n)<|k++[(g,p)])=H r/\∀d,r=H d->d.length<=i.length+(11*(t+1)+1):=by
    intro P e
    cases e2:j.ed with
    |no=>exact a9 P i (e▸dX _)<|dX _
    |bad=>exact no
    |box=>exact a9 _ _ (e▸bh eJ)<|bh eJ
   cases e1:j.mx with
   |no=>exact b3 l rfl
   |bad=>exact no
   |six m=>exact b3 _ rfl
  refine aK (OC b7 x [] 0 l i b6 λs m=>by refine J (bW.mp m) ?_;exact ay (bK a5 B)<|by simp+arith only (ai (bh<|th _)<|ai B<|by decide) (ay (bK hm B)<|by simp+arith only)<|ay (eA 11<|bh h1)<|by simp+arith only) λr e a2=>?_
  exact ⟨r,e,λd e'=>ai (a2 d e')<|ay B<|by simp+arith only⟩
end
end
end
mutual
section
open PySem Sh
def kV (t:Int):E:=if t=0 then D 0 else if t=10 then D 1 else .inst 155 [(Q "top",.int t),(Q "places",.int 1)]
def gP (t:Int):E:=if 9<t then D 1 else if t=0 then D 0 else .inst 155 [(Q "top",.int t),(Q "places",.int 1)]
def bX.iX (q:bX):E:=.tup [.tup [S "move",.tup [D q.a,D q.b]],.tup [S "line",.tup [D q.c,D q.d]],.tup [S "line",.tup [D q.e,D q.f]],.tup [S "line",.tup [D q.g,D q.h]],.tup [S "close"]]
def iq (q:bX):E:=.tup [S "nonzero",q.gx]
def zT:List E:=[S "DeviceGray",.tup [D 0]]
def wc:List<|ae×E:=[(Q "width",D 1),(Q "cap",.int 0),(Q "join",.int 0),(Q "miter",D 10),(Q "dash",.tup [.tup [],D 0]),(Q "spacing",D 0),(Q "word_spacing",D 0),(Q "leading",D 0),(Q "size",D 0),(Q "rise",D 0),(Q "scale",D 100),(Q "font",S ""),(Q "mode",.int 0)]
def St.sf (a:St):SF:=⟨a.m,a.cs.map iq,[S "DeviceGray",.tup [gP a.t]],zT,wc⟩
def lL.mv:lL->E
 |.eb o m=>.tup [S "image",.str<|zE o,m.dh]
 |.clip q=>.tup [S "clip",S "nonzero",q.gx]
 |.fill q t=>.tup [S "fill",S "nonzero",q.gx,.tup [S "DeviceGray",.tup [gP t]]]
def Mk.mv (m:Mk):E:=m.k.mv
def Mk.cv (m:Mk):E:=.tup<|m.cs.map iq
def C (p:Nat)(w:PF)(a:SF)(b c d e:List E):List<|Nat×au:=[(p,PO w),(w.s,SO a),(w.of,.lst b),(w.ma,.lst c),(w.cl,.lst d),(w.pl,.lst e)]
section
variable {n:bV}{d b:Nat}{a:R}{w:PF}{s:SF}{f m c l:List E}{e:List<|Nat×au}{X:Prop}
theorem af.gp (h:af a<|C b w s f m c l++e):a.get b=H (PO w):=h.get<|.head _
theorem af.gs (h:af a<|C b w s f m c l++e):a.get w.s=H (SO s):=h.get<|.tail _<|.head _
theorem af.oj (h:af a<|C b w s f m c l++e):a.get w.of=H (.lst f):=h.get<|cD (i:=2) rfl
theorem af.fa (h:af a<|C b w s f m c l++e):a.get w.ma=H (.lst m):=h.get<|cD (i:=3) rfl
theorem af.A0 (h:af a<|C b w s f m c l++e):a.get w.cl=H (.lst c):=h.get<|cD (i:=4) rfl
theorem af.kA (h:af a<|C b w s f m c l++e):a.get w.pl=H (.lst l):=h.get<|cD (i:=5) rfl
theorem af.ss (h:af a<|C b w s f m c l++e):af (a.set w.s<|SO g)<|C b w g f m c l++e:=af.set (A:=[_]) h
theorem af.CW (h:af a<|C b w s f m c l++e):af (a.set w.of<|.lst g)<|C b w s g m c l++e:=af.set (A:=[_,_]) h
theorem af.PE (h:af a<|C b w s f m c l++e):af (a.set w.ma<|.lst g)<|C b w s f g c l++e:=af.set (A:=[_,_,_]) h
theorem af.Qi (h:af a<|C b w s f m c l++e):af (a.set w.cl<|.lst g)<|C b w s f m g l++e:=af.set (A:=[_,_,_,_]) h
theorem af.vl (h:af a<|C b w s f m c l++e):af (a.set w.pl<|.lst g)<|C b w s f m c g++e:=af.set (A:=[_,_,_,_,_]) h
theorem af.oJ (h:af a<|C b w s f m c l++e):af (a.set b<|PO {w with pa:=g})<|C b {w with pa:=g} s f m c l++e:=af.set (A:=[]) h
theorem af.wU (h:af a<|C b w s f m c l++e):af (a.set b<|PO {w with ru:=x})<|C b {w with ru:=x} s f m c l++e:=af.set (A:=[]) h
theorem af.sb (h:af a<|C b w s f m c l++e):af (a.set b<|PO {w with sk:=x})<|C b {w with sk:=x} s f m c l++e:=af.set (A:=[]) h
theorem af.qg (h:af a<|C b w s f m c l++e):af (a.set b<|PO {w with fl:=x})<|C b {w with fl:=x} s f m c l++e:=af.set (A:=[]) h
theorem af.rX (h:af a<|C b w s f m c l++e):af (a.set b<|PO {w with res:=x})<|C b {w with res:=x} s f m c l++e:=af.set (A:=[]) h
theorem iH (h:k N):wp (ax a .NotEq (.tup [])<|.tup []) k:=aR (c:=N) (by kernel_rfl) h
theorem vw {q:bX}(h:k I):wp (ax a .NotEq (.tup [q.iX])<|.tup []) k:=aR (c:=I) (by kernel_rfl) h
theorem vj {q:bX}(h:k N):wp (ax a .Eq (.tup [q.iX])<|.tup []) k:=aR (c:=N) (by kernel_rfl) h
theorem ey (h:k N):wp (ax a .IsNot .none .none) k:=aR (c:=N) (by kernel_rfl) h
theorem vk (h:k N):wp (ax a .NotEq (.str<|Q "")<|S "") k:=aR (c:=N) (by kernel_rfl) h
theorem Hg (h:k I):wp (ax a .NotEq (.str<|Q "nonzero")<|S "") k:=aR (c:=I) (by kernel_rfl) h
theorem xf (h:k<|aP<|x<=y):wp (ax a .LtE (.int x)<|.int y) k:=aR rfl h
theorem pB (h:k<|aP<|x<y):wp (ax a .Lt (.int x)<|.int y) k:=aR rfl h
theorem ji (h:k<|aP<|y<x):wp (ax a .Gt (.int x)<|.int y) k:=aR rfl h
theorem sH (h:k<|aP<|y<=x):wp (ax a .GtE (.int x)<|.int y) k:=aR rfl h
theorem gb (h:k (.int<|x+y,a)):wp (bA N N a .Add (.int x)<|.int y) k:=aR rfl h
theorem hZ (h:k (.int<|x - y,a)):wp (bA N N a .Sub (.int x)<|.int y) k:=aR rfl h
theorem nY (g:x.length+y.length<=1000000)(h:k (.tup<|x++y,a)):wp (bA N N a .Add (.tup x)<|.tup y) k:=fy (c:=.p<|x.length+y.length<=1000000) rfl g h
theorem jA (g:x<100)(h:k ()):wp (bQ x) k:=by
 unfold bQ
 refine J (decide_eq_true g) ?_
 exact h
theorem rz (g:Lv 12 n d)(h:af a<|C b w s f m c l++e)(p:m.length<1000000)(q:c.length<1000000)(r:∀i,af i (C b w s f (m++[j]) (c++[.tup s.cs]) l++e)->k .none i):(On n).call d (F 764) [.loc b,j] a k X:=by
 refine cq g λg=>?_
 refine Oo ?_
 refine Dc h.gp<|cU h.fa<|eo h.fa p ?_
 have h:=h.PE (g:=m++[j])
 exact Dd h.gp<|cU h.A0<|fN h.gp<|um h.gs<|eo h.A0 q<|r _ h.Qi
theorem CB {g i:E}(j:Lv 13 n d)(h:af a<|C b w s f m c l++e)(q:s.cs.length<1000000)(r:m.length<1000000)(t:c.length<1000000)
  (x:∀p,af p (C b w {s with cs:=s.cs++[.tup [g,i]]} f (m++[.tup [S "clip",g,i]]) (c++[.tup<|s.cs++[.tup [g,i]]]) l++e)->k .none p):(On n).call d (F 839) [.loc b,g,i] a k X:=by
 refine cq j λj=>?_
 refine GY ?_
 refine fN h.gp<|um h.gs<|nY (by simp;exact tw q)<|fN h.gp<|IC h.gs ?_
 exact rz j h.ss r t x
theorem zH {x y:Int}{P:Int->Prop}(h:P<|if x=y then 0 else if y<x then 1 else -1):match x - y==0 with|I=>P 0|N=>match aP<|0<x - y with|I=>P 1|N=>P<|-1:=by
 by_cases g:x=y
 .rw [if_pos g] at h
  simp only [show (x - y==0)=I from beq_iff_eq.mpr<|Tg.mpr g]
  exact h
 .rw [if_neg g] at h
  refine J (show (x - y==0)=N from beq_eq_false_iff_ne.mpr λz=>g<|Tg.mp z) ?_
  by_cases i:y<x
  .rw [if_pos i] at h
   refine J (decide_eq_true<|Th.mpr i) ?_
   exact h
  .rw [if_neg i] at h
   refine J (decide_eq_false λz=>i<|Th.mp z) ?_
   exact h
theorem BJ (g:Lv 10 n d)(j:bq x)(p:bq y)(h:k (.int<|if x=y then 0 else if y<x then 1 else -1) a):(On n).call d (F 110) [D x,.int y] a k X:=by
 refine bN (c:=[180,187,173]) (l:=I) (m:=I) bO g λ_=>ND (g.dm rfl) (es j) (es p) ?_
 rw [nN,nN]
 exact zH (P:=λi=>k (.int i) a) h
theorem Pn (g:Lv 10 n d)(j:bq x)(p:bq y)(h:k (.int<|if x=y*10 then 0 else if y*10<x then 1 else -1) a):(On n).call d (F 110) [.inst 155 [(Q "top",.int x),(Q "places",.int 1)],.int y] a k X:=by
 refine bN (c:=[180,187,173]) (l:=I) (m:=I) bO g λ_=>Q4 (g.dm rfl) (es j) (es p) ?_
 rw [nN]
 exact zH (P:=λi=>k (.int i) a) h
end
end
mutual
section
variable {n:bV}{d p:Nat}{a:R}{w:PF}{s:SF}{f m c l:List E}{b:List<|Nat×au}{X:Prop}
theorem Kz (h:k<|.tup [v]):wp (dB a (.type "tuple") [.lst [v]]) k:=aR rfl h
theorem Fr.N7:Fr a (((a.alloc<|.lst []).set a.next<|.lst [v]).free a.next) []:=(((Fr.refl a []).alloc).set<|.inl<|aT _).free<|.inl<|aT _
theorem IS (g:Lv 14 n d)(A:0<=t)(M:t<13)(h:∀B,Fr a B []->k (.tup [gP t]) B):(On n).call d (F 663) [.lst [kV t],.int 1] a k X:=by
 have O:bq t:=⟨by exact fx A<|by simp+arith only,by exact fx M<|by simp+arith only⟩
 have i:bq 1:=⟨by decide,by decide⟩
 have P:bq 0:=⟨by decide,by decide⟩
 have j:∀v,v=gP t->(On n).aE (d+1) (.loc a.next) (Q "append") .blt [v] (a.alloc<|.lst []) (λr a0=>wp (bG a0<|E.loc a.next) λr=>wp (dB r.snd (cX "tuple") [r.1]) λa1=>k a1 r.snd) X:=by
  intro v e
  refine eo eg (by trivial)<|hN bP<|Kz ?_
  refine J e ?_
  exact h _ Fr.N7
 by_cases y:t=0
 .subst y
  refine bN (c:=[642,293,286]) (l:=I) (m:=N) bO g λg=>?_
  refine zI (nJ<|g.dm rfl)<|cg<|BJ (g.le<|by exact ab _ _) P i<|ji ?_
  exact cU eg<|j _ rfl
 by_cases z:t=10
 .subst z
  refine bN (c:=[642,293,286]) (l:=I) (m:=N) bO g λg=>?_
  refine zI (nJ<|g.dm rfl)<|cg<|BJ (g.le<|by exact ab _ _) i i<|ji ?_
  exact cU eg<|j _ rfl
 refine aW (show kV t=.inst 155 [(Q "top",.int t),(Q "places",.int 1)] by unfold kV;refine J (if_neg y) ?_;exact J (if_neg z) rfl)▸?_
 refine bN (c:=[642,293,286,180]) (l:=I) (m:=N) bO g λg=>?_
 have hd:=g.depth
 refine QT (nJ<|g.dm rfl) ?_
 refine aW (show aP (t<0)=N from decide_eq_false<|jl.mpr A)▸?_
 refine cg<|Pn (g.le<|by exact ab _ _) O i<|ji ?_
 by_cases x:10<t
 .refine J (if_neg<|Int.ne_of_gt<|fx x<|by simp+arith only) ?_
  refine aW (if_pos<|by omega)▸?_
  exact cU eg ⟨by exact ay hd<|by simp+arith only,j _<|by unfold gP;exact J (if_pos<|Int.lt_trans (by decide) x) rfl⟩
 .refine J (if_neg<|by assumption) ?_;refine J (if_neg<|jl.mpr<|fp (jl.mp x)<|by decide) ?_
  exact cU eg<|j _<|by unfold gP;refine J (if_neg λq=>z<|Su (jl.mp x) q) ?_;exact J (if_neg y) rfl
theorem Lq (e:Lv 18 n d)(q:0<=t)(r:t<13)(h:af a<|C p w s f m c l++b)(x:∀g,af g (C p w {s with fi:=[S "DeviceGray",.tup [gP t]]} f m c l++b)->k .none g):(On n).call d (F 684) [.loc w.s,S "g",.lst [kV t]] a k X:=by
 refine bN (c:=[677,670]) (l:=I) (m:=I) bO e λe=>?_
 have i:=e.depth
 refine LW ?_
 refine uS h.gs ⟨by exact dg<|by assumption,by exact ay i<|by simp+arith only,IS ⟨by exact ay i<|by simp+arith only⟩ q r λg j=>?_⟩
 exact Hy (v:=[S "DeviceGray",.tup [gP t]]) (h.fr j).gs<|x _ (h.fr j).ss
theorem L1 (e:Lv 2 n d)(h:af a<|C p w s f m c l++b)(g:w.pa=[])(i:k .none a):(On n).call d (F 771) [.loc p,S "q"] a k X:=by
 refine bN (c:=[]) (l:=N) (m:=N) bO e λe=>?_
 refine MR ?_
 refine eC h.gp<|eX ?_
 refine aW g▸?_
 exact iH<|gX h.gp<|ey i
theorem zY (e:Lv 2 n d)(h:af a<|C p w s f m c l++b)(g:w.pa=[])(i:k .none a):(On n).call d (F 771) [.loc p,S "Q"] a k X:=by
 refine bN (c:=[]) (l:=N) (m:=N) bO e λe=>?_
 refine KP ?_
 refine eC h.gp<|eX ?_
 refine aW g▸?_
 exact iH<|gX h.gp<|ey i
theorem Ld (e:Lv 2 n d)(h:af a<|C p w s f m c l++b)(g:w.pa=[])(i:k .none a):(On n).call d (F 771) [.loc p,S "cm"] a k X:=by
 refine bN (c:=[]) (l:=N) (m:=N) bO e λe=>?_
 refine PY ?_
 refine eC h.gp<|eX ?_
 refine aW g▸?_
 exact iH<|gX h.gp<|ey i
theorem Om (e:Lv 2 n d)(h:af a<|C p w s f m c l++b)(g:w.pa=[])(i:k .none a):(On n).call d (F 771) [.loc p,S "g"] a k X:=by
 refine bN (c:=[]) (l:=N) (m:=N) bO e λe=>?_
 refine Gm ?_
 refine eC h.gp<|eX ?_
 refine aW g▸?_
 exact iH<|gX h.gp<|ey i
theorem Qs (e:Lv 2 n d)(h:af a<|C p w s f m c l++b)(g:w.pa=[])(i:k .none a):(On n).call d (F 771) [.loc p,S "re"] a k X:=by
 refine bN (c:=[]) (l:=N) (m:=N) bO e λe=>?_
 refine LV ?_
 refine eC h.gp<|eX ?_
 refine aW g▸?_
 exact iH<|gX h.gp<|ey i
theorem OI (e:Lv 2 n d)(h:af a<|C p w s f m c l++b)(g:w.pa=[])(i:k .none a):(On n).call d (F 771) [.loc p,S "BI"] a k X:=by
 refine bN (c:=[]) (l:=N) (m:=N) bO e λe=>?_
 refine G0 ?_
 refine eC h.gp<|eX ?_
 refine aW g▸?_
 exact iH<|gX h.gp<|ey i
theorem O6 (e:Lv 2 n d)(h:af a<|C p w s f m c l++b)(g:w.pa=[])(i:k .none a):(On n).call d (F 771) [.loc p,S "BX"] a k X:=by
 refine bN (c:=[]) (l:=N) (m:=N) bO e λe=>?_
 refine Pt ?_
 refine eC h.gp<|eX ?_
 refine aW g▸?_
 exact iH<|gX h.gp<|ey i
theorem Dh (e:Lv 2 n d)(h:af a<|C p w s f m c l++b)(g:w.pa=[])(i:k .none a):(On n).call d (F 771) [.loc p,S "EX"] a k X:=by
 refine bN (c:=[]) (l:=N) (m:=N) bO e λe=>?_
 refine PC ?_
 refine eC h.gp<|eX ?_
 refine aW g▸?_
 exact iH<|gX h.gp<|ey i
theorem Bi (e:Lv 2 n d)(h:af a<|C p w s f m c l++b)(g:w.pa=[])(i:k .none a):(On n).call d (F 771) [.loc p,S "zz"] a k X:=by
 refine bN (c:=[]) (l:=N) (m:=N) bO e λe=>?_
 refine OU ?_
 refine eC h.gp<|eX ?_
 refine aW g▸?_
 exact iH<|gX h.gp<|ey i
theorem Kb (e:Lv 2 n d)(h:af a<|C p w s f m c l++b)(g:w.pa=[])(i:k .none a):(On n).call d (F 771) [.loc p,S "Do"] a k X:=by
 refine bN (c:=[]) (l:=N) (m:=N) bO e λe=>?_
 refine I0 ?_
 refine eC h.gp<|eX ?_
 refine aW g▸?_
 exact iH<|gX h.gp<|ey i
theorem Lb {q:bX}(e:Lv 2 n d)(h:af a<|C p w s f m c l++b)(g:w.pa=[q.iX])(i:k .none a):(On n).call d (F 771) [.loc p,S "f"] a k X:=by
 refine bN (c:=[]) (l:=N) (m:=N) bO e λe=>?_
 refine Jw ?_
 refine eC h.gp<|eX ?_
 refine aW g▸?_
 refine vw ?_
 exact gX h.gp<|ey i
theorem Jq {q:bX}(e:Lv 2 n d)(h:af a<|C p w s f m c l++b)(g:w.pa=[q.iX])(i:k .none a):(On n).call d (F 771) [.loc p,S "W"] a k X:=by
 refine bN (c:=[]) (l:=N) (m:=N) bO e λe=>?_
 refine HO ?_
 refine eC h.gp<|eX ?_
 refine aW g▸?_
 refine vw ?_
 exact gX h.gp<|ey i
theorem Ki {q:bX}(e:Lv 2 n d)(h:af a<|C p w s f m c l++b)(g:w.pa=[q.iX])(i:k .none a):(On n).call d (F 771) [.loc p,S "n"] a k X:=by
 refine bN (c:=[]) (l:=N) (m:=N) bO e λe=>?_
 refine N_ ?_
 refine eC h.gp<|eX ?_
 refine aW g▸?_
 refine vw ?_
 exact gX h.gp<|ey i
end
end
end
mutual
section
open Sh PySem PySem.W PyProof.Rows PySem.Calls
theorem KV (a:k (E.tup []) b):aN (inl O bS [] I I 8) 512 d [P0] b k X:=aj (by kernel_rfl) a
theorem Fz (c:wp (aw a x<|Q "word") λe=>wp (aw a x<|Q "operands") λf=>O.call (d+1) (F 778) [b,e,f] a (λi g=>k Fl.next (fr 757 d [(Q "painter",b),(Q "operations",h),(Q "operation",x)]) g) X):eN O 757 0 x (fr 757 d [(Q "painter",b),(Q "operations",h)]) a k X:=aj (by kernel_rfl) c
theorem Lk (c:wp (aw a x<|Q "word") λe=>wp (aw a x<|Q "operands") λf=>O.call (d+1) (F 778) [b,e,f] a (λi g=>k Fl.next (fr 757 d [(Q "painter",b),(Q "operations",h),(Q "operation",x)]) g) X):eN O 757 0 x (fr 757 d [(Q "painter",b),(Q "operations",h),(Q "operation",j)]) a k X:=aj (by kernel_rfl) c
theorem Q1 (b:wp (hj a) λc=>O.bH (cN 757 0) (cB 757 0) c (fr 757 d [(Q "painter",e),(Q "operations",a)]) f (eO O 757 1 k X) X):aN O 757 d [e,a] f k X:=aj (by kernel_rfl) b
def HC (d:Nat)(b:E)(a:R)(k:E->R->Prop)(X:Prop)(c:Bool):Prop:=match c with|I=>wp (bQ<|d+1) λg=>X|N=>wp (aw a b<|Q "text") λe=>wp (ax a .IsNot e E.none) λf=>match f with|I=>wp (bQ<|d+1) λh=>X|N=>k E.none a
theorem JA (c:wp (aw a b<|Q "path") λe=>wp (aw a e<|Q "parts") λf=>wp (ax a .NotEq f<|E.tup []) λg=>HC d b a k X g):bB O 757 1 (fr 757 d [(Q "painter",b),(Q "operations",h)]) a k X:=aj (by kernel_rfl) c
def MQ (d:Nat)(b:E)(a:R)(k:E->R->Prop)(X:Prop)(c:Bool):Prop:=match c with|I=>wp (bQ<|d+1) λg=>X|N=>wp (aw a b<|Q "text") λe=>wp (ax a .IsNot e E.none) λf=>match f with|I=>wp (bQ<|d+1) λh=>X|N=>k E.none a
theorem Js (c:wp (aw a b<|Q "path") λe=>wp (aw a e<|Q "parts") λf=>wp (ax a .NotEq f<|E.tup []) λg=>MQ d b a k X g):bB O 757 1 (fr 757 d [(Q "painter",b),(Q "operations",h),(Q "operation",i)]) a k X:=aj (by kernel_rfl) c
theorem Gs (b:((0:Int)<=30/\(30:Int)<=1000000)/\O.bH (cN 327 0) (cB 327 0) [E.int 0,E.int 1,E.int 2,E.int 3,E.int 4,E.int 5,E.int 6,E.int 7,E.int 8,E.int 9,E.int 10,E.int 11,E.int 12,E.int 13,E.int 14,E.int 15,E.int 16,E.int 17,E.int 18,E.int 19,E.int 20,E.int 21,E.int 22,E.int 23,E.int 24,E.int 25,E.int 26,E.int 27,E.int 28,E.int 29] (fr 327 d [(Q "self",c),(Q "value",a),(Q "here",a)]) e (eO O 327 2 k X) X):aN O 327 d [c,a] e k X:=aj (by kernel_rfl) b
def MP (d:Nat)(x b c f:E)(k:Fl->Y->R->Prop)(e:R)(a:List E)(g:Bool):Prop:=match g with|I=>k (Fl.ret E.none) (fr 327 d [(Q "self",b),(Q "value",c),(Q "here",f),(Q "hop",x),(Q "generation",a.getD 0 E.none),(Q "found",a.getD 1 E.none)]) e|N=>k Fl.next (fr 327 d [(Q "self",b),(Q "value",c),(Q "here",a.getD 1 E.none),(Q "hop",x),(Q "generation",a.getD 0 E.none),(Q "found",a.getD 1 E.none)]) e
def LI (d:Nat)(x e f b:E)(k:Fl->Y->R->Prop)(X:Prop)(g:E)(a:R):Prop:=wp (gy a g 2) λc=>wp (aw a b<|Q "generation") λh=>wp (ax a .NotEq (c.getD 0 E.none) h) λi=>MP d x e f b k a c i
def Qv (O:Or)(d:Nat)(x e f b:E)(k:Fl->Y->R->Prop)(X:Prop)(a:R)(c:E):Prop:=wp (aV a c<|Q "get") λg=>wp (aw a b<|Q "number") λh=>O.aE (d+1) c (Q "get") g [h,E.tup [E.int<|-1,E.none]] a (λi j=>LI d x e f b k X i j) X
theorem K5 (f:O.call (d+1) (E.ag<|dR "isinstance") [a,F 275] g (λh b=>wp (truthy b h) λi=>match !i with|I=>k (Fl.ret a) (fr 327 d [(Q "self",c),(Q "value",e),(Q "here",a),(Q "hop",x)]) b|N=>wp (aw b c<|Q "table") λj=>Qv O d x c e a k X b j) X):eN O 327 0 x (fr 327 d [(Q "self",c),(Q "value",e),(Q "here",a)]) g k X:=aj (by kernel_rfl) f
def ID (d:Nat)(x b c f h i j:E)(k:Fl->Y->R->Prop)(e:R)(a:List E)(g:Bool):Prop:=match g with|I=>k (Fl.ret E.none) (fr 327 d [(Q "self",b),(Q "value",c),(Q "here",f),(Q "hop",x),(Q "generation",a.getD 0 E.none),(Q "found",a.getD 1 E.none)]) e|N=>k Fl.next (fr 327 d [(Q "self",b),(Q "value",c),(Q "here",a.getD 1 E.none),(Q "hop",x),(Q "generation",a.getD 0 E.none),(Q "found",a.getD 1 E.none)]) e
def Fw (d:Nat)(x e f b g h i:E)(k:Fl->Y->R->Prop)(X:Prop)(j:E)(a:R):Prop:=wp (gy a j 2) λc=>wp (aw a b<|Q "generation") λl=>wp (ax a .NotEq (c.getD 0 E.none) l) λm=>ID d x e f b g h i k a c m
def MF (O:Or)(d:Nat)(x e f b g h i:E)(k:Fl->Y->R->Prop)(X:Prop)(a:R)(c:E):Prop:=wp (aV a c<|Q "get") λj=>wp (aw a b<|Q "number") λl=>O.aE (d+1) c (Q "get") j [l,E.tup [E.int<|-1,E.none]] a (λm n=>Fw d x e f b g h i k X m n) X
theorem Ia (h:O.call (d+1) (E.ag<|dR "isinstance") [a,F 275] i (λj b=>wp (truthy b j) λl=>match !l with|I=>k (Fl.ret a) (fr 327 d [(Q "self",c),(Q "value",e),(Q "here",a),(Q "hop",x),(Q "generation",f),(Q "found",g)]) b|N=>wp (aw b c<|Q "table") λm=>MF O d x c e a n f g k X b m) X):eN O 327 0 x (fr 327 d [(Q "self",c),(Q "value",e),(Q "here",a),(Q "hop",n),(Q "generation",f),(Q "found",g)]) i k X:=aj (by kernel_rfl) h
theorem uT (j:wp (aw a f<|Q "shelf") λg=>wp (aV a g<|Q "get") λl=>O.aE (d+1) g (Q "get") l [m,h] a (λb c=>wp (ax c .Is b E.none) λn=>match n with|I=>k E.none c|N=>O.call (d+1) (E.ag<|dR "isinstance") [b,E.ag<|cX "list"] c (λp e=>wp (truthy e p) λq=>match !q with|I=>wp (bQ<|d+1) λy=>wp (bA N N e .Add h<|S " is an array") λr=>wp (qJ r.1) λz=>X|N=>wp (hj b) λi=>i.length<=1000000/\O.comp (cp 879 0) (cw 879 0) i (bI 879 0 d [(Q "painter",f)]) e (λs t=>O.call (d+1) (F 642) [E.lst s,x] t k X) X) X) X):aN O 879 d [f,m,h,x] a k X:=aj (by kernel_rfl) j
theorem Ga (c:wp (aw a e<|Q "shelf") λb=>wp (aV a b<|Q "fetch") λf=>O.aE (d+1) b (Q "fetch") f [x] a k False):fO O 879 0 x (bI 879 0 d [(Q "painter",e)]) a k:=aj (by kernel_rfl) c
theorem I2 (h:d<=93)(j:k (E.lst [D a,D b,D c,D e,D f,D g]) i):aN (inl O bS [293,286] I I 8) 642 d [.lst [.int a,.int b,.int c,.int e,.int f,.int g],.int 6] i k X:=aj (β:=d+1<=99/\d+1+1<=99/\d+1<=99/\d+1+1<=99/\d+1<=99/\d+1+1<=99/\d+1<=99/\d+1+1<=99/\d+1<=99/\d+1+1<=99/\d+1<=99/\d+1+1<=99/\6<=1000000/\d+1<=94/\d+1<=94/\d+1<=94/\d+1<=94/\d+1<=94/\d+1<=94/\k (E.lst [D a,D b,D c,D e,D f,D g]) i) (by kernel_rfl) ⟨a_ h rfl,bk h rfl,a_ h rfl,bk h rfl,a_ h rfl,bk h rfl,a_ h rfl,bk h rfl,a_ h rfl,bk h rfl,a_ h rfl,bk h rfl,by decide,a_ h rfl,a_ h rfl,a_ h rfl,a_ h rfl,a_ h rfl,a_ h rfl,j⟩
theorem IY (f:d<=93)(h:k (E.lst [D a,D b,D c,D e]) g):aN (inl O bS [293,286] I I 8) 642 d [.lst [.int a,.int b,.int c,.int e],.int 4] g k X:=aj (β:=d+1<=99/\d+1+1<=99/\d+1<=99/\d+1+1<=99/\d+1<=99/\d+1+1<=99/\d+1<=99/\d+1+1<=99/\4<=1000000/\d+1<=94/\d+1<=94/\d+1<=94/\d+1<=94/\k (E.lst [D a,D b,D c,D e]) g) (by kernel_rfl) ⟨a_ f rfl,bk f rfl,a_ f rfl,bk f rfl,a_ f rfl,bk f rfl,a_ f rfl,bk f rfl,by decide,a_ f rfl,a_ f rfl,a_ f rfl,a_ f rfl,h⟩
theorem Ka (g:wp (bQ<|d+1) λh=>((0:Int)<=6/\(6:Int)<=1000)/\20<=1000/\X):aN (inl O bS [293,286] I I 8) 642 d [.lst [.int a,.int b,.int c,.int e,.int f],.int 6] i k X:=aj (by kernel_rfl) g
theorem Pr (h:d<=92)(j:k (E.inst 443 [(Q "a",D a),(Q "b",D b),(Q "c",D c),(Q "d",D e),(Q "e",D f),(Q "f",D g)]) i):aN (inl O bS [642,293,286,443] I I 8) 799 d [.lst [D a,D b,D c,D e,D f,D g]] i k X:=aj (β:=d+1<=99/\d+1+1<=99/\d+1+1+1<=99/\d+1+1<=99/\d+1+1+1<=99/\d+1+1<=99/\d+1+1+1<=99/\d+1+1<=99/\d+1+1+1<=99/\d+1+1<=99/\d+1+1+1<=99/\d+1+1<=99/\d+1+1+1<=99/\6<=1000000/\d+1+1<=94/\d+1+1<=94/\d+1+1<=94/\d+1+1<=94/\d+1+1<=94/\d+1+1<=94/\d+1<=99/\d+1+1<=94/\d+1+1<=94/\d+1+1<=94/\d+1+1<=94/\d+1+1<=94/\d+1+1<=94/\k (E.inst 443 [(Q "a",D a),(Q "b",D b),(Q "c",D c),(Q "d",D e),(Q "e",D f),(Q "f",D g)]) i) (by kernel_rfl) ⟨a_ h rfl,bk h rfl,cM h rfl,bk h rfl,cM h rfl,bk h rfl,cM h rfl,bk h rfl,cM h rfl,bk h rfl,cM h rfl,bk h rfl,cM h rfl,by decide,bk h rfl,bk h rfl,bk h rfl,bk h rfl,bk h rfl,bk h rfl,a_ h rfl,bk h rfl,bk h rfl,bk h rfl,bk h rfl,bk h rfl,bk h rfl,j⟩
def Kp (O:Or)(d:Nat)(b f:E)(k:Fl->Y->R->Prop)(X:Prop)(g c:E)(a:R):Prop:=wp (aV a c<|Q "times") λh=>wp (aw a b<|Q "state") λi=>wp (aw a i<|Q "matrix") λj=>O.aE (d+1) c (Q "times") h [j] a (λl e=>wp (aw e b<|Q "state") λm=>wp (setField e m (Q "matrix") l) λn=>k Fl.next (fr 886 d [(Q "painter",b),(Q "head",f),(Q "numbers",g)]) n) X
theorem L6 (f:O.call (d+1) (F 879) [b,c,S "Matrix",E.int 6] g (λa e=>wp (ax e .IsNot a E.none) λh=>match h with|I=>O.call (d+1) (F 799) [a] e (λi j=>Kp O d b c k X a i j) X|N=>k Fl.next (fr 886 d [(Q "painter",b),(Q "head",c),(Q "numbers",a)]) e) X):cH O 886 0 2 (fr 886 d [(Q "painter",b),(Q "head",c)]) g k X:=aj (by kernel_rfl) f
def Ih (O:Or)(d:Nat)(a e f:E)(k:Fl->Y->R->Prop)(X:Prop)(g b:E)(c:R)(h:E):Prop:=wp (aw c h<|Q "matrix") λi=>O.call (d+1) (F 580) [b,i] c (λj l=>O.call (d+1) (F 839) [a,S "nonzero",j] l (λn m=>k Fl.next (fr 886 d [(Q "painter",a),(Q "head",e),(Q "numbers",f),(Q "edges",g),(Q "plain",b)]) m) X) X
def QK (O:Or)(d:Nat)(a c e:E)(k:Fl->Y->R->Prop)(X:Prop)(f g h i j:E)(l:R)(m:E)(n:cL)(p:E):Prop:=O.aE (d+1) m (Q "minus") n [p] l (λq r=>O.call (d+1) (F 568) [g,h,i,j,q] r (λs b=>wp (aw b a<|Q "state") λt=>Ih O d a c e k X f s b t) X) X
def Oe (O:Or)(d:Nat)(e f g:E)(k:Fl->Y->R->Prop)(X:Prop)(b h i j l:E)(a:R):Prop:=wp (aO a b<|E.int 3) λc=>wp (aV a c<|Q "minus") λm=>wp (aO a b<|E.int 1) λn=>QK O d e f g k X b h i j l a c m n
def Nh (O:Or)(d:Nat)(e f g:E)(k:Fl->Y->R->Prop)(X:Prop)(b h:E)(a:R)(i j c:E):Prop:=wp (aV a c<|Q "minus") λl=>wp (aO a b<|E.int 0) λm=>O.aE (d+1) c (Q "minus") l [m] a (λn p=>Oe O d e f g k X b h i j n p) X
def Mp (O:Or)(d:Nat)(c e f:E)(k:Fl->Y->R->Prop)(X:Prop)(a g:E)(b:R):Prop:=wp (aO b a<|E.int 0) λh=>wp (aO b a<|E.int 1) λi=>wp (aO b a<|E.int 2) λj=>Nh O d c e f k X a g b h i j
theorem FV (g:O.call (d+1) (F 879) [a,b,S "BBox",E.int 4] h (λc e=>wp (ax e .IsNot c E.none) λi=>match i with|I=>O.call (d+1) (F 480) [] e (λj l=>Mp O d a b f k X c j l) X|N=>k Fl.next (fr 886 d [(Q "painter",a),(Q "head",b),(Q "numbers",f),(Q "edges",c)]) e) X):cH O 886 2 4 (fr 886 d [(Q "painter",a),(Q "head",b),(Q "numbers",f)]) h k X:=aj (by kernel_rfl) g
def vQ (O:Or)(d:Nat)(c g:E)(a:R)(k:E->R->Prop)(X:Prop):Prop:=wp (aw a c<|Q "shelf") λe=>wp (aV a e<|Q "get") λh=>O.aE (d+1) e (Q "get") h [g,S "Resources"] a (λf i=>O.call (d+1) (E.ag<|dR "isinstance") [f,E.ag<|cX "dict"] i (λj b=>wp (truthy b j) λl=>match l with|I=>wp (setField b c (Q "resources") f) λm=>k E.none m|N=>k E.none b) X) X
theorem Mg (a:vQ O d b c e k X):bB O 886 4 (fr 886 d [(Q "painter",b),(Q "head",c),(Q "numbers",f),(Q "edges",g)]) e k X:=aj (by kernel_rfl) a
theorem MJ {a b c e f:E}(g:vQ O d a b h k X):bB O 886 4 (fr 886 d [(Q "painter",a),(Q "head",b),(Q "numbers",c),(Q "edges",e),(Q "plain",f)]) h k X:=aj (by kernel_rfl) g
def Dw (O:Or)(d:Nat)(b e f g:E)(k:E->R->Prop)(X:Prop)(a:R)(c:E):Prop:=wp (ax a .Eq c<|S "Image") λh=>match h with|I=>wp (aw a b<|Q "state") λi=>wp (aw a i<|Q "matrix") λj=>O.call (d+1) (F 764) [b,E.tup [S "image",e,j]] a (λp l=>k E.none l) X|N=>wp (ax a .Eq c<|S "Form") λm=>match m with|I=>O.call (d+1) (F 893) [b,f,g] a (λq n=>k E.none n) X|N=>wp (bQ<|d+1) λr=>X
def Aa (O:Or)(d:Nat)(e f i:E)(k:E->R->Prop)(X:Prop)(b:E)(j:R):Prop:=O.call (d+1) (E.ag<|dR "isinstance") [b,F 247] j (λl a=>wp (truthy a l) λm=>match !m with|I=>wp (bQ<|d+1) λy=>wp (bA N N a .Add (S "no object of the name ") f) λn=>wp (qJ n.1) λz=>X|N=>wp (aw a e<|Q "shelf") λg=>wp (aV a g<|Q "get") λp=>wp (aw a b<|Q "head") λq=>O.aE (d+1) g (Q "get") p [q,S "Subtype"] a (λh r=>O.call (d+1) (E.ag<|dR "isinstance") [h,F 204] r (λs c=>wp (truthy c s) λt=>match t with|I=>wp (aw c h<|Q "text") λx=>Dw O d e f i b k X c x|N=>wp (bQ<|d+1) λA=>X) X) X) X
theorem GH (g:O.call (d+1) (F 806) [a,S "XObject",c] h (λe b=>wp (aw b a<|Q "shelf") λf=>wp (aV b f<|Q "fetch") λi=>O.aE (d+1) f (Q "fetch") i [e] b (λj l=>Aa O d a c e k X j l) X) X):aN O 874 d [a,c] h k X:=aj (by kernel_rfl) g
theorem Nc (f:O.call (d+1) (E.ag<|dR "isinstance") [a,F 275] g (λh b=>wp (truthy b h) λi=>match i with|I=>wp (aV b a<|Q "pair") λj=>O.aE (d+1) a (Q "pair") j [] b (λl m=>k Fl.next (fr 893 d [(Q "painter",c),(Q "entry",a),(Q "stream",e),(Q "mark",l)]) m) X|N=>k Fl.next (fr 893 d [(Q "painter",c),(Q "entry",a),(Q "stream",e),(Q "mark",E.tup [E.int 0,E.int 0])]) b) X):cH O 893 0 1 (fr 893 d [(Q "painter",c),(Q "entry",a),(Q "stream",e)]) g k X:=aj (by kernel_rfl) f
def OA (a:E)(k:E->R->Prop)(X:Prop)(c d e f:E)(b:E×R):Prop:=wp (setField b.snd a (Q "pile") b.1) λg=>wp (setField g a (Q "state") c) λh=>wp (setField h a (Q "resources") d) λi=>wp (setField i a (Q "floor") e) λj=>wp (setField j a (Q "skips") f) λl=>k E.none l
def QL (O:Or)(d:Nat)(a:E)(k:E->R->Prop)(X:Prop)(c e f g h:E)(i:R)(j:E)(l:cL):Prop:=O.aE (d+1) j (Q "pop") l [] i (λp b=>wp (aw b a<|Q "pile") λm=>wp (sy I N b m E.none h) λn=>OA a k X c e f g n) X
def GZ (O:Or)(d:Nat)(a:E)(k:E->R->Prop)(X:Prop)(e f g h i j:E)(l:R):Prop:=O.call (d+1) (F 757) [a,j] l (λn b=>wp (aw b a<|Q "open_forms") λc=>wp (aV b c<|Q "pop") λm=>QL O d a k X e f g h i b c m) X
def Nv (O:Or)(d:Nat)(a c:E)(k:E->R->Prop)(X:Prop)(e f g h i:E)(b:R):Prop:=wp (aV b a<|Q "opener") λj=>wp (aw b a<|Q "shelf") λl=>O.aE (d+1) a (Q "opener") j [l,c] b (λm n=>GZ O d a k X e f g h i m n) X
def L0 (O:Or)(d:Nat)(a b e:E)(k:E->R->Prop)(X:Prop)(f g h i j:E)(l:R)(m:E)(n:cL):Prop:=O.aE (d+1) m (Q "append") n [e] l (λr c=>wp (aw c b<|Q "head") λp=>O.call (d+1) (F 886) [a,p] c (λs q=>Nv O d a b k X f g h i j q) X) X
def P9 (O:Or)(d:Nat)(a e f:E)(k:E->R->Prop)(X:Prop)(g h i j l:E)(m:R):Prop:=wp (setField m a (Q "skips")<|E.int 0) λb=>wp (aw b a<|Q "open_forms") λc=>wp (aV b c<|Q "append") λn=>L0 O d a e f k X g h i j l b c n
def Qp (O:Or)(d:Nat)(a e f:E)(k:E->R->Prop)(X:Prop)(b g h i c:E)(j:R):Prop:=O.call (d+1) (F 637) [b] j (λl m=>wp (setField m a (Q "state") l) λn=>wp (setField n a (Q "floor") c) λp=>P9 O d a e f k X b g h i c p) X
def QH (O:Or)(d:Nat)(a c e:E)(b:R)(k:E->R->Prop)(X:Prop)(f g h:E):Prop:=wp (aw b a<|Q "skips") λi=>wp (aw b a<|Q "pile") λj=>O.call (d+1) (E.ag<|dR "len") [j] b (λl m=>Qp O d a c e k X f g h i l m) X
def vR (O:Or)(d:Nat)(b e f:E)(c:R)(k:E->R->Prop)(X:Prop):Prop:=wp (aw c b<|Q "open_forms") λg=>O.call (d+1) (E.ag<|dR "len") [g] c (λh a=>wp (ax a .GtE h<|E.int 8) λi=>match i with|I=>wp (bQ<|d+1) λ_=>X|N=>wp (aw a b<|Q "opener") λj=>wp (ax a .Is j E.none) λl=>match l with|I=>wp (bQ<|d+1) λ_=>X|N=>wp (aw a b<|Q "state") λm=>wp (aw a b<|Q "resources") λn=>wp (aw a b<|Q "floor") λp=>QH O d b e f a k X m n p) X
theorem AA (g:match aP<|0<a with|I=>wp (aw c e<|Q "open_forms") (λh=>wp (ax c .In (E.tup [E.int a,E.int b]) h) λi=>match i with|I=>wp (bQ<|d+1) λ_=>X|N=>vR O d e f (.tup [.int a,.int b]) c k X)|N=>vR O d e f (.tup [.int a,.int b]) c k X):bB O 893 1 (fr 893 d [(Q "painter",e),(Q "entry",j),(Q "stream",f),(Q "mark",.tup [.int a,.int b])]) c k X:=aj (by kernel_rfl) g
end
end
mutual
section
open PySem Sh
section
variable {n:bV}{d p h:Nat}{a:R}{w:PF}{f:SF}{e b c l:List E}{g:List<|Nat×au}{X:Prop}
theorem nt {j i:Nat}(r:a.get j=H (.inst i m))(s:fo i q=I)(t:aP (m.length<=100)=I)(x:k<|a.set j<|.inst i<|bc q v m):wp (setField a (.loc j) q v) k:=by
 refine il r ?_ x
 show (match fo i q && aP (m.length<=100) with|I=>H<|a.set j<|.inst i<|bc q v m|N=>T)=_
 refine aW s▸aW t▸?_
 rfl
def vE (a j:R)(o:au):Prop:=∀i,af a i->af j ((a.next,o)::i)
theorem zp (j:Lv 5 n d)(q:∀m,vE a m (SO f)->k (.loc a.next) m):(On n).call d (F 604) [f.m.dh,.tup f.cs,.tup f.fi,.tup f.sk,.aa f.vd] a k X:=by
 refine tG (i:=601) j (by kernel_rfl) λj=>?_
 refine Mb ?_
 refine nt eg (by kernel_rfl) (by kernel_rfl)<|nt bP (by kernel_rfl) (by kernel_rfl)<|nt bP (by kernel_rfl) (by kernel_rfl)<|nt bP (by kernel_rfl) (by kernel_rfl)<|nt bP (by kernel_rfl) (by kernel_rfl) ?_
 refine ⟨rfl,q _ λs i=>?_⟩
 have i:=af.alloc (o:=.inst 604 []) i
 have i:=af.set (A:=[]) (g:=.inst 604<|bc (Q "matrix") f.m.dh []) i
 have i:=af.set (A:=[]) (g:=.inst 604<|bc (Q "clips") (.tup f.cs)<|bc (Q "matrix") f.m.dh []) i
 have i:=af.set (A:=[]) (g:=.inst 604<|bc (Q "fill") (.tup f.fi)<|bc (Q "clips") (.tup f.cs)<|bc (Q "matrix") f.m.dh []) i
 have i:=af.set (A:=[]) (g:=.inst 604<|bc (Q "stroke") (.tup f.sk)<|bc (Q "fill") (.tup f.fi)<|bc (Q "clips") (.tup f.cs)<|bc (Q "matrix") f.m.dh []) i
 have i:=af.set (A:=[]) (g:=.inst 604<|bc (Q "values") (.aa f.vd)<|bc (Q "stroke") (.tup f.sk)<|bc (Q "fill") (.tup f.fi)<|bc (Q "clips") (.tup f.cs)<|bc (Q "matrix") f.m.dh []) i
 have r:au.inst 604 (bc (Q "values") (.aa f.vd)<|bc (Q "stroke") (.tup f.sk)<|bc (Q "fill") (.tup f.fi)<|bc (Q "clips") (.tup f.cs)<|bc (Q "matrix") f.m.dh [])=SO f:=by kernel_rfl
 simpa only [nI,<-r] using i
theorem Dx (j:Lv 6 n d)(i:a.get s=H (SO f))(q:f.vd.length<=1000)(r:∀m,vE a m (SO f)->k (.loc a.next) m):(On n).call d (F 637) [.loc s] a k X:=by
 refine cq j λj=>?_
 refine IE ?_
 refine lW i<|um i<|uS i<|JB i<|OK i ?_
 have t:kM N N a (.ag<|.type "dict") (.aa f.vd)=.ok .t (.aa f.vd,a):=by
  show (er (aP<|f.vd.length<=1000) (aS<|.aa f.vd)>>=λo=>jb N N a<|.fresh o)=_
  refine J (decide_eq_true q) ?_
  rfl
 exact aR t<|zp j r
theorem Nx (i:Lv 2 n d)(j:k (.tup []) a):(On n).call d (F 512) [P0] a k X:=by
 refine bN (c:=[]) (l:=I) (m:=I) bO i λi=>?_
 refine KV ?_
 exact j
theorem oq (j:Lv 20 n d)(i:af a<|C p w f e b c l++g)(r:w.pa=[])(t:f.vd.length<=1000)(x:l.length<1000000)(y:∀m s,af m (C p w f e b c (l++[.loc s])++(s,SO f)::g)->k .none m):(On n).call d (F 778) [.loc p,S "q",.lst []] a k X:=by
 refine bN (c:=[792]) (l:=I) (m:=N) bO j λj=>?_
 have z:=j.depth
 refine Nm ?_
 refine L1 (j.le<|by exact ab _ _) i r ?_
 refine ⟨by exact dg<|by assumption,ny i.gp<|cU i.kA<|fN i.gp<|Dx ⟨by exact ay z<|by simp+arith only⟩ i.gs t λm q=>?_⟩
 exact eo ((q _ i).perm ij.symm).kA x<|y _ _ ((q _ i).perm ij.symm).vl
theorem af.pop (i:af a<|C p w f e b c l++(s,SO k)::g):af ((a.set w.pl<|.lst j).set p<|PO {w with s:=s})<|C p {w with s:=s} k e b c j++g:=by
 have i:=af.set (A:=[]) (g:=PO {w with s:=s})<|i.vl (g:=j)
 have i:af ((a.set w.pl<|.lst j).set p<|PO {w with s:=s})<|(p,PO {w with s:=s})::(w.s,SO f)::[(w.of,.lst e),(w.ma,.lst b),(w.cl,.lst c),(w.pl,.lst j)]++(s,SO k)::g:=i
 have i:=i.perm ij
 have i:=i.sub (H':=(s,SO k)::(p,PO {w with s:=s})::[(w.of,.lst e),(w.ma,.lst b),(w.cl,.lst c),(w.pl,.lst j)]++g)<|by
  refine tD _<|tD _ ?_
  exact nP _ _
 exact i.perm<|Fg _ _ _
theorem vL (m:a.get i=H (.lst j))(q:k<|.int j.length):wp (dB a (.builtin "len") [.loc i]) k:=by
 have r:uH a (.loc i)=.ok .t (.int j.length):=by
  show bJ (l_<|fh i<|a.get i) _=_
  refine J m ?_
  rfl
 exact fy (show dB a (.builtin "len") [.loc i]=_ from r) trivial q
theorem oQ (j:Lv 20 n d)(i:af a<|C p w f e b c (m++[.loc s])++(s,SO r)::g)(t:w.pa=[])(z:m.length<1000000)(x:w.fl<=m.length)(y:∀q,af q (C p {w with s:=s} r e b c m++g)->k .none q):(On n).call d (F 778) [.loc p,S "Q",.lst []] a k X:=by
 refine bN (c:=[792]) (l:=I) (m:=N) bO j λj=>?_
 have A:=j.depth
 refine zZ ?_
 refine zY (j.le<|by exact ab _ _) i t ?_
 refine ⟨by exact dg<|by assumption,ny i.gp<|vL i.kA<|wC i.gp<|xf ?_⟩
 refine J (decide_eq_false<|by simp;exact fx x<|by simp+arith only) ?_
 refine ny i.gp<|uK i.kA<|vJ i.kA (by exact ig<|by assumption) ?_
 refine uv (v:=s) (i.vl (g:=m)).gp<|y _ ?_
 exact i.pop
theorem OE (i:Lv 20 n d)(j:af a<|C p w f e b c l++g)(m:w.pa=[])(r:l.length<=w.fl)(q:X):(On n).call d (F 778) [.loc p,S "Q",.lst []] a k X:=by
 refine bN (c:=[792]) (l:=I) (m:=N) bO i λi=>?_
 have s:=i.depth
 refine zZ ?_
 refine zY (i.le<|by exact ab _ _) j m ?_
 refine ⟨by exact dg<|by assumption,ny j.gp<|vL j.kA<|wC j.gp<|xf ?_⟩
 refine J (decide_eq_true<|by assumption) ?_
 exact jA (i.down:Lv _ _ _).lt q
theorem NV {v:bo}(j:Lv 20 n d)(i:af a<|C p w f e b c l++g)(r:w.pa=[])(s:v.bq)(t:∀m,af m (C p w {f with m:=v.mul f.m} e b c l++g)->k .none m):(On n).call d (F 778) [.loc p,S "cm",v.lst] a k X:=by
 refine bN (c:=[792,799,642,293,286,443]) (l:=I) (m:=N) bO j λj=>?_
 have q:=j.depth
 refine Kg ?_
 refine Ld (j.le<|by exact ab _ _) i r ?_
 repeat (first|refine ⟨by exact ay q<|by simp+arith only,?_⟩)
 refine fN i.gp<|lW i.gs<|cg<|AB (v:=v) ⟨by exact ay q<|by simp+arith only⟩ s<|fN i.gp<|Bz (v:=v.mul f.m) i.gs<|t _ i.ss
theorem og (i:Lv 24 n d)(j:af a<|C p w f e b c l++g)(q:w.pa=[])(r:0<=t)(s:t<13)(x:∀m,af m (C p w {f with fi:=[S "DeviceGray",.tup [gP t]]} e b c l++g)->k .none m):(On n).call d (F 778) [.loc p,S "g",.lst [kV t]] a k X:=by
 refine bN (c:=[]) (l:=I) (m:=N) bO i λi=>?_
 refine JY ?_
 refine Om (i.le<|by exact ab _ _) j q ?_
 exact fN j.gp<|Lq (i.le<|by exact ab _ _) r s j x
theorem A2 (m:Lv 24 n d)(i:af a<|C p w f e b c l++g)(s:w.pa=[])(t:w.ru=Q "")(z:(box x y v u).bq)(A:∀q,af q (C p {w with pa:=[((box x y v u).by f.m).iX]} f e b c l++g)->k .none q):(On n).call d (F 778) [.loc p,S "re",.lst [.int x,.int y,.int v,.int u]] a k X:=by
 refine bN (c:=[818,642,293,286,480]) (l:=I) (m:=N) bO m λm=>?_
 have j:=m.depth
 have r:Lv 15 n<|d+1+1:=⟨by exact ay j<|by simp+arith only⟩
 refine Lf ?_
 refine Qs (m.le<|by exact ab _ _) i s ?_
 refine ⟨by exact dg j,oU i.gp ?_⟩
 refine J t ?_
 refine vk ?_
 repeat (first|refine ⟨by exact ay j<|by simp+arith only,?_⟩)
 refine fN i.gp<|lW i.gs ⟨by exact ay j<|by simp+arith only,zu (r.le<|by exact ab _ _)<|eC i.gp ?_⟩
 refine J s ?_
 refine Nx (r.le<|by exact ab _ _)<|By (q:=box x y v u) r z λq B=>?_
 have i:=i.fr B
 refine eX<|nY (mq _) ⟨by exact ay j<|by simp+arith only,vZ (v:=[((box x y v u).by f.m).iX]) i.gp<|A _ i.oJ⟩
theorem KU {q:bX}(j:Lv 24 n d)(i:af a<|C p w f e b c l++g)(m:w.pa=[q.iX])(t:w.ru=Q "")(x:b.length<1000000)(y:c.length<1000000)(z:∀r,af r (C p {w with pa:=[],ru:=Q "" } f e (b++[.tup [S "fill",S "nonzero",q.gx,.tup f.fi]]) (c++[.tup f.cs]) l++g)->k .none r):(On n).call d (F 778) [.loc p,S "f",.lst []] a k X:=by
 refine bN (c:=[832,480]) (l:=I) (m:=N) bO j λj=>?_
 have s:=j.depth
 have A:Lv 15 n<|d+1+1:=⟨by exact ay s<|by simp+arith only⟩
 refine H3 ?_
 refine Lb (j.le<|by exact ab _ _) i m ?_
 refine ⟨by exact dg<|by assumption,eC i.gp<|eX ?_⟩
 refine J m ?_
 refine vj ?_
 refine eC i.gp<|fN i.gp<|uS i.gs ?_
 refine J m ?_
 refine rz (A.le<|by exact ab _ _) i x y λr i=>oU i.gp ?_
 refine J t ?_
 exact vk ⟨by exact ay s<|by simp+arith only,vZ (v:=[]) i.gp<|tT (v:=Q "") i.oJ.gp<|z _ i.oJ.wU⟩
theorem oW {q:bX}(j:Lv 24 n d)(i:af a<|C p w f e b c l++g)(m:w.pa=[q.iX])(s:w.ru=Q "")(t:∀r,af r (C p {w with ru:=Q "nonzero" } f e b c l++g)->k .none r):(On n).call d (F 778) [.loc p,S "W",.lst []] a k X:=by
 refine bN (c:=[825]) (l:=I) (m:=N) bO j λj=>?_
 have x:=j.depth
 refine Gk ?_
 refine Jq (j.le<|by exact ab _ _) i m ?_
 refine ⟨by exact dg<|by assumption,eC i.gp<|eX ?_⟩
 refine J m ?_
 refine vj<|oU i.gp ?_
 refine J s ?_
 exact vk<|tT (v:=Q "nonzero") i.gp<|t _ i.wU
theorem on (j:Lv 24 n d)(i:af a<|C p w f e b c l++g)(m:w.pa=[q.iX])(s:w.ru=Q "nonzero")(x:f.cs.length<1000000)(y:b.length<1000000)(z:c.length<1000000)(A:∀r,af r (C p {w with pa:=[],ru:=Q "" } {f with cs:=f.cs++[iq q]} e (b++[.tup [S "clip",S "nonzero",q.gx]]) (c++[.tup<|f.cs++[iq q]]) l++g)->k .none r):(On n).call d (F 778) [.loc p,S "n",.lst []] a k X:=by
 refine bN (c:=[832,480]) (l:=I) (m:=N) bO j λj=>?_
 have t:=j.depth
 have B:Lv 15 n<|d+1+1:=⟨by exact ay t<|by simp+arith only⟩
 refine Ik ?_
 refine Ki (j.le<|by exact ab _ _) i m ?_
 refine ⟨by exact dg<|by assumption,eC i.gp<|eX ?_⟩
 refine J m ?_
 refine vj ?_
 refine eC i.gp<|fN i.gp<|oU i.gp ?_
 refine aW m▸aW s▸?_
 refine Hg<|oU i.gp ?_
 refine J s ?_
 refine CB (B.le<|by exact ab _ _) i x y z λr i=>?_
 exact ⟨by exact ay t<|by simp+arith only,vZ (v:=[]) i.gp<|tT (v:=Q "") i.oJ.gp<|A _ i.oJ.wU⟩
theorem JL (i:Lv 24 n d)(j:af a<|C p w f e b c l++g)(q:w.pa=[])(r:b.length<1000000)(s:c.length<1000000)(t:∀m,af m (C p w f e (b++[.tup [S "image",S "",f.m.dh]]) (c++[.tup f.cs]) l++g)->k .none m):(On n).call d (F 778) [.loc p,S "BI",.lst [.aa [],.inst 226 [(Q "octets",.dk #[]),(Q "is_hex",.bool N)]]] a k X:=by
 refine bN (c:=[785]) (l:=I) (m:=N) bO i λi=>?_
 have x:=i.depth
 refine Gz ?_
 refine OI (i.le<|by exact ab _ _) j q ?_
 exact ⟨by exact dg<|by assumption,fN j.gp<|lW j.gs<|rz ⟨by exact ay x<|by simp+arith only⟩ j r s t⟩
theorem Lj (i:Lv 24 n d)(j:af a<|C p w f e b c l++g)(q:w.pa=[])(r:∀m,af m (C p {w with sk:=w.sk+1} f e b c l++g)->k .none m):(On n).call d (F 778) [.loc p,S "BX",.lst []] a k X:=by
 refine bN (c:=[785]) (l:=I) (m:=N) bO i λi=>?_
 have s:=i.depth
 refine N5 ?_
 refine O6 (i.le<|by exact ab _ _) j q ?_
 exact ⟨by exact dg<|by assumption,lV j.gp<|gb<|qe (v:=w.sk+1) j.gp<|r _ j.sb⟩
theorem sA (j:k<|aP<|x=0):wp (ax a .Eq (.int x)<|.int 0) k:=by
 refine aR (c:=aP<|x=0) ?_ j
 have:aP (x=0)=(x==0):=by
  by_cases i:x=0
  .subst i;rfl
  .refine J (decide_eq_false i) ?_;simp [i]
 rfl
theorem Nk (j:Lv 24 n d)(i:af a<|C p w f e b c l++g)(q:w.pa=[])(r:w.sk≠0)(s:∀m,af m (C p {w with sk:=w.sk - 1} f e b c l++g)->k .none m):(On n).call d (F 778) [.loc p,S "EX",.lst []] a k X:=by
 refine bN (c:=[785]) (l:=I) (m:=N) bO j λj=>?_
 have t:=j.depth
 refine AP ?_
 refine Dh (j.le<|by exact ab _ _) i q ?_
 refine ⟨by exact dg<|by assumption,lV i.gp<|sA ?_⟩
 refine J (decide_eq_false r) ?_
 exact lV i.gp<|hZ<|qe (v:=w.sk - 1) i.gp<|s _ i.sb
theorem NF (i:Lv 24 n d)(j:af a<|C p w f e b c l++g)(m:w.pa=[])(q:w.sk=0)(r:X):(On n).call d (F 778) [.loc p,S "EX",.lst []] a k X:=by
 refine bN (c:=[785]) (l:=I) (m:=N) bO i λi=>?_
 have s:=i.depth
 refine AP ?_
 refine Dh (i.le<|by exact ab _ _) j m ?_
 refine ⟨by exact dg<|by assumption,lV j.gp<|sA ?_⟩
 refine J (decide_eq_true q) ?_
 exact jA (i.down:Lv _ _ _).lt r
theorem MN (i:Lv 24 n d)(j:af a<|C p w f e b c l++g)(m:w.pa=[])(q:w.sk≠0)(r:k .none a):(On n).call d (F 778) [.loc p,S "zz",.lst []] a k X:=by
 refine bN (c:=[785]) (l:=I) (m:=N) bO i λi=>?_
 have s:=i.depth
 refine CJ ?_
 refine Bi (i.le<|by exact ab _ _) j m ?_
 refine ⟨by exact dg<|by assumption,lV j.gp<|sA ?_⟩
 refine J (decide_eq_false q) ?_
 exact r
theorem KY (i:Lv 24 n d)(j:af a<|C p w f e b c l++g)(m:w.pa=[])(q:w.sk=0)(r:X):(On n).call d (F 778) [.loc p,S "zz",.lst []] a k X:=by
 refine bN (c:=[785]) (l:=I) (m:=N) bO i λi=>?_
 have s:=i.depth
 refine CJ ?_
 refine Bi (i.le<|by exact ab _ _) j m ?_
 simp only [true_and,Fe]
 refine ⟨by exact ay s<|by simp+arith only,lV j.gp<|sA ?_⟩
 refine J (decide_eq_true q) ?_
 exact jA (i.down:Lv _ _ _).lt r
theorem HI {s:ae}{k:E->R->Prop}(i:Lv (h+2) n d)(m:8<=h)(q:af a<|C p w f e b c l++g)(r:w.pa=[])(t:Lv h n (d+2)->(On n).call (d+2) (F 874) [.loc p,.str s] a (λ_ x=>k .none x) X):(On n).call d (F 778) [.loc p,S "Do",.lst [.inst 204 [(Q "text",.str s)]]] a k X:=by
 refine bN (c:=[785,649]) (l:=I) (m:=N) bO i λi=>?_
 have j:=i.depth
 refine Jv ?_
 refine Kb (i.le<|ay m<|by simp+arith only) q r ?_
 exact ⟨by exact dg<|by assumption,by exact ay j<|by simp+arith only,t ⟨by exact ay j<|by simp+arith only⟩⟩
end
end
mutual
open Mine
def rf (i:Int):E:=.inst 275 [(Q "number",.int i),(Q "generation",.int 0)]
def bY (a b:Nat):au:=.inst 391 [(Q "table",.loc a),(Q "trailer",.loc b)]
def qs:E->Bool
 |.none=>I
 |.int _=>I
 |.lst _=>I
 |.aa _=>I
 |.inst c _=>hv c [247,204]
 |_=>N
def sI:E->ah
 |.none=>.type "NoneType"
 |.int _=>.type "int"
 |.lst _=>.type "list"
 |.aa _=>.type "dict"
 |.inst c _=>.ref c
 |_=>.ref 247
def dK (a:List<|Int×E)(v w:E):Prop:=qs w=I/\(v=w\/∃i,v=rf i/\cZ i a=H (.tup [.int 0,w]))
theorem yg (h:hv c [247,204]=I):c=247\/c=204:=by
 simp only [Nw,Lo,pP,xT] at h
 exact h.imp hC hC
section
variable {n:bV}{d p L b:Nat}{a:R}{X:Prop}
theorem hS (l:Lv (L+1) n d)(f:nB a v=H c)(g:(kB c && lK t && !(c==.type "bool" && t==.type "int"))=I)(h:(c==t)=i)(j:k (.bool i) a):(On n).call d (.ag<|.builtin "isinstance") [v,.ag t] a k X:=by
 refine hK ?_
 have e:dB a (.builtin "isinstance") [v,.ag t]=oo (nB a v)>>=λc=>gM (kB c && lK t && !(c==.type "bool" && t==.type "int"))>>=λ_=>aS<|.bool<|c==t:=rfl
 refine J e ?_;refine J f ?_;refine J pA ?_
 show wp (gM (kB c && lK t && !(c==.type "bool" && t==.type "int"))>>=λ_=>aS<|E.bool<|c==t) _
 refine aW g▸aW h▸?_
 exact j
theorem A5 (f:Lv (L+1) n d)(h:qs v=I)(g:lK t=I)(j:k (.bool<|sI v==t) a):(On n).call d (.ag<|.builtin "isinstance") [v,.ag t] a k X:=by
 have go:∀e,nB a v=H e->sI v=e->kB e=I->(e==cX "bool")=N->(On n).call d (.ag<|.builtin "isinstance") [v,.ag t] a k X:=λe l m q r=>
  hS f l (by refine J q ?_;refine J g ?_;refine J r ?_;rfl) (by exact rT m rfl) j
 cases v with
 |none=>exact go _ rfl rfl (by kernel_rfl)<|by kernel_rfl
 |int i=>exact go _ rfl rfl (by kernel_rfl)<|by kernel_rfl
 |lst i=>exact go _ rfl rfl (by kernel_rfl)<|by kernel_rfl
 |aa i=>exact go _ rfl rfl (by kernel_rfl)<|by kernel_rfl
 |inst c i=>rcases yg h with rfl|rfl<;>exact go _ rfl rfl (by kernel_rfl)<|by kernel_rfl
 |_=>exact ff h
theorem CZ (c:Lv (L+1) n d)(e:k (.bool I) a):(On n).call d (.ag<|.builtin "isinstance") [rf i,F 275] a k X:=
 hS (c:=.ref 275) c rfl (by kernel_rfl) (by kernel_rfl) e
theorem en (h:k c):wp (truthy a<|.bool c) k:=aR rfl h
theorem zq (h:qs v=I):(sI v==ic 275)=N:=by
 cases v with
 |inst c i=>rcases yg h with rfl|rfl<;>kernel_rfl
 |none=>kernel_rfl
 |int i=>kernel_rfl
 |lst i=>kernel_rfl
 |aa i=>kernel_rfl
 |_=>exact ff h
theorem rZ {f:Nat}(h:a.get c=H (bY e g))(i:ja 391 m=H f)(j:(aI m [(Q "table",E.loc e),(Q "trailer",.loc g)]).isNone=I)(l:k<|.fn f):wp (aV a (.loc c) m) k:=by
 refine mP h ?_ l
 show lQ _ m _ (ja 391 m)=_
 refine J i ?_
 exact if_pos j
theorem pj (h:a.get c=H (bY f g))(e:k<|.fn 327):wp (aV a (.loc c)<|Q "fetch") k:=rZ h (by kernel_rfl) (by kernel_rfl) e
theorem lO (h:a.get c=H (bY f g))(e:k<|.fn 334):wp (aV a (.loc c)<|Q "get") k:=rZ h (by kernel_rfl) (by kernel_rfl) e
theorem oV (h:a.get c=H (bY e g))(f:k<|.loc e):wp (aw a (.loc c)<|Q "table") k:=eR h (by kernel_rfl) rfl f
theorem KH (h:a.get c=H (.tab f))(e:k .blt):wp (aV a (.loc c)<|Q "get") k:=mP h (by kernel_rfl) e
theorem QG (h:a.get l=H (.aa e))(c:k .blt):wp (aV a (.loc l)<|Q "get") k:=mP h (by kernel_rfl) c
theorem BS (c:k .blt):wp (aV a (.aa e)<|Q "get") k:=
 aR (c:=.blt) (by kernel_rfl) c
theorem NC {c:E}(h:a.get e=H (.tab f))(g:k ((cZ i f).getD c) a):(On n).aE d (.loc e) (Q "get") .blt [.int i,c] a k X:=uO (c:=.t) h (by kernel_rfl) trivial g
theorem Ms (h:a.get l=H (.aa c))(e:k ((aI x c).getD .none) a):(On n).aE d (.loc l) (Q "get") .blt [.str x] a k X:=uO (c:=.t) h (by kernel_rfl) trivial e
theorem yv (e:k ((aI x c).getD .none) a):(On n).aE d (.aa c) (Q "get") .blt [.str x] a k X:=
 BK<|aR (c:=((aI x c).getD .none,a)) (by kernel_rfl) e
theorem sP (h:k ! x==y):wp (ax a .NotEq (.int x)<|.int y) k:=aR (c:=! x==y) rfl h
theorem As (h:k [c,e]):wp (gy a (.tup [c,e]) 2) k:=aR (c:=[c,e]) rfl h
theorem nu (h:k [e,f,c]):wp (gy a (.tup [e,f,c]) 3) k:=aR (c:=[e,f,c]) rfl h
theorem Of (c:k<|.int i):wp (aw a (rf i)<|Q "number") k:=aR (c:=.int i) (by kernel_rfl) c
theorem O8 (c:k<|.int 0):wp (aw a (rf i)<|Q "generation") k:=aR (c:=.int 0) (by kernel_rfl) c
theorem kQ (f:Lv 5 n d)(l:a.get m=H (bY q t))(g:a.get q=H (.tab r))(c:dK r v w)(h:k w a):(On n).call d (F 327) [.loc m,v] a k X:=by
 refine cq f λf=>?_
 refine Gs ?_
 refine ⟨⟨by decide,by decide⟩,hV (f.le<|by exact aT _:Lv (3+1) _ _) λj=>?_⟩
 refine K5 ?_
 rcases c.2 with rfl|⟨i,rfl,e⟩
 .refine A5 (j.le<|by exact ab _ _:Lv (1+1) _ _) c.1 (by kernel_rfl)<|en ?_
  refine J (zq c.1) ?_
  exact h
 .refine CZ (j.le<|by exact ab _ _:Lv (1+1) _ _)<|en ?_
  refine oV l<|KH g<|Of<|NC g ?_
  refine J e ?_
  refine As<|O8<|sP ?_
  refine hV (f.le<|by exact aT _:Lv (3+1) _ _) λs=>?_
  refine Ia ?_
  refine A5 (s.le<|by exact ab _ _:Lv (1+1) _ _) c.1 (by kernel_rfl)<|en ?_
  refine J (show (sI ([E.int 0,w].getD 1 E.none)==ic 275)=N from zq c.1) ?_
  exact h
theorem mW (c:Lv 6 n d)(e:a.get g=H (bY h s))(i:a.get h=H (.tab j))(f:a.get l=H (.aa m))(q:dK j ((aI x m).getD .none) w)(r:k w a):(On n).call d (F 334) [.loc g,.loc l,.str x] a k X:=by
 refine cq c λc=>?_
 refine Ab ?_
 exact pj e<|QG f<|Ms f<|cg<|kQ c e i q r
theorem vO (c:Lv 6 n d)(e:a.get f=H (bY g q))(h:a.get g=H (.tab i))(j:dK i ((aI x l).getD .none) w)(m:k w a):(On n).call d (F 334) [.loc f,.aa l,.str x] a k X:=by
 refine cq c λc=>?_
 refine Ab ?_
 exact pj e<|BS<|yv<|cg<|kQ c e h j m
end
end
end
mutual
section
open Sh PySem PySem.W PyProof.Rows PySem.Calls
theorem IQ (a:k (E.inst 480 [(Q "parts",E.tup [])]) b):hX (inl O eh [] I I 8) 480 d [] b k X:=aj (by kernel_rfl) a
theorem Gl (a:k (E.tup [E.int i,E.int 0]) b):aN (inl O eh [] I I 8) 272 d [.inst 275 [(Q "number",.int i),(Q "generation",.int 0)]] b k X:=aj (by kernel_rfl) a
theorem HD {b e c:E}(f:wp (aw a c<|Q "octets") λg=>wp (aO a g<|E.int 0) λh=>wp (aO a b h) λi=>k i a):oh O 890040 [(Q "held",b)] d [e,c] a k X:=aj (by kernel_rfl) f
end
end
mutual
section
open PySem Sh
def cy (w:String)(a:List E):E:=.inst 927 [(Q "word",S w),(Q "operands",.lst a)]
def ip:aB->List E
 |.re x y w h=>[cy "re" [.int x,.int y,.int w,.int h],cy "f" []]
 |.cm m=>[cy "cm" [.int m.a,.int m.b,.int m.c,.int m.d,.int m.e,.int m.f]]
 |.gr t=>[cy "g" [kV t]]
 |.qq=>[cy "q" []]
 |.W x y w h=>[cy "re" [.int x,.int y,.int w,.int h],cy "W" [],cy "n" []]
 |.BI=>[cy "BI" [.aa [],.inst 226 [(Q "octets",.dk #[]),(Q "is_hex",.bool N)]]]
 |.BX=>[cy "BX" []]
 |.Do b=>[cy "Do" [.inst 204 [(Q "text",.str<|bC b)]]]
 |.Q=>[cy "Q" []]
 |.EX=>[cy "EX" []]
 |.zz=>[cy "zz" []]
def dy (a:List aB):List E:=a.flatMap ip
def aB.ok:aB->Prop
 |.re x y w h=>(box x y w h).bq
 |.W x y w h=>(box x y w h).bq
 |.cm m=>m.bq
 |.gr t=>0<=t/\t<13
 |_=>True
def mk (a:PF)(s q:Nat)(b:Int):PF:={a with s:=s,pl:=q,sk:=b,pa:=[],ru:=Q "" }
def xa (d:Nat)(a b:E):Y:=fr 757 d [(Q "painter",a),(Q "operations",b)]
def qu (d:Nat)(a b x:E):Y:=fr 757 d [(Q "painter",a),(Q "operations",b),(Q "operation",x)]
def uk (d:Nat)(a b:E)(c:Y):Prop:=c=xa d a b\/∃x,c=qu d a b x
section
variable {n:bV}{d p L b:Nat}{a:R}{X:Prop}
theorem B3 (c:k<|S w):wp (aw a (cy w e)<|Q "word") k:=aR (c:=S w) (by kernel_rfl) c
theorem yP (e:k<|.lst c):wp (aw a (cy w c)<|Q "operands") k:=aR (c:=.lst c) (by kernel_rfl) e
theorem fD {c e:E}(i:Lv (L+1) n<|d+1)(j:uk d c e l)
  (h:Lv L n (d+1)->(On n).call (d+1) (F 778) [c,S w,.lst f] a (λ_ m=>(On n).bH (cN 757 0) (cB 757 0) r (qu d c e<|cy w f) m k X) X):(On n).bH (cN 757 0) (cB 757 0) (cy w f::r) l a k X:=by
 refine hV i λg=>?_
 rcases j with rfl|⟨x,rfl⟩
 .unfold xa
  refine Fz ?_
  exact B3<|yP<|h g
 .unfold qu
  refine Lk ?_
  exact B3<|yP<|h g
def C5 (p:Nat)(i:PF)(j:List E)(y:Nat)(b:Nat)(z:List<|Nat×au)(A:Bool->St->List Mk->R2):Prop:=∀(n:bV)(d:Nat)(l:Bool)(c:St)(e:List Mk)(s q:Nat)(m:Int)(f:List E)(g:List<|Nat×au)(a:R)(k:E->R->Prop)(X:Prop)(r:Option<|List Mk),
 Lv b n d->af a (C p (mk i s q m) c.sf j (e.map Mk.mv) (e.map Mk.cv) f++g)->(∀x∈z,x∈g)->f.length<=y+900->e.length<900->c.cs.length<900->A l c e=H r->
 (∀h,r=H h->∀t B,af t (C p (mk i s B m) c.sf j (h.map Mk.mv) (h.map Mk.cv) f++g)->k .none t)->(r=T->X)->(On n).call d (F 874) [.loc p,.str<|bC l] a k X
abbrev yc (c:List<|Nat×St):List<|Nat×au:=c.map λx=>(x.1,SO x.2.sf)
abbrev jK (c:List<|Nat×St):List E:=c.reverse.map λx=>.loc x.1
theorem snoc {c g:Type}{f:c->g}{e:List c}{x:c}:(e++[x]).map f=e.map f++[f x]:=by simp
theorem Lg {pt os:E}(b7:pt=.loc p)(B:26<=b)(b8:C5 p w0 of O.length b b9 a3)(c0:∀x∈b9,x∈a5)(b4:w0.fl=O.length)(c1:O.length<=90000)(c2:Lv (b+3) n<|d+1)
  (c3:∀a2,r=H a2->∀j s' q' c4 c5 a6 b5,uk d pt os b5->af j (C p (mk w0 s' q' c4) c5 of (a2.map Mk.mv) (a2.map Mk.cv) a6++a5)->O.length<=a6.length->a6.take O.length=O->k .next b5 j) (a4:r=T->X):
  ∀z i (c:Nat) l A s q a P,(∀x∈z,x.ok)->uk d pt os P->af a (C p (mk w0 s q c) l.sf of (A.map Mk.mv) (A.map Mk.cv) (O++jK i)++(yc i++a5))->
   row a3 z (i.map mr) c l A=H r->(On n).bH (cN 757 0) (cB 757 0) (dy z) P a k X:=by
 subst b7
 intro z
 induction z with
 |nil=>
  intro i c l A s q a P _ hf h g
  refine jz<|c3 A (by refine aG g ?_;clear g;rintro rfl;rfl) a s q c l.sf (O++jK i) P hf (h.sub ?_) (by simp)<|by simp
  exact Ti (List.sublist_append_right _ _) _
 |cons a7 z a0=>
  intro i c l A s q a P b6 hf h g
  have a1:∀x∈z,x.ok:=λx a8=>b6 x<|dz _ a8
  have hd:a7.ok:=b6 a7<|.head _
  refine aL (n_ g) ?_;rintro ⟨g1,g2,g3⟩ g
  rw [cb] at g2
  have b1:(A.map Mk.mv).length<1000000:=by rw [cb];exact bE (by assumption)<|by decide
  have b2:(A.map Mk.cv).length<1000000:=by rw [cb];exact bE (by assumption)<|by decide
  have b3:(O++jK i).length<1000000:=by simp;exact bE (bK c1 g2)<|by decide
  have c6:l.sf.cs.length<1000000:=by show (l.cs.map iq).length<_;rw [cb];exact bE (by assumption)<|by decide
  have M:Lv (b+2+1) n<|d+1:=c2
  cases a7 with
  |re x y w v=>
   show (On n).bH _ _ (cy "re" _::cy "f" []::dy z) P a k X
   refine fD M hf λf=>A2 (f.le<|ay B<|by simp+arith only) h rfl rfl hd λj h=>?_
   refine fD M (.inr ⟨_,rfl⟩) λf=>KU (f.le<|ay B<|by simp+arith only) h rfl rfl b1 b2 λj h=>?_
   refine a0 i c l _ s q j _ a1 (.inr ⟨_,rfl⟩) ?_ g
   simp only [snoc,snoc]
   exact h
  |cm m=>
   show (On n).bH _ _ (cy "cm" _::dy z) P a k X
   exact fD M hf λf=>NV (f.le<|ay B<|by simp+arith only) h rfl hd λj h=>a0 i c {l with m:=m.mul l.m} A s q j _ a1 (.inr ⟨_,rfl⟩) h g
  |gr t=>
   show (On n).bH _ _ (cy "g" _::dy z) P a k X
   exact fD M hf λf=>og (f.le<|ay B<|by simp+arith only) h rfl hd.1 hd.2 λj h=>a0 i c {l with t:=t} A s q j _ a1 (.inr ⟨_,rfl⟩) h g
  |qq=>
   show (On n).bH _ _ (cy "q" _::dy z) P a k X
   refine fD M hf λf=>oq (f.le<|ay B<|by simp+arith only) h rfl (show 13<=1000 by exact ab _ _) b3 λj s' h=>?_
   refine a0 ((s',l)::i) c l A s q j _ a1 (.inr ⟨_,rfl⟩) ?_ g
   refine J (show O++jK ((s',l)::i)=O++jK i++[.loc s'] by simp) ?_
   exact h
  |W x y w v=>
   show (On n).bH _ _ (cy "re" _::cy "W" []::cy "n" []::dy z) P a k X
   refine fD M hf λf=>A2 (f.le<|ay B<|by simp+arith only) h rfl rfl hd λj h=>?_
   refine fD M (.inr ⟨_,rfl⟩) λf=>oW (f.le<|ay B<|by simp+arith only) h rfl rfl λj h=>?_
   refine fD M (.inr ⟨_,rfl⟩) λf=>on (f.le<|ay B<|by simp+arith only) h rfl rfl c6 b1 b2 λj h=>?_
   refine a0 i c (eT l<|(box x y w v).by l.m).1 _ s q j _ a1 (.inr ⟨_,rfl⟩) ?_ g
   simp only [snoc,snoc]
   unfold eT St.sf Mk.cv
   refine J snoc ?_
   exact h
  |BI=>
   show (On n).bH _ _ (cy "BI" _::dy z) P a k X
   refine fD M hf λf=>JL (f.le<|ay B<|by simp+arith only) h rfl b1 b2 λj h=>?_
   refine a0 i c l _ s q j _ a1 (.inr ⟨_,rfl⟩) ?_ g
   simp only [snoc,snoc]
   exact h
  |BX=>
   show (On n).bH _ _ (cy "BX" _::dy z) P a k X
   exact fD M hf λf=>Lj (f.le<|ay B<|by simp+arith only) h rfl λj h=>a0 i (c+1) l A s q j _ a1 (.inr ⟨_,rfl⟩) h g
  |Do a9=>
   show (On n).bH _ _ (cy "Do" _::dy z) P a k X
   refine fD M hf λf=>HI f (qc B) h rfl λc7=>?_
   have g:kJ (row a3 z (i.map mr) c l) (a3 a9 l A)=H r:=g
   cases e:a3 a9 l A with
   |none=>rw [e] at g;exact ao g
   |some r1=>
    refine b8 n _ a9 l A s q c (O++jK i) _ a _ X r1 c7 h (λx a8=>eK _<|c0 x a8) (by simp;exact ig<|by assumption) g1 g3 e (λa2 e' j q' h=>?_) λe'=>?_
    .subst e'
     rw [e] at g
     exact a0 i c l a2 s q' j _ a1 (.inr ⟨_,rfl⟩) h g
    .subst e'
     replace g:=e▸g
     refine aG g ?_;clear g;rintro rfl
     exact a4 rfl
  |Q=>
   show (On n).bH _ _ (cy "Q" _::dy z) P a k X
   cases i with
   |nil=>
    refine aG g ?_;clear g;rintro rfl
    exact fD M hf λf=>OE (f.le<|ay B<|by simp+arith only) h rfl (by refine J (show (mk w0 s q c).fl=O.length from b4) ?_;simp)<|a4 rfl
   |cons x i=>
    obtain ⟨s',b0⟩:=x
    refine fD M hf λf=>?_
    rw [show O++jK ((s',b0)::i)=O++jK i++[.loc s'] by simp] at h
    refine oQ (m:=O++jK i) (r:=b0.sf) (s:=s') (g:=yc i++a5) (f.le<|ay B<|by simp+arith only) h rfl (by simp at b3 |-;exact ig b3) (by refine J (show (mk w0 s q c).fl=O.length from b4) ?_;refine J eJ ?_;exact dO.mpr<|by simp+arith only) λj h=>?_
    exact a0 i c b0 A s' q j _ a1 (.inr ⟨_,rfl⟩) h g
  |EX=>
   show (On n).bH _ _ (cy "EX" _::dy z) P a k X
   cases c with
   |zero=>
    refine aG g ?_;clear g;rintro rfl
    exact fD M hf λf=>NF (f.le<|ay B<|by simp+arith only) h rfl rfl<|a4 rfl
   |succ c=>
    refine fD M hf λf=>Nk (f.le<|ay B<|by simp+arith only) h rfl (show ((c+1:Nat):Int)≠0 from λe=>tE _<|lq e) λj h=>?_
    refine a0 i c l A s q j _ a1 (.inr ⟨_,rfl⟩) ?_ g
    have e:({mk w0 s q ((c+1:Nat):Int) with sk:=(mk w0 s q ((c+1:Nat):Int)).sk - 1}:PF)=mk w0 s q c:=by
     show mk w0 s q (((c+1:Nat):Int) - 1)=_
     exact J (show ((c+1:Nat):Int) - 1=c from Int.add_sub_cancel (c:Int) 1) rfl
    rw [e] at h
    exact h
  |zz=>
   show (On n).bH _ _ (cy "zz" _::dy z) P a k X
   cases c with
   |zero=>
    refine aG g ?_;clear g;rintro rfl
    exact fD M hf λf=>KY (f.le<|ay B<|by simp+arith only) h rfl rfl<|a4 rfl
   |succ c=>
    exact fD M hf λf=>MN (f.le<|ay B<|by simp+arith only) h rfl (show ((c+1:Nat):Int)≠0 from λe=>tE _<|lq e)<|a0 i (c+1) l A s q a _ a1 (.inr ⟨_,rfl⟩) h g
end
end
mutual
open Mine
def dw (s:String):E:=.inst 204 [(Q "text",S s)]
def cz (h g:Nat):E:=.inst 247 [(Q "head",.loc h),(Q "octets",.dk #[me g])]
def jx (s:String):E:=.inst 247 [(Q "head",.aa [(Q "Subtype",dw s)]),(Q "octets",.dk #[])]
inductive dU (a:List<|Int×E):List E->List Int->Prop
 |nil:dU a [] []
 |cons {x:E} {i:Int} {b:List E} {c:List Int}:dK a x (.int i)->dU a b c->dU a (x::b) (i::c)
theorem dU.len (f:dU d a b):a.length=b.length:=by
 induction f with
 |nil=>rfl
 |cons _ _ c=>exact congrArg (·+1) c
def kI (g:List<|Int×E)(v:E):Mx->Prop
 |.no=>v=.none
 |.six m=>∃d,dK g v (.lst d)/\dU g d [m.a,m.b,m.c,m.d,m.e,m.f]/\m.bq
 |.bad=>∃d a b c e f,dK g v (.lst d)/\dU g d [a,b,c,e,f]
def lY (a:List<|Int×E)(v:E):Ed->Prop
 |.no=>v=.none
 |.box l b r t=>∃c,dK a v (.lst c)/\dU a c [l,b,r,t]/\(box l b (r - l)<|t - b).bq
 |.bad=>dK a v<|.int 7
def oF (b:List<|Int×E)(a:Nat->Nat)(e:E):Option hY->Prop
 |T=>e=.none
 |H (.cx g I)=>e=cz (a g) g
 |H (.cx g N)=>e=rf (10+g)/\cZ (10+g) b=H (.tup [.int 0,cz (a g) g])
 |H .eb=>e=jx "Image"
 |H .odd=>e=jx "PS"
def hQ (a:List<|Int×E)(d:Nat->Nat)(r:List<|ae×E)(e:cn):Prop:=∃c,dK a ((aI (Q "XObject") r).getD .none) (.aa c)/\∀b,oF a d ((aI (bC b) c).getD .none)<|e b
def nz (a:List<|Int×E)(b:Nat->Nat)(v:E):Option cn->Option (List<|ae×E)->Prop
 |T,T=>v=.none
 |H c,H r=>dK a v (.aa r)/\hQ a b r c
 |_,_=>False
structure iv (b:List<|Int×E)(d:Nat->Nat)(a:List<|ae×E)(c:Fm)(e:Option<|List<|ae×E):Prop where
 sub:(aI (Q "Subtype") a).getD .none=dw "Form"
 mx:kI b ((aI (Q "Matrix") a).getD .none) c.mx
 ed:lY b ((aI (Q "BBox") a).getD .none) c.ed
 nm:nz b d ((aI (Q "Resources") a).getD .none) c.nm e
section
variable {n:bV}{d c L x:Nat}{a:R}{w:PF}{i:SF}{k m l q:List E}{j:List<|Nat×au}{g f r:Nat}{e:List<|Int×E}
theorem yk (h:p I):wp (ax a .Is .none .none) p:=aR (c:=I) (by kernel_rfl) h
theorem L4 (h:p N):wp (ax a .Is (.lst y) .none) p:=aR (c:=N) (by kernel_rfl) h
theorem PI (h:p N):wp (ax a .Is (.int y) .none) p:=aR (c:=N) (by kernel_rfl) h
theorem je (h:p I):wp (ax a .IsNot (.lst y) .none) p:=aR (c:=I) (by kernel_rfl) h
theorem Ct (p:Lv 1 n d)(h:y P0 a):(On n).call d (F 480) [] a y X:=by
 refine kH (f:=[]) (g:=I) (i:=I) p.lt ?_
 refine IQ ?_
 exact h
theorem LN (p:Lv 1 n d)(h:y (.tup [.int z,.int 0]) a):(On n).call d (F 272) [rf z] a y X:=by
 refine ke (e:=[]) (f:=I) (g:=I) p.lt ?_
 refine Gl ?_
 simpa only [true_and,and_true] using h
theorem HJ (h:af a<|C c w i k m l q++j)(b:w.sh=g)(s:a.get g=H (bY f r))(t:a.get f=H (.tab e))(M:Lv 10 n<|d+1):∀p y z,dU e p y->z (y.map .int) a->(On n).comp (cp 879 0) (cw 879 0) p (bI 879 0 d [(Q "painter",.loc c)]) a z X:=by
 intro p
 induction p with
 |nil=>intro y z A B;cases A;exact gD B
 |cons a1 p O=>
  intro y z A B
  cases A with
  |cons P h2=>
   refine gC (M.le<|by exact aT _:Lv (9+1) _ _) λa0=>?_
   refine Ga ?_
   refine jt h.gp ?_
   refine J b ?_
   exact pj s<|cg<|kQ (a0.le<|by exact ab _ _) s t P<|O _ _ h2 B
variable (h:af a<|C c w i k m l q++j)(b:w.sh=g)(s:a.get g=H (bY f r))(t:a.get f=H (.tab e))
include h b s t
theorem zP (p:Lv 12 n d)(y:a.get z=H (.aa A))(B:(aI M A).getD .none=.none)(O:P .none a):(On n).call d (F 879) [.loc c,.loc z,.str M,a0] a P X:=by
 refine cq p λp=>?_
 refine uT ?_
 refine jt h.gp ?_
 refine J b ?_
 exact lO s<|cg<|mW (p.le<|by exact ab _ _) s t y (w:=.none) ⟨rfl,.inl B⟩<|yk O
theorem uJ (p:Lv (L+12) n d)(A:a.get B=H (.aa M))(O:dK e ((aI P M).getD .none)<|.lst y)(a0:dU e y z)(a1:y.length<=1000000)(a2:Lv (L+11) n (d+1)->(On n).call (d+1) (F 642) [.lst<|z.map .int,a3] a a4 X):(On n).call d (F 879) [.loc c,.loc B,.str P,a3] a a4 X:=by
 refine cq (p:Lv (L+11+1) n d) λp=>?_
 refine uT ?_
 refine jt h.gp ?_
 refine J b ?_
 refine lO s<|cg<|mW (p.le<|by exact ab _ _) s t A O<|L4 ?_
 refine hS (c:=.type "list") (i:=I) (p.le<|by exact ab _ _:Lv (1+1) _ _) rfl (by kernel_rfl) (by kernel_rfl)<|en ?_
 refine aR (c:=y) rfl ⟨a1,?_⟩
 exact HJ h b s t (p.le<|by exact ab _ _) y z _ a0<|a2 p
theorem J8 (p:Lv 12 n d)(y:a.get z=H (.aa A))(B:dK e ((aI (Q "BBox") A).getD .none)<|.int O)(M:X):(On n).call d (F 879) [.loc c,.loc z,S "BBox",P] a a0 X:=by
 refine cq p λp=>?_
 refine uT ?_
 refine jt h.gp ?_
 refine J b ?_
 refine lO s<|cg<|mW (p.le<|by exact ab _ _) s t y B<|PI ?_
 refine hS (c:=.type "int") (i:=N) (p.le<|by exact ab _ _:Lv (1+1) _ _) rfl (by kernel_rfl) (by kernel_rfl)<|en ?_
 refine jA (by have:=p.depth;exact dH (dg this)<|by decide) ?_
 exact fy (c:=.p<|4+12<=1000) (e:=(S "BBox is an array",a)) (by kernel_rfl) (ab _ _)<|aR (c:=()) (by kernel_rfl) M
end
end
mutual
section
variable {n:bV}{d:Nat}{a:R}{k:E->R->Prop}{X:Prop}
theorem IW (i:Lv 10 n d)(h:k (.lst [D j,D b,D c,D e,D f,D g]) a):(On n).call d (F 642) [.lst [.int j,.int b,.int c,.int e,.int f,.int g],.int 6] a k X:=by
 refine bN (c:=[293,286]) (l:=I) (m:=I) bO i λ_=>I2 (i.dm rfl) h
theorem G8 (f:Lv 10 n d)(h:k (.lst [D g,D b,D c,D e]) a):(On n).call d (F 642) [.lst [.int g,.int b,.int c,.int e],.int 4] a k X:=by
 refine bN (c:=[293,286]) (l:=I) (m:=I) bO f λ_=>IY (f.dm rfl) h
theorem Mq (g:Lv 10 n d)(h:X):(On n).call d (F 642) [.lst [.int i,.int b,.int c,.int e,.int f],.int 6] a k X:=by
 refine bN (c:=[293,286]) (l:=I) (m:=I) bO g λg=>?_
 refine Ka ?_
 refine jA g.lt ⟨⟨by decide,by decide⟩,by exact ab _ _,h⟩
theorem Jr {m:bo}(b:Lv 10 n d)(h:k m.dh a):(On n).call d (F 799) [.lst [D m.a,D m.b,D m.c,D m.d,D m.e,D m.f]] a k X:=by
 refine bN (c:=[642,293,286,443]) (l:=I) (m:=I) bO b λ_=>Pr (b.dm rfl) h
end
end
mutual
open Mine
theorem Pd (a:bB O 886 0 (fr 886 d [(Q "painter",b),(Q "head",c)]) e k X):aN O 886 d [b,c] e k X:=aj (by kernel_rfl) a
theorem G2 (a:bB O 893 0 (fr 893 d [(Q "painter",b),(Q "entry",e),(Q "stream",s)]) c k X):aN O 893 d [b,e,s] c k X:=aj (by kernel_rfl) a
end
end
section
open Sh PySem PySem.W PyProof.Rows PySem.Calls
end
mutual
section
open PySem Sh
section
variable {n:bV}{d p L j:Nat}{b:R}{w:PF}{s:SF}{f i g l:List E}{a:List<|Nat×au}{X:Prop}{k c r:Nat}{e:List<|Int×E}{h:Nat->Nat}
theorem zA (m:q<|.fn 89):wp (aV b (D x)<|Q "minus") q:=aR (c:=.fn 89) (by kernel_rfl) m
theorem Hf {m:bo}(q:t<|.fn 414):wp (aV b m.dh<|Q "times") t:=aR (c:=.fn 414) (by kernel_rfl) q
theorem ix (m:aO b o (.int q)=.ok .t v)(t:x v):wp (aO b o<|.int q) x:=aR m t
theorem AZ (m:Lv 10 n d)(q:t (D<|x - y) b):(On n).aE d (D x) (Q "minus") (.fn 89) [D y] b t X:=
 cg<|AO (by have:=m.depth;exact ay this<|by simp+arith only) (by kernel_rfl) q
theorem af.clip (t:af b<|C p w {m.sf with cs:=m.sf.cs++[iq z]} f (q.map Mk.mv++[.tup [S "clip",S "nonzero",z.gx]]) (q.map Mk.cv++[.tup<|m.sf.cs++[iq z]]) l++a):
  af b<|C p w (eT m z).1.sf f ((q++[(eT m z).2]).map Mk.mv) ((q++[(eT m z).2]).map Mk.cv) l++a:=by
 rw [show m.sf.cs++[iq z]=(m.cs++[z]).map iq from snoc.symm] at t
 refine J snoc ?_;refine J snoc ?_;exact t
theorem Ax {w:PF}{s:SF}{i g:List E}{O:Nat}{P:List<|ae×E}{M:Option cn}{y:Option<|List<|ae×E}{a0:E->R->Prop}(z:Lv 29 n<|d+1)(t:af b<|C p w s f i g l++a)(A:(w.sh,bY c r)∈a)(a1:(c,.tab e)∈a)(a2:(O,.aa P)∈a)
  (B:nz e h ((aI (Q "Resources") P).getD .none) M y) (a3:∀a4,af a4 (C p {w with res:=y.getD w.res} s f i g l++a)->a0 .none a4):vQ (On n) d (.loc p) (.loc O) b a0 X:=by
 have q:∀{x:Nat×au},x∈a->b.get x.1=H x.2:=λm=>t.get<|eK _ m
 refine jt t.gp ?_
 cases M with
 |none=>cases y with
  |some x=>exact B.elim
  |none=>
   refine lO (q A)<|cg<|mW (z.le<|by exact ab _ _) (q A) (q a1) (q a2) (w:=.none) ⟨rfl,.inl B⟩ ?_
   refine hS (c:=.type "NoneType") (i:=N) (z.le<|by exact ab _ _:Lv (1+1) _ _) rfl (by kernel_rfl) (by kernel_rfl)<|en ?_
   exact a3 _ t
 |some M=>cases y with
  |none=>exact B.elim
  |some x=>
   refine lO (q A)<|cg<|mW (z.le<|by exact ab _ _) (q A) (q a1) (q a2) B.1 ?_
   refine hS (c:=.type "dict") (i:=I) (z.le<|by exact ab _ _:Lv (1+1) _ _) rfl (by kernel_rfl) (by kernel_rfl)<|en ?_
   exact CA (v:=x) t.gp<|a3 _ t.rX
theorem zd {w:PF}{a7:Nat}{st:St}{ms:List Mk}{F':Fm}{a8:List<|ae×E}{a9:Option<|List<|ae×E}{b0:E->R->Prop}{v:E}{b1:St->List Mk->R2}{a2:Option<|List Mk}(z:Lv 29 n<|d+1)(y:af b<|C p w st.sf f (ms.map Mk.mv) (ms.map Mk.cv) l++a)(O:(w.sh,bY c r)∈a)(P:(c,.tab e)∈a)(a0:(a7,.aa a8)∈a)
  (a4:iv e h a8 F' a9) (b2:ms.length<1000) (b5:st.cs.length<1000) (a1:iU (hL F'.ed st ms) b1=H a2) (b6:a2=T->X)
  (b3:∀b4 a5,b1 b4 a5=H a2->∀a3,af a3 (C p {w with res:=a9.getD w.res} b4.sf f (a5.map Mk.mv) (a5.map Mk.cv) l++a)->b0 .none a3):bB (On n) 886 2 (fr 886 d [(Q "painter",.loc p),(Q "head",.loc a7),(Q "numbers",v)]) b b0 X:=by
 have A:∀{x:Nat×au},x∈a->b.get x.1=H x.2:=λm=>y.get<|eK _ m
 refine cI 2 4 (by exact ab _ _) ?_
 refine FV ?_
 have B:=a4.ed
 refine ua a1 (λM a1=>?_) (λM q=>?_) λl' b8 a2 t M a1=>?_
 .rw [M] at B
  exact zP y rfl (A O) (A P) (z.le<|by exact ab _ _) (A a0) B<|ey<|Mg<|Ax z y O P a0 a4.nm<|b3 _ _ a1
 .rw [M] at B
  exact J8 y rfl (A O) (A P) (z.le<|by exact ab _ _) (A a0) B<|b6 q
 .rw [M] at B
  clear M
  refine cK B ?_;clear B;intro xs f1 f2 f3
  refine uJ y rfl (A O) (A P) (z.le<|by exact ab _ _:Lv (15+12) _ _) (A a0) f1 f2 (f2.len▸by exact ab _ _) λb7=>?_
  refine G8 (b7.le<|by exact ab _ _)<|je<|Ct (z.le<|by exact ab _ _) ?_
  refine ix rfl<|ix rfl<|ix rfl<|zA<|ix rfl<|AZ (z.le<|by exact ab _ _)<|ix rfl<|zA<|ix rfl<|AZ (z.le<|by exact ab _ _) ?_
  refine zu (z.le<|by exact ab _ _)<|fN y.gp<|lW y.gs<|By (z.le<|by exact ab _ _) f3 λa3 a6=>?_
  have lt:∀{α β:Type} {a6:α->β} {xs:List α},xs.length<1000->(xs.map a6).length<1000000:=λy=>by rw [cb];exact bE y<|by decide
  refine CB (z.le<|by exact ab _ _) (y.fr a6) (lt b5) (lt b2) (lt b2) λa3 y=>?_
  exact MJ<|Ax z (af.clip y) O P a0 a4.nm<|b3 _ _ a1
theorem P1 {w:PF}{a7:Nat}{B:St}{ms:List Mk}{F':Fm}{a8:List<|ae×E}{a9:Option<|List<|ae×E}{b0:E->R->Prop}{b1:St->List Mk->R2}{a2:Option<|List Mk}(y:Lv 30 n d)(t:af b<|C p w B.sf f (ms.map Mk.mv) (ms.map Mk.cv) l++a)(O:(w.sh,bY c r)∈a)(P:(c,.tab e)∈a)(a0:(a7,.aa a8)∈a)
  (a3:iv e h a8 F' a9) (b2:ms.length<1000) (b3:B.cs.length<1000) (a1:qv F' (lN F'.mx B) b1 ms=H a2) (a4:a2=T->X)
  (b4:∀b5 a5,b1 b5 a5=H a2->∀b6,af b6 (C p {w with res:=a9.getD w.res} b5.sf f (a5.map Mk.mv) (a5.map Mk.cv) l++a)->b0 .none b6):(On n).call d (F 886) [.loc p,.loc a7] b b0 X:=by
 refine cq (y:Lv (29+1) n d) λy=>?_
 have z:∀{x:Nat×au},x∈a->b.get x.1=H x.2:=λm=>t.get<|eK _ m
 refine Pd ?_
 refine cI 0 2 (by exact ab _ _) ?_
 refine L6 ?_
 have A:=a3.mx
 refine wM a1 (λM a1=>?_) (λM q=>?_) λm M a1=>?_
 .rw [M] at A
  exact zP t rfl (z O) (z P) (y.le<|by exact ab _ _) (z a0) A<|ey<|zd y t O P a0 a3 b2 b3 a1 a4 b4
 .rw [M] at A
  refine dx A ?_;clear A;intro xs b7 zz;refine dx zz ?_;clear zz;intro b8 b9 zz;refine hg zz ?_;clear zz;intro M c0 f1 f2
  exact uJ t rfl (z O) (z P) (y.le<|by exact ab _ _:Lv (15+12) _ _) (z a0) f1 f2 (f2.len▸by exact ab _ _) λa6=>Mq (a6.le<|by exact ab _ _)<|a4 q
 .rw [M] at A
  refine cK A ?_;clear A;intro xs f1 f2 f3
  refine uJ t rfl (z O) (z P) (y.le<|by exact ab _ _:Lv (15+12) _ _) (z a0) f1 f2 (f2.len▸by exact ab _ _) λa6=>?_
  refine IW (a6.le<|by exact ab _ _)<|je<|Jr (y.le<|by exact ab _ _)<|Hf<|fN t.gp<|lW t.gs<|cg<|AB (v:=m) (m:=B.m) (y.le<|by exact ab _ _) f3<|fN t.gp<|Bz (v:=m.mul B.m) t.gs ?_
  exact zd (st:={B with m:=m.mul B.m}) y t.ss O P a0 a3 b2 b3 a1 a4 b4
end
end
mutual
open Mine
def et (x:Nat×Bool):E:=match x.2 with
 |I=>.tup [.int 0,.int 0]
 |N=>.tup [.int<|10+x.1,.int 0]
section
variable {n:bV}{d p L g:Nat}{a:R}{w:PF}{e:SF}{f m c l:List E}{b:List<|Nat×au}{X:Prop}{k i r:Nat}{j:List<|Int×E}{h:Nat->Nat}
theorem af.NY (q:af a<|C p w e f m c l++b)(t:vE a x<|SO s):af (x.set p<|PO {w with s:=a.next})<|C p {w with s:=a.next} s f m c l++(w.s,SO e)::b:=by
 have q:=af.set (A:=[(a.next,SO s)]) (g:=PO {w with s:=a.next})<|t _ q
 refine q.perm ?_
 refine (Fg _ _ _).trans<|mu _<|mu _ ?_
 exact ij.symm
theorem af.Pw (q:af a<|C p w e f m c l++(s,SO t)::b):af (a.set p<|PO {w with s:=s})<|C p {w with s:=s} t f m c l++b:=by
 have q:=af.set (A:=[]) (g:=PO {w with s:=s}) q
 have q:af (a.set p<|PO {w with s:=s})<|(p,PO {w with s:=s})::(w.s,SO e)::[(w.of,.lst f),(w.ma,.lst m),(w.cl,.lst c),(w.pl,.lst l)]++(s,SO t)::b:=q
 have q:=q.perm ij
 have q:=q.sub (H':=(s,SO t)::(p,PO {w with s:=s})::[(w.of,.lst f),(w.ma,.lst m),(w.cl,.lst c),(w.pl,.lst l)]++b)<|by
  refine tD _<|tD _ ?_
  exact nP _ _
 exact q.perm<|Fg _ _ _
theorem af.J0 (q:af a<|C p w e f m c l++b):af ((a.alloc<|.lst s).set p<|PO {w with pl:=a.next})<|C p {w with pl:=a.next} e f m c s++b:=by
 have q:=af.set (A:=[(a.next,au.lst s)]) (g:=PO {w with pl:=a.next})<|af.alloc (o:=.lst s) q
 have q:=q.sub (H':=(a.next,.lst s)::([(p,PO {w with pl:=a.next}),(w.s,SO e),(w.of,.lst f),(w.ma,.lst m),(w.cl,.lst c)]++b))<|by
  refine tD _<|Ti ?_ _
  exact nP _ _
 exact q.perm ij.symm
theorem Ig {t:List<|Nat×Bool}{s:Nat}(M:a.get B=H (.lst<|t.map et))(O:a3<|t.any λx=>!x.2 && cC x.1 s):wp (ax a .In (.tup [.int<|10+s,.int 0])<|.loc B) a3:=by
 have e1:E.cu 30 (t.map et)=I:=by
  clear M O
  induction t with
  |nil=>rfl
  |cons x a0 P=>
   show (E.isData 30 (et x) && E.cu 30 (a0.map et))=I
   refine J P ?_
   unfold et
   cases x.2<;>rfl
 have e2:((t.map et).any λy=>E.beq y<|.tup [.int<|10+s,.int 0])=t.any λx=>!x.2 && cC x.1 s:=by
  clear M O e1
  induction t with
  |nil=>rfl
  |cons x a0 P=>
   simp only [dQ,pN,pN,P]
   congr 1
   obtain ⟨z,a1⟩:=x
   cases a1 with
   |true=>
    show ((0:Int)==10+s && _)=N
    refine J (show ((0:Int)==10+s)=N by rw [beq_eq_false_iff_ne];exact Tj<|la (by decide)<|Ff<|hA s) ?_
    rfl
   |false=>
    show ((10:Int)+z==10+s && ((0:Int)==0 && I))=cC z s
    by_cases A:z=s
    .subst A;simp
    .refine J (show ((10:Int)+z==10+s)=N by rw [beq_eq_false_iff_ne];exact λq=>A<|lq<|Int.add_left_cancel q) ?_
     cases q:cC z s with
     |true=>exact absurd (hC q) A
     |false=>rfl
 have A:ax a .In (.tup [.int<|10+s,.int 0]) (.loc B)=.ok .t (t.any λx=>!x.2 && cC x.1 s):=by
  show oo (oD a _<|fh B<|a.get B)=_
  refine J M ?_
  show oo (kT _ _)=_
  unfold kT
  refine e1▸e2▸?_
  rfl
 exact aR A O
theorem oK (z:Lv (L+1) n d)(q:a.get s=H (.lst t))(x:y (.int t.length) a):(On n).call d (.ag<|.builtin "len") [.loc s] a y X:=hK<|vL q x
theorem JO (q:s N):wp (ax a .Is (.bR t x) .none) s:=aR (c:=N) (by kernel_rfl) q
theorem Mv (q:a.get p=H (PO w))(s:t<|.bR<|.bR w.kk w.ir):wp (aV a (.loc p)<|Q "opener") t:=by
 have x:aV a (.loc p) (Q "opener")=.ok .t (.bR<|.bR w.kk w.ir):=by
  unfold aV res
  dsimp only
  refine J q ?_
  kernel_rfl
 exact aR x s
theorem L_ (q:s<|.fn 272):wp (aV a (rf t)<|Q "pair") s:=aR (c:=.fn 272) (by kernel_rfl) q
theorem uP (s:t<|.loc q):wp (aw a (cz q x)<|Q "head") t:=aR (c:=.loc q) (by kernel_rfl) s
theorem OZ (s:t<|.dk #[me q]):wp (aw a (cz x q)<|Q "octets") t:=aR (c:=.dk #[me q]) (by kernel_rfl) s
theorem JD {q:Nat}(s:q<256)(t:x<|.int q):wp (aO a (.dk #[me q])<|.int 0) x:=by
 refine aR (c:=.int (me q).toNat) rfl ?_
 refine J (UInt8.toNat_ofNat_of_lt' s) ?_
 exact t
theorem Dy {x s:Nat}(z:a.get x=H (.lst t))(y:t[s]?=H v)(A:B v):wp (aO a (.loc x)<|.int s) B:=by
 have M:s<t.length:=by
  rcases qd s t.length with q|q
  .exact q
  .rw [Fh q] at y;exact ao y
 have O:aO a (.loc x) (.int s)=.ok .t v:=by
  show tW (fh x<|a.get x) _=_
  refine J z ?_
  show (oo (iJ (s:Int) t.length)>>=λp=>oo t[p]?)=_
  refine J (show iJ (s:Int) t.length=H s by unfold iJ;refine J (if_pos<|hA s) ?_;refine J (if_pos<|jk.mpr M) ?_;simp) ?_
  show aY.bind (.ok .t s) _=_
  unfold aY.bind
  dsimp only
  refine J y ?_
  rfl
 exact aR O A
theorem Jb {s q:Nat}(y:a.get s=H (.lst t))(z:A (.loc a.next,a.alloc<|.lst<|t.take q)):wp (sy I N a (.loc s) .none<|.int q) A:=by
 have B:sy I N a (.loc s) .none (.int q)=.ok .t (.loc a.next,a.alloc<|.lst<|t.take q):=by
  show (oo (vx (fh s<|a.get s) .none<|.int q)>>=λx=>jb I N a x)=_
  refine J y ?_
  show (oo (match aP<|0<=(q:Int) with|I=>H<|RV.fresh<|.lst<|t.take q|N=>T)>>=λx=>jb I N a x)=_
  rfl
 exact aR B z
end
end
mutual
open Mine
abbrev Wd (a:List<|Nat×au)(i c j k:Nat)(d:List<|Int×E)(e:Nat->Nat)(f:List E)(l:List Fm):Prop:=
 (i,bY c j)∈a/\
 (c,.tab d)∈a/\
 (k,.lst f)∈a/\
 ∀g b,l[g]?=H b->∃h m,(e g,.aa h)∈a/\iv d e h b m/\f[g]?=H (.lst<|dy b.ds)/\(∀x∈b.ds,x.ok)/\g<256
theorem Wd.m1 (h:Wd a b c d e f g i j):(b,bY c d)∈a:=h.1
theorem Wd.m2 (h:Wd a d b e f c g i j):(b,.tab c)∈a:=h.2.1
theorem Wd.m3 (h:Wd a d e f b g i c j):(b,.lst c)∈a:=h.2.2.1
theorem Wd.fm (h:Wd d k l m n e b f i):∀g a,i[g]?=H a->∃c j,(b g,.aa c)∈d/\iv e b c a j/\f[g]?=H (.lst<|dy a.ds)/\(∀x∈a.ds,x.ok)/\g<256:=h.2.2.2
def qE (a:Nat->Nat)(g:Nat)(b:Bool):E:=match b with
 |I=>cz (a g) g
 |N=>rf<|10+g
def rA (z:List<|Nat×au)(p A B:Nat)(M:List<|Int×E)(O:Nat->Nat)(P:List Fm)(f:Nat):Prop:=∀n d e l c m g a s q b h t k X r,
 Lv (30+6*f) n d->a.sh=A->a.kk=890040->a.ir=[(Q "held",.loc B)]->a.fl=b.length->b.length<=1000*c.length->c.length<=8->hQ M O a.res l->(∀x∈e,x.ok)->(∀x∈z,x∈h)->
 af t (C p (mk a s q 0) m.sf (c.map et) (g.map Mk.mv) (g.map Mk.cv) b++h)->go dM P f e l c m g=H r->
 (∀i,r=H i->∀y s' q' a0 a1 j,af y (C p (mk a s' q' a0) a1 (c.map et) (i.map Mk.mv) (i.map Mk.cv) j++h)->b.length<=j.length->j.take b.length=b->k .none y)->(r=T->X)->
 (On n).call d (F 757) [.loc p,.lst<|dy e] t k X
section
variable {b:List<|Nat×au}{p s c t l:Nat}{e:List<|Int×E}{h:Nat->Nat}{d:List E}{a:List Fm}{f:Nat}
theorem Co (a4:Wd b s c t l e h d a)(P:rA b p s l e h a f){n:bV}{a5:Nat}{g:Nat}{B:Bool}{nm:cn}{j:List<|Nat×Bool}{st:St}{ms:List Mk}{m:PF}{a0 q:Nat}{a7:Int}{y:List E}{a1:List<|Nat×au}{σ:R}{k:E->R->Prop}{X:Prop}{r:Option<|List Mk}
  (M:Lv (30+6*f) n<|a5+1) (h1:m.sh=s) (h2:m.kk=890040) (h3:m.ir=[(Q "held",.loc l)]) (b7:y.length<=1000*j.length+900) (b1:j.length<=8) (b8:hQ e h m.res nm) (b9:∀x∈b,x∈a1)
  (i:af σ<|C p (mk m a0 q a7) st.sf (j.map et) (ms.map Mk.mv) (ms.map Mk.cv) y++a1)
  {A:Fm} (b2:a[g]?=H A) (O:iF (ih 8 j.length) (gv A (go dM a f A.ds (A.nm.getD nm)<|j++[(g,B)]) st ms)=H r)
  (b3:∀a2,r=H a2->∀b4 q',af b4 (C p (mk m a0 q' a7) st.sf (j.map et) (a2.map Mk.mv) (a2.map Mk.cv) y++a1)->k .none b4) (a8:r=T->X):vR (On n) a5 (.loc p) (cz (h g) g) (et (g,B)) σ k X:=by
 refine qz i.gp<|oK (M.le<|by exact ai (by decide)<|bZ _ _:Lv (1+1) _ _) i.oj<|sH ?_
 rw [cb]
 refine nq O (λq8 c0=>?_) λq8 O=>?_
 .refine J (decide_eq_true<|show (8:Int)<=j.length from dO.mpr<|fL q8) ?_
  exact jA M.lt<|a8 c0
 have q8:¬8<=j.length:=λz=>ff<|q8.symm.trans<|Tf.mpr z
 refine J (decide_eq_false λ(z:(8:Int)<=j.length)=>q8<|dO.mp z) ?_
 refine GJ i.gp<|JO ?_
 refine fe (a4.fm g A b2) λc6 a6 x1 x2 x3 x4 x5=>?_
 refine fN i.gp<|yz i.gp<|wC i.gp<|lV i.gp<|ny i.gp<|oK (M.le<|by exact ai (by decide)<|bZ _ _:Lv (1+1) _ _) i.kA ?_
 refine Dx (M.le<|by exact ai (by decide)<|bZ _ _) i.gs (show 13<=1000 by exact ab _ _) λc7 f1=>?_
 refine uv (v:=σ.next) (f1 _ i).tail.gp ?_
 replace i:=i.NY f1
 refine Cf (v:=(y.length:Int)) i.gp<|qe (v:=0) i.qg.gp ?_
 replace i:=af.sb (x:=0)<|af.qg (x:=(y.length:Int)) i
 refine qz i.gp<|cU i.oj<|eo i.oj (by rw [cb];exact dH b1<|by decide) ?_
 replace i:=af.CW (g:=(j++[(g,B)]).map et) i
 refine rT (show (j++[(g,B)]).map et=j.map et++[et (g,B)] from snoc) ?_
 refine uP ?_
 have a3:∀x∈b,x∈(a0,SO st.sf)::a1:=λx c1=>dz _<|b9 x c1
 have a9:=we O
 have b5:(j++[(g,B)]).length=j.length+1:=eJ
 refine P1 (a:=(a0,SO st.sf)::a1) (M.le<|by exact bZ _ _) i (a3 _<|h1▸a4.m1) (a3 _ a4.m2) (a3 _ x1) x2 (Tn (tx.mp λz=>a9<|.inl z)<|by decide) (Tn (tx.mp λz=>a9<|.inr z)<|by decide) (qr O) a8 λc2 c3 O b6 i=>?_
 refine Mv i.gp<|jt i.gp<|N9 ?_
 show (On n).call (a5+1) (.bR m.kk m.ir) [.loc m.sh,cz (h g) g] b6 _ X
 refine J h2 ?_;refine J h3 ?_
 refine Kt (M.le<|by exact ai (by decide)<|bZ _ _:Lv (1+1) _ _) λc8=>?_
 refine HD ?_
 refine OZ<|JD x5<|Dy (i.get<|eK _<|a3 _ a4.m3) x3 ?_
 refine P n (a5+1) A.ds (A.nm.getD nm) (j++[(g,B)]) c2 c3 {m with fl:=(y.length:Int),res:=a6.getD m.res} σ.next q y ((a0,SO st.sf)::a1) b6 _ X r M h1 h2 h3 rfl (b5▸ay b7 (by simp+arith only)) (b5▸nM q8) ?_ x4 a3 i O ?_ a8
 .have c4:=x2.nm
  show hQ e h (a6.getD m.res)<|A.nm.getD nm
  clear O a9 x2 b2 i b3
  revert c4
  cases A.nm with
  |none=>cases a6 with
   |some x=>exact λi=>i.elim
   |none=>exact λ_=>b8
  |some c9=>cases a6 with
   |none=>exact λi=>i.elim
   |some x=>exact λi=>i.2
 .intro a2 e' d0 s' q' d1 d2 d3 i d4 c5
  have b0:=i.oj
  rw [snoc] at b0
  refine qz i.gp<|uK b0<|vJ b0 (by rw [cb];exact ai b1<|by decide) ?_
  replace i:=af.CW (g:=j.map et) i
  refine ny i.gp<|Jb i.kA ?_
  refine J c5 ?_
  refine HS (v:=_) (i.alloc (o:=.lst y)).tail.gp ?_
  replace i:=i.J0 (s:=y)
  refine uv (v:=a0) i.gp ?_
  replace i:=i.Pw
  refine CA (v:=m.res) i.gp<|Cf (v:=m.fl) i.rX.gp<|qe (v:=a7) i.rX.qg.gp ?_
  exact b3 a2 e' _ _ i.rX.qg.sb
theorem LD (a5:Wd b s c t l e h d a)(P:rA b p s l e h a f){n:bV}{O:Nat}{g:Nat}{j:Bool}{a6:E}{nm:cn}{i:List<|Nat×Bool}{st:St}{ms:List Mk}{y:PF}{a7 q:Nat}{a8:Int}{a0:List E}{a1:List<|Nat×au}{σ:R}{k:E->R->Prop}{X:Prop}{r:Option<|List Mk}
  (b6:Lv (31+6*f) n O) (h1:y.sh=s) (h2:y.kk=890040) (h3:y.ir=[(Q "held",.loc l)]) (a9:a0.length<=1000*i.length+900) (b0:i.length<=8) (b1:hQ e h y.res nm) (b2:∀x∈b,x∈a1)
  (A:af σ<|C p (mk y a7 q a8) st.sf (i.map et) (ms.map Mk.mv) (ms.map Mk.cv) a0++a1) (he:a6=qE h g j)
  {B:Fm} (b3:a[g]?=H B) (M:iF (dM i g j) (gv B (go dM a f B.ds (B.nm.getD nm)<|i++[(g,j)]) st ms)=H r)
  (b4:∀a2,r=H a2->∀b5 q',af b5 (C p (mk y a7 q' a8) st.sf (i.map et) (a2.map Mk.mv) (a2.map Mk.cv) a0++a1)->k .none b5) (a3:r=T->X):(On n).call O (F 893) [.loc p,a6,cz (h g) g] σ k X:=by
 refine cq (b6.le<|bh<|tp 30 (6*f) 1:Lv (30+6*f+1) n O) λz=>?_
 refine G2 ?_
 refine cI 0 1 (by exact ab _ _) ?_
 refine Nc ?_
 refine tf j (λm=>?_) λm=>?_
 .refine J he ?_;refine J (show qE h g j=cz (h g) g from m▸rfl) ?_
  refine hS (c:=.ref 247) (i:=N) (z.le<|by exact ai (by decide)<|bZ _ _:Lv (1+1) _ _) rfl (by kernel_rfl) (by kernel_rfl)<|en<|AA ?_
  exact (show et (g,j)=.tup [.int 0,.int 0] from m▸rfl)▸Co a5 P z h1 h2 h3 a9 b0 b1 b2 A b3 ((show dM i g j=ih 8 i.length from m▸rfl)▸M) b4 a3
 .refine J he ?_;refine J (show qE h g j=rf (10+g) from m▸rfl) ?_
  refine CZ (z.le<|by exact ai (by decide)<|bZ _ _:Lv (1+1) _ _)<|en ?_
  refine L_<|cg<|LN (z.le<|by exact ai (by decide)<|bZ _ _)<|AA ?_
  refine J (decide_eq_true<|show (0:Int)<10+g from la (by decide)<|Ff<|hA g) ?_
  refine qz A.gp<|Ig (s:=g) A.oj ?_
  refine Q9 ((show dM i g j=((i.any λx=>!x.2 && cC x.1 g)||ih 8 i.length) from m▸rfl)▸M) (λa4 q=>?_) λa4 M=>?_
  .refine J a4 ?_
   exact jA z.lt<|a3 q
  .refine J a4 ?_
   exact (show et (g,j)=.tup [.int<|10+g,.int 0] from m▸rfl)▸Co a5 P z h1 h2 h3 a9 b0 b1 b2 A b3 M b4 a3
end
end
mutual
section
variable {c:List<|Nat×au}{a s t r l:Nat}{e:List<|Int×E}{h:Nat->Nat}{d:List E}{b:List Fm}{f:Nat}
theorem H6 (i:Wd c s t r l e h d b){m p:List<|ae×E}(z:Lv 12 n A)(g:af q<|C a w a4 of a5 cl a6++B)(M:w.sh=s)(O:w.res=p)(j:∀x∈c,x∈B)(P:dK e ((aI (Q "XObject") p).getD .none)<|.aa m)(a0:k ((aI (bC a3) m).getD .none) q):(On n).call A (F 806) [.loc a,S "XObject",.str<|bC a3] q k X:=by
 subst M O
 refine cq z λy=>?_
 refine Gp ?_
 refine jt g.gp<|lO (g.get<|eK _<|j _ i.m1)<|yz g.gp<|cg<|vO (y.le<|by exact ab _ _) (g.get<|eK _<|j _ i.m1) (g.get<|eK _<|j _ i.m2) P ?_
 refine hS (c:=.type "dict") (i:=I) (y.le<|by exact ab _ _:Lv (1+1) _ _) rfl (by kernel_rfl) (by kernel_rfl)<|en ?_
 exact BS<|yv a0
theorem FL (i:k<|S g):wp (aw j (dw g)<|Q "text") k:=aR (c:=S g) (by kernel_rfl) i
theorem zg (i:k<|.aa [(Q "Subtype",dw g)]):wp (aw j (jx g)<|Q "head") k:=aR (c:=.aa [(Q "Subtype",dw g)]) (by kernel_rfl) i
theorem cV (i:(U j==U m)=g)(n:k g):wp (ax p .Eq (S j)<|S m) k:=aR (c:=g) (by refine rT i ?_;rfl) n
theorem LG (O:Wd c s t r l e h d b)(P:rA c a s l e h b f)(h1:B.sh=s)(h2:B.kk=890040)(h3:B.ir=[(Q "held",.loc l)])(b2:b3<=1000*op.length)(b4:op.length<=8)(a6:hQ e h B.res nm):
  C5 a B (op.map et) b3 (32+6*f) c<|gY dM b nm op λF nm op st ms=>go dM b f F.ds nm op st ms:=by
 intro n a2 j st ms a7 q a8 c0 c1 x k X c2 b5 i a0 b6 b7 c3 a3 a9 a4
 refine cq (b5.le<|bh<|tp 31 (6*f) 1:Lv (31+6*f+1) n a2) λm=>?_
 refine GH ?_
 refine aK (id a6) λM x1 p=>?_
 have p:=p j
 have y:x.get s=H (bY t r):=i.get<|eK _<|a0 _ O.m1
 have A:x.get t=H (.tab e):=i.get<|eK _<|a0 _ O.m2
 refine H6 O (m.le<|by exact ai (by decide)<|bZ _ _) i h1 rfl a0 x1 ?_
 refine jt i.gp ?_
 refine J (show (mk B a7 q a8).sh=s from h1) ?_
 refine pj y ?_
 have a5:∀{w v0} {sn},nB x w=H (.ref 247)->(∀{K},K (dw sn) x->wp (aw x w<|Q "head") λv=>(On n).aE (a2+1) (.loc s) (Q "get") (.fn 334) [v,S "Subtype"] x K X)->
   Dw (On n) a2 (.loc a) (.str<|bC j) v0 w k X x (S sn)->Aa (On n) a2 (.loc a) (.str<|bC j) v0 k X w x:=by
  intro w v0 sn hw b8 h2
  refine hS (c:=.ref 247) (i:=I) (m.le<|by exact ai (by decide)<|bZ _ _:Lv (1+1) _ _) hw (by kernel_rfl) (by kernel_rfl)<|en ?_
  refine jt i.gp ?_
  refine J (show (mk B a7 q a8).sh=s from h1) ?_
  refine lO y<|b8 ?_
  refine hS (c:=.ref 204) (i:=I) (m.le<|by exact ai (by decide)<|bZ _ _:Lv (1+1) _ _) rfl (by kernel_rfl) (by kernel_rfl)<|en ?_
  exact FL h2
 refine tS a3 (λz a1=>?_) (λz a1=>?_) (λz a1=>?_) λg b0 F' z b1 a3=>?_
 .rw [z] at p
  refine J (show (aI (bC j) M).getD .none=.none from p) ?_
  refine cg<|kQ (m.le<|by exact ai (by decide)<|bZ _ _) y A (w:=.none) ⟨rfl,.inl rfl⟩ ?_
  refine hS (c:=.type "NoneType") (i:=N) (m.le<|by exact ai (by decide)<|bZ _ _:Lv (1+1) _ _) rfl (by kernel_rfl) (by kernel_rfl)<|en ?_
  refine jA m.lt ?_
  have e2:∀j,bA N N x .Add (S "no object of the name ") (.str<|bC j)=.ok (.p<|22+1<=1000) (.str<|Q "no object of the name " ++bC j,x):=λj=>by cases j<;>kernel_rfl
  exact fy (e2 j) (by exact ab _ _)<|aR (c:=()) (by kernel_rfl)<|a4 a1
 .rw [z] at p
  refine J (show (aI (bC j) M).getD .none=jx "Image" from p) ?_
  refine cg<|kQ (m.le<|by exact ai (by decide)<|bZ _ _) y A (w:=jx "Image") ⟨rfl,.inl rfl⟩<|a5 (sn:= "Image") rfl (λi=>zg<|cg<|vO (m.le<|by exact ai (by decide)<|bZ _ _) y A (w:=dw "Image") ⟨rfl,.inl<|by kernel_rfl⟩ i) ?_
  refine cV (g:=I) (by kernel_rfl) ?_
  have lt:∀{f:Mk->E},(ms.map f).length<1000000:=by intro f;rw [cb];exact bE b7<|by decide
  refine fN i.gp<|lW i.gs<|rz (m.le<|by exact ai (by decide)<|bZ _ _) i lt lt λc4 i=>a9 _ a1 _ q ?_
  refine J snoc ?_;refine J snoc ?_
  exact i
 .rw [z] at p
  refine J (show (aI (bC j) M).getD .none=jx "PS" from p) ?_
  refine cg<|kQ (m.le<|by exact ai (by decide)<|bZ _ _) y A (w:=jx "PS") ⟨rfl,.inl rfl⟩<|a5 (sn:= "PS") rfl (λi=>zg<|cg<|vO (m.le<|by exact ai (by decide)<|bZ _ _) y A (w:=dw "PS") ⟨rfl,.inl<|by kernel_rfl⟩ i) ?_
  refine cV (g:=N) (by kernel_rfl)<|cV (g:=N) (by kernel_rfl) ?_
  exact jA m.lt<|a4 a1
 .refine du (O.fm g F' b1) ?_;rintro b9 c5 y1 y2 -
  rw [z] at p
  have hf:(aI (bC j) M).getD .none=qE h g b0/\dK e ((aI (bC j) M).getD .none) (cz (h g) g):=by
   clear z a3
   cases b0 with
   |true=>refine J (show (aI (bC j) M).getD .none=cz (h g) g from p) ?_;exact ⟨rfl,rfl,.inl rfl⟩
   |false=>exact ⟨p.1,rfl,.inr ⟨_,p.1,p.2⟩⟩
  have g3:x.get (h g)=H (.aa b9):=i.get<|eK _<|a0 _ y1
  refine cg<|kQ (m.le<|by exact ai (by decide)<|bZ _ _) y A hf.2<|a5 (sn:= "Form") rfl (λi=>uP<|cg<|mW (m.le<|by exact ai (by decide)<|bZ _ _) y A g3 (w:=dw "Form") ⟨rfl,.inl y2.sub⟩ i) ?_
  refine cV (g:=N) (by kernel_rfl)<|cV (g:=I) (by kernel_rfl) ?_
  exact LD O P m h1 h2 h3 (ay (bK b6 b2)<|by simp+arith only) b4 a6 a0 i hf.1 b1 a3 a9 a4
theorem CD (a3:Wd c s t r l e h d b):∀f,rA c a s l e h b f:=by
 intro f
 induction f with
 |zero=>intro n i j m p y z w0 M q O a4 P k X a0 _ _ _ _ _ _ _ _ _ _ _ A;exact ao A
 |succ f a5=>
  intro n i j m p y z w0 M q O a4 P k X a0 a6 h1 h2 h3 a7 a8 a1 a9 b0 b1 b2 A b3 b4
  refine cq (a6.le<|by simp+arith only:Lv (35+6*f+1) n i) λb5=>?_
  refine Q1 ?_
  refine aR (c:=dy j) rfl ?_
  refine Lg (b:=32+6*f) (a3:=gY dM b m p λF m p y z=>go dM b f F.ds m p y z) (os:=.lst<|dy j) (O:=O) (r:=a0) rfl (by exact ai (by decide)<|bZ _ _) (LG a3 a5 h1 h2 h3 (by assumption) a1 a9) b1 a7 (ai (ai a8<|eA 1000 a1)<|by decide) (b5.le<|by simp+arith only) ?_ b4 j [] 0 y z M q P _ b0 (.inl rfl) (by simpa using b2) A
  intro b6 e' g s' q' b7 b8 b9 c3 c0 B c1 c2
  have a2:wp (aw g (.loc a)<|Q "path") λv0=>wp (aw g v0<|Q "parts") λv1=>wp (ax g .NotEq v1<|E.tup []) λv2=>match v2 with|I=>wp (bQ<|i+1) λv3=>X|N=>wp (aw g (.loc a)<|Q "text") λv4=>wp (ax g .IsNot v4 E.none) λv5=>match v5 with|I=>wp (bQ<|i+1) λv6=>X|N=>k E.none g:=
   eC B.gp<|eX<|iH<|gX B.gp<|ey<|b3 b6 e' g s' q' b7 b8 b9 B c1 c2
  rcases c0 with rfl|⟨x,rfl⟩
  .unfold xa
   refine JA ?_
   exact a2
  .unfold qu
   refine Js ?_
   exact a2
end
end
mutual
open Mine
def cE (O:Or)(a i j b:Nat)(c:Y)(d:R)(k:Fl->Y->R->Prop)(X:Prop):Prop:=hh O (ei O 38) (dT O 38) c d (((cB a i).drop j).take<|b - j) k X
theorem Me (j) 
  (h:cE O a i 0 j b c (λd b c=>match d with|.next=>cE O a i j 1000 b c k X|.ret v=>k (.ret v) b c) X) (f:(cB a i).length<=1000):dT O 39 b c (cB a i) k X:=by
 show hh O (ei O 38) (dT O 38) b c (cB a i) k X
 have e:cB a i=((cB a i).drop 0).take (j - 0)++((cB a i).drop j).take (1000 - j):=by
  refine J List.drop_zero ?_;rewrite [Nat.sub_zero];refine J (EI (l:=(cB a i).drop j)<|by rw [Ea];exact Nat.sub_le_sub_right f j) ?_;rw [nH]
 refine J e ?_;rewrite [vY]
 exact h
theorem qK {a i:Nat} (j)(d:ih (cB a i).length 1000=I)
  (h:eu b c (cN a i) x λb=>cE (On n) a i 0 j b c (λe b c=>match e with|.next=>cE (On n) a i j 1000 b c k X|.ret v=>k (.ret v) b c) X):eN (On n) a i x b c k X:=
 nX h λ_ h=>Me j h<|fL d
end
end
mutual
section
open Sh PySem PySem.W PyProof.Rows PySem.Calls
def vu (d:Nat)(a b c e f g h i:E):Y:=fr 1031 d [(Q "world",a),(Q "deeds",b),(Q "names",c),(Q "state",e),(Q "above",f),(Q "marks",g),(Q "skips",h),(Q "pile",i)]
def iS (d:Nat)(a b c e f g h i j k l m n:E):Y:=fr 1031 d [(Q "world",a),(Q "deeds",b),(Q "names",c),(Q "state",e),(Q "above",f),(Q "marks",g),(Q "skips",h),(Q "pile",i),(Q "word",j),(Q "values",k),(Q "maps",l),(Q "tenths",m),(Q "clips",n)]
def iW (d:Nat)(a b c e f g h i j k l m n p:E):Y:=fr 1031 d [(Q "world",a),(Q "deeds",b),(Q "names",c),(Q "state",e),(Q "above",f),(Q "marks",g),(Q "skips",h),(Q "pile",i),(Q "word",j),(Q "values",k),(Q "maps",l),(Q "tenths",m),(Q "clips",n),(Q "path",p)]
def rr (d:Nat)(a b c:E):Y:=fr 998 d [(Q "maps",a),(Q "x",b),(Q "y",c)]
def nA (d:Nat)(a b c e f g h i j:E):Y:=fr 998 d [(Q "maps",a),(Q "x",b),(Q "y",c),(Q "a",e),(Q "b",f),(Q "c",g),(Q "d",h),(Q "e",i),(Q "f",j)]
def wz (d:Nat)(a b c e f g:E):Y:=fr 1024 d [(Q "world",a),(Q "names",b),(Q "letter",c),(Q "state",e),(Q "above",f),(Q "marks",g)]
def Cu (d:Nat)(a b c e f g h i j:E):Y:=fr 1024 d [(Q "world",a),(Q "names",b),(Q "letter",c),(Q "state",e),(Q "above",f),(Q "marks",g),(Q "sort",h),(Q "goal",i),(Q "is_direct",j)]
def oM (d:Nat)(a b c e f g h i j k l m:E):Y:=fr 1024 d [(Q "world",a),(Q "names",b),(Q "letter",c),(Q "state",e),(Q "above",f),(Q "marks",g),(Q "sort",h),(Q "goal",i),(Q "is_direct",j),(Q "maps",k),(Q "tenths",l),(Q "clips",m)]
def iY (d:Nat)(a b c e f g h i j k l m n:E):Y:=fr 1024 d [(Q "world",a),(Q "names",b),(Q "letter",c),(Q "state",e),(Q "above",f),(Q "marks",g),(Q "sort",h),(Q "goal",i),(Q "is_direct",j),(Q "maps",k),(Q "tenths",l),(Q "clips",m),(Q "form",n)]
def zx (d:Nat)(a b c e f g h i j k l m n p:E):Y:=fr 1024 d [(Q "world",a),(Q "names",b),(Q "letter",c),(Q "state",e),(Q "above",f),(Q "marks",g),(Q "sort",h),(Q "goal",i),(Q "is_direct",j),(Q "maps",k),(Q "tenths",l),(Q "clips",m),(Q "form",n),(Q "path",p)]
theorem Nq (c:wp (hj a) λe=>O.bH (cN 1031 0) (cB 1031 0) e (vu d f a g h i j (E.int 0)<|E.loc b.2) (b.alloc<|au.lst []) (eO O 1031 2 k X) X):aN O 1031 d [f,a,g,h,i,j] b k X:=aj (by kernel_rfl) c
theorem GP (a:k (E.bool I) b):bB O 1031 2 (fr 1031 d c) b k X:=aj (by kernel_rfl) a
theorem Gj (a:bg m.a u/\bg m.c v/\bg m.b u/\bg m.d v/\k Fl.next (nA d b (E.int<|m.a*u+m.c*v+m.e) (E.int<|m.b*u+m.d*v+m.f) (E.int m.a) (E.int m.b) (E.int m.c) (E.int m.d) (E.int m.e)<|E.int m.f) c):eN O 998 0 (bo.lst m) (rr d b (.int u)<|.int v) c k X:=aj (by kernel_rfl) a
theorem IG (a:bg m.a u/\bg m.c v/\bg m.b u/\bg m.d v/\k Fl.next (nA d b (E.int<|m.a*u+m.c*v+m.e) (E.int<|m.b*u+m.d*v+m.f) (E.int m.a) (E.int m.b) (E.int m.c) (E.int m.d) (E.int m.e)<|E.int m.f) c):eN O 998 0 (bo.lst m) (nA d b (.int u) (.int v) e f g h i j) c k X:=aj (by kernel_rfl) a
theorem HP (b:wp (hj a) λc=>O.bH (cN 998 0) (cB 998 0) c (rr d a x y) e (eO O 998 1 k X) X):aN O 998 d [a,x,y] e k X:=aj (by kernel_rfl) b
theorem MT (a:k (E.tup [E.int u,E.int v]) b):bB O 998 1 (rr d c (.int u)<|.int v) b k X:=aj (by kernel_rfl) a
theorem Hx (a:k (E.tup [E.int u,E.int v]) b):bB O 998 1 (nA d c (.int u) (.int v) e f g h i j) b k X:=aj (by kernel_rfl) a
theorem Mj (s:O.call (d+1) (F 998) [c,i,j] (a.alloc<|au.lst []) (λl e=>wp (aV e (E.loc a.2)<|Q "append") λt=>wp (aO e l<|E.int 0) λx=>wp (aO e l<|E.int 1) λy=>O.aE (d+1) (E.loc a.2) (Q "append") t [E.tup [E.tup [x,E.int 0],E.tup [y,E.int 0]]] e (λv5 z=>O.call (d+1) (F 998) [c,m,j] z (λn f=>wp (aV f (E.loc a.2)<|Q "append") λA=>wp (aO f n<|E.int 0) λB=>wp (aO f n<|E.int 1) λM=>O.aE (d+1) (E.loc a.2) (Q "append") A [E.tup [E.tup [B,E.int 0],E.tup [M,E.int 0]]] f (λb1 P=>O.call (d+1) (F 998) [c,m,p] P (λq g=>wp (aV g (E.loc a.2)<|Q "append") λa0=>wp (aO g q<|E.int 0) λa1=>wp (aO g q<|E.int 1) λa2=>O.aE (d+1) (E.loc a.2) (Q "append") a0 [E.tup [E.tup [a1,E.int 0],E.tup [a2,E.int 0]]] g (λb2 a3=>O.call (d+1) (F 998) [c,i,p] a3 (λr h=>wp (aV h (E.loc a.2)<|Q "append") λa4=>wp (aO h r<|E.int 0) λa5=>wp (aO h r<|E.int 1) λa6=>O.aE (d+1) (E.loc a.2) (Q "append") a4 [E.tup [E.tup [a5,E.int 0],E.tup [a6,E.int 0]]] h (λb3 b=>wp (aO b (E.loc a.2)<|E.int 0) λa7=>wp (aO b (E.loc a.2)<|E.int 1) λa8=>wp (aO b (E.loc a.2)<|E.int 2) λa9=>wp (aO b (E.loc a.2)<|E.int 3) λb0=>k (E.tup [E.tup [E.tup [S "move",a7],E.tup [S "line",a8],E.tup [S "line",a9],E.tup [S "line",b0],E.tup [S "close"]]]) b) X) X) X) X) X) X) X) X):aN O 1005 d [c,i,j,m,p] a k X:=aj (by kernel_rfl) s
theorem Ji (l:O.call (d+1) (F 998) [g,E.int 0,E.int 0] m (λa n=>O.call (d+1) (F 998) [g,E.int 1,E.int 0] n (λi p=>O.call (d+1) (F 998) [g,E.int 0,E.int 1] p (λj h=>wp (aO h i<|E.int 0) λq=>wp (aO h a<|E.int 0) λr=>wp (bA N N h .Sub q r) λb=>wp (aO b.snd i<|E.int 1) λs=>wp (aO b.snd a<|E.int 1) λt=>wp (bA N N b.snd .Sub s t) λc=>wp (aO c.snd j<|E.int 0) λx=>wp (aO c.snd a<|E.int 0) λy=>wp (bA N N c.snd .Sub x y) λe=>wp (aO e.snd j<|E.int 1) λz=>wp (aO e.snd a<|E.int 1) λA=>wp (bA N N e.snd .Sub z A) λf=>wp (aO f.snd a<|E.int 0) λB=>wp (aO f.snd a<|E.int 1) λM=>6<=1000000/\O.call (d+1) (E.ag<|cX "tuple") [E.lst [E.tup [b.1,E.int 0],E.tup [c.1,E.int 0],E.tup [e.1,E.int 0],E.tup [f.1,E.int 0],E.tup [B,E.int 0],E.tup [M,E.int 0]]] f.snd k X) X) X) X):aN O 1010 d [g] m k X:=aj (by kernel_rfl) l
theorem LS {O:Or}{d:Nat}{t:Int}{a:R}{X:Prop}(b:match aP<|9<t with|I=>k (E.tup [S "DeviceGray",E.tup [E.int 1,E.int 0]]) a|N=>match aP<|0<t with|I=>k (E.tup [S "DeviceGray",E.tup [E.int t,E.int 1]]) a|N=>k (E.tup [S "DeviceGray",E.tup [E.int t,E.int 0]]) a):aN O 1017 d [.int t] a k X:=aj (by kernel_rfl) b
theorem Kc (l:match !(aI s a).isSome with|I=>k (Fl.ret<|E.bool N) (wz d e (E.aa a) (E.str s) (E.tup [f,g,h]) i<|E.loc j) b|N=>wp (aO b (E.aa a)<|E.str s) λm=>wp (gy b m 3) λc=>k Fl.next (Cu d e (E.aa a) (E.str s) (E.tup [f,g,h]) i (E.loc j) (c.getD 0 E.none) (c.getD 1 E.none)<|c.getD 2 E.none) b):cH O 1024 0 2 (wz d e (.aa a) (.str s) (.tup [f,g,h]) i<|.loc j) b k X:=aj (by kernel_rfl) l
theorem vX (n:wp (ax c .Eq f<|S "image") λp=>match p with|I=>wp (aV c (E.loc g)<|Q "append") λq=>O.call (d+1) (F 1010) [a] c (λr t=>O.aE (d+1) (E.loc g) (Q "append") q [E.tup [E.tup [S "image",E.str s,r],b]] t (λA x=>k (Fl.ret<|E.bool I) (oM d j (E.aa l) (E.str s) (E.tup [a,e,b]) h (E.loc g) f i m a e b) x) X) X|N=>wp (ax c .Eq f<|S "odd") λy=>match y with|I=>k (Fl.ret<|E.bool N) (oM d j (E.aa l) (E.str s) (E.tup [a,e,b]) h (E.loc g) f i m a e b) c|N=>wp (ax c .In i h) λz=>match z with|I=>k (Fl.ret<|E.bool N) (oM d j (E.aa l) (E.str s) (E.tup [a,e,b]) h (E.loc g) f i m a e b) c|N=>k Fl.next (oM d j (E.aa l) (E.str s) (E.tup [a,e,b]) h (E.loc g) f i m a e b) c):cH O 1024 2 5 (Cu d j (.aa l) (.str s) (.tup [a,e,b]) h (.loc g) f i m) c k X:=aj (by kernel_rfl) n
theorem MX (h:wp (aO e f g) λi=>k Fl.next (iY d f (E.aa j) (E.str s) (E.tup [a,b,c]) l (E.loc m) n g p a b c i) e):cH O 1024 5 6 (oM d f (.aa j) (.str s) (.tup [a,b,c]) l (.loc m) n g p a b c) e k X:=aj (by kernel_rfl) h
def Py (O:Or)(d:Nat)(g:E)(h:List<|ae×E)(s:ae)(a b c i:E)(j:Nat)(l m n f:E)(q:R)(k:Fl->Y->R->Prop)(X:Prop)(r:E):Prop:=O.call (d+1) (E.ag<|dR "len") [r] q (λt e=>wp (ax e .NotEq t<|E.int 6) λx=>match x with|I=>k (Fl.ret<|E.bool N) (iY d g (E.aa h) (E.str s) (E.tup [a,b,c]) i (E.loc j) l m n a b c f) e|N=>wp (aO e f<|S "six") λy=>wp (bA N N e .Add (E.lst [y]) a) λp=>k Fl.next (iY d g (E.aa h) (E.str s) (E.tup [a,b,c]) i (E.loc j) l m n p.1 b c f) p.snd) X
theorem FP (p:wp (aO a b<|S "six") λq=>wp (ax a .IsNot q E.none) λr=>match r with|I=>wp (aO a b<|S "six") λt=>Py O d g h s c e f i j l m n b a k X t|N=>k Fl.next (iY d g (E.aa h) (E.str s) (E.tup [c,e,f]) i (E.loc j) l m n c e f b) a):cH O 1024 6 7 (iY d g (.aa h) (.str s) (.tup [c,e,f]) i (.loc j) l m n c e f b) a k X:=aj (by kernel_rfl) p
def F2 (O:Or)(d:Nat)(h:E)(i:List<|ae×E)(s:ae)(j e f l:E)(b:Nat)(m n p q g:E)(r:R)(k:Fl->Y->R->Prop)(X:Prop)(t x y z:E):Prop:=O.call (d+1) (F 1005) [g,t,x,y,z] r (λc A=>wp (bA N N A .Add f<|E.tup [E.tup [S "nonzero",c]]) λa=>wp (aV a.snd (E.loc b)<|Q "append") λB=>O.aE (d+1) (E.loc b) (Q "append") B [E.tup [E.tup [S "clip",S "nonzero",c],a.1]] a.snd (λP M=>k Fl.next (zx d h (E.aa i) (E.str s) (E.tup [j,e,f]) l (E.loc b) m n p g e a.1 q c) M) X) X
def H8 (O:Or)(d:Nat)(c:E)(e:List<|ae×E)(s:ae)(f g h i:E)(j:Nat)(l m n b p:E)(a:R)(k:Fl->Y->R->Prop)(X:Prop)(q r t:E):Prop:=wp (aO a t<|E.int 2) λx=>wp (aO a b<|S "edges") λy=>wp (aO a y<|E.int 3) λz=>F2 O d c e s f g h i j l m n b p a k X q r x z
def Jt (O:Or)(d:Nat)(c:E)(e:List<|ae×E)(s:ae)(f g h i:E)(j:Nat)(l m n b p:E)(a:R)(k:Fl->Y->R->Prop)(X:Prop)(q:E):Prop:=wp (aO a b<|S "edges") λr=>wp (aO a r<|E.int 1) λt=>wp (aO a b<|S "edges") λx=>H8 O d c e s f g h i j l m n b p a k X q t x
def HZ (O:Or)(d:Nat)(f:E)(g:List<|ae×E)(s:ae)(h b c i:E)(j:Nat)(l m n e p:E)(a:R)(k:Fl->Y->R->Prop)(X:Prop)(q:E):Prop:=wp (ax a .Eq q<|E.lst []) λr=>match r with|I=>k (Fl.ret<|E.bool N) (iY d f (E.aa g) (E.str s) (E.tup [h,b,c]) i (E.loc j) l m n p b c e) a|N=>wp (aO a e<|S "edges") λt=>wp (aO a t<|E.int 0) λx=>Jt O d f g s h b c i j l m n e p a k X x
theorem HQ (q:wp (aO a b<|S "edges") λr=>wp (ax a .IsNot r E.none) λt=>match t with|I=>wp (aO a b<|S "edges") λx=>HZ O d f g s h c e i j l m n b p a k X x|N=>k Fl.next (iY d f (E.aa g) (E.str s) (E.tup [h,c,e]) i (E.loc j) l m n p c e b) a):cH O 1024 7 8 (iY d f (.aa g) (.str s) (.tup [h,c,e]) i (.loc j) l m n p c e b) a k X:=aj (by kernel_rfl) q
def wm (O:Or)(d:Nat)(b c e f:E)(g:Nat)(n p h:E)(a:R)(k:E->R->Prop)(X:Prop)(i j:E):Prop:=wp (truthy a p) λq=>match q with|I=>wp (bA N N a .Add f<|E.lst [E.int<|-1]) λl=>O.call (d+1) (F 1031) [b,j,i,E.tup [h,c,e],l.1,E.loc g] l.snd k X|N=>wp (bA N N a .Add f<|E.lst [n]) λm=>O.call (d+1) (F 1031) [b,j,i,E.tup [h,c,e],m.1,E.loc g] m.snd k X
def wd (O:Or)(d:Nat)(c:E)(m:List<|ae×E)(e f g:E)(h:Nat)(i j b l:E)(a:R)(k:E->R->Prop)(X:Prop):Prop:=wp (aO a b<|S "names") λn=>wp (ax a .Is n E.none) λp=>match p with|I=>wp (aO a b<|S "deeds") λq=>wm O d c e f g h i j l a k X (E.aa m) q|N=>wp (aO a b<|S "names") λr=>wp (aO a b<|S "deeds") λs=>wm O d c e f g h i j l a k X r s
theorem MW (c:wd O d e f a b g h i j l m n k X):bB O 1024 8 (iY d e (.aa f) (.str s) (.tup [p,a,b]) g (.loc h) q i j m a b l) n k X:=aj (by kernel_rfl) c
theorem Qh (b:wd O d c e a f g h i j l m n k X):bB O 1024 8 (zx d c (.aa e) (.str s) (.tup [p,a,q]) g (.loc h) r i j m a f l t) n k X:=aj (by kernel_rfl) b
structure CK where
 (O:Or) (d:Nat) (Qg names mp tt cc above:E) (ma pi:Nat) (sk:Int) (values:E) (σ:R) (kn kp:E->E->R->Prop) (kr:R->Prop) (X:Prop)
section
variable (c:CK)
def cW (d:R)(b:E):Prop:=wp (bA N N d .Add c.cc<|E.tup [E.tup [S "nonzero",b]]) λa=>wp (aV a.snd (E.loc c.ma)<|Q "append") λe=>c.O.aE (c.d+1) (E.loc c.ma) (Q "append") e [E.tup [E.tup [S "clip",S "nonzero",b],a.1]] a.snd (λg f=>c.kp (E.tup [c.mp,c.tt,a.1]) b f) c.X
def cF (a:R)(b:E):Prop:=wp (aV a (E.loc c.ma)<|Q "append") λd=>c.O.call (c.d+1) (F 1017) [c.tt] a (λe f=>c.O.aE (c.d+1) (E.loc c.ma) (Q "append") d [E.tup [E.tup [S "fill",S "nonzero",b,e],c.cc]] f (λh g=>c.kp (E.tup [c.mp,c.tt,c.cc]) b g) c.X) c.X
def AX:Prop:=wp (aV c.σ (E.loc c.pi)<|Q "append") λa=>c.O.aE (c.d+1) (E.loc c.pi) (Q "append") a [E.tup [c.mp,c.tt,c.cc]] c.σ (λd b=>c.kn (E.tup [c.mp,c.tt,c.cc]) (E.int c.sk) b) c.X
def zy:Prop:=wp (aV c.σ (E.loc c.pi)<|Q "pop") λa=>c.O.aE (c.d+1) (E.loc c.pi) (Q "pop") a [] c.σ (λb d=>c.kn b (E.int c.sk) d) c.X
def DD:Prop:=wp (bA N N c.σ .Add (E.lst [c.values]) c.mp) λa=>c.kn (E.tup [a.1,c.tt,c.cc]) (E.int c.sk) a.snd
def Dp:Prop:=wp (aO c.σ c.values<|E.int 0) λa=>c.kn (E.tup [c.mp,a,c.cc]) (E.int c.sk) c.σ
def Ao:Prop:=wp (aV c.σ (E.loc c.ma)<|Q "append") λa=>c.O.call (c.d+1) (F 1010) [c.mp] c.σ (λb d=>c.O.aE (c.d+1) (E.loc c.ma) (Q "append") a [E.tup [E.tup [S "image",S "",b],c.cc]] d (λf e=>c.kn (E.tup [c.mp,c.tt,c.cc]) (E.int c.sk) e) c.X) c.X
def CH:Prop:=wp (aO c.σ c.values<|E.int 0) λb=>c.O.call (c.d+1) (F 1024) [c.Qg,c.names,b,E.tup [c.mp,c.tt,c.cc],c.above,E.loc c.ma] c.σ (λd a=>wp (truthy a d) λe=>match !e with|I=>c.kr a|N=>c.kn (E.tup [c.mp,c.tt,c.cc]) (E.int c.sk) a) c.X
def Cg (d:E)(a:R)(v:E):Prop:=wp (ax a .Eq d<|S "W") λb=>match b with|I=>cW c a v|N=>cF c a v
def rF (d:E):Prop:=wp (aO c.σ c.values<|E.int 0) λe=>wp (aO c.σ c.values<|E.int 1) λf=>wp (aO c.σ c.values<|E.int 0) λg=>wp (aO c.σ c.values<|E.int 2) λh=>wp (bA N N c.σ .Add g h) λa=>wp (aO a.snd c.values<|E.int 1) λi=>wp (aO a.snd c.values<|E.int 3) λj=>wp (bA N N a.snd .Add i j) λb=>c.O.call (c.d+1) (F 1005) [c.mp,e,f,a.1,b.1] b.snd (λk l=>Cg c d l k) c.X
def gO (a:E):Prop:=wp (ax c.σ .Eq a<|S "q") λb=>match b with|I=>AX c|N=>wp (ax c.σ .Eq a<|S "Q") λd=>match d with|I=>zy c|N=>wp (ax c.σ .Eq a<|S "cm") λe=>match e with|I=>DD c|N=>wp (ax c.σ .Eq a<|S "g") λf=>match f with|I=>Dp c|N=>wp (ax c.σ .In a<|E.tup [S "BX",S "EX"]) λg=>match g with|I=>wp (ax c.σ .Eq a<|S "BX") (λh=>match h with|I=>c.kn (E.tup [c.mp,c.tt,c.cc]) (E.int<|c.sk+1) c.σ|N=>c.kn (E.tup [c.mp,c.tt,c.cc]) (E.int<|c.sk+-1) c.σ)|N=>wp (ax c.σ .Eq a<|S "BI") λi=>match i with|I=>Ao c|N=>wp (ax c.σ .In a<|E.tup [S "re",S "W"]) λj=>match j with|I=>rF c a|N=>wp (ax c.σ .Eq a<|S "Do") λk=>match k with|I=>CH c|N=>c.kn (E.tup [c.mp,c.tt,c.cc]) (E.int c.sk) c.σ
theorem Nb (h:AX c):gO c<|S "q" :=aj (by kernel_rfl) h
theorem Pq (h:zy c):gO c<|S "Q" :=aj (by kernel_rfl) h
theorem PH (h:DD c):gO c<|S "cm" :=aj (by kernel_rfl) h
theorem Rd (h:Dp c):gO c<|S "g" :=aj (by kernel_rfl) h
theorem QN (h:Ao c):gO c<|S "BI" :=aj (by kernel_rfl) h
theorem NR (h:rF c<|S "re"):gO c<|S "re" :=aj (by kernel_rfl) h
theorem GA (h:rF c<|S "W"):gO c<|S "W" :=aj (by kernel_rfl) h
theorem M_ (h:CH c):gO c<|S "Do" :=aj (by kernel_rfl) h
theorem Ow (h:c.kn (.tup [c.mp,c.tt,c.cc]) (.int c.sk) c.σ):gO c<|S "zz" :=aj (by kernel_rfl) h
theorem LU (h:c.kn (.tup [c.mp,c.tt,c.cc]) (.int<|c.sk+1) c.σ):gO c<|S "BX" :=aj (by kernel_rfl) h
theorem NZ (h:c.kn (.tup [c.mp,c.tt,c.cc]) (.int<|c.sk+-1) c.σ):gO c<|S "EX" :=aj (by kernel_rfl) h
end
end
mutual
open Mine
theorem H4 (q:gO ⟨O,d,g,h,b,c,e,i,j,l,f,m,a,λst f a=>k .next (iS d g p h st i (.loc j) f (.loc l) n m b c e) a,λst r a=>k .next (iW d g p h st i (.loc j) (.int f) (.loc l) n m b c e r) a,λa=>k (.ret<|.bool N) (iS d g p h (.tup [b,c,e]) i (.loc j) (.int f) (.loc l) n m b c e) a,X⟩ n):cE O 1031 0 2 1000 (iS d g p h (.tup [b,c,e]) i (.loc j) (.int f) (.loc l) n m b c e) a k X:=aj (by kernel_rfl) q
theorem OY (r:gO ⟨O,d,g,h,b,c,e,i,j,l,f,m,a,λst f a=>k .next (iW d g p h st i (.loc j) f (.loc l) n m b c e q) a,λst s a=>k .next (iW d g p h st i (.loc j) (.int f) (.loc l) n m b c e s) a,λa=>k (.ret<|.bool N) (iW d g p h (.tup [b,c,e]) i (.loc j) (.int f) (.loc l) n m b c e q) a,X⟩ n):cE O 1031 0 2 1000 (iW d g p h (.tup [b,c,e]) i (.loc j) (.int f) (.loc l) n m b c e q) a k X:=aj (by kernel_rfl) r
def sv (f:Nat)(e:Int)(c:E)(a:R)(b d X:Prop):Prop:=wp (ax a .Eq c<|S "Q") λg=>match g with|I=>wp (ax a .Eq (E.loc f)<|E.lst []) (λh=>match h with|I=>d|N=>wp (ax a .In c<|E.tup [S "EX",S "zz"]) λi=>match i with|I=>(match e==0 with|I=>d|N=>b)|N=>b)|N=>wp (ax a .In c<|E.tup [S "EX",S "zz"]) λj=>match j with|I=>(match e==0 with|I=>d|N=>b)|N=>b
theorem MI (q:sv f g h a (k .next (iS d i j l (.tup [b,c,e]) m (.loc n) (.int g) (.loc f) h p b c e) a) (k (.ret<|.bool N) (iS d i j l (.tup [b,c,e]) m (.loc n) (.int g) (.loc f) h p b c e) a) X):eu (vu d i j l (.tup [b,c,e]) m (.loc n) (.int g)<|.loc f) a (cN 1031 0) (.tup [h,p]) λr=>cE O 1031 0 0 2 r a k X:=aj (by kernel_rfl) q
theorem Mc (y:sv l m n g (k .next (iS d p q r (.tup [h,i,j]) s (.loc t) (.int m) (.loc l) n x h i j) g) (k (.ret<|.bool N) (iS d p q r (.tup [h,i,j]) s (.loc t) (.int m) (.loc l) n x h i j) g) X):eu (iS d p q r (.tup [h,i,j]) s (.loc t) (.int m) (.loc l) a b c e f) g (cN 1031 0) (.tup [n,x]) λz=>cE O 1031 0 0 2 z g k X:=aj (by kernel_rfl) y
theorem NB (z:sv m n p h (k .next (iW d q r s (.tup [i,j,l]) t (.loc x) (.int n) (.loc m) p y i j l g) h) (k (.ret<|.bool N) (iW d q r s (.tup [i,j,l]) t (.loc x) (.int n) (.loc m) p y i j l g) h) X):eu (iW d q r s (.tup [i,j,l]) t (.loc x) (.int n) (.loc m) a b c e f g) h (cN 1031 0) (.tup [p,y]) λA=>cE O 1031 0 0 2 A h k X:=aj (by kernel_rfl) z
end
end
mutual
section
open PySem Sh
def jc (L:List bo):E:=.lst<|L.map bo.lst
def comp:List bo->bo
 |[]=>.one
 |v::L=>v.mul<|comp L
def dP (q:bX):E:=.tup [S "nonzero",q.out]
def jf (L:List bo)(a:St):E:=.tup [jc L,.int a.t,.tup<|a.cs.map dP]
def ik (t:Int):E:=.tup [S "DeviceGray",if 9<t then .tup [.int 1,.int 0] else .tup [.int t,.int<|if 0<t then 1 else 0]]
def lL.told:lL->E
 |.eb o m=>.tup [S "image",.str<|zE o,m.told]
 |.clip q=>.tup [S "clip",S "nonzero",q.out]
 |.fill q t=>.tup [S "fill",S "nonzero",q.out,ik t]
def Mk.row (m:Mk):E:=.tup [m.k.told,.tup<|m.cs.map dP]
theorem Iv {v m:bo}:(v.mul m).x x y=m.x (v.x x y) (v.y x y):=by unfold bo.mul bo.x bo.y;grind
theorem NX {v m:bo}:(v.mul m).y x y=m.y (v.x x y) (v.y x y):=by unfold bo.mul bo.x bo.y;grind
section
variable {n:bV}{d L':Nat}{a:R}{X:Prop}
def qp (d:Nat)(h:E)(x y:Int)(i:Y):Prop:=i=rr d h (.int x) (.int y)\/∃j b c e f g,i=nA d h (.int x) (.int y) j b c e f g
theorem Q2 (M:Lv (L'+1) n<|d+1):∀L x y j,(∀m∈L,m.bq)->qp d l x y j->(∀i,qp d l ((comp L).x x y) ((comp L).y x y) i->k .next i a)->
  (On n).bH (cN 998 0) (cB 998 0) (L.map bo.lst) j a k X:=by
 intro L
 induction L with
 |nil=>
  intro x y j _ p q
  refine jz<|q _ ?_
  have O:bo.one.x x y=x:=by unfold bo.one bo.x;simp
  have P:bo.one.y x y=y:=by unfold bo.one bo.y;simp
  show qp d l (bo.one.x x y) (bo.one.y x y) j
  simp only [O,P]
  exact p
 |cons m L a0=>
  intro x y j r p q
  refine iw (r m<|by exact .head _) λs t z A zz=>aL zz λh5 h6=>?_;clear zz
  have go:∀i,i=nA d l (.int<|m.a*x+m.c*y+m.e) (.int<|m.b*x+m.d*y+m.f) (.int m.a) (.int m.b) (.int m.c) (.int m.d) (.int m.e) (.int m.f)->(On n).bH (cN 998 0) (cB 998 0) (L.map bo.lst) i a k X:=λi e=>by
   refine a0 (m.x x y) (m.y x y) i λm' h'=>r m'<|by exact dz _<|by assumption (.inr ⟨_,_,_,_,_,_,e⟩) λB h=>q B ?_
   show qp d l ((m.mul<|comp L).x x y) ((m.mul<|comp L).y x y) B
   simp only [Iv,NX]
   exact h
  refine hV M λa1=>?_
  rcases p with rfl|⟨a2,b,c,e,f,g,rfl⟩
  .refine Gj ?_
   simp only [true_and,and_true,es s,es t,es z,es A]
   exact go _ rfl
  .refine IG ?_
   simp only [true_and,and_true,es s,es t,es z,es A]
   exact go _ rfl
theorem lF (i:Lv 3 n d)(j:∀m∈L,m.bq)(h:k (.tup [.int<|(comp L).x x y,.int<|(comp L).y x y]) a):(On n).call d (F 998) [jc L,.int x,.int y] a k X:=by
 refine cq i λl=>?_
 refine HP ?_
 refine aR (c:=L.map bo.lst) rfl<|Q2 l L x y _ j (.inl rfl) λq p=>?_
 rcases p with rfl|⟨r,b,c,e,f,g,rfl⟩
 .refine MT ?_;exact h
 .refine Hx ?_;exact h
theorem gQ {g:Nat}(h:a.get l=H (.lst b))(c:b[g]?=H v)(e:k v):wp (aO a (.loc l)<|.int g) k:=Dy h c e
theorem Az (g:Lv 6 n d)(c:∀m∈L,m.bq)(h:∀f,Fr a f []->k (bX.out ⟨(comp L).x l b,(comp L).y l b,(comp L).x r b,(comp L).y r b,(comp L).x r t,(comp L).y r t,(comp L).x l t,(comp L).y l t⟩) f):(On n).call d (F 1005) [jc L,.int l,.int b,.int r,.int t] a k X:=by
 refine cq g λe=>?_
 refine Mj ?_
 refine lF (e.le<|by exact ab _ _) c<|cU eg<|ix rfl<|ix rfl<|eo eg (by trivial) ?_
 refine lF (e.le<|by exact ab _ _) c<|cU bP<|ix rfl<|ix rfl<|eo bP (by simp) ?_
 refine lF (e.le<|by exact ab _ _) c<|cU bP<|ix rfl<|ix rfl<|eo bP (by simp) ?_
 refine lF (e.le<|by exact ab _ _) c<|cU bP<|ix rfl<|ix rfl<|eo bP (by simp) ?_
 refine gQ (g:=0) bP rfl<|gQ (g:=1) bP rfl<|gQ (g:=2) bP rfl<|gQ (g:=3) bP rfl ?_
 refine h _ ?_
 exact ((((Fr.refl a []).alloc (o:=.lst []).set<|.inl<|aT _).set<|.inl<|aT _).set<|.inl<|aT _).set<|.inl<|aT _
theorem CT (g:Lv 6 n d)(b:∀m∈L,m.bq)(f:k (comp L).told a):(On n).call d (F 1010) [jc L] a k X:=by
 refine cq g λc=>?_
 refine Ji ?_
 refine lF (c.le<|by exact ab _ _) b<|lF (c.le<|by exact ab _ _) b<|lF (c.le<|by exact ab _ _) b ?_
 refine ix rfl<|ix rfl<|hZ<|ix rfl<|ix rfl<|hZ<|ix rfl<|ix rfl<|hZ<|ix rfl<|ix rfl<|hZ<|ix rfl<|ix rfl ⟨by exact ab _ _,hK ?_⟩
 refine aR rfl ?_
 have e:bo.told (comp L)=.tup [.tup [.int<|(comp L).x 1 0 - (comp L).x 0 0,.int 0],.tup [.int<|(comp L).y 1 0 - (comp L).y 0 0,.int 0],.tup [.int<|(comp L).x 0 1 - (comp L).x 0 0,.int 0],.tup [.int<|(comp L).y 0 1 - (comp L).y 0 0,.int 0],.tup [.int<|(comp L).x 0 0,.int 0],.tup [.int<|(comp L).y 0 0,.int 0]]:=by
  unfold bo.told bo.x bo.y
  simp
 rw [e] at f
 exact f
theorem JI (e:Lv 2 n d)(b:k (ik t) a):(On n).call d (F 1017) [.int t] a k X:=by
 refine cq e λf=>?_
 refine LS ?_
 unfold ik at b
 by_cases h:9<t
 .rw [if_pos h] at b
  simp only [decide_eq_true h]
  exact b
 .rw [if_neg h] at b
  refine J (decide_eq_false h) ?_
  by_cases c:0<t
  .rw [if_pos c] at b
   refine J (decide_eq_true c) ?_
   exact b
  .rw [if_neg c] at b
   refine J (decide_eq_false c) ?_
   exact b
end
end
mutual
open Mine
def aB.tup:aB->E
 |.re x y w h=>.tup [S "re",.lst [.int x,.int y,.int w,.int h]]
 |.cm m=>.tup [S "cm",m.lst]
 |.gr t=>.tup [S "g",.lst [.int t]]
 |.qq=>.tup [S "q",.lst []]
 |.W x y w h=>.tup [S "W",.lst [.int x,.int y,.int w,.int h]]
 |.BI=>.tup [S "BI",.lst []]
 |.BX=>.tup [S "BX",.lst []]
 |.Do b=>.tup [S "Do",.lst [.str<|bC b]]
 |.Q=>.tup [S "Q",.lst []]
 |.EX=>.tup [S "EX",.lst []]
 |.zz=>.tup [S "zz",.lst []]
def aB.word:aB->String
 |.re ..=> "re" |.cm ..=> "cm" |.gr ..=> "g" |.qq=> "q" |.W ..=> "W" |.BI=> "BI" |.BX=> "BX" |.Do ..=> "Do" |.Q=> "Q" |.EX=> "EX" |.zz=> "zz"
def aB.vals:aB->E
 |.re x y w h=>.lst [.int x,.int y,.int w,.int h]
 |.cm m=>m.lst
 |.gr t=>.lst [.int t]
 |.W x y w h=>.lst [.int x,.int y,.int w,.int h]
 |.Do b=>.lst [.str<|bC b]
 |_=>.lst []
theorem aB.ub (x:aB):x.tup=.tup [S x.word,x.vals]:=by cases x<;>rfl
def fA (d:Nat)(h i j k:E)(l:Nat)(m:E)(n:Int)(p:Nat)(q:Y):Prop:=
 q=vu d h i j m k (.loc l) (.int n) (.loc p)\/(∃a b c e f,q=iS d h i j m k (.loc l) (.int n) (.loc p) a b c e f)\/∃a b c e f g,q=iW d h i j m k (.loc l) (.int n) (.loc p) a b c e f g
def fB (d:Nat)(e f h i:E)(j:Nat)(a b c:E)(k:Int)(l:Nat)(w v:E)(m:Y):Prop:=
 m=iS d e f h (.tup [a,b,c]) i (.loc j) (.int k) (.loc l) w v a b c\/∃g,m=iW d e f h (.tup [a,b,c]) i (.loc j) (.int k) (.loc l) w v a b c g
section
variable {n:bV}{d L':Nat}{a:R}
theorem h_ (e:(ax a .In (S w)<|.tup [S c,S b])=.ok .t r)(f:k r):wp (ax a .In (S w)<|.tup [S c,S b]) k:=aR e f
theorem Ox (h:a.get l=H (.lst b))(c:k b.isEmpty):wp (ax a .Eq (.loc l)<|.lst []) k:=by
 have e:ax a .Eq (.loc l) (.lst [])=.ok .t b.isEmpty:=by
  show oo (pd (fh l<|a.get l) _)=_
  refine J h ?_
  cases b<;>rfl
 exact aR e c
def ng (x:aB)(c:Bool)(b:Int):Bool:=match x with
 |.Q=>c
 |.EX=>b==0
 |.zz=>b==0
 |_=>N
theorem NU (B:a.get p=H (.lst i))(M:fA d O P nm a0 a3 (.tup [mp,tt,a4]) h p a5)
  (r:ng x i.isEmpty h=I->∀j,k (.ret<|.bool N) j a) (s:ng x i.isEmpty h=N->∀j,fB d O P nm a0 a3 mp tt a4 h p (S x.word) x.vals j->cE (On n) 1031 0 2 1000 j a k X):eN (On n) 1031 0 x.tup a5 a k X:=by
 have t:∀l m,(ng x i.isEmpty h=I->m)->(ng x i.isEmpty h=N->l)->sv p h (S x.word) a l m X:=by
  intro l m z y
  refine ?_
  have A:ng x i.isEmpty h=(h==0)->match h==0 with|I=>m|N=>l:=λe=>by
   cases q:h==0 with
   |true=>exact z<|by refine J e ?_;exact J q rfl
   |false=>exact y<|by refine J e ?_;exact J q rfl
  cases x with
  |Q=>
   refine cV (g:=I) (by kernel_rfl)<|Ox B ?_
   cases q:i.isEmpty with
   |true=>exact z q
   |false=>exact h_ (r:=N) (by kernel_rfl)<|y q
  |EX=>exact cV (g:=N) (by kernel_rfl)<|h_ (r:=I) (by kernel_rfl)<|A rfl
  |zz=>exact cV (g:=N) (by kernel_rfl)<|h_ (r:=I) (by kernel_rfl)<|A rfl
  |_=>exact cV (g:=N) (by kernel_rfl)<|h_ (r:=N) (by kernel_rfl)<|y rfl
 rw [aB.ub]
 refine qK (a:=1031) (i:=0) 2 (by kernel_rfl) ?_
 rcases M with rfl|⟨a1,b,c,e,f,rfl⟩|⟨a1,b,c,e,f,g,rfl⟩
 .refine MI ?_
  exact t _ _ (λe=>r e _) λe=>s e _<|.inl rfl
 .refine Mc ?_
  exact t _ _ (λe=>r e _) λe=>s e _<|.inl rfl
 .refine NB ?_
  exact t _ _ (λe=>r e _) λe=>s e _<|.inr ⟨_,rfl⟩
abbrev jv (b:List<|List bo×St):List E:=b.reverse.map λx=>jf x.1 x.2
structure fF (B:Nat)(f:R)(b c:Nat)(e:List<|List bo×St)(L:List bo)(g:St)(h:List Mk)(a:R):Prop where
 fr:Fr f a [b]
 fa:a.get b=H (.lst<|h.map Mk.row)
 iD:a.get c=H (.lst<|jv e)
 pl:c<a.next
 sl:∀m∈L,m.bq
 cl:comp L=g.m
 bl:L.length<=B
 sk:∀x∈e,(∀m∈x.1,m.bq)/\comp x.1=x.2.m/\x.1.length<=B
theorem fF.step (h:fF B b c e g L i j a)(k:c<b.next)(f:Fr a l []):fF B b c e g L i j l:=
 {h with fr:=h.fr.trans<|f.sub<|by simp,fa:=by refine J (f.get _ (bE k h.fr.next)<|by simp) ?_;exact h.fa,iD:=by refine J (f.get _ h.pl<|by simp) ?_;exact h.iD,pl:=bE h.pl f.next}
theorem fF.mark (h:fF B b c e f L g l a)(i:c<b.next)(j:b.next<=e):fF B b c e f L g k<|a.set c<|.lst<|k.map Mk.row:=
 {h with fr:=h.fr.set<|.inr<|by simp,fa:=bP,iD:=by refine J (kj<|dN<|bE i j) ?_;exact h.iD}
theorem fF.Cz (h:fF B b e c p L i j a)(k:e<b.next)(f:b.next<=c)(l:∀x∈g,(∀m∈x.1,m.bq)/\comp x.1=x.2.m/\x.1.length<=B):fF B b e c g L i j<|a.set c<|.lst<|jv g:=
 {h with fr:=h.fr.set<|.inl f,fa:=by refine J (kj<|cA<|bE k f) ?_;exact h.fa,iD:=bP,sk:=l}
def vF (i j l:E)(p q:Nat)(s:Bool->St->List Mk->R2):Prop:=∀(n:bV)(d:Nat)(b:Bool)(L:List bo)(e:St)(f:List Mk)(c:Nat)(a:R)(k:E->R->Prop)(X:Prop)(r:Option<|List Mk),
 Lv p n d->(∀m∈L,m.bq)->comp L=e.m->L.length<=q->c<a.next->a.get c=H (.lst<|f.map Mk.row)->f.length<900->e.cs.length<900->s b e f=H r->
 (∀g,Fr a g [c]->(∀h,r=H h->g.get c=H (.lst<|h.map Mk.row))->k (.bool r.isSome) g)->(On n).call d (F 1024) [i,j,.str<|bC b,jf L e,l,.loc c] a k X
theorem qn (b:x.length+y.length<=1000000)(h:k (.lst<|x++y,a)):wp (bA N N a .Add (.lst x)<|.lst y) k:=fy (c:=.p<|x.length+y.length<=1000000) rfl b h
theorem yf:bX.by (box x y w h) m=⟨m.x x y,m.y x y,m.x (x+w) y,m.y (x+w) y,m.x (x+w)<|y+h,m.y (x+w)<|y+h,m.x x<|y+h,m.y x<|y+h⟩:=rfl
end
end
section
variable {n:bV}{d c e:Nat}{s:R}{X:Prop}{f g h:E}{a p:Nat}{b:Bool->St->List Mk->R2}
theorem Bw (a0:a<s.next)(a4:s.next<=p)(a9:10<=c)(c3:vF f g h c e b){n:bV}(a8:Lv c n<|d+1){B:Nat}{x:aB}{ds:List aB}{k:List<|List bo×St}{q:Nat}{L:List bo}{j:St}{l:List Mk}{M:R}{r:Option<|List Mk}{b6 b7:E->E->R->Prop}{b8:R->Prop}
  (P:x.ok) (b9:B+1<=e) (c4:e<=900000) (i:fF B s a p k L j l M) (b0:ng x (jv k).isEmpty q=N) (z:row b (x::ds) (k.map mr) q j l=H r)
  (H1:∀a7 c0 L' a3 a1 A,fF (B+1) s a p a7 L' a3 a1 A->row b ds (a7.map mr) c0 a3 a1=H r->b6 (jf L' a3) (.int (c0:Nat)) A)
  (c1:∀a7 L' a3 a1 A c5,fF (B+1) s a p a7 L' a3 a1 A->row b ds (a7.map mr) q a3 a1=H r->b7 (jf L' a3) c5 A)
  (c6:r=T->∀A,Fr s A [a]->b8 A):
  gO ⟨On n,d,f,g,jc L,.int j.t,.tup<|j.cs.map dP,h,a,p,q,x.vals,M,b6,b7,b8,X⟩<|S x.word:=by
 have O:∀{k L j l M},fF B s a p k L j l M->fF (B+1) s a p k L j l M:=λi=>{i with bl:=jX i.bl,sk:=λx P=>⟨(i.sk x P).1,(i.sk x P).2.1,jX (i.sk x P).2.2⟩}
 refine aL (n_ z) ?_;rintro ⟨g1,g2,g3⟩ z
 rw [cb] at g2
 have b1:(l.map Mk.row).length<1000000:=by rw [cb];exact bE (by assumption)<|by decide
 have c2:∀(a2:CK) (x y w v:Int) (b2:E),a2.O=On n->a2.d=d->a2.mp=jc L->a2.values=.lst [.int x,.int y,.int w,.int v]->a2.σ=M->a2.X=X->(∀A,fF B s a p k L j l A->Cg a2 b2 A ((box x y w v).by j.m).out)->rF a2 b2:=by
  rintro ⟨_,_,_,_,_,_,_,_,_,_,_,_,_,_,_,_,_⟩ x y w v b2 rfl rfl rfl rfl rfl rfl c7
  refine ix rfl<|ix rfl<|ix rfl<|ix rfl<|gb<|ix rfl<|ix rfl<|gb ?_
  refine Az (a8.le<|qc a9) i.sl λA a5=>?_
  have:=c7 A<|i.step a0 a5
  rw [yf,<-i.cl] at this
  exact this
 cases x with
 |re x y w v=>
  refine NR _<|c2 _ x y w v _ rfl rfl rfl rfl rfl rfl λA i=>?_
  refine cV (g:=N) (by kernel_rfl)<|cU i.fa<|JI (a8.le<|qc a9)<|eo i.fa b1 ?_
  refine J (show l.map Mk.row++[.tup [.tup [S "fill",S "nonzero",((box x y w v).by j.m).out,ik j.t],.tup<|j.cs.map dP]]=(l++[(⟨.fill ((box x y w v).by j.m) j.t,j.cs⟩:Mk)]).map Mk.row by refine J (snoc (f:=Mk.row)) ?_;rfl) ?_
  exact c1 k L j _ _ _ (O<|i.mark a0 a4) z
 |W x y w v=>
  refine GA _<|c2 _ x y w v _ rfl rfl rfl rfl rfl rfl λA i=>?_
  refine cV (g:=I) (by kernel_rfl)<|nY (by rw [cb];simp;exact ay g3<|by simp+arith only)<|cU i.fa<|eo i.fa b1 ?_
  have a6:j.cs.map dP++[.tup [S "nonzero",((box x y w v).by j.m).out]]=(j.cs++[(box x y w v).by j.m]).map dP:=snoc.symm
  refine aW a6▸aW (show l.map Mk.row++[.tup [.tup [S "clip",S "nonzero",((box x y w v).by j.m).out],.tup<|(j.cs++[(box x y w v).by j.m]).map dP]]=(l++[(eT j<|(box x y w v).by j.m).2]).map Mk.row by refine J (snoc (f:=Mk.row)) ?_;rfl)▸?_
  exact c1 k L (eT j<|(box x y w v).by j.m).1 _ _ _ (O {i.mark a0 a4 with cl:=i.cl}) z
 |cm m=>
  refine PH _<|qn (by have:=i.bl;simp;exact ay (bK this<|bK b9 c4)<|by simp+arith only) ?_
  refine H1 k q (m::L) {j with m:=m.mul j.m} l M {i with sl:=?_,cl:=?_,bl:=?_,sk:=(O i).sk} z
  .intro m' hm
   rcases bF.mp hm with rfl|hm
   .exact P
   .exact i.sl m' hm
  .show m.mul (comp L)=m.mul j.m
   exact i.cl▸rfl
  .have:=i.bl;simp;assumption
 |gr t=>
  refine Rd _<|ix rfl ?_
  exact H1 k q L {j with t:=t} l M (O {i with cl:=i.cl}) z
 |qq=>
  refine Nb _<|cU i.iD<|eo i.iD (by simp;exact bE (by assumption)<|by decide) ?_
  refine J (show jv k++[.tup [jc L,.int j.t,.tup<|j.cs.map dP]]=jv ((L,j)::k) by simp [jf]) ?_
  refine H1 ((L,j)::k) q L j l _ (O<|i.Cz a0 a4 ?_) z
  intro x P
  rcases bF.mp P with rfl|P
  .exact ⟨i.sl,i.cl,i.bl⟩
  .exact i.sk x P
 |Q=>
  cases k with
  |nil=>exact absurd b0<|by trivial
  |cons y k=>
   have b3:=i.iD
   rw [show jv (y::k)=jv k++[jf y.1 y.2] by simp] at b3
   refine Pq _<|uK b3<|vJ b3 (by simp at g2 |-;exact ay g2<|by simp+arith only) ?_
   have h':=i.Cz (g:=k) a0 a4 λx P=>i.sk x<|by exact dz _<|by assumption
   have b4:=i.sk y<|by exact .head _
   exact H1 k q y.1 y.2 l _ (O {h' with sl:=b4.1,cl:=b4.2.1,bl:=b4.2.2}) z
 |BI=>
  refine QN _ ?_
  refine cU i.fa<|CT (a8.le<|qc a9) i.sl<|eo i.fa b1 ?_
  refine aW i.cl▸aW (show l.map Mk.row++[.tup [.tup [S "image",S "",j.m.told],.tup<|j.cs.map dP]]=(l++[(⟨.eb T j.m,j.cs⟩:Mk)]).map Mk.row by refine J (snoc (f:=Mk.row)) ?_;rfl)▸?_
  exact H1 k q L j _ _ (O<|i.mark a0 a4) z
 |BX=>
  refine LU _ ?_
  exact H1 k (q+1) L j l M (O i) z
 |EX=>
  cases q with
  |zero=>exact absurd b0<|by trivial
  |succ q=>
   refine NZ _ ?_
   refine J (show ((q+1:Nat):Int)+-1=(q:Nat) from Int.add_neg_cancel_right (q:Int) 1) ?_
   exact H1 k q L j l M (O i) z
 |zz=>
  cases q with
  |zero=>exact absurd b0<|by trivial
  |succ q=>
   refine Ow _ ?_
   exact H1 k (q+1) L j l M (O i) z
 |Do b5=>
  refine M_ _<|ix rfl ?_
  have z:kJ (row b ds (k.map mr) q j) (b b5 j l)=H r:=z
  cases a6:b b5 j l with
  |none=>rw [a6] at z;exact ao z
  |some r1=>
   refine c3 n (d+1) b5 L j l a M _ X r1 a8 i.sl i.cl (by have:=i.bl;exact ai this<|ig b9) (bE a0 i.fr.next) i.fa g1 g3 a6 λA a5 hm=>?_
   cases r1 with
   |none=>
    rw [a6] at z
    refine aG z ?_;clear z;rintro rfl
    exact en<|c6 rfl A<|i.fr.trans a5
   |some a1=>
    rw [a6] at z
    refine en<|H1 k q L j a1 A (O {i with fr:=i.fr.trans a5,fa:=hm a1 rfl,iD:=?_,pl:=?_}) z
    .refine J (a5.get _ i.pl<|by simp;exact dN<|bE a0 a4) ?_;exact i.iD
    .exact bE i.pl a5.next
end
mutual
open Mine
def hH:Mx->E
 |.no=>.none
 |.six m=>m.lst
 |.bad=>.lst [.int 1,.int 0,.int 0,.int 1,.int 0]
def ht:Ed->E
 |.no=>.none
 |.box l b r t=>.lst [.int l,.int b,.int r,.int t]
 |.bad=>.lst []
def kL:hY->E
 |.cx g a=>.tup [S "form",.int g,.bool a]
 |.eb=>.tup [S "image",.int 0,.bool N]
 |.odd=>.tup [S "odd",.int 0,.bool N]
def iE (a:List<|ae×E)(c:cn):Prop:=∀b,aI (bC b) a=(c b).map kL
theorem iE.no (h:iE a c)(e:c b=T):aI (bC b) a=T:=(h b).trans<|e▸rfl
theorem iE.so (h:iE a c)(e:c b=H x):aI (bC b) a=H (kL x):=(h b).trans<|e▸rfl
def uY (a:List<|ae×E):Option cn->Prop
 |T=>aI (Q "names") a=H .none
 |H c=>∃b,aI (Q "names") a=H (.aa b)/\iE b c
abbrev dZ (b:List<|ae×E)(a:Fm):Prop:=
 aI (Q "six") b=H (hH a.mx)/\
 aI (Q "edges") b=H (ht a.ed)/\
 aI (Q "deeds") b=H (.lst<|a.ds.map aB.tup)/\
 uY b a.nm/\
 (∀m,a.mx=.six m->m.bq)/\
 (∀x∈a.ds,x.ok)/\
 a.ds.length<=900
theorem dZ.six {a:Fm}(h:dZ b a):aI (Q "six") b=H (hH a.mx):=h.1
theorem dZ.rD {a:Fm}(h:dZ b a):aI (Q "edges") b=H (ht a.ed):=h.2.1
theorem dZ.BQ {a:Fm}(h:dZ b a):aI (Q "deeds") b=H (.lst<|a.ds.map aB.tup):=h.2.2.1
theorem dZ.names {a:Fm}(h:dZ b a):uY b a.nm:=h.2.2.2.1
theorem dZ.sm {a:Fm}(h:dZ b a):∀m,a.mx=.six m->m.bq:=h.2.2.2.2.1
theorem dZ.ok {a:Fm}(h:dZ b a):∀x∈a.ds,x.ok:=h.2.2.2.2.2.1
theorem dZ.ln {a:Fm}(h:dZ b a):a.ds.length<=900:=h.2.2.2.2.2.2
def oR (c:List E)(d:List Fm):Prop:=∀(g:Nat) a,d[g]?=H a->∃b,c[g]?=H (E.aa b)/\dZ b a
def eH (a:List<|Nat×Bool):List E:=a.map λx=>match x.2 with
 |I=>.int<|-1
 |N=>.int x.1
theorem zN (a) (x):eH a++eH [x]=eH (a++[x]):=jn.symm
theorem Px (h:fA d k l m n p q r s i):∃j,i=fr 1031 d j:=by
 rcases h with rfl|⟨a,b,c,e,f,rfl⟩|⟨a,b,c,e,f,g,rfl⟩<;>exact ⟨_,rfl⟩
section
variable {n:bV}{d b a:Nat}{s:R}{X:Prop}{c e g h:E}{m p:Nat}{f:Bool->St->List Mk->R2}
theorem Ra (b0:m<s.next)(b1:s.next<=p)(b2:10<=b)(b3:vF c e g b a f)(b4:a<=900000)(b7:Lv (b+1) n<|d+1)
  (b8:∀q,r=H q->∀a6 i,Fr s i [m]->i.get m=H (.lst<|q.map Mk.row)->k .next (fr 1031 d a6) i) (a7:r=T->∀a1 i,Fr s i [m]->k (.ret<|.bool N) a1 i):
  ∀O B a0 A L st ms σ a2,(∀x∈O,x.ok)->B+O.length<=a->fF B s m p a0 L st ms σ->fA d c h e g m (jf L st) (A:Nat) p a2->row f O (a0.map mr) A st ms=H r->
   (On n).bH (cN 1031 0) (cB 1031 0) (O.map aB.tup) a2 σ k X:=by
 intro O
 induction O with
 |nil=>
  intro B a0 A L st ms σ a2 _ _ l hf j
  refine aC (Px hf) ?_;rintro a6 rfl
  exact jz<|b8 ms (by refine aG j ?_;clear j;rintro rfl;rfl) a6 σ l.fr l.fa
 |cons x O b9=>
  intro B a0 A L st ms σ a2 a8 a3 l hf j
  refine hV b7 λb5=>NU l.iD hf (λt a1=>?_) λt a1 c0=>?_
  .refine a7 ?_ a1 σ l.fr
   have j:=(n_ j).2
   cases x with
   |Q=>
    cases a0 with
    |nil=>refine aG j ?_;clear j;rintro rfl;rfl
    |cons y a0=>exact absurd (show (jv<|y::a0).isEmpty=I from t)<|by simp [jv]
   |EX=>
    cases A with
    |zero=>refine aG j ?_;clear j;rintro rfl;rfl
    |succ A=>exact absurd t<|by show ¬(((A+1:Nat):Int)==0)=I;rw [beq_iff_eq];exact λt=>tE _<|lq t
   |zz=>
    cases A with
    |zero=>refine aG j ?_;clear j;rintro rfl;rfl
    |succ A=>exact absurd t<|by show ¬(((A+1:Nat):Int)==0)=I;rw [beq_iff_eq];exact λt=>tE _<|lq t
   |_=>exact ff t
  .have a4:∀M (P:Nat) L' z q i a5,fA d c h e g m (jf L' z) (P:Nat) p a5->fF (B+1) s m p M L' z q i->row f O (M.map mr) P z q=H r->(On n).bH (cN 1031 0) (cB 1031 0) (O.map aB.tup) a5 i k X:=λM P L' z q i a5 hf l j=>
    b9 (B+1) M P L' z q i a5 (λx c1=>a8 x<|dz _ c1) (by simp at a3;exact ay a3<|by simp+arith only) l hf j
   have b6:B+1<=a:=by simp at a3;exact ay a3<|by simp+arith only
   rcases c0 with rfl|⟨c3,rfl⟩
   .refine H4 ?_
    exact Bw b0 b1 b2 b3 (b5.le<|by exact aT _) (a8 x<|.head _) b6 b4 l t j
     (λM P L' z q i l j=>a4 M P L' z q i _ (.inr<|.inl ⟨_,_,_,_,_,rfl⟩) l j)
     (λM L' z q i c2 l j=>a4 M A L' z q i _ (.inr<|.inr ⟨_,_,_,_,_,_,rfl⟩) l j)
     λt i a9=>a7 t _ i a9
   .refine OY ?_
    exact Bw b0 b1 b2 b3 (b5.le<|by exact aT _) (a8 x<|.head _) b6 b4 l t j
     (λM P L' z q i l j=>a4 M P L' z q i _ (.inr<|.inr ⟨_,_,_,_,_,_,rfl⟩) l j)
     (λM L' z q i c2 l j=>a4 M A L' z q i _ (.inr<|.inr ⟨_,_,_,_,_,_,rfl⟩) l j)
     λt i a9=>a7 t _ i a9
end
end
mutual
open Mine
def qQ (q:E)(s:List Fm)(f:Nat):Prop:=∀n d b i j c L g l a e k X r,
 Lv (30+4*f) n d->iE i j->(∀m∈L,m.bq)->comp L=g.m->c.length+f<=800->L.length<=1000*c.length->b.length<=900->(∀x∈b,x.ok)->a<e.next->e.get a=H (.lst<|l.map Mk.row)->go iB s f b j c g l=H r->
 (∀h,Fr e h [a]->(∀p,r=H p->h.get a=H (.lst<|p.map Mk.row))->k (.bool r.isSome) h)->(On n).call d (F 1031) [q,.lst<|b.map aB.tup,.aa i,jf L g,.lst<|eH c,.loc a] e k X
theorem O5 (h:bB O 1024 0 (wz d a b c e f g) i k X):aN O 1024 d [a,b,c,e,f,g] i k X:=aj (by kernel_rfl) h
section
variable {a:R}{X:Prop}
theorem dj (h:aI s b=H v)(c:k v):wp (aO a (.aa b)<|.str s) k:=by
 have e:aO a (.aa b) (.str s)=.ok .t v:=by
  show oo (aI s b)=_
  refine J h ?_
  rfl
 exact aR e c
theorem kD {g:Nat}(c:b[g]?=H v)(d:k v):wp (aO a (.lst b)<|.int g) k:=by
 have f:g<b.length:=by
  rcases qd g b.length with q|q
  .exact q
  .rw [Fh q] at c;exact ao c
 have e:aO a (.lst b) (.int g)=.ok .t v:=by
  show (oo (iJ (g:Int) b.length)>>=λp=>oo b[p]?)=_
  refine J (show iJ (g:Int) b.length=H g by unfold iJ;refine J (if_pos<|hA g) ?_;refine J (if_pos<|jk.mpr f) ?_;simp) ?_
  show aY.bind (.ok .t g) _=_
  unfold aY.bind
  dsimp only
  refine J c ?_
  rfl
 exact aR e d
theorem Pz {g:Nat}(h:k<|c.any λx=>!x.2 && cC x.1 g):wp (ax a .In (.int g)<|.lst<|eH c) k:=by
 have i:E.cu 30 (eH c)=I:=by
  clear h
  induction c with
  |nil=>rfl
  |cons x r f=>
   show (E.isData 30 (match x.2 with|I=>.int<|-1|N=>.int x.1) && E.cu 30 (eH r))=I
   refine J f ?_
   cases x.2<;>rfl
 have j:((eH c).any λy=>E.beq y<|.int g)=c.any λx=>!x.2 && cC x.1 g:=by
  clear h i
  induction c with
  |nil=>rfl
  |cons x r f=>
   unfold eH at f |-
   refine J dQ ?_;refine J pN ?_;refine J f ?_
   congr 1
   obtain ⟨d,b⟩:=x
   cases b with
   |true=>
    show ((-1:Int)==g)=N
    rw [beq_eq_false_iff_ne];exact Tj<|la (by decide)<|hA g
   |false=>
    show ((d:Int)==g)=cC d g
    by_cases e:d=g
    .subst e;simp
    .refine J (show ((d:Int)==g)=N by rw [beq_eq_false_iff_ne];exact λq=>e<|lq q) ?_
     cases q:cC d g with
     |true=>exact absurd (hC q) e
     |false=>rfl
 have e:ax a .In (.int g) (.lst<|eH c)=.ok .t (c.any λx=>!x.2 && cC x.1 g):=by
  show oo (kT (.int g)<|eH c)=_
  unfold kT
  refine i▸j▸?_
  rfl
 exact aR e h
theorem Bo (b:k N):wp (ax a .Eq (.lst<|c::d)<|.lst []) k:=aR (c:=N) (by kernel_rfl) b
theorem DK (b:k I):wp (ax a .Eq (.lst [])<|.lst []) k:=aR (c:=I) (by kernel_rfl) b
end
end
mutual
open Mine
theorem yp {s:List E}{O:List Fm}{f:Nat}(P:qQ (.lst s) O f){t:List<|ae×E}{y:cn}{a:List<|Nat×Bool}(a0:iE t y)(a1:a.length+(f+1)<=800){b:Fm}{fd:List<|ae×E}(p:dZ fd b){g:Nat}{i:Bool}
  {n:bV} {d:Nat} {L:List bo} {c:St} {z:List Mk} {h:Nat} {j:R} {k:E->R->Prop} {X:Prop} {r:Option<|List Mk} (a6:Lv (31+4*f) n<|d+1) (a7:∀m∈L,m.bq) (a8:comp L=c.m) (a9:L.length<=1000*(a.length+1)) (b0:h<j.next) (b2:j.get h=H (.lst<|z.map Mk.row))
  (A:go iB O f b.ds (b.nm.getD y) (a++[(g,i)]) c z=H r) (a2:∀B,Fr j B [h]->(∀a3,r=H a3->B.get h=H (.lst<|a3.map Mk.row))->k (.bool r.isSome) B):
  wd (On n) d (.lst s) t (.int c.t) (.tup<|c.cs.map dP) (.lst<|eH a) h (.int g) (.bool i) (.aa fd) (jc L) j k X:=by
 have a4:(a++[(g,i)]).length=a.length+1:=eJ
 have q:∀(l:List<|ae×E),iE l (b.nm.getD y)->wm (On n) d (.lst s) (.int c.t) (.tup<|c.cs.map dP) (.lst<|eH a) h (.int g) (.bool i) (jc L) j k X (.aa l) (.lst<|b.ds.map aB.tup):=by
  intro l h2
  have b1:(eH a).length+1<=1000000:=by unfold eH;rw [cb];exact dH (dg a1)<|by decide
  have go:∀x,eH a++[x]=eH (a++[(g,i)])->(On n).call (d+1) (F 1031) [.lst s,.lst<|b.ds.map aB.tup,.aa l,jf L c,.lst<|eH a++[x],.loc h] j k X:=λx e=>
   e▸P n (d+1) b.ds l _ (a++[(g,i)]) L c z h j k X r (a6.le<|by simp+arith only) h2 a7 a8 (a4▸ay a1 (by simp+arith only)) (a4▸a9) p.ln p.ok b0 b2 A a2
  refine en ?_
  clear A P a0
  cases i with
  |true=>exact qn b1<|go _<|zN a (g,I)
  |false=>exact qn b1<|go _<|zN a (g,N)
 have M:=p.names
 clear A P a2
 revert M q
 cases b.nm with
 |none=>exact λq M=>dj M<|yk<|dj p.BQ<|q t a0
 |some b4=>exact λq ⟨l,a5,b3⟩=>dj a5<|aR (c:=N) (by kernel_rfl)<|dj a5<|dj p.BQ<|q l b3
theorem Ac {a7:List E}{a8:List Fm}{f:Nat}(P:qQ (.lst a7) a8 f){ns:List<|ae×E}{nm:cn}{B:List<|Nat×Bool}(a9:iE ns nm)(b0:B.length+(f+1)<=800){M:Fm}{fd:List<|ae×E}(O:dZ fd M){g:Nat}{b1:Bool}
  {n:bV} {d:Nat} {L:List bo} {b:St} {x:List Mk} {y:Nat} {z:R} {k:E->R->Prop} {X:Prop} {r:Option<|List Mk} {a c:E} (a2:Lv (31+4*f) n<|d+1) (a3:∀m∈L,m.bq) (a4:comp L=b.m) (b2:L.length<=1000*(B.length+1)) (a0:y<z.next) (a5:z.get y=H (.lst<|x.map Mk.row)) (b5:x.length<900) (b6:b.cs.length<900) {s:ae}
  (A:iU (hL M.ed b x) (go iB a8 f M.ds (M.nm.getD nm)<|B++[(g,b1)])=H r) (a6:∀a1,Fr z a1 [y]->(∀b3,r=H b3->a1.get y=H (.lst<|b3.map Mk.row))->k (.bool r.isSome) a1):
  bB (On n) 1024 7 (iY d (.lst a7) (.aa ns) (.str s) (.tup [a,.int b.t,.tup<|b.cs.map dP]) (.lst<|eH B) (.loc y) c (.int g) (.bool b1) (jc L) (.int b.t) (.tup<|b.cs.map dP)<|.aa fd) z k X:=by
 refine cI 7 8 (by exact ab _ _) ?_
 refine HQ ?_
 refine dj O.rD ?_
 have j:=O.rD
 refine ua A (λe A=>?_) (λe q=>?_) λl i p t e A=>?_
 .refine J e ?_
  exact ey<|MW<|yp P a9 b0 O a2 a3 a4 b2 a0 a5 A a6
 .rw [e] at j |-
  exact je<|dj j<|DK<|show k (.bool N) z from (show r.isSome=N from q▸rfl)▸a6 z (Fr.refl _ _) λ_ h=>nomatch q.symm.trans h
 .rw [e] at j |-
  refine je<|dj j<|Bo<|dj j<|ix rfl<|dj j<|ix rfl<|dj j<|ix rfl<|dj j<|ix rfl ?_
  clear j e
  refine Az (a2.le<|by exact ai (by decide)<|bZ _ _) a3 λa1 f'=>?_
  have b7:bX.out ⟨(comp L).x l i,(comp L).y l i,(comp L).x p i,(comp L).y p i,(comp L).x p t,(comp L).y p t,(comp L).x l t,(comp L).y l t⟩=((box l i (p - l)<|t - i).by b.m).out:=by
   refine J yf ?_;refine J a4 ?_;refine J (show l+(p - l)=p by simp+arith only) ?_;exact J (show i+(t - i)=t by simp+arith only) rfl
  refine J b7 ?_
  generalize bX.by (box l i (p - l)<|t - i) b.m=q at A |-
  refine nY (by rw [cb];simp;exact ay b6<|by simp+arith only)<|cU ((f'.get _ a0 λh=>nomatch h).trans a5)<|eo ((f'.get _ a0 λh=>nomatch h).trans a5) (by rw [cb];exact bE b5<|by decide) ?_
  have e:b.cs.map dP++[.tup [S "nonzero",q.out]]=(b.cs++[q]).map dP:=snoc.symm
  refine J e ?_;refine J (show x.map Mk.row++[.tup [.tup [S "clip",S "nonzero",q.out],.tup<|(b.cs++[q]).map dP]]=(x++[(eT b q).2]).map Mk.row from jn (f:=Mk.row) (l₁:=x) (l₂:=[(eT b q).2]).symm) ?_
  have b4:=(f'.sub (L':=[y])<|by simp).set (o:=.lst<|(x++[(eT b q).2]).map Mk.row)<|.inr<|.head _
  exact Qh<|yp P a9 b0 O (c:=(eT b q).1) a2 a3 a4 b2 (bE a0 b4.next) bP A λb8 f3=>a6 b8<|b4.trans f3
theorem Iy (lw:oR a6 a0)(P:qQ (.lst a6) a0 f)(j:iE t nm)(a1:i.length+(f+1)<=800):
  vF (.lst a6) (.aa t) (.lst<|eH i) (32+4*f) (1000*i.length+900)<|gY iB a0 nm i λF nm i y ms=>go iB a0 f F.ds nm i y ms:=by
 intro n d b L y ms b4 l k X r a9 a2 a3 a4 a7 z b1 b2 a A
 refine cq (a9.le<|bh<|tp 31 (4*f) 1:Lv (31+4*f+1) n d) λa5=>?_
 have b0:(ms.map Mk.row).length<1000000:=by rw [cb];exact bE (by assumption)<|by decide
 refine O5 ?_
 refine cI 0 2 (by exact ab _ _) ?_
 refine Kc ?_
 have B:r=T->k (.bool N) l:=λe=>(show r.isSome=N from e▸rfl)▸A l (Fr.refl _ _) λ_ h=>nomatch e.symm.trans h
 have M:∀{x} {P} {a8},aI (bC b) t=H (kL x)->P (kL x)->match !(aI (bC b) t).isSome with|I=>a8|N=>wp (aO l (.aa t)<|.str<|bC b) P:=λ{x P a8} e h=>by
  have:=dj (a:=l) e h
  refine J e ?_;exact this
 refine tS a (λc e=>?_) (λc e=>?_) (λc e=>?_) λg b5 F' c b3 a=>?_
 .refine J (j.no c) ?_
  exact B e
 .refine M (j.so c)<|nu ?_
  refine cI 2 5 (by exact ab _ _) ?_
  refine vX ?_
  refine cV (g:=I) (by kernel_rfl)<|cU z<|CT (a5.le<|by exact ai (by decide)<|bZ _ _) a2<|eo z b0 ?_
  refine J a3 ?_
  have:=A _ ((Fr.refl l _).set<|.inr<|.head _) λb6 e'=>by
   cases e.symm.trans e'
   exact bP
  rw [e,snoc] at this
  exact this
 .refine M (j.so c)<|nu ?_
  refine cI 2 5 (by exact ab _ _) ?_
  refine vX ?_
  exact cV (g:=N) (by kernel_rfl)<|cV (g:=I) (by kernel_rfl)<|B e
 .refine M (j.so c)<|nu ?_
  refine cI 2 5 (by exact ab _ _) ?_
  refine vX ?_
  refine cV (g:=N) (by kernel_rfl)<|cV (g:=N) (by kernel_rfl)<|Pz ?_
  refine nq a (λO e=>?_) λO a=>?_
  .refine J (show (i.any λx=>!x.2 && cC x.1 g)=I from O) ?_
   exact B e
  .refine J (show (i.any λx=>!x.2 && cC x.1 g)=N from O) ?_
   clear c O M
   refine aK (lw g F' b3) λfd f1 p=>?_
   refine cI 5 6 (by exact ab _ _) ?_
   refine MX ?_
   refine kD f1 ?_
   refine cI 6 7 (by exact ab _ _) ?_
   refine FP ?_
   refine dj p.six ?_
   have s:=p.six
   refine wM (qr a) (λe a=>?_) (λe q=>?_) λm e a=>?_
   .refine J e ?_
    exact ey<|Ac P j a1 p a5 a2 a3 (ay a4<|by simp+arith only) a7 z b1 b2 a A
   .rw [e] at s |-
    exact je<|dj s<|hK<|aR (c:=.int 5) rfl<|sP<|B q
   .rw [e] at s |-
    refine je<|dj s<|hK<|aR (c:=.int 6) rfl<|sP<|dj s<|qn (by simp;exact ay (bK a4<|eA 1000 a1)<|by simp+arith only) ?_
    refine Ac P j a1 p (L:=m::L) (b:={y with m:=m.mul y.m}) a5 (λm' hm=>(bF.mp hm).elim (λh=>h▸p.sm _ e)<|a2 m') (a3▸rfl) (by simp;exact ay a4<|by simp+arith only) a7 z b1 b2 a A
theorem IX (y:oR z j):∀f,qQ (.lst z) j f:=by
 intro f
 induction f with
 |zero=>intro n d l A c a L g i B b k X r _ _ _ _ _ _ _ _ _ _ m;exact ao m
 |succ f M=>
  intro n d l A c a L g i B b k X r O P a0 a1 a2 a3 a4 a5 s a6 m t
  refine cq (O.le<|by simp+arith only:Lv (33+4*f+1) n d) λa7=>?_
  refine Nq ?_
  refine aR (c:=l.map aB.tup) rfl ?_
  have x:Fr b (b.alloc<|.lst []) []:=(Fr.refl b []).alloc
  refine Ra (b:=32+4*f) (a:=1000*a.length+900) (s:=b) (p:=b.next) (f:=gY iB j c a λF c a g i=>go iB j f F.ds c a g i) (r:=r) s (aT _) (by exact ai (by decide)<|bZ _ _) (Iy y M P<|by assumption) (ay (eA 1000 a2)<|by simp+arith only) (a7.le<|by simp+arith only) ?_ ?_ l (1000*a.length) [] 0 L g i _ _ a5 (gZ a4 _) ⟨x.sub<|by simp,by refine J (x.get _ s<|by simp) ?_;exact a6,eg,fw _,a0,a1,a3,by simp⟩ (.inl rfl) m
  .intro a8 e a9 p q h'
   subst e
   refine GP ?_
   exact t p q λb0 e=>by refine aG e ?_;clear e;rintro rfl;exact h'
  .intro e b1 p q
   subst e
   exact t p q λ_ h=>ao h
end
end
mutual
section
open Sh PySem PySem.W PyProof.Rows PySem.Calls
def zU (d:Nat)(a:E):Y:=fr 953 d [(Q "source",a)]
def Ay (d:Nat)(a b:E):Y:=fr 953 d [(Q "source",a),(Q "word",b)]
def B2 (d:Nat)(a:E):Y:=fr 958 d [(Q "source",a)]
def zc (d:Nat)(a b:E):Y:=fr 958 d [(Q "source",a),(Q "deeds",b)]
def AQ (d:Nat)(a b c e:E):Y:=fr 970 d [(Q "source",a),(Q "has_own",b),(Q "number",c),(Q "spoil",e)]
def rW (d:Nat)(a b c e f:E):Y:=fr 970 d [(Q "source",a),(Q "has_own",b),(Q "number",c),(Q "spoil",e),(Q "six",f)]
def oS (d:Nat)(a b c e f g:E):Y:=fr 970 d [(Q "source",a),(Q "has_own",b),(Q "number",c),(Q "spoil",e),(Q "six",f),(Q "edges",g)]
def qF (d:Nat)(a b c e f g h:E):Y:=fr 970 d [(Q "source",a),(Q "has_own",b),(Q "number",c),(Q "spoil",e),(Q "six",f),(Q "edges",g),(Q "names",h)]
def zR (d:Nat)(a b c:E):Y:=fr 977 d [(Q "source",a),(Q "shelf",b),(Q "values",c)]
def rQ (d:Nat)(a b c e:E):Y:=fr 977 d [(Q "source",a),(Q "shelf",b),(Q "values",c),(Q "row",e)]
def CP (d:Nat)(a b c e f:E):Y:=fr 977 d [(Q "source",a),(Q "shelf",b),(Q "values",c),(Q "row",e),(Q "at",f)]
def tO (d:Nat)(a b c e:E):Y:=fr 965 d [(Q "source",a),(Q "has_own",b),(Q "number",c),(Q "found",e)]
def lT (d:Nat)(a b c e f g h:E):Y:=fr 965 d [(Q "source",a),(Q "has_own",b),(Q "number",c),(Q "found",e),(Q "letter",f),(Q "way",g),(Q "goal",h)]
def oT (d:Nat)(a b c e f g:E):Y:=fr 965 d [(Q "source",a),(Q "has_own",b),(Q "number",c),(Q "found",e),(Q "letter",f),(Q "way",g)]
def qA (d:Nat)(a b c e f:E):Y:=fr 984 d [(Q "source",a),(Q "shelf",b),(Q "streams",c),(Q "names",e),(Q "found",f)]
def oA (d:Nat)(a b c e f g h i j:E):Y:=fr 984 d [(Q "source",a),(Q "shelf",b),(Q "streams",c),(Q "names",e),(Q "found",f),(Q "letter",g),(Q "sort",h),(Q "goal",i),(Q "is_direct",j)]
def qS (d:Nat)(a b c e f g:E):Y:=fr 984 d [(Q "source",a),(Q "shelf",b),(Q "streams",c),(Q "names",e),(Q "found",f),(Q "held",g)]
def si (d:Nat)(a b c e f g h i j k:E):Y:=fr 984 d [(Q "source",a),(Q "shelf",b),(Q "streams",c),(Q "names",e),(Q "found",f),(Q "letter",g),(Q "sort",h),(Q "goal",i),(Q "is_direct",j),(Q "held",k)]
def lP (d:Nat)(a b c:E):Y:=fr 362 d [(Q "self",a),(Q "value",b),(Q "number",c)]
def qW (d:Nat)(a b:E):Y:=fr 991 d [(Q "deeds",a),(Q "found",b)]
def gi (d:Nat)(a b c e:E):Y:=fr 991 d [(Q "deeds",a),(Q "found",b),(Q "word",c),(Q "values",e)]
def Lw (k:E->R->Prop)(X:Prop)(c:List E)(d:E)(e:R):Prop:=((0:Int)<=12/\(12:Int)<=1000/\10<18446744073709551616)/\wp (bA N N e .Sub d<|E.int 1000000000000) λb=>((0:Int)<=180/\(180:Int)<=1000/\10<18446744073709551616)/\wp (bA N N b.snd .Mod b.1<|E.int 1000000000000000000000000000000000000000000000000000000000000000000000000000000000000000000000000000000000000000000000000000000000000000000000000000000000000000000000000000000000000) λa=>k (E.loc a.snd.next)<|a.snd.alloc<|au.lst [E.lst c,a.1,E.int 0]
def PV (O:Or)(d:Nat)(k:E->R->Prop)(X:Prop)(b:List E)(c:E)(a:R):Prop:=((0:Int)<=12/\(12:Int)<=1000/\10<18446744073709551616)/\wp (ax a .GtE c<|E.int 1000000000000) λe=>match e with|I=>wp (aO a (E.lst b)<|E.int 0) λf=>O.call (d+1) (E.ag<|dR "abs") [f] a (λg h=>Lw k X b g h) X|N=>k (E.loc (E.int<|10 ^ Fi 12,a).snd.next)<|a.alloc<|au.lst [E.lst b,E.int 0,E.int 0]
def NO (O:Or)(d:Nat)(k:E->R->Prop)(X:Prop)(a:R)(e:Bool):Prop:=match e with|I=>O.call (d+1) (E.ag<|dR "abs") [E.int 6] a (λf g=>((0:Int)<=12/\(12:Int)<=1000/\10<18446744073709551616)/\wp (bA N N g .Sub f<|E.int 1000000000000) λc=>((0:Int)<=180/\(180:Int)<=1000/\10<18446744073709551616)/\wp (bA N N c.snd .Mod c.1<|E.int 1000000000000000000000000000000000000000000000000000000000000000000000000000000000000000000000000000000000000000000000000000000000000000000000000000000000000000000000000000000000000) λb=>k (E.loc b.snd.next)<|b.snd.alloc<|au.lst [E.lst [E.int 6],b.1,E.int 0]) X|N=>k (E.loc (E.int<|10 ^ Fi 12,a).snd.next)<|a.alloc<|au.lst [E.lst [E.int 6],E.int 0,E.int 0]
theorem G7 (f:(To (Fi 60) c).length<=1000000/\O.comp (cp 936 0) (cw 936 0) (To 60 c) (bI 936 0 d []) g (λa b=>match !a.isEmpty with|I=>wp (aO b (E.lst a)<|E.int 0) λh=>O.call (d+1) (E.ag<|dR "abs") [h] b (λi j=>PV O d k X a i j) X|N=>O.call (d+1) (E.ag<|dR "abs") [E.int 6] b (λl e=>((0:Int)<=12/\(12:Int)<=1000/\10<18446744073709551616)/\wp (ax e .GtE l<|E.int 1000000000000) λm=>NO O d k X e m) X) X):aN O 936 d [.lst c] g k X:=aj (by kernel_rfl) f
theorem FI (a:O.call (d+1) (E.ag<|cX "int") [x] b k False):fO O 936 0 x (bI 936 0 d []) b k:=aj (by kernel_rfl) a
def JC (h:E)(k:E->R->Prop)(X:Prop)(i:List E)(j:E)(a:E×R):Prop:=wp (bA N N a.snd .Mult (E.int 3)<|i.getD 2 E.none) λb=>wp (bA N N b.snd .Add b.1<|E.int 5) λc=>wp (bA N N c.snd .Mult a.1 c.1) λd=>wp (bA N N d.snd .FloorDiv d.1<|E.int 2) λe=>wp (bA N N e.snd .Add j e.1) λf=>wp (bA N N f.snd .Mod f.1 h) λg=>k g.1 g.snd
def Qq (O:Or)(d:Nat)(c:E)(k:E->R->Prop)(X:Prop)(a:List E)(b:E×R):Prop:=wp (aO b.snd (a.getD 0 E.none) b.1) λe=>O.call (d+1) (E.ag<|dR "len") [a.getD 0 E.none] b.snd (λf g=>wp (bA N N g .FloorDiv (a.getD 2 E.none) f) λh=>JC c k X a e h) X
def O9 (O:Or)(d:Nat)(g b:E)(k:E->R->Prop)(X:Prop)(a:List E)(c:R):Prop:=wp (ax c .Gt (a.getD 1 E.none)<|E.int 0) λh=>match h with|I=>wp (bA N N c .FloorDiv (a.getD 1 E.none) b) λe=>wp (setItem e.snd g (E.int 1) e.1) λi=>wp (bA N N i .Mod (a.getD 1 E.none) b) λf=>k f.1 f.snd|N=>O.call (d+1) (E.ag<|dR "len") [a.getD 0 E.none] c (λj l=>wp (bA N N l .Mod (a.getD 2 E.none) j) λm=>Qq O d b k X a m) X
theorem Lr (f:wp (gy b a 3) λc=>wp (bA N N b .Add (c.getD 2 E.none)<|E.int 1) λe=>wp (setItem e.snd a (E.int 2) e.1) λg=>O9 O d a h k X c g):aN O 943 d [a,h] b k X:=aj (by kernel_rfl) f
theorem Mh (e:((0:Int)<=4/\(4:Int)<=1000000)/\4<=1000000/\O.comp (cp 948 0) (cw 948 0) [E.int 0,E.int 1,E.int 2,E.int 3] (bI 948 0 d [(Q "source",a)]) f (λb g=>((0:Int)<=2/\(2:Int)<=1000000)/\2<=1000000/\O.comp (cp 948 1) (cw 948 1) [E.int 0,E.int 1] (bI 948 0 d [(Q "source",a)]) g (λc h=>b.length+c.length<=1000000/\k (E.lst<|b++c) h) X) X):aN O 948 d [a] f k X:=aj (by kernel_rfl) e
theorem Nt (b:O.call (d+1) (F 943) [c,E.int 5] e (λf g=>wp (bA N N g .Sub f<|E.int 2) λa=>k a.1 a.snd) False):fO O 948 0 x (bI 948 0 d [(Q "source",c)]) e k:=aj (by kernel_rfl) b
theorem Jm (b:O.call (d+1) (F 943) [c,E.int 19] e (λf g=>wp (bA N N g .Sub f<|E.int 9) λa=>k a.1 a.snd) False):fO O 948 1 x (bI 948 1 d [(Q "source",c)]) e k:=aj (by kernel_rfl) b
theorem Pe (c:O.call (d+1) (F 943) [a,E.int 7] e (λf b=>wp (aO b (E.tup [S "re",S "cm",S "q",S "g",S "W",S "BI",S "BX"]) f) λg=>k Fl.next (Ay d a g) b) X):cH O 953 0 1 (zU d a) e k X:=aj (by kernel_rfl) c
def Ll (O:Or)(d:Nat)(c a:E)(b:R)(k:E->R->Prop)(X:Prop)(e:Bool):Prop:=match e with|I=>((0:Int)<=4/\(4:Int)<=1000000)/\4<=1000000/\O.comp (cp 953 0) (cw 953 0) [E.int 0,E.int 1,E.int 2,E.int 3] (bI 953 0 d [(Q "source",c)]) b (λf g=>k (E.tup [a,E.lst f]) g) X|N=>k (E.tup [a,E.lst []]) b
theorem lx (e:wp (ax a .Eq b<|S "cm") λf=>match f with|I=>O.call (d+1) (F 948) [c] a (λg h=>k (E.tup [b,g]) h) X|N=>wp (ax a .Eq b<|S "g") λi=>match i with|I=>O.call (d+1) (F 943) [c,E.int 13] a (λj l=>k (E.tup [b,E.lst [j]]) l) X|N=>wp (ax a .In b<|E.tup [S "re",S "W"]) λm=>Ll O d c b a k X m):bB O 953 1 (Ay d c b) a k X:=aj (by kernel_rfl) e
theorem Ph (b:O.call (d+1) (F 943) [c,E.int 9] e (λf g=>wp (bA N N g .Sub f<|E.int 4) λa=>k a.1 a.snd) False):fO O 953 0 x (bI 953 0 d [(Q "source",c)]) e k:=aj (by kernel_rfl) b
theorem L3 (e:O.call (d+1) (F 943) [a,E.int 3] f (λg h=>wp (ju g) λb=>b.length<=1000000/\O.comp (cp 958 0) (cw 958 0) b (bI 958 0 d [(Q "source",a)]) h (λi c=>k Fl.next (zc d a<|E.loc c.2)<|c.alloc<|au.lst i) X) X):cH O 958 0 1 (B2 d a) f k X:=aj (by kernel_rfl) e
def Hj (O:Or)(d:Nat)(b a:E)(k:E->R->Prop)(X:Prop)(f:R)(g:cL):Prop:=O.call (d+1) (E.ag<|dR "len") [a] f (λh i=>wp (bA N N i .Add h<|E.int 1) λc=>O.call (d+1) (F 943) [b,c.1] c.snd (λj l=>O.call (d+1) (F 943) [b,E.int 2] l (λm e=>wp (aO e (S "AB") m) λn=>O.aE (d+1) a (Q "insert") g [j,E.tup [S "Do",E.lst [n]]] e (λq p=>k a p) X) X) X) X
theorem GG (e:O.call (d+1) (F 943) [c,E.int 4] f (λg a=>wp (ax a .Gt g<|E.int 0) λh=>match h with|I=>wp (aV a b<|Q "insert") λi=>Hj O d c b k X a i|N=>k b a) X):bB O 958 1 (zc d c b) f k X:=aj (by kernel_rfl) e
theorem K_ (a:O.call (d+1) (F 953) [b] c k False):fO O 958 0 x (bI 958 0 d [(Q "source",b)]) c k:=aj (by kernel_rfl) a
theorem Lh (g:O.call (d+1) (F 943) [a,E.int 3] h (λi b=>wp (ax b .Gt i<|E.int 0) λj=>match j with|I=>O.call (d+1) (F 948) [a] b (λl m=>k Fl.next (rW d a c e f l) m) X|N=>k Fl.next (rW d a c e f E.none) b) X):cH O 970 0 1 (AQ d a c e f) h k X:=aj (by kernel_rfl) g
theorem F3 (h:O.call (d+1) (F 943) [a,E.int 3] i (λj b=>wp (ax b .Gt j<|E.int 0) λl=>match l with|I=>((0:Int)<=4/\(4:Int)<=1000000)/\4<=1000000/\O.comp (cp 970 0) (cw 970 0) [E.int 0,E.int 1,E.int 2,E.int 3] (bI 970 0 d [(Q "source",a)]) b (λm n=>k Fl.next (oS d a c e f g<|E.lst m) n) X|N=>k Fl.next (oS d a c e f g E.none) b) X):cH O 970 1 2 (rW d a c e f g) i k X:=aj (by kernel_rfl) h
theorem Rh (i:wp (aO a b c) λj=>wp (truthy a j) λl=>match l with|I=>O.call (d+1) (F 965) [e,b,c] a (λm n=>k Fl.next (qF d e b c f g h m) n) X|N=>k Fl.next (qF d e b c f g h E.none) a):cH O 970 2 3 (oS d e b c f g h) a k X:=aj (by kernel_rfl) i
theorem PD (g:wp (ax a .Eq c<|E.int 8) λh=>match h with|I=>wp (ax a .Eq c<|E.int 9) (λi=>match i with|I=>k (E.loc a.2)<|a.alloc<|au.aa [(Q "six",E.lst [E.int 1,E.int 0,E.int 0,E.int 1,E.int 0]),(Q "edges",E.lst []),(Q "names",b)]|N=>k (E.loc a.2)<|a.alloc<|au.aa [(Q "six",E.lst [E.int 1,E.int 0,E.int 0,E.int 1,E.int 0]),(Q "edges",e),(Q "names",b)])|N=>wp (ax a .Eq c<|E.int 9) λj=>match j with|I=>k (E.loc a.2)<|a.alloc<|au.aa [(Q "six",f),(Q "edges",E.lst []),(Q "names",b)]|N=>k (E.loc a.2)<|a.alloc<|au.aa [(Q "six",f),(Q "edges",e),(Q "names",b)]):bB O 970 3 (qF d l m n c f e b) a k X:=aj (by kernel_rfl) g
theorem OX (b:O.call (d+1) (F 943) [c,E.int 13] e (λf g=>wp (bA N N g .Sub f<|E.int 6) λa=>k a.1 a.snd) False):fO O 970 0 x (bI 970 0 d [(Q "source",c)]) e k:=aj (by kernel_rfl) b
theorem QS (c:wp (kM I N e (E.ag<|cX "list") a) λb=>k Fl.next (rQ d f g a b.1) b.snd):cH O 977 0 1 (zR d f g a) e k X:=aj (by kernel_rfl) c
def OV (O:Or)(d:Nat)(f a g b:E)(k:Fl->Y->R->Prop)(X:Prop)(h:E)(i:R):Prop:=O.call (d+1) (F 943) [f,h] i (λc e=>wp (aV e a<|Q "add") λj=>wp (aO e b c) λl=>O.aE (d+1) a (Q "add") j [l] e (λm n=>wp (setItem n b c m) λp=>k Fl.next (CP d f a g b c) p) X) X
theorem PL {a c e b:E}(g:O.call (d+1) (F 943) [a,E.int 4] h (λi f=>wp (ax f .Eq i<|E.int 1) λj=>match j with|I=>O.call (d+1) (E.ag<|dR "len") [b] f (λl m=>OV O d a c e b k X l m) X|N=>k Fl.next (rQ d a c e b) f) X):cH O 977 1 2 (rQ d a c e b) h k X:=aj (by kernel_rfl) g
theorem L8 {e b h c:E}(i:O.call (d+1) (F 943) [e,E.int 4] j (λl a=>wp (ax a .Eq l<|E.int 1) λm=>match m with|I=>wp (aV a b<|Q "add") λn=>wp (bG a c) λf=>O.aE (d+1) b (Q "add") n [f.1] f.snd k X|N=>wp (bG a c) λg=>k g.1 g.snd) X):bB O 977 2 (rQ d e b h c) j k X:=aj (by kernel_rfl) i
theorem HU {h e b i c:E}(j:O.call (d+1) (F 943) [e,E.int 4] l (λm a=>wp (ax a .Eq m<|E.int 1) λn=>match n with|I=>wp (aV a b<|Q "add") λp=>wp (bG a c) λf=>O.aE (d+1) b (Q "add") p [f.1] f.snd k X|N=>wp (bG a c) λg=>k g.1 g.snd) X):bB O 977 2 (CP d e b i c h) l k X:=aj (by kernel_rfl) j
theorem QF (b:wp (bG c e) λa=>k a.1 a.snd):bB O 965 2 (oT d f g h e i j) c k X:=aj (by kernel_rfl) b
theorem QC (b:wp (bG c e) λa=>k a.1 a.snd):bB O 965 2 (lT d f g h e i j l) c k X:=aj (by kernel_rfl) b
theorem Pb (c:wp (hj a) λe=>O.bH (cN 984 0) (cB 984 0) e (qA d f g h a<|E.loc b.2) (b.alloc<|au.aa []) (eO O 984 2 k X) X):aN O 984 d [f,g,h,a] b k X:=aj (by kernel_rfl) c
theorem JP (j:O.call (d+1) (F 943) [c,E.int 3] l (λm a=>wp (ax a .Eq m<|E.int 1) λn=>match n with|I=>wp (aV a b<|Q "add") λp=>wp (bG a g) λe=>O.aE (d+1) b (Q "add") p [e.1] e.snd (λq r=>k Fl.next (qS d c b h i e.1<|E.aa [(Q "XObject",q)]) r) X|N=>wp (bG a g) λf=>k Fl.next (qS d c b h i f.1<|E.aa [(Q "XObject",f.1)]) f.snd) X):cH O 984 2 3 (qA d c b h i g) l k X:=aj (by kernel_rfl) j
theorem G5 (p:O.call (d+1) (F 943) [c,E.int 3] q (λr a=>wp (ax a .Eq r<|E.int 1) λs=>match s with|I=>wp (aV a b<|Q "add") λt=>wp (bG a g) λe=>O.aE (d+1) b (Q "add") t [e.1] e.snd (λx y=>k Fl.next (si d c b h i e.1 j l m n<|E.aa [(Q "XObject",x)]) y) X|N=>wp (bG a g) λf=>k Fl.next (si d c b h i f.1 j l m n<|E.aa [(Q "XObject",f.1)]) f.snd) X):cH O 984 2 3 (oA d c b h i g j l m n) q k X:=aj (by kernel_rfl) p
theorem Pg (e:O.call (d+1) (F 943) [f,E.int 3] g (λh a=>wp (ax a .Eq h<|E.int 1) λi=>match i with|I=>wp (aV a b<|Q "add") λj=>O.aE (d+1) b (Q "add") j [c] a k X|N=>k c a) X):bB O 984 3 (qS d f b l m n c) g k X:=aj (by kernel_rfl) e
theorem I1 (e:O.call (d+1) (F 943) [f,E.int 3] g (λh a=>wp (ax a .Eq h<|E.int 1) λi=>match i with|I=>wp (aV a b<|Q "add") λj=>O.aE (d+1) b (Q "add") j [c] a k X|N=>k c a) X):bB O 984 3 (si d f b l m n p q r s c) g k X:=aj (by kernel_rfl) e
theorem Ge (a:O.ec (lP d b c<|E.int 1) e (uy 362 0) (uj 362 0) (eO O 362 2 k X) X):aN O 362 d [b,c] e k X:=aj (by kernel_rfl) a
theorem Qa (c:wp (aw a e<|Q "table") λf=>wp (setItem a f b<|E.tup [E.int 0,g]) λh=>O.call (d+1) (F 275) [b,E.int 0] h k X):bB O 362 2 (lP d e g b) a k X:=aj (by kernel_rfl) c
theorem FX (b:wp (aw a c<|Q "table") λe=>wp (setItem a e f<|E.tup [g,h]) λi=>k E.none i):aN O 355 d [c,f,g,h] a k X:=aj (by kernel_rfl) b
theorem My (a:k (E.inst 204 [(Q "text",b)]) c):hX (inl O eh [] I I 8) 204 d [b] c k X:=aj (by kernel_rfl) a
theorem Lm (a:k (E.inst 226 [(Q "octets",b),(Q "is_hex",E.bool N)]) c):hX (inl O eh [] I I 8) 226 d [b] c k X:=aj (by kernel_rfl) a
theorem J7 (a:k (E.inst 247 [(Q "head",b),(Q "octets",c)]) e):hX (inl O eh [] I I 8) 247 d [b,c] e k X:=aj (by kernel_rfl) a
theorem Ja (a:k (E.inst 275 [(Q "number",b),(Q "generation",c)]) e):hX (inl O eh [] I I 8) 275 d [b,c] e k X:=aj (by kernel_rfl) a
theorem I6 (a:k (E.inst 927 [(Q "word",b),(Q "operands",c)]) e):hX (inl O eh [] I I 8) 927 d [b,c] e k X:=aj (by kernel_rfl) a
theorem J_ {t:Int}(b:(10:Int)≠0/\match t.fmod 10==0 with|I=>((10:Int)≠0/\10<18446744073709551616)/\k (E.inst 155 [(Q "top",E.int<|t.fdiv 10),(Q "places",E.int 0)]) a|N=>k (E.inst 155 [(Q "top",E.int t),(Q "places",E.int 1)]) a):hX (inl O eh [] I I 8) 155 d [.int t,.int 1] a k X:=aj (by kernel_rfl) b
theorem LO (e:wp (setField (a.alloc<|au.tab []) b (Q "table")<|E.loc a.2) λc=>wp (setField (c.alloc<|au.aa []) b (Q "trailer")<|E.loc c.2) λf=>k E.none f):aN O 320 d [b,.none,.none] a k X:=aj (by kernel_rfl) e
theorem Kv (c:wp (hj a) λe=>O.bH (cN 991 0) (cB 991 0) e (qW d a<|E.loc b.2) (b.alloc<|au.lst []) (eO O 991 2 k X) X):aN O 991 d [a] b k X:=aj (by kernel_rfl) c
theorem Pa (b:wp (bG c e) λa=>k a.1 a.snd):bB O 991 2 (qW d f e) c k X:=aj (by kernel_rfl) b
theorem FY (b:wp (bG c e) λa=>k a.1 a.snd):bB O 991 2 (gi d f e g h) c k X:=aj (by kernel_rfl) b
theorem B_ {f:Y->R->Prop}(j:wp (aw a b<|Q "table") λl=>wp (ax a .In e l) λm=>match m with|I=>wp (bA N N a .Add e<|E.int 1) λg=>k Fl.next (lP d b h g.1) g.snd|N=>f (lP d b h e) a):hR (ei O 35) 20 (lP d b h e) a (uy 362 0) (λc i a=>match c with|I=>dT O 35 i a (uj 362 0) k X|N=>f i a) X:=aj (by kernel_rfl) j
def rI (O:Or)(d:Nat)(x g k p e:E)(q:R)(h:E->R->Prop)(i:E->E->R->Prop)(X:Prop):Prop:=O.call (d+1) (F 943) [g,E.int 8] q (λa f=>wp (ax f .Lt a<|E.int 5) λr=>match r with|I=>O.call (d+1) (E.ag<|dR "len") [k] f (λs t=>O.call (d+1) (F 943) [g,s] t (λb c=>wp (ax c .Gt b p) λl=>match l with|I=>wp (aO c k b) (λm=>wp (truthy c m) λy=>match y with|I=>O.call (d+1) (F 943) [g,E.int 2] c (λz n=>wp (ax n .Eq z<|E.int 1) λA=>wp (setItem n e x<|E.tup [S "form",b,E.bool A]) λB=>i a b B) X|N=>wp (setItem c e x<|E.tup [S "form",b,m]) λM=>i a b M)|N=>wp (setItem c e x<|E.tup [S "form",b,E.bool l]) λP=>i a b P) X) X|N=>wp (ax f .Lt a<|E.int 7) λa0=>match a0 with|I=>wp (setItem f e x<|E.tup [S "image",E.int 0,E.bool N]) λa1=>h a a1|N=>O.call (d+1) (F 943) [g,E.int 2] f (λa2 j=>wp (ax j .Eq a2<|E.int 1) λa3=>match a3 with|I=>wp (setItem j e x<|E.tup [S "odd",E.int 0,E.bool N]) λa4=>h a a4|N=>h a j) X) X
theorem OG (f:rI O d x a b c e h (λw s=>k .next (oT d a b c e x w) s) (λw g s=>k .next (lT d a b c e x w g) s) X):eN O 965 0 x (tO d a b c e) h k X:=aj (by kernel_rfl) f
theorem IB (i:rI O d x c e f h j (λw s=>k .next (oT d c e f h x w) s) (λw g s=>k .next (lT d c e f h x w g) s) X):eN O 965 0 x (oT d c e f h a b) j k X:=aj (by kernel_rfl) i
theorem Hv (j:rI O d x e f h i l (λw s=>k .next (lT d e f h i x w c) s) (λw g s=>k .next (lT d e f h i x w g) s) X):eN O 965 0 x (lT d e f h i a b c) l k X:=aj (by kernel_rfl) j
def uD (O:Or)(d:Nat)(x g h c:E)(b:R)(e:E->E->E->R->Prop)(X:Prop):Prop:=wp (aO b h x) λi=>wp (gy b i 3) λa=>wp (ax b .Eq (a.getD 0 E.none)<|S "form") λj=>match j with|I=>wp (truthy b<|a.getD 2 E.none) (λk=>match k with|I=>wp (aO b g<|a.getD 1 E.none) λl=>wp (setItem b c x l) λm=>e (a.getD 0 E.none) (a.getD 1 E.none) (a.getD 2 E.none) m|N=>wp (bA N N b .Add (E.int 10)<|a.getD 1 E.none) λf=>O.call (d+1) (F 275) [f.1,E.int 0] f.snd (λn p=>wp (setItem p c x n) λq=>e (a.getD 0 E.none) (a.getD 1 E.none) (a.getD 2 E.none) q) X)|N=>wp (ax b .Eq (a.getD 0 E.none)<|S "image") λr=>match r with|I=>O.call (d+1) (F 204) [S "Image"] b (λs t=>O.call (d+1) (F 247) [E.aa [(Q "Subtype",s)],E.dk {toList:=[]}] t (λy z=>wp (setItem z c x y) λA=>e (a.getD 0 E.none) (a.getD 1 E.none) (a.getD 2 E.none) A) X) X|N=>O.call (d+1) (F 204) [S "PS"] b (λB M=>O.call (d+1) (F 247) [E.aa [(Q "Subtype",B)],E.dk {toList:=[]}] M (λP a0=>wp (setItem a0 c x P) λa1=>e (a.getD 0 E.none) (a.getD 1 E.none) (a.getD 2 E.none) a1) X) X
theorem GS (h:uD O d x e f g i (λa b c s=>k .next (oA d j l e f g x a b c) s) X):eN O 984 0 x (qA d j l e f g) i k X:=aj (by kernel_rfl) h
theorem H9 (i:uD O d x f g h j (λa b c s=>k .next (oA d l m f g h x a b c) s) X):eN O 984 0 x (oA d l m f g h a b c e) j k X:=aj (by kernel_rfl) i
section
variable (O:Or)(d:Nat)(f l:E)(a:R)(k:R->Prop)(X:Prop)
def jr (m:cL)(w b:E)(a:R):Prop:=O.call (d+1) (F 927) [w,b] a (λv s=>O.aE (d+1) f (Q "append") m [v] s (λ_ s=>k s) X) X
def rG (b:E):Prop:=wp (aV a f<|Q "append") λc=>wp (aO a l<|E.int 0) λe=>O.call (d+1) (F 155) [e,E.int 1] a (λg h=>jr O d f k X c b (E.lst [g]) h) X
def AM (b:E):Prop:=wp (aV a f<|Q "append") λc=>wp (aO a l<|E.int 0) λe=>O.call (d+1) (F 204) [e] a (λg h=>jr O d f k X c b (E.lst [g]) h) X
def Cm (b:E):Prop:=wp (aV a f<|Q "append") λc=>O.call (d+1) (F 226) [E.dk {toList:=[]}] a (λe g=>jr O d f k X c b (E.lst [E.aa [],e]) g) X
def tX (b:E):Prop:=wp (aV a f<|Q "append") λc=>wp (ax a .Eq b<|S "W") λh=>match h with|I=>wp (kM N N a (E.ag<|cX "list") l) λe=>jr O d f k X c (S "re") e.1 e.snd|N=>wp (kM N N a (E.ag<|cX "list") l) λg=>jr O d f k X c b g.1 g.snd
def kb (b:E):Prop:=wp (ax a .Eq b<|S "g") λc=>match c with|I=>rG O d f l a k X b|N=>wp (ax a .Eq b<|S "Do") λe=>match e with|I=>AM O d f l a k X b|N=>wp (ax a .Eq b<|S "BI") λg=>match g with|I=>Cm O d f a k X b|N=>tX O d f l a k X b
variable {O d f l a k X}
theorem NM (h:rG O d f l a k X<|S "g"):kb O d f l a k X<|S "g" :=aj (by kernel_rfl) h
theorem MA (h:AM O d f l a k X<|S "Do"):kb O d f l a k X<|S "Do" :=aj (by kernel_rfl) h
theorem GB (h:Cm O d f a k X<|S "BI"):kb O d f l a k X<|S "BI" :=aj (by kernel_rfl) h
theorem An (e:kb O d f l a k X (S s)=tX O d f l a k X (S s))(h:tX O d f l a k X<|S s):kb O d f l a k X<|S s:=e▸h
end
end
mutual
open Mine
theorem Jx (g:wp (ax a .Eq c<|S "W") λh=>match h with|I=>wp (aV a b<|Q "append") λi=>jr O d b (k Fl.next<|gi d e b c f) X i (S "W") (E.lst []) a|N=>k Fl.next (gi d e b c f) a):cE O 991 0 1 2 (gi d e b c f) a k X:=aj (by kernel_rfl) g
theorem wI (h:wp (ax a .In c<|E.tup [S "re",S "W"]) λi=>match i with|I=>wp (aV a b<|Q "append") (λg=>wp (ax a .Eq c<|S "re") λj=>match j with|I=>jr O d b (k Fl.next<|gi d e b c f) X g (S "f") (E.lst []) a|N=>jr O d b (k Fl.next<|gi d e b c f) X g (S "n") (E.lst []) a)|N=>k Fl.next (gi d e b c f) a):cE O 991 0 2 1000 (gi d e b c f) a k X:=aj (by kernel_rfl) h
theorem JR (f:kb O d a b c (λs=>k .next (gi d g a e b) s) X e):eu (qW d g a) c (cN 991 0) (.tup [e,b]) λh=>cE O 991 0 0 1 h c k X:=aj (by kernel_rfl) f
theorem Hl (h:kb O d c e f (λs=>k .next (gi d i c g e) s) X g):eu (gi d i c a b) f (cN 991 0) (.tup [g,e]) λj=>cE O 991 0 0 1 j f k X:=aj (by kernel_rfl) h
end
end
mutual
section
open PySem Sh
inductive ba (a:R)(s P:Nat):Prop
 |mk:∀(b:List Int) (c:Int) (d:Nat),b≠[]->b.length<=60->0<=c->d<=P->s<a.next->a.get s=H (.lst [.lst<|b.map .int,.int c,.int d])->ba a s P
theorem ba.le (h:ba a s P)(q:P<=b):ba a s b:=by
 obtain ⟨c,r,p,d,e,f,g,i,j⟩:=h
 exact ⟨c,r,p,d,e,f,ai g q,i,j⟩
theorem ba.lt (h:ba a s P):s<a.next:=by
 obtain ⟨c,r,p,d,e,f,g,b,_⟩:=h
 exact b
theorem ba.fr (h:ba b s P)(f:Fr b d L)(e:s∉L):ba d s P:=by
 obtain ⟨c,r,p,g,i,j,k,a,l⟩:=h
 exact ⟨c,r,p,g,i,j,k,bE a f.next,by refine J (f.get _ a e) ?_;exact l⟩
section
variable {n:bV}{d L':Nat}{a:R}{X:Prop}
theorem pD (b:y≠0)(h:k (.int<|x.fmod y,a)):wp (bA N N a .Mod (.int x)<|.int y) k:=fy (c:=.p<|y≠0) rfl b h
theorem wu (b:y≠0/\y.natAbs<2 ^ 64)(h:k (.int<|x.fdiv y,a)):wp (bA N N a .FloorDiv (.int x)<|.int y) k:=fy (c:=.p<|y≠0/\y.natAbs<2 ^ 64) rfl b h
theorem xk (b:bg x y)(h:k (.int<|x*y,a)):wp (bA N N a .Mult (.int x)<|.int y) k:=fy (c:=.p<|bg x y) rfl b h
theorem rp (h:a.get l=H (.lst b))(c:i<b.length)(f:b.length<=1000000)(g:k<|a.set l<|.lst<|b.set i v):wp (setItem a (.loc l) (.int i) v) k:=by
 have e:setItem a (.loc l) (.int i) v=.ok (.p<|b.length<=1000000) (a.set l<|.lst<|b.set i v):=by
  show mF a l _ _ (a.get l)=_
  refine J h ?_
  show (oo (match aP<|0<=(i:Int)/\(i:Int)<b.length with|I=>H<|au.lst<|b.set i v|N=>T)>>=λj=>ask (b.length<=1000000)>>=λ_=>aS<|a.set l j)=_
  refine J (decide_eq_true ⟨hA i,jk.mpr c⟩) ?_
  rfl
 exact fy e f g
theorem Oj (h:a.get l=H (.lst b))(c:b.length=m)(f:k b):wp (gy a (.loc l) m) k:=by
 have e:gy a (.loc l) m=.ok .t b:=by
  show oo (Cv m<|fh l<|a.get l)=_
  refine J h ?_
  show oo (match aP<|b.length=m with|I=>H b|N=>T)=_
  refine J (decide_eq_true c) ?_
  rfl
 exact aR e f
theorem CR (e:Lv (L'+1) n d)(b:k (.int c.length) a):(On n).call d (.ag<|.builtin "len") [.lst c] a k X:=hK<|aR rfl b
theorem AF (c b:Nat):(c:Int).fmod b=((c % b:Nat):Int):=by
 refine J (tF _<|dO.mpr<|by simp+arith only) ?_
 rfl
theorem BW (x:Int)(m:Nat)(h:0<m):∃v:Nat,x.fmod m=v/\v<m:=by
 have c:0<=x.fmod m:=by refine J (tF _<|dO.mpr<|by simp+arith only) ?_;exact Tp _ λe=>absurd (lq e)<|dN h
 have b:x.fmod m<m:=by refine J (tF _<|dO.mpr<|by simp+arith only) ?_;exact Int.emod_lt_of_pos _<|jk.mpr<|qc h
 exact ⟨(x.fmod m).toNat,(sZ<|by assumption).symm,(Int.toNat_lt<|by assumption).mpr b⟩
theorem dD (O:Lv 3 n d)(a0:ba a s P)(a1:P<=1000000000)(b:0<m)(h1:m<=1000)(f:∀(v:Nat) g,v<m->Fr a g [s]->ba g s (P+1)->k (.int v) g):(On n).call d (F 943) [.loc s,.int m] a k X:=by
 refine cq O λa2=>?_
 refine Lr ?_
 obtain ⟨c,r,p,h,i,x3,x4,q,t⟩:=a0
 have e1:(p:Int)+1=((p+1:Nat):Int):=rfl
 refine Oj t rfl<|gb<|rp (i:=2) t (aT _) (by simp)<|ji ?_
 have x:∀z,Fr a (a.set s z) [s]:=λz=>(Fr.refl _ _).set<|.inr<|.head _
 by_cases A:0<r
 .refine J (decide_eq_true A) ?_
  have B:(m:Int)≠0/\(m:Int).natAbs<2 ^ 64:=⟨Fj.mpr<|dN b,dH h1<|by decide⟩
  refine wu B<|rp (i:=1) bP (bZ _ _) (by simp)<|pD B.1 ?_
  refine aK (BW r m b) λv e j=>?_
  refine J e ?_
  refine f v _ j ((x _).set<|.inr<|.head _) ?_
  refine ⟨c,r.fdiv m,p+1,h,i,?_,by exact hy<|by assumption,q,bP⟩
  refine J (Int.fdiv_eq_ediv_of_nonneg _<|dO.mpr<|by simp+arith only) ?_
  exact Int.ediv_nonneg (by assumption)<|dO.mpr<|by simp+arith only
 .refine J (decide_eq_false A) ?_
  have l:0<c.length:=List.length_pos_iff.mpr h
  have a3:(c.length:Int)≠0:=Fj.mpr<|dN l
  have a4:(c.length:Int)≠0/\(c.length:Int).natAbs<2 ^ 64:=⟨λe=>absurd (lq e)<|dN l,dH i<|by decide⟩
  have M:∀{k} {a},k (.int c.length) a->(On n).call (d+1) (.ag<|.builtin "len") [.lst<|c.map .int] a k X:=λ{k a} f=>CR (L':=0) (a2.le<|by exact ab _ _)<|by rw [cb];exact f
  refine M<|pD a3 ?_
  rw [AF]
  have a5:p % c.length<c.length:=Tq _ l
  refine kD (g:=p % c.length) (v:=.int c[p % c.length]) (by refine J hD ?_;refine J (iQ a5) ?_;rfl) ?_
  refine M<|wu a4 ?_
  have a6:bq<|3*(p:Int)+5:=⟨fp (by decide)<|Int.add_nonneg (Int.mul_nonneg (by decide)<|hA p)<|by decide,fp (Int.add_le_add_right (Int.mul_le_mul_of_nonneg_left (dO.mpr<|ai x4 a1)<|by decide) 5)<|by decide⟩
  refine xk (es ⟨by decide,by decide⟩)<|gb<|xk (jh a6)<|wu (by decide)<|gb<|pD (λe=>absurd (lq e)<|dN b) ?_
  dsimp only
  generalize c[p % c.length]+_=y
  refine aK (BW y m b) λv e j=>?_
  simp only [e]
  refine f v _ j (x _) ?_
  exact ⟨c,r,p+1,h,i,x3,by exact hy<|by assumption,q,bP⟩
end
end
mutual
open Mine
theorem zM 
  (h:hR (ei (On n) 35) 20 a d t (λc a d=>match c with|I=>dT (On n) 35 a d b (λe a d=>match e with|.next=>(On n).ec a d t b k X|.ret v=>k (.ret v) a d) X|N=>k .next a d) X):(On n).ec a d t b k X:=
 n.r.ec (V:=λk X a d=>(On n).ec a d t b k X) (Le.refl _) id h
theorem BO (a):∀x,(cZ x a).isSome=I->a.countP λp=>aP<|x+1<=p.1<a.countP λp=>aP<|x<=p.1:=by
 induction a with
 |nil=>
  intro x h
  exact ff h
 |cons b r c=>
  obtain ⟨y,u⟩:=b
  intro x h
  refine J tC ?_;refine J tC ?_
  have d:r.countP λp=>aP<|x+1<=p.1<=r.countP λp=>aP<|x<=p.1:=List.countP_mono_left λp _ h=>by simp at h |-;exact fx h<|by simp+arith only
  by_cases e:y=x
  .subst e
   refine J (if_neg<|by simp;simp+arith only) ?_;refine J (if_pos<|by simp) ?_
   exact hy d
  .have f:(cZ x r).isSome=I:=by
    rw [ni,if_neg e] at h
    exact h
   have:=c x f
   by_cases q:x<=y
   .refine J (if_pos (c:=aP (x<=y)=I)<|by simp;assumption) ?_;split;(next=>exact Nat.succ_lt_succ this);(next=>exact tv this)
   .refine J (if_neg (c:=aP (x+1<=y)=I)<|by simp;exact fx (pM.mp q)<|by simp+arith only) ?_;refine J (if_neg<|by simp;exact fx (pM.mp q)<|by simp+arith only) ?_;exact ai this<|bZ _ _
theorem rO:cZ j (eM i v a)=if i=j then H v else cZ j a:=by
 induction a with
 |nil=>rfl
 |cons p r b=>
  obtain ⟨y,u⟩:=p
  refine J vA ?_
  by_cases e:y=i
  .subst e
   refine J (if_pos rfl) ?_;refine J ni ?_;refine J ni ?_
   by_cases q:y=j
   .refine J (if_pos q) ?_;exact J (if_pos q) rfl
   .refine J (if_neg q) ?_;refine J (if_neg q) ?_;exact J (if_neg q) rfl
  .refine J (if_neg e) ?_;refine J ni ?_;refine J b ?_;refine J ni ?_
   by_cases q:y=j
   .refine J (if_pos q) ?_;refine J (if_pos q) ?_;exact J (if_neg<|by grind) rfl
   .refine J (if_neg q) ?_;exact J (if_neg q) rfl
theorem yK:(eM i v a).length<=a.length+1:=by
 induction a with
 |nil=>exact aT _
 |cons p r b=>
  obtain ⟨y,u⟩:=p
  refine J vA ?_
  split<;>simp<;>assumption
section
variable {n:bV}{d L':Nat}{a:R}{X:Prop}
theorem DI (h:a.get b=H (.tab c))(f:k (cZ i c).isSome):wp (ax a .In (.int i)<|.loc b) k:=by
 have e:ax a .In (.int i) (.loc b)=.ok .t (cZ i c).isSome:=by
  show oo (oD a _<|fh b<|a.get b)=_
  refine J h ?_
  show oo ((sz<|a.get b).bind _)=_
  refine J h ?_
  rfl
 exact aR e f
theorem B6 (h:a.get b=H (.tab c))(f:c.length<=1000000)(g:k<|a.set b<|.tab<|eM i v c):wp (setItem a (.loc b) (.int i) v) k:=by
 have e:setItem a (.loc b) (.int i) v=.ok (.p<|c.length<=1000000) (a.set b<|.tab<|eM i v c):=by
  show mF a b _ _ (a.get b)=_
  refine J h ?_
  rfl
 exact fy e f g
theorem gj (h:a.get l=H (.aa b))(c:b.length<=1000000)(f:k<|a.set l<|.aa<|bc x v b):wp (setItem a (.loc l) (.str x) v) k:=by
 have e:setItem a (.loc l) (.str x) v=.ok (.p<|b.length<=1000000) (a.set l<|.aa<|bc x v b):=by
  show mF a l _ _ (a.get l)=_
  refine J h ?_
  rfl
 exact fy e c f
theorem QO (h:a.get l=H (bY r t))(m:a.get r=H (.tab b)):∀j i,b.countP λp=>aP<|i<=p.1<=j->1<=i->(∀i,1<=i->cZ i b=T->k .next (lP d (.loc l) v<|.int i) a)->
  (On n).ec (lP d (.loc l) v<|.int i) a (uy 362 0) (uj 362 0) k X:=by
 intro j
 induction j with
 |zero=>
  intro i f c e
  refine zM ?_
  refine B_ (f:=λg a=>k .next g a) ?_
  refine oV h<|DI m ?_
  cases q:(cZ i b).isSome with
  |true=>exact absurd (BO b i q)<|de.mpr<|ai f<|ab _ _
  |false=>exact e i c<|by simpa using q
 |succ j s=>
  intro i f c e
  refine zM ?_
  refine B_ (f:=λg a=>k .next g a) ?_
  refine oV h<|DI m ?_
  cases q:(cZ i b).isSome with
  |true=>
   have:=BO b i q
   exact gb<|s (i+1) (ay (bK this f)<|by simp+arith only) (fx c<|by simp+arith only) e
  |false=>exact e i c<|by simpa using q
theorem C0 (c:Lv 1 n d)(h:k (.inst 275 [(Q "number",e),(Q "generation",b)]) a):(On n).call d (F 275) [e,b] a k X:=by
 refine kH (f:=[]) (g:=I) (i:=I) c.lt ?_
 refine Ja ?_;exact h
theorem qj (b:Lv 1 n d)(h:k (.inst 204 [(Q "text",c)]) a):(On n).call d (F 204) [c] a k X:=by
 refine kH (f:=[]) (g:=I) (i:=I) b.lt ?_
 refine My ?_;exact h
theorem QE (b:Lv 1 n d)(h:k (.inst 226 [(Q "octets",c),(Q "is_hex",.bool N)]) a):(On n).call d (F 226) [c] a k X:=by
 refine kH (f:=[]) (g:=I) (i:=I) b.lt ?_
 refine Lm ?_;exact h
theorem vq (c:Lv 1 n d)(h:k (.inst 247 [(Q "head",e),(Q "octets",b)]) a):(On n).call d (F 247) [e,b] a k X:=by
 refine kH (f:=[]) (g:=I) (i:=I) c.lt ?_
 refine J7 ?_;exact h
theorem It (c:Lv 1 n d)(h:k (.inst 927 [(Q "word",e),(Q "operands",b)]) a):(On n).call d (F 927) [e,b] a k X:=by
 refine kH (f:=[]) (g:=I) (i:=I) c.lt ?_
 refine I6 ?_;exact h
theorem Qo (f:Lv 1 n d)(g:0<=t)(i:t<13)(h:k (kV t) a):(On n).call d (F 155) [.int t,.int 1] a k X:=by
 refine kH (f:=[]) (g:=I) (i:=I) f.lt ?_
 refine J_ ?_
 refine ⟨by decide,?_⟩
 by_cases b:t=0
 .subst b
  exact ⟨⟨by decide,by decide⟩,h⟩
 by_cases c:t=10
 .subst c
  exact ⟨⟨by assumption,by decide⟩,h⟩
 have e:(t.fmod 10==0)=N:=by
  rewrite [beq_eq_false_iff_ne];refine J (tF _<|by decide) ?_
  grind
 refine J e ?_
 unfold kV at h
 rw [if_neg b,if_neg c] at h
 exact h
theorem G9 {e c h:Nat}{b:List<|Int×E}{v:E}{k:E->R->Prop}(j:Lv 3 n d)(f:a.get e=H (bY c h))(g:a.get c=H (.tab b))(l:b.length<=1000)(m:∀i:Int,cZ i b=T->k (rf i) (a.set c<|.tab<|eM i (.tup [.int 0,v]) b)):(On n).call d (F 362) [.loc e,v] a k X:=by
 refine cq j λp=>?_
 refine Ge ?_
 refine QO f g 1000 1 (ai List.countP_le_length l) (by decide) λi r q=>?_
 show bB (On n) 362 2 _ a k X
 refine Qa ?_
 exact oV f<|B6 g (by exact ai (by assumption)<|by decide)<|C0 (p.le<|by exact ab _ _)<|m i q
theorem Ip (e:Lv 3 n d)(f:a.get h=H (bY b m))(j:a.get b=H (.tab c))(p:c.length<=1000)(l:k .none<|a.set b<|.tab<|eM i (.tup [g,v]) c):(On n).call d (F 355) [.loc h,.int i,g,v] a k X:=by
 refine cq e λq=>?_
 refine FX ?_
 exact oV f<|B6 j (by exact ai (by assumption)<|by decide) l
end
end
mutual
open Mine
def m_:aB->Bool
 |.Do _=>N|.Q=>N|.EX=>N|.zz=>N|_=>I
section
variable {n:bV}{d:Nat}{a:R}{X:Prop}
theorem QR {g:List Int}(y:Lv 4 n d)(b:∀s i,Fr a i []->a.next<=s->ba i s 0->k (.loc s) i):(On n).call d (F 936) [.lst<|g.map .int] a k X:=by
 refine cq y λz=>?_
 refine G7 ?_
 have A:∀(l:List Int) k,k (l.map .int) a->(On n).comp (cp 936 0) (cw 936 0) (l.map .int) (bI 936 0 d []) a k X:=by
  intro l
  induction l with
  |nil=>intro k b;exact gD b
  |cons x l B=>
   intro k b
   refine gC (z.le<|by exact aT _:Lv (2+1) _ _) λa1=>?_
   refine FI ?_
   exact hK<|aR (c:=.int x) rfl<|B (λM a=>k (.int x::M) a) b
 have j:∀c r,c≠[]->c.length<=60->0<=r->k (.loc a.next) (a.alloc<|.lst [.lst<|c.map .int,.int r,.int 0]):=λc r O h2 h3=>
  b _ _ (Fr.refl _ _).alloc (aT _) ⟨c,r,0,O,h2,h3,by exact aT _,fw _,eg⟩
 have m:(0:Int)<=12/\(12:Int)<=1000/\10<18446744073709551616:=⟨by decide,by decide,by decide⟩
 have a0:(0:Int)<=180/\(180:Int)<=1000/\10<18446744073709551616:=⟨by decide,by decide,by decide⟩
 have p:∀{x} {k},k (.int x.natAbs) a->(On n).call (d+1) (.ag<|.builtin "abs") [.int x] a k X:=λb=>hK<|aR rfl b
 rw [<-x_,<-x_]
 refine ⟨by rewrite [cb];refine J pK ?_;exact ai (D1 _ _)<|by decide,A _ _ ?_⟩
 have q:(g.take 60).length<=60:=by refine J pK ?_;exact ai (D1 _ _)<|by simp+arith only
 cases e:g.take 60 with
 |nil=>
  refine p ⟨m,sH ?_⟩
  exact j [6] 0 (by trivial) (by trivial)<|by decide
 |cons f t=>
  rw [e] at q
  refine kD (g:=0) (v:=.int f) rfl<|p ⟨m,sH ?_⟩
  by_cases h:(1000000000000:Int)<=(f.natAbs:Int)
  .simp only [decide_eq_true h]
   refine kD (g:=0) (v:=.int f) rfl<|p ⟨m,hZ ⟨a0,pD (by decide) ?_⟩⟩
   refine j (f::t) _ (by simp) q ?_
   refine J (tF _<|by decide) ?_
   exact Tp _<|by decide
  .refine J (decide_eq_false h) ?_
   exact j (f::t) 0 (by simp) q<|by decide
variable {s P:Nat}
theorem Bk (a0:Lv 6 n d)(i:ba a s P)(p:P<=100000000)(a1:∀(m:bo) j,m.bq->Fr a j [s]->ba j s (P+6)->k m.lst j):(On n).call d (F 948) [.loc s] a k X:=by
 refine cq a0 λB=>?_
 refine Mh ?_
 have q:∀{a} {l} {x} {r} {k},ba a s l->l<=200000000->(∀(v:Nat) j,v<5->Fr a j [s]->ba j s (l+1)->(On n).comp (cp 948 0) (cw 948 0) r (bI 948 0 d [(Q "source",.loc s)]) j (λy=>k<|.int ((v:Int) - 2)::y) X)->(On n).comp (cp 948 0) (cw 948 0) (x::r) (bI 948 0 d [(Q "source",.loc s)]) a k X:=by
  intro a l x r k i a2 h
  refine gC (B.le<|by exact aT _:Lv (4+1) _ _) λz=>?_
  refine Nt ?_
  exact dD (m:=5) (z.le<|by exact ab _ _) i (by exact ai (by assumption)<|by decide) (by decide) (by exact ab _ _) λv j A f i=>hZ<|h v j A f i
 have M:∀{a} {l} {x} {r} {k},ba a s l->l<=200000000->(∀(v:Nat) j,v<19->Fr a j [s]->ba j s (l+1)->(On n).comp (cp 948 1) (cw 948 1) r (bI 948 1 d [(Q "source",.loc s)]) j (λy=>k<|.int ((v:Int) - 9)::y) X)->(On n).comp (cp 948 1) (cw 948 1) (x::r) (bI 948 1 d [(Q "source",.loc s)]) a k X:=by
  intro a l x r k i a2 h
  refine gC (B.le<|by exact aT _:Lv (4+1) _ _) λz=>?_
  refine Jm ?_
  exact dD (m:=19) (z.le<|by exact ab _ _) i (by exact ai (by assumption)<|by decide) (by decide) (by exact ab _ _) λv j A f i=>hZ<|h v j A f i
 refine ⟨⟨by decide,by decide⟩,by exact ab _ _,?_⟩
 refine q i (by exact ai (by assumption)<|by decide) λa3 _ a4 f i=>q i (by exact ai (dt (by assumption) _)<|by decide) λb _ a5 f2 i=>q i (ay p<|by simp+arith only) λc _ a6 f3 i=>q i (ay p<|by simp+arith only) λe _ he f4 i=>gD ⟨⟨by decide,by decide⟩,by exact ab _ _,?_⟩
 refine M i (ay p<|by simp+arith only) λg _ a7 f5 i=>M i (ay p<|by simp+arith only) λh _ a8 f6 i=>gD ⟨by simp,?_⟩
 refine a1 ⟨a3 - 2,b - 2,c - 2,e - 2,g - 9,h - 9⟩ _ ?_ (((((f.trans f2).trans f3).trans f4).trans f5).trans f6) i
 have t:∀{v:Nat},v<5->bq ((v:Int) - 2):=λh=>(rE h<|by decide).bq<|by decide
 have O:∀{v:Nat},v<19->bq ((v:Int) - 9):=λh=>(rE h<|by decide).bq<|by decide
 exact ⟨t a4,t a5,t a6,t he,O a7,O a8⟩
theorem LL (b:bB O 953 0 (zU d c) a k X):aN O 953 d [c] a k X:=aj (by kernel_rfl) b
theorem Ng (a7:Lv 8 n d)(g:ba a s P)(a1:P<=10000000)(q:∀(x:aB) i,x.ok->m_ x=I->Fr a i [s]->ba i s (P+7)->k x.tup i):(On n).call d (F 953) [.loc s] a k X:=by
 refine cq a7 λz=>?_
 refine LL ?_
 refine cI 0 1 (by exact ab _ _) ?_
 refine Pe ?_
 refine dD (m:=7) (z.le<|by exact ab _ _) g (by exact ai (by assumption)<|by decide) (by decide) (by exact ab _ _) λv a2 A B M=>?_
 have j:∀{s t} {a},(U s==U t)=N->∀{k},k N->wp (ax a .Eq (S s)<|S t) k:=λe _ q=>cV (g:=N) e q
 have a5:∀w (O:Int->Int->Int->Int->aB),(∀l b c e,(O l b c e).tup=.tup [S w,.lst [.int l,.int b,.int c,.int e]]/\(O l b c e).ok=(box l b c e).bq/\m_ (O l b c e)=I)->(On n).comp (cp 953 0) (cw 953 0) [.int 0,.int 1,.int 2,.int 3] (bI 953 0 d [(Q "source",.loc s)]) a2 (λv7 s8=>k (.tup [S w,.lst v7]) s8) X:=by
  intro w O p
  have a0:∀{a} {P'} {x} {r} {k},ba a s P'->P'<=200000000->(∀(v:Nat) i,v<9->Fr a i [s]->ba i s (P'+1)->(On n).comp (cp 953 0) (cw 953 0) r (bI 953 0 d [(Q "source",.loc s)]) i (λa8=>k<|.int ((v:Int) - 4)::a8) X)->(On n).comp (cp 953 0) (cw 953 0) (x::r) (bI 953 0 d [(Q "source",.loc s)]) a k X:=by
   intro a P' x r k g b4 h
   refine gC (z.le<|by exact ab _ _:Lv (4+1) _ _) λa9=>?_
   refine Ph ?_
   exact dD (m:=9) (a9.le<|by exact ab _ _) g (by exact ai (by assumption)<|by decide) (by decide) (by exact ab _ _) λv i A f g=>hZ<|h v i A f g
  refine a0 M (by exact ai (dt (by assumption) _)<|by decide) λl _ b0 f g=>a0 g (ay a1<|by simp+arith only) λb _ b1 y g=>a0 g (ay a1<|by simp+arith only) λc _ b2 f3 g=>a0 g (ay a1<|by simp+arith only) λe _ he f4 g=>gD ?_
  have p:=p (l - 4) (b - 4) (c - 4)<|e - 4
  refine p.1▸?_
  refine q _ _ ?_ p.2.2 ((((B.trans f).trans y).trans f3).trans f4)<|g.le<|by simp+arith only
  simp only [p.2.1]
  have r:∀{v:Nat},v<9->rg 4 ((v:Int) - 4):=λh=>rE h<|by decide
  exact AJ (by decide) (by decide) (r b0) (r b1) (r b2)<|r he
 have a6:(0:Int)<=4/\(4:Int)<=1000000:=⟨by decide,by decide⟩
 have a3:∀x,x.ok->m_ x=I->k x.tup a2:=λx h1 h2=>q x a2 h1 h2 B<|M.le<|by exact gZ (by decide) _
 have A:v=0\/v=1\/v=2\/v=3\/v=4\/v=5\/v=6:=by grind
 rcases A with rfl|rfl|rfl|rfl|rfl|rfl|rfl
 .refine ix rfl ?_
  refine lx ?_
  exact j (by kernel_rfl)<|j (by kernel_rfl)<|h_ (r:=I) (by kernel_rfl) ⟨a6,by exact ab _ _,a5 "re" aB.re λl b c e=>⟨rfl,rfl,rfl⟩⟩
 .refine ix rfl ?_
  refine lx ?_
  refine cV (g:=I) (by kernel_rfl)<|Bk (z.le<|by exact ab _ _) M (by exact ai (dt (by assumption) _)<|by decide) λm i p y a4=>?_
  exact q (.cm m) i p rfl (B.trans y)<|a4.le<|by exact aT _
 .refine ix rfl ?_
  refine lx ?_
  exact j (by kernel_rfl)<|j (by kernel_rfl)<|h_ (r:=N) (by kernel_rfl)<|a3 .qq trivial rfl
 .refine ix rfl ?_
  refine lx ?_
  refine j (by kernel_rfl)<|cV (g:=I) (by kernel_rfl)<|dD (m:=13) (z.le<|by exact ab _ _) M (by exact ai (dt (by assumption) _)<|by decide) (by decide) (by exact ab _ _) λt i b3 y a4=>?_
  exact q (.gr t) i ⟨by exact dO.mpr<|by simp+arith only,by exact jk.mpr<|ai b3<|ab _ _⟩ rfl (B.trans y)<|a4.le<|by simp+arith only
 .refine ix rfl ?_
  refine lx ?_
  exact j (by kernel_rfl)<|j (by kernel_rfl)<|h_ (r:=I) (by kernel_rfl) ⟨a6,by exact ab _ _,a5 "W" aB.W λl b c e=>⟨rfl,rfl,rfl⟩⟩
 .refine ix rfl ?_
  refine lx ?_
  exact j (by kernel_rfl)<|j (by kernel_rfl)<|h_ (r:=N) (by kernel_rfl)<|a3 .BI trivial rfl
 .refine ix rfl ?_
  refine lx ?_
  exact j (by kernel_rfl)<|j (by kernel_rfl)<|h_ (r:=N) (by kernel_rfl)<|a3 .BX trivial rfl
end
end
mutual
open Mine
theorem wi (m)(f:j<=m)(g:m<=b)
  (h:cE (On n) a i j m c d (λl c d=>match l with|.next=>cE (On n) a i m b c d k X|.ret v=>k (.ret v) c d) X):cE (On n) a i j b c d k X:=by
 unfold cE at h |-
 have e:((cB a i).drop j).take (b - j)=((cB a i).drop j).take (m - j)++((cB a i).drop m).take (b - m):=by
  simp only [show b - j=m - j+(b - m) from ((Sy ..).trans<|Nat.sub_add_sub_cancel g f).symm,List.take_add,Fd,show j+(m - j)=m by exact S7<|ay f<|by simp+arith only]
 refine J e ?_;rewrite [vY]
 exact h
def qP (b:Bool)(o:Option hY)(l:List<|ae×E):List<|ae×E:=match o with
 |T=>l
 |H e=>(bC b,kL e)::l
def dC (a:cn):List<|ae×E:=qP I (a I)<|qP N (a N) []
theorem my:¬bC I=bC N:=by unfold bC Q;refine J zL ?_;decide
theorem Ca:¬bC N=bC I:=λh=>my h.symm
theorem Hi:∀a c b,aI (bC b) (qP I a<|qP N c [])=(bif b then a else c).map kL
 |T,T,I=>rfl
 |T,T,N=>rfl
 |T,H _,I=>if_neg Ca
 |T,H _,N=>if_pos rfl
 |H _,T,I=>if_pos rfl
 |H _,T,N=>if_neg my
 |H _,H _,I=>if_pos rfl
 |H _,H _,N=>(if_neg my).trans<|if_pos rfl
theorem vU (a):iE (dC a) a:=λb=>(Hi _ _ b).trans<|by cases b<;>rfl
def jg (a:List Bool)(d:Int)(e:cn):Prop:=∀b g c,e b=H (.cx g c)->g<a.length/\(c=I->d<g/\a[g]?=H I)
section
variable {n:bV}{d s P:Nat}{a:R}{X:Prop}
theorem iI (h:k<|x==y):wp (ax a .Eq (.int x)<|.int y) k:=aR rfl h
def oC (b:Bool)(e:Option hY)(c:List<|ae×E):List<|ae×E:=match e with
 |T=>c
 |H e=>bc (bC b) (kL e) c
def yU (d:Nat)(f b c e:E)(g:Y):Prop:=g=tO d f b c e\/(∃x y,g=oT d f b c e x y)\/∃x y z,g=lT d f b c e x y z
theorem DG {l:List Bool}(a3:Lv 5 n<|d+1)(c5:ba a s P)(c6:P<=100000000)(c7:a.get j=H (.aa fd))(b7:j≠s)(b8:0<l.length/\l.length<=900)(d2:fd.length<=100)(hf:yU d (.loc s) (.lst<|l.map .bool) (.int a0) (.loc j) c8)
  (c9:j<a.next)
  (a1:∀(e:Option hY) i b9,(∀g M,e=H (.cx g M)->g<l.length/\(M=I->a0<g/\l[g]?=H I))->yU d (.loc s) (.lst<|l.map .bool) (.int a0) (.loc j) b9->Fr a i [s,j]->ba i s (P+3)->i.get j=H (.aa<|oC b e fd)->k .next b9 i):
  eN (On n) 965 0 (.str<|bC b) c8 a k X:=by
 have a9:∀b0 b1,
   (∀e v i,(∀g M,e=H (.cx g M)->g<l.length/\(M=I->a0<g/\l[g]?=H I))->Fr a i [s,j]->ba i s (P+3)->i.get j=H (.aa<|oC b e fd)->b0 v i)->
   (∀e v w i,(∀g M,e=H (.cx g M)->g<l.length/\(M=I->a0<g/\l[g]?=H I))->Fr a i [s,j]->ba i s (P+3)->i.get j=H (.aa<|oC b e fd)->b1 v w i)->
   rI (On n) d (.str<|bC b) (.loc s) (.lst<|l.map .bool) (.int a0) (.loc j) a b0 b1 X:=by
  intro b0 b1 b2 b3
  have c0:∀{i},Fr a i [s]->Fr a i [s,j]:=λf=>f.sub<|by simp
  have c1:∀{i},Fr a i [s]->i.get j=H (.aa fd):=λf=>by refine J (f.get _ c9<|by simp [b7]) ?_;exact c7
  have a4:∀{i} {v} {c2},Fr a i [s]->c2 (i.set j<|.aa<|bc (bC b) v fd)->wp (setItem i (.loc j) (.str<|bC b) v) c2:=λf h=>gj (c1 f) (by exact ai (by assumption)<|by decide) h
  have a5:∀{i} {o},Fr a i [s]->Fr a (i.set j o) [s,j]:=λf=>(c0 f).set<|.inr<|.tail _<|.head _
  have a6:∀{i} {o} {c3},ba i s c3->c3<=P+3->ba (i.set j o) s (P+3):=λh q=>by
   obtain ⟨c,r,p,y1,y2,y3,y4,y5,y6⟩:=h
   exact ⟨c,r,p,y1,y2,y3,by exact ai (by assumption)<|by assumption,y5,by refine J (kj<|fu b7) ?_;exact y6⟩
  refine dD (m:=8) (a3.le<|by exact ab _ _) c5 (by exact ai (by assumption)<|by decide) (by decide) (by exact ab _ _) λv d3 d4 O b4=>pB ?_
  by_cases h5:(v:Int)<5
  .refine J (decide_eq_true h5) ?_
   refine CR (a3.le<|by exact ab _ _:Lv (1+1) _ _) ?_
   rw [cb]
   refine dD (m:=l.length) (a3.le<|by exact ab _ _) b4 (by exact ai (dt (by assumption) _)<|by decide) b8.1 (ai b8.2<|ab _ _) λg d5 a7 f2 b5=>ji ?_
   have a2:=O.trans f2
   by_cases b6:a0<(g:Int)
   .refine J (decide_eq_true b6) ?_
    refine kD (g:=g) (v:=.bool l[g]) (by refine J hD ?_;refine J (iQ a7) ?_;rfl)<|en ?_
    cases d0:l[g] with
    |true=>
     refine dD (m:=2) (a3.le<|by exact ab _ _) b5 (ay c6<|by simp+arith only) (by decide) (by exact ab _ _) λw d1 hw f3 a8=>iI ?_
     refine a4 (a2.trans f3)<|b3 (H<|.cx g<|(w:Int)==1) _ _ _ ?_ (a5<|a2.trans f3) (a6 a8<|by exact aT _) bP
     intro g' c4 e
     cases e
     exact ⟨a7,λ_=>⟨b6,by refine J (iQ a7) ?_;exact J d0 rfl⟩⟩
    |false=>
     refine a4 a2<|b3 (H<|.cx g N) _ _ _ ?_ (a5 a2) (a6 b5<|by exact dX _) bP
     intro g' c4 e
     cases e
     exact ⟨a7,λh=>ff h⟩
   .refine J (decide_eq_false b6) ?_
    refine a4 a2<|b3 (H<|.cx g N) _ _ _ ?_ (a5 a2) (a6 b5<|by exact dX _) bP
    intro g' c4 e
    cases e
    exact ⟨a7,λh=>ff h⟩
  .refine J (decide_eq_false h5) ?_
   refine pB ?_
   by_cases h7:(v:Int)<7
   .simp only [decide_eq_true h7]
    exact a4 O<|b2 (H .eb) _ _ (λ_ _ e=>nomatch e) (a5 O) (a6 b4<|by exact gZ (by decide) _) bP
   .refine J (decide_eq_false h7) ?_
    refine dD (m:=2) (a3.le<|by exact ab _ _) b4 (by exact ai (dt (by assumption) _)<|by decide) (by decide) (by exact ab _ _) λw d1 hw f3 a8=>iI ?_
    cases (w:Int)==1 with
    |true=>exact a4 (O.trans f3)<|b2 (H .odd) _ _ (λ_ _ e=>nomatch e) (a5<|O.trans f3) (a6 a8<|by exact dX _) bP
    |false=>exact b2 T _ _ (λ_ _ e=>ao e) (c0<|O.trans f3) (a8.le<|by exact dX _)<|c1<|O.trans f3
 rcases hf with rfl|⟨x,y,rfl⟩|⟨x,y,z,rfl⟩
 .refine OG ?_
  exact a9 _ _ (λe v i m t A B=>a1 e i _ m (.inr<|.inl ⟨_,_,rfl⟩) t A B) λe v w i m t A B=>a1 e i _ m (.inr<|.inr ⟨_,_,_,rfl⟩) t A B
 .refine IB ?_
  exact a9 _ _ (λe v i m t A B=>a1 e i _ m (.inr<|.inl ⟨_,_,rfl⟩) t A B) λe v w i m t A B=>a1 e i _ m (.inr<|.inr ⟨_,_,_,rfl⟩) t A B
 .refine Hv ?_
  exact a9 _ _ (λe v i m t A B=>a1 e i _ m (.inr<|.inr ⟨_,_,_,rfl⟩) t A B) λe v w i m t A B=>a1 e i _ m (.inr<|.inr ⟨_,_,_,rfl⟩) t A B
theorem Qm (e:O.bH (cN 965 0) (cB 965 0) [.str<|bC I,.str<|bC N] (tO d f b c<|.loc a.next) (a.alloc<|.aa []) (eO O 965 2 k X) X):aN O 965 d [f,b,c] a k X:=aj (by kernel_rfl) e
theorem zB (a6:Lv 8 n d)(a0:ba a s P)(b4:P<=10000000)(a1:0<j.length/\j.length<=900)
  (a7:∀(nm:cn) m,jg j a8 nm->Fr a m [s]->ba m s (P+6)->k (.aa<|dC nm) m):(On n).call d (F 965) [.loc s,.lst<|j.map .bool,.int a8] a k X:=by
 refine cq a6 λa2=>?_
 refine Qm ?_
 refine ?_
 have q:Fr a (a.alloc<|.aa []) []:=(Fr.refl _ _).alloc
 have t:a.next≠s:=by have:=a0.lt;exact dN<|by assumption
 refine hV (a2.le<|by exact ab _ _:Lv (5+1) _ _) λA=>DG A (a0.fr q<|by simp) (by exact ai (by assumption)<|by decide) eg t a1 (by trivial) (.inl rfl) (fw _) λh a9 b5 x1 y1 B u1 b0=>?_
 have a3:a.next<a9.next:=bE (fw _) B.next
 refine hV (a2.le<|by exact ab _ _:Lv (5+1) _ _) λA=>DG (b:=N) A u1 (by exact ai (dt (by assumption) _)<|by decide) b0 t a1 ?_ y1 a3 λM a4 b6 x2 y2 z2 u2 b1=>?_
 .cases h with
  |none=>trivial
  |some e=>exact mq _
 refine jz ?_
 have b2:Fr a a4 [s]:=⟨ai q.next<|ai B.next z2.next,λl f i=>by
  refine J (z2.get l (ai f<|ig a3)<|by simp at i |-;exact ⟨i,cA f⟩) ?_;refine J (B.get l (tv f)<|by simp at i |-;exact ⟨i,cA f⟩) ?_;exact J (q.get l f<|by simp) rfl⟩
 have b3:oC N M (oC I h [])=dC λb=>match b with|I=>h|N=>M:=by
  cases h<;>cases M<;>rfl
 have O:wp (bG a4<|.loc a.next) λv0=>k v0.1 v0.snd:=by
  refine pe b1 ?_
  refine J b3 ?_
  refine a7 _ _ ?_ (b2.free<|.inl<|aT _) ?_
  .intro b g a5 e
   cases b with
   |true=>exact x1 g a5 e
   |false=>exact x2 g a5 e
  .obtain ⟨c,r,p,v1,v2,v3,v4,v5,v6⟩:=u2
   exact ⟨c,r,p,v1,v2,v3,v4,v5,by refine J vT ?_;refine J (if_neg<|fu t) ?_;exact v6⟩
 rcases y2 with rfl|⟨x,y,rfl⟩|⟨x,y,z,rfl⟩
 .exact O
 .refine QF ?_;exact O
 .refine QC ?_;exact O
end
end
mutual
open Mine
theorem Ql (b:bB O 958 0 (B2 d a) c k X):aN O 958 d [a] c k X:=aj (by kernel_rfl) b
theorem F4 (f:bB O 970 0 (AQ d a b c e) g k X):aN O 970 d [a,b,c,e] g k X:=aj (by kernel_rfl) f
theorem vG {a:List aB}(h:∀x∈a,m_ x=I):a.countP fE=0:=by
 rw [S9]
 intro x b
 have:=h x b
 cases x<;>first|exact jY|exact ff this
section
variable {n:bV}{d s P:Nat}{a:R}{X:Prop}
theorem HH {v:Nat}(c:v<2)(e:∀b,k<|.str<|bC b):wp (aO a (S "AB")<|.int v) k:=by
 have c:v=0\/v=1:=by grind
 rcases c with rfl|rfl
 .exact aR (c:=.str<|bC I) (by kernel_rfl)<|e I
 .exact aR (c:=.str<|bC N) (by kernel_rfl)<|e N
theorem oZ {m:Nat}(h:m<=1000000)(b:k<|(ib m).map λ(i:Nat)=>E.int i):wp (ju<|.int m) k:=by
 refine fy (c:=.p<|0<=(m:Int)/\(m:Int)<=1000000) (e:=(ib m).map λ(i:Nat)=>E.int i) ?_ ⟨by exact dO.mpr<|by simp+arith only,by exact dO.mpr<|ai h<|ab _ _⟩ b
 rfl
theorem C_ (h:a.get l=H (.lst b))(c:i<=b.length)(f:b.length<1000000)(e:k .none<|a.set l<|.lst<|b.take i++v::b.drop i):(On n).aE d (.loc l) (Q "insert") .blt [.int i,v] a k X:=by
 refine vM (b:=b.take i++v::b.drop i) (r:=.none) h ?_ ?_ e
 .have:lX (Q "insert") [.int i,v] b=match aP<|0<=(i:Int)/\(i:Int)<=b.length with|I=>H (b.take (i:Int).toNat++v::b.drop (i:Int).toNat,E.none)|N=>T:=by kernel_rfl
  refine J this ?_;refine J (decide_eq_true ⟨hA i,dO.mpr c⟩) ?_
  rfl
 .simp;grind
theorem NH {k:E->R->Prop}(b3:Lv 12 n d)(a2:ba a s P)(t:P<=1000000)
  (O:∀(f:List aB) l m,(∀x∈f,x.ok/\(m_ x=I\/fE x=I))->dc f->f.length<=3->Fr a m [s]->ba m s (P+30)->a.next<=l->l<m.next->m.get l=H (.lst<|f.map aB.tup)->k (.loc l) m):(On n).call d (F 958) [.loc s] a k X:=by
 refine cq b3 λa0=>?_
 refine Ql ?_
 refine cI 0 1 (by exact ab _ _) ?_
 refine L3 ?_
 refine dD (m:=3) (a0.le<|by exact ab _ _) a2 (by exact ai (by assumption)<|by decide) (by decide) (by exact ab _ _) λv a3 A f1 a4=>oZ (ay A<|by simp+arith only) ?_
 have b4:∀(B:List E) (a:R) (P':Nat) (k:List E->R->Prop),ba a s P'->P'+7*B.length<=2000000->(∀(f:List aB) m,f.length=B.length->(∀x∈f,x.ok/\m_ x=I)->Fr a m [s]->ba m s (P'+7*B.length)->k (f.map aB.tup) m)->
   (On n).comp (cp 958 0) (cw 958 0) B (bI 958 0 d [(Q "source",.loc s)]) a k X:=by
  intro B
  induction B with
  |nil=>intro a P' k a2 _ O;exact gD<|O [] a rfl (by simp) (Fr.refl _ _) a2
  |cons x B b5=>
   intro a P' k a2 t O
   replace t:=fM▸t
   refine gC (a0.le<|by exact aT _:Lv (10+1) _ _) λb6=>?_
   refine K_ ?_
   refine Ng (b6.le<|by exact ab _ _) a2 (by exact ai (dg<|by assumption)<|by decide) λy a3 h1 h2 f1 a4=>b5 a3 (P'+7) (λb7 a=>k (y.tup::b7) a) a4 (ay t<|by simp+arith only) λf j M q f2 a1=>?_
   refine O (y::f) j (by simp [M]) ?_ (f1.trans f2)<|a1.le<|by refine J fM ?_;simp+arith only
   intro z a5
   rcases bF.mp a5 with rfl|a5
   .exact ⟨h1,h2⟩
   .exact q z a5
 refine ⟨by simp;exact ay A<|by simp+arith only,b4 _ a3 (P+1) _ a4 (by simp;exact ay (bK t<|eA 7 A)<|by simp+arith only) λf j M q f2 a1=>?_⟩
 have M:f.length=v:=by simpa using M
 have a1:ba j s<|P+15:=a1.le<|by simp;exact ay (eA 7 A)<|by simp+arith only
 have a9:=f1.trans f2
 have a6:a.next<=j.next:=a9.next
 refine GG ?_
 have b0:Fr j (j.alloc<|.lst<|f.map aB.tup) []:=(Fr.refl _ _).alloc
 refine dD (m:=4) (a0.le<|by exact ab _ _) (a1.fr b0<|by simp) (by exact ai (dt (by assumption) _)<|by decide) (by decide) (by exact ab _ _) λw a7 hw f3 b1=>ji ?_
 have ne:j.next≠s:=by have:=a1.lt;exact dN<|by assumption
 have g3:a7.get j.next=H (.lst<|f.map aB.tup):=by refine J (f3.get _ (fw _)<|by simp [ne]) ?_;exact eg
 have l3:j.next<a7.next:=bE (fw _) f3.next
 have b2:Fr a a7 [s]:=(a9.trans<|b0.sub<|by simp).trans f3
 by_cases h0:(0:Int)<(w:Int)
 .refine J (decide_eq_true h0) ?_
  refine B4 g3<|oK (a0.le<|by exact ab _ _:Lv (1+1) _ _) g3<|gb ?_
  rw [cb]
  refine dD (m:=f.length+1) (a0.le<|by exact ab _ _) b1 (ay t<|by simp+arith only) (by simp+arith only) (ay (bK (bh M) A)<|by simp+arith only) λi c5 b8 f4 b9=>?_
  refine dD (m:=2) (a0.le<|by exact ab _ _) b9 (ay t<|by simp+arith only) (by decide) (by exact ab _ _) λb a8 c0 f5 c1=>HH c0 λb=>?_
  have g5:a8.get j.next=H (.lst<|f.map aB.tup):=by
   refine J (f5.get _ (bE l3 f4.next)<|by simp [ne]) ?_;refine J (f4.get _ l3<|by simp [ne]) ?_;exact g3
  have c2:j.next<a8.next:=bE l3<|ai f4.next f5.next
  have c3:Fr a a8 [s]:=(b2.trans f4).trans f5
  refine C_ g5 (by rw [cb];exact tw b8) (by rw [cb];exact ay (bK (bh M) A)<|by simp+arith only) ?_
  have e:(f.map aB.tup).take i++.tup [S "Do",.lst [.str<|bC b]]::(f.map aB.tup).drop i=(f.take i++aB.Do b::f.drop i).map aB.tup:=by
   simp only [jn,dQ,x_,Tr]
   rfl
  refine J e ?_
  have c4:∀x∈f.take i++aB.Do b::f.drop i,x=aB.Do b\/x∈f:=λx g=>by
   rcases gh.mp g with h|h
   .exact .inr<|xR h
   .rcases bF.mp h with h|h
    .exact .inl h
    .exact .inr<|Fo h
  refine O _ _ _ (λx g=>?_) ?_ ?_ (c3.set<|.inl a6) ?_ a6 c2 bP
  .rcases c4 x g with rfl|h
   .exact ⟨trivial,.inr rfl⟩
   .exact ⟨(q x h).1,.inl (q x h).2⟩
  .unfold dc
   have z1:=vG (a:=f.take i) λx g=>(q x<|xR g).2
   have z2:=vG (a:=f.drop i) λx g=>(q x<|Fo g).2
   simp only [ya,tC,z1,z2]
   split<;>exact ab _ _
  .simp;grind
  .obtain ⟨c,r,p,y1,y2,y3,y4,y5,y6⟩:=c1
   exact ⟨c,r,p,y1,y2,y3,by exact ay y4<|by simp+arith only,y5,by refine J (kj<|fu ne) ?_;exact y6⟩
 .refine J (decide_eq_false h0) ?_
  exact O f _ _ (λx g=>⟨(q x g).1,.inl (q x g).2⟩) (by unfold dc;refine J (vG λx g=>(q x g).2) ?_;exact ab _ _) (ai (bh M)<|ig A) b2 (b1.le<|by simp+arith only) a6 l3 g3
def gw (b:Option cn):E:=match b with
 |T=>.none
 |H b=>.aa<|dC b
def Ed.ok:Ed->Prop
 |.box l b r t=>(Mine.Internal.box l b (r - l)<|t - b).bq
 |_=>True
theorem I9 {j:List Bool}{g:Nat}{M:Int}{k:E->R->Prop}(b9:Lv 12 n d)(q:ba a s P)(a3:P<=1000000)(a6:g<j.length/\j.length<=900)
  (a4:∀(A:Mx) (l:Ed) (p:Option cn) z,(∀m,A=.six m->m.bq)->l.ok->(∀O,p=H O->j[g]?=H I/\jg j g O)->(p=T->j[g]?=H N)->Fr a z [s]->ba z s (P+30)->k (.loc z.next) (z.alloc<|.aa [(Q "six",hH A),(Q "edges",ht l),(Q "names",gw p)])):(On n).call d (F 970) [.loc s,.lst<|j.map .bool,.int g,.int M] a k X:=by
 refine cq b9 λa2=>?_
 refine F4 ?_
 refine cI 0 1 (by exact ab _ _) ?_
 refine Lh ?_
 have b1:∀(a7:E) (i:R),Fr a i [s]->ba i s (P+7)->(∀(l:Ed) B,l.ok->Fr a B [s]->ba B s (P+14)->bB (On n) 970 2 (oS d (.loc s) (.lst<|j.map .bool) (.int g) (.int M) a7<|ht l) B k X)->bB (On n) 970 1 (rW d (.loc s) (.lst<|j.map .bool) (.int g) (.int M) a7) i k X:=by
  intro a7 i t y b2
  refine cI 1 2 (by exact ab _ _) ?_
  refine F3 ?_
  refine dD (m:=3) (a2.le<|by exact ab _ _) y (by exact ai (dt (by assumption) _)<|by decide) (by decide) (by exact ab _ _) λv B a8 f2 a0=>ji ?_
  by_cases h0:(0:Int)<(v:Int)
  .simp only [decide_eq_true h0]
   have a5:∀{a:R} {P':Nat} {x:E} {r:List E} {k:List E->R->Prop},ba a s P'->P'<=200000000->(∀(v:Nat) z,v<13->Fr a z [s]->ba z s (P'+1)->(On n).comp (cp 970 0) (cw 970 0) r (bI 970 0 d [(Q "source",.loc s)]) z (λc0=>k<|.int ((v:Int) - 6)::c0) X)->(On n).comp (cp 970 0) (cw 970 0) (x::r) (bI 970 0 d [(Q "source",.loc s)]) a k X:=by
    intro a P' x r k q c6 h
    refine gC (a2.le<|by exact ab _ _:Lv (8+1) _ _) λc1=>?_
    refine OX ?_
    exact dD (m:=13) (c1.le<|by exact ab _ _) q (by exact ai (by assumption)<|by decide) (by decide) (by exact ab _ _) λv z a8 f q=>hZ<|h v z a8 f q
   refine ⟨⟨by decide,by decide⟩,by exact ab _ _,?_⟩
   refine a5 a0 (ay a3<|by simp+arith only) λc2 _ b3 f q=>a5 q (ay a3<|by simp+arith only) λb _ b4 c3 q=>a5 q (ay a3<|by simp+arith only) λc _ c4 f3 q=>a5 q (ay a3<|by simp+arith only) λe _ he f4 q=>gD ?_
   refine b2 (.box (c2 - 6) (b - 6) (c - 6)<|e - 6) _ ?_ (((((t.trans f2).trans f).trans c3).trans f3).trans f4)<|q.le<|by simp+arith only
   have r:∀{v:Nat},v<13->rg 6 ((v:Int) - 6):=λh=>rE h<|by decide
   exact AJ (by decide) (by decide) (r b3) (r b4) ((r c4).sub<|r b3)<|(r he).sub<|r b4
  .simp only [decide_eq_false h0]
   exact b2 .no B trivial (t.trans f2)<|a0.le<|by simp+arith only
 have b5:∀(A:Mx) (l:Ed) (i:R),(∀m,A=.six m->m.bq)->l.ok->Fr a i [s]->ba i s (P+14)->bB (On n) 970 2 (oS d (.loc s) (.lst<|j.map .bool) (.int g) (.int M) (hH A)<|ht l) i k X:=by
  intro A l i b6 a1 t y
  refine cI 2 3 (by exact ab _ _) ?_
  refine Rh ?_
  have b7:∀(p:Option cn) (i:R),(∀O,p=H O->j[g]?=H I/\jg j g O)->(p=T->j[g]?=H N)->Fr a i [s]->ba i s (P+30)->bB (On n) 970 3 (qF d (.loc s) (.lst<|j.map .bool) (.int g) (.int M) (hH A) (ht l)<|gw p) i k X:=by
   intro p i h1 h2 t y
   refine PD ?_
   refine iI ?_
   cases M==8 with
   |true=>
    refine iI ?_
    cases M==9 with
    |true=>exact a4 .bad .bad p i (λ_ e=>nomatch e) trivial h1 h2 t y
    |false=>exact a4 .bad l p i (λ_ e=>nomatch e) a1 h1 h2 t y
   |false=>
    refine iI ?_
    cases M==9 with
    |true=>exact a4 A .bad p i b6 trivial h1 h2 t y
    |false=>exact a4 A l p i b6 a1 h1 h2 t y
  have e0:j[g]?=H j[g]:=iQ a6.1
  refine kD (g:=g) (v:=.bool j[g]) (by refine J hD ?_;refine J e0 ?_;rfl)<|en ?_
  cases b8:j[g] with
  |true=>
   refine zB (a8:=g) (a2.le<|by exact ab _ _) y (by exact ai (dt (by assumption) _)<|by decide) ⟨dH (jV _) a6.1,a6.2⟩ λp B c5 f2 a0=>?_
   exact b7 (H p) B (λO e=>by refine aG e ?_;clear e;rintro rfl;exact ⟨by refine J e0 ?_;exact J b8 rfl,c5⟩) (λe=>ao e.symm) (t.trans f2)<|a0.le<|by simp+arith only
  |false=>exact b7 T i (λ_ e=>ao e) (λ_=>by refine J e0 ?_;exact J b8 rfl) t<|y.le<|by exact gZ (by decide) _
 refine dD (m:=3) (a2.le<|by exact ab _ _) q (by exact ai (by assumption)<|by decide) (by decide) (by exact ab _ _) λv i a8 t y=>ji ?_
 by_cases h0:(0:Int)<(v:Int)
 .simp only [decide_eq_true h0]
  refine Bk (a2.le<|by exact ab _ _) y (by exact ai (dt (by assumption) _)<|by decide) λm B hm f2 a0=>?_
  exact b1 m.lst B (t.trans f2) (a0.le<|by exact aT _) λl a9 a1 f3 b0=>b5 (.six m) l a9 (λm' e=>by cases e;exact hm) a1 f3 b0
 .simp only [decide_eq_false h0]
  exact b1 .none i t (y.le<|by exact gZ (by decide) _) λl a9 a1 f3 b0=>b5 .no l a9 (λ_ e=>nomatch e) a1 f3 b0
end
end
mutual
section
variable {n:bV}{d s P:Nat}{a:R}{X:Prop}
theorem Cd (c:k (.lst b,a)):wp (kM N N a (.ag<|.type "list")<|.lst b) k:=aR (c:=(.lst b,a)) (by kernel_rfl) c
def wq (d:Nat)(c:E)(e:Nat)(f:Y):Prop:=f=qW d c (.loc e)\/∃g b,f=gi d c (.loc e) g b
def aB.op (x:aB):E:=(ip x).headD .none
theorem GQ (x):x.word= "W" /\ip x=x.op::[cy "W" [],cy "n" []]\/x.word= "re" /\ip x=x.op::[cy "f" []]\/
  (∀a,ax a .Eq (S x.word) (S "W")=.ok .t N)/\(∀a,ax a .In (S x.word) (.tup [S "re",S "W"])=.ok .t N)/\ip x=[x.op]:=by
 cases x with
 |W=>exact .inl ⟨rfl,rfl⟩
 |re=>exact .inr<|.inl ⟨rfl,rfl⟩
 |_=>exact .inr<|.inr ⟨λa=>by kernel_rfl,λa=>by kernel_rfl,rfl⟩
theorem Jf (A:Lv 4 n<|d+1)(a1:x.ok)(j:a.get e=H (.lst g))(a2:g.length<=900)(hf:wq d B e a6)
  (M:∀c a3,wq d B e a3->Fr a c [e]->c.get e=H (.lst<|g++ip x)->k .next a3 c):eN (On n) 991 0 x.tup a6 a k X:=by
 rw [aB.ub]
 have i:∀c,Fr a c [e]->c.get e=H (.lst<|g++ip x)->k .next (gi d B (.loc e) (S x.word) x.vals) c:=λc h1 h2=>M c _ (.inr ⟨_,_,rfl⟩) h1 h2
 have O:∀{c} {o},Fr a c [e]->Fr a (c.set e o) [e]:=λf=>f.set<|.inr<|.head _
 have p:∀{c} {z} {w} {a4 g},c.get e=H (.lst g)->g.length<1000000->z (c.set e<|.lst<|g++[cy w a4])->jr (On n) d (.loc e) z X .blt (S w) (.lst a4) c:=
  λh a2 M=>It (A.le<|by exact ab _ _)<|eo h a2 M
 have a5:∀m c,(ip x).head?=H m->Fr a c [e]->c.get e=H (.lst<|g++[m])->cE (On n) 991 0 1 1000 (gi d B (.loc e) (S x.word) x.vals) c k X:=by
  intro m c l f h
  refine wi 2 (by exact ab _ _) (by exact ab _ _) ?_
  refine Jx ?_
  have q:(g++[m]).length<1000000:=by simp;exact dH (dt (by assumption) _)<|by decide
  rcases GQ x with ⟨hw,r⟩|⟨hw,r⟩|⟨q1,q2,r⟩
  .replace l:=r▸l
   replace i:=r▸i
   obtain rfl:=bf l
   rw [hw] at i |-
   refine cV (g:=I) (by kernel_rfl)<|cU h<|p h q ?_
   refine wI ?_
   refine h_ (r:=I) (by kernel_rfl)<|cU bP<|cV (g:=N) (by kernel_rfl)<|p bP (by simp;exact dH (dt (by assumption) _)<|by decide) ?_
   exact i _ (O<|O f)<|by refine J bP ?_;rewrite [hE,hE];rfl
  .replace l:=r▸l
   replace i:=r▸i
   obtain rfl:=bf l
   rw [hw] at i |-
   refine cV (g:=N) (by kernel_rfl) ?_
   refine wI ?_
   refine h_ (r:=I) (by kernel_rfl)<|cU h<|cV (g:=I) (by kernel_rfl)<|p h q ?_
   exact i _ (O f)<|by refine J bP ?_;rewrite [hE];rfl
  .rw [r] at l i
   obtain rfl:=bf l
   refine fy (q1 c) trivial ?_
   refine wI ?_
   exact h_ (r:=N) (q2 c)<|i _ f h
 have a0:∀z,(∀m,(ip x).head?=H m->z (a.set e<|.lst<|g++[m]))->kb (On n) d (.loc e) x.vals a z X (S x.word):=by
  clear a5 i M
  intro z go
  have q:g.length<1000000:=by exact dH (by assumption)<|by decide
  cases x with
  |gr t=>exact NM<|cU j<|ix rfl<|Qo (A.le<|by exact ab _ _) a1.1 a1.2<|p j q<|go _ rfl
  |Do b=>exact MA<|cU j<|ix rfl<|qj (A.le<|by exact ab _ _)<|p j q<|go _ rfl
  |BI=>exact GB<|cU j<|QE (A.le<|by exact ab _ _)<|p j q<|go _ rfl
  |W x y w v=>exact An (by kernel_rfl)<|cU j<|cV (g:=I) (by kernel_rfl)<|Cd<|p j q<|go _ rfl
  |_=>exact An (by kernel_rfl)<|cU j<|cV (g:=N) (by kernel_rfl)<|Cd<|p j q<|go _ rfl
 have a0:=a0 (λs=>cE (On n) 991 0 1 1000 (gi d B (.loc e) (S x.word) x.vals) s k X) λm l=>a5 m _ l (O<|Fr.refl _ _) bP
 refine qK (a:=991) (i:=0) 1 (by kernel_rfl) ?_
 rcases hf with rfl|⟨a7,b,rfl⟩
 .refine JR ?_;exact a0
 .refine Hl ?_;exact a0
theorem yI {c:List aB}{k:E->R->Prop}(a0:Lv 6 n d)(m:∀x∈c,x.ok)(j:c.length<=100)(a1:∀A,Fr a A []->k (.lst<|dy c) A):(On n).call d (F 991) [.lst<|c.map aB.tup] a k X:=by
 refine cq a0 λa2=>?_
 refine Kv ?_
 refine aR (c:=c.map aB.tup) rfl ?_
 have a3:∀(r:List aB) (g:List E) (i:R) (p:Y),(∀x∈r,x.ok)->g.length+3*r.length<=900->Fr a i []->a.next<i.next->i.get a.next=H (.lst g)->wq d (.lst<|c.map aB.tup) a.next p->g++dy r=dy c->
   (On n).bH (cN 991 0) (cB 991 0) (r.map aB.tup) p i (eO (On n) 991 2 k X) X:=by
  intro r
  induction r with
  |nil=>
   intro g i p _ _ f B h q e
   refine jz ?_
   have M:wp (bG i<|.loc a.next) λO=>k O.1 O.snd:=by
    refine hN h ?_
    refine (show dy c=g from e.symm.trans<|hz g)▸?_
    exact a1 _<|f.free<|.inl<|aT _
   rcases q with rfl|⟨t,b,rfl⟩
   .refine Pa ?_;exact M
   .refine FY ?_;exact M
  |cons x r a4=>
   intro g i p m j f B h q e
   replace j:=fM▸j
   refine hV (a2.le<|by exact aT _:Lv (4+1) _ _) λa5=>Jf a5 (m x<|.head _) h (by exact dg<|by assumption) q λa6 a7 a8 z h2=>?_
   have:(ip x).length<=3:=by cases x<;>exact fL rfl
   refine a4 (g++ip x) a6 a7 λy a9=>m y<|dz _<|by assumption (by refine J eJ ?_;exact ay (bK j this)<|by simp+arith only) ?_ (bE B z.next) h2 a8<|by refine rT e ?_;rewrite [hE];rfl
   exact ⟨ai f.next z.next,λl t b=>by refine J (z.get l (bE t f.next)<|by simp;exact cA<|by assumption) ?_;exact J (f.get l t b) rfl⟩
 refine a3 c [] _ _ m (by simp;exact ai (eA 3 j)<|ab _ _) (Fr.refl _ _).alloc (fw _) eg (.inl rfl) rfl
end
end
mutual
open Mine
def cQ (a b:List<|Int×E):Prop:=∀j w,cZ j a=H w->cZ j b=H w
theorem cQ.refl (a):cQ a a:=λ_ _ h=>h
theorem cQ.trans (h:cQ a b)(g:cQ b c):cQ a c:=λj w e=>g j w<|h j w e
theorem cQ.put (h:cZ i a=T):cQ a<|eM i v a:=λj w e=>by
 refine J rO ?_;refine J (if_neg λq=>by subst q;rw [h] at e;exact ao e) ?_
 exact e
theorem dK.ext (h:dK c v w)(e:cQ c d):dK d v w:=⟨h.1,h.2.imp id λ⟨i,a,b⟩=>⟨i,a,e _ _ b⟩⟩
theorem dU.ext (h:dU b c d)(e:cQ b f):dU f c d:=by
 induction h with
 |nil=>exact .nil
 |cons a _ g=>exact .cons (a.ext e) g
theorem dU.ints (b) (a):dU b (a.map .int) a:=by
 induction a with
 |nil=>
  exact .nil
 |cons i a c=>
  exact .cons ⟨rfl,.inl rfl⟩ c
theorem dU.set (h:dU d g e):∀m x i,e[m]?=H i->dK d x (.int i)->dU d (g.set m x) e:=by
 induction h with
 |nil=>intro m x i h _;exact ao h
 |cons a b j=>
  intro m x i c f
  cases m with
  |zero=>refine aG c ?_;clear c;rintro rfl;exact .cons f b
  |succ m=>exact .cons a<|j m x i c f
theorem kI.ext (h:kI f v m)(e:cQ f g):kI g v m:=by
 cases m with
 |no=>exact h
 |six m=>refine cK h ?_;clear h;intro d a b c;exact ⟨d,a.ext e,b.ext e,c⟩
 |bad=>refine dx h ?_;clear h;intro d i zz;refine dx zz ?_;clear zz;intro j k zz;refine hg zz ?_;clear zz;intro l n a b;exact ⟨d,i,j,k,l,n,a.ext e,b.ext e⟩
theorem lY.ext (h:lY d v m)(e:cQ d f):lY f v m:=by
 cases m with
 |no=>exact h
 |box l b r t=>refine cK h ?_;clear h;intro g a b c;exact ⟨g,a.ext e,b.ext e,c⟩
 |bad=>exact dK.ext h e
theorem oF.ext (h:oF a b v x)(e:cQ a c):oF c b v x:=by
 cases x with
 |none=>exact h
 |some x=>
  cases x with
  |eb=>exact h
  |odd=>exact h
  |cx g d=>
   cases d with
   |true=>exact h
   |false=>exact ⟨h.1,e _ _ h.2⟩
theorem hQ.ext (h:hQ c d r f)(e:cQ c g):hQ g d r f:=by
 refine aK h ?_;clear h;intro i a b
 exact ⟨i,a.ext e,λx=>(b x).ext e⟩
structure eB (a:R)(c b e:Nat)(d:List<|Int×E)(f:Nat):Prop where
 g1:a.get c=H (bY b e)
 g2:a.get b=H (.tab d)
 l1:c<a.next
 l2:b<a.next
 ne:c≠b
 ln:d.length<=f
theorem eB.fr (h:eB c a b d e g)(f:Fr c i L)(j:a∉L)(k:b∉L):eB i a b d e g:=
 ⟨by refine J (f.get _ h.l1 j) ?_;exact h.g1,by refine J (f.get _ h.l2 k) ?_;exact h.g2,bE h.l1 f.next,bE h.l2 f.next,h.ne,h.ln⟩
theorem eB.put (h:eB c d a e b f) (i) (v):eB (c.set a<|.tab<|eM i v b) d a e (eM i v b)<|f+1:=
 ⟨by refine J (kj h.ne) ?_;exact h.g1,bP,h.l1,h.l2,h.ne,ai yK<|hy h.ln⟩
section
variable {n:bV}{d s P:Nat}{a:R}{h t r b:Nat}{e:List<|Int×E}
theorem rb (c:eB a h t r e b)(f:k<|.fn 362):wp (aV a (.loc h)<|Q "add") k:=rZ c.g1 (by kernel_rfl) (by kernel_rfl) f
theorem JH (c:eB a h t r e b)(f:k<|.fn 355):wp (aV a (.loc h)<|Q "put") k:=rZ c.g1 (by kernel_rfl) (by kernel_rfl) f
theorem qN (j:Lv 3 n d)(c:eB a h t r e b)(l:b<=1000)(m:∀(i:Int) f g,cQ e f->Fr a g [t]->eB g h t r f (b+1)->(∀w,qs w=I->v=w->dK f (rf i) w)->k (rf i) g):(On n).aE d (.loc h) (Q "add") (.fn 362) [v] a k X:=by
 refine cg<|G9 j c.g1 c.g2 (ai c.ln l) λi p=>?_
 refine m i _ _ (cQ.put p) ((Fr.refl _ _).set<|.inr<|.head _) (c.put i _) λw q x=>⟨q,.inr ⟨i,rfl,?_⟩⟩
 refine J rO ?_;refine J (if_pos rfl) ?_;exact J x rfl
theorem O7 (f:bB O 977 0 (zR d g i c) a k X):aN O 977 d [g,i,c] a k X:=aj (by kernel_rfl) f
theorem Al {c:List Int}{k:E->R->Prop}(b5:Lv 6 n d)(a8:ba a s P)(c1:P<=1000000)(B:eB a h t r e b)(b6:b<=900)(p:s≠h/\s≠t)(a2:0<c.length/\c.length<=10)
  (a9:∀v g j y,cQ e j->Fr a y [s,t]->ba y s (P+3)->eB y h t r j (b+2)->dK j v (.lst g)->dU j g c->k v y):(On n).call d (F 977) [.loc s,.loc h,.lst<|c.map .int] a k X:=by
 refine cq b5 λz=>?_
 refine O7 ?_
 refine cI 0 1 (by exact ab _ _) ?_
 refine QS ?_
 refine aR (c:=(.loc a.next,a.alloc<|.lst<|c.map .int)) (by kernel_rfl) ?_
 refine cI 1 2 (by exact ab _ _) ?_
 refine PL ?_
 have f0:Fr a (a.alloc<|.lst<|c.map .int) []:=(Fr.refl _ _).alloc
 have c2:=a8.lt
 have c3:=B.l1
 have c4:=B.l2
 have b0:∀(g:List E) (M:List<|Int×E) (f:R) (a3:Nat),cQ e M->a3<=b+1->Fr a f [s,t]->ba f s (P+2)->eB f h t r M a3->a.next<f.next->f.get a.next=H (.lst g)->dU M g c->
   (On n).call (d+1) (F 943) [.loc s,E.int 4] f (λv0 s1=>wp (ax s1 .Eq v0<|E.int 1) λv2=>match v2 with|I=>wp (aV s1 (.loc h)<|Q "add") λv3=>wp (bG s1<|.loc a.next) λv4=>(On n).aE (d+1) (.loc h) (Q "add") v3 [v4.1] v4.snd k X|N=>wp (bG s1<|.loc a.next) λv7=>k v7.1 v7.snd) X:=by
  intro g M f a3 e1 a4 A a0 h1 b7 b8 hf
  refine dD (m:=4) (z.le<|by exact ab _ _) a0 (by exact ai (dt (by assumption) _)<|by decide) (by decide) (by exact ab _ _) λv q b9 l a5=>iI ?_
  have O:=h1.fr l (λm=>p.1.symm<|bW.mp m)<|by simp;exact p.2.symm
  have g2:q.get a.next=H (.lst g):=by refine J (l.get _ b7<|by simp;exact dN<|by assumption) ?_;exact b8
  have c0:Fr a q [s,t]:=A.trans<|l.sub<|by simp
  have x:Fr a (q.free a.next) [s,t]:=c0.free<|.inl<|aT _
  have b1:Fr q (q.free a.next) [a.next]:=(Fr.refl _ _).free<|.inr<|.head _
  have b2:ba (q.free a.next) s<|P+3:=a5.fr b1<|by simp;exact cA<|by assumption
  have h3:=O.fr b1 (by simp;exact cA<|by assumption)<|by simp;exact cA<|by assumption
  cases (v:Int)==1 with
  |true=>
   refine rb O<|hN g2<|qN (z.le<|by exact ab _ _) h3 (ay (bK a4 b6)<|by simp+arith only) λi j y e2 f4 h4 a6=>?_
   exact a9 (rf i) g j y (e1.trans e2) (x.trans<|f4.sub<|by simp) (b2.fr f4 λm=>p.2<|bW.mp m) {h4 with ln:=by have:=h4.ln;exact ay (bK this a4)<|by simp+arith only} (a6 _ rfl rfl)<|hf.ext e2
  |false=>
   refine hN g2 ?_
   exact a9 (.lst g) g M _ e1 x b2 {h3 with ln:=by have:=h3.ln;exact ay (bK this a4)<|by simp+arith only} ⟨rfl,.inl rfl⟩ hf
 refine dD (m:=4) (z.le<|by exact ab _ _) (a8.fr f0<|by simp) (by exact ai (by assumption)<|by decide) (by decide) (by exact ab _ _) λv f b9 A a0=>iI ?_
 have h1:=(B.fr f0 (by simp)<|by simp).fr A (λm=>p.1.symm<|bW.mp m)<|by simp;exact p.2.symm
 have a1:a.next<f.next:=bE (fw _) A.next
 have g1:f.get a.next=H (.lst<|c.map .int):=by refine J (A.get _ (fw _)<|by simp;exact dN<|by assumption) ?_;exact eg
 have b3:Fr a f [s,t]:=(f0.sub λ_ B=>nomatch B).trans<|A.sub<|by simp
 cases (v:Int)==1 with
 |true=>
  refine oK (z.le<|by exact ab _ _:Lv (1+1) _ _) g1 ?_
  simp only [cb]
  refine dD (m:=c.length) (z.le<|by exact ab _ _) a0 (by exact ai (dt (by assumption) _)<|by decide) (qc a2.1) (ay a2.2<|by simp+arith only) λw q hw l a5=>?_
  have O:=h1.fr l (λm=>p.1.symm<|bW.mp m)<|by simp;exact p.2.symm
  have g2:q.get a.next=H (.lst<|c.map .int):=by refine J (l.get _ a1<|by simp;exact dN<|by assumption) ?_;exact g1
  have b4:c[w]?=H c[w]:=iQ hw
  refine rb O<|gQ (g:=w) g2 (v:=.int c[w]) (by refine J hD ?_;refine J b4 ?_;rfl)<|qN (z.le<|by exact ab _ _) O (by exact ai (by assumption)<|by decide) λi j a7 e2 x h3 a6=>?_
  have g3:a7.get a.next=H (.lst<|c.map .int):=by refine J (x.get _ (bE a1 l.next)<|by simp;exact dN<|by assumption) ?_;exact g2
  refine rp g3 (by rw [cb];exact hw) (by rw [cb];exact ai a2.2<|ab _ _) ?_
  refine HU ?_
  have f4:Fr a7 (a7.set a.next<|.lst<|(c.map .int).set w<|rf i) [a.next]:=(Fr.refl _ _).set<|.inr<|.head _
  refine b0 ((c.map .int).set w<|rf i) j _ (b+1) e2 (by exact aT _) (((b3.trans<|l.sub<|by simp).trans<|x.sub<|by simp).set<|.inl<|aT _) ((a5.fr x λm=>p.2<|bW.mp m).fr f4<|by simp;exact cA<|by assumption) (h3.fr f4 (by simp;exact cA<|by assumption)<|by simp;exact cA<|by assumption) ?_ bP ?_
  .exact bE (bE a1 l.next) x.next
  .exact (dU.ints j c).set w _ _ b4<|a6 _ rfl rfl
 |false=>
  refine L8 ?_
  exact b0 _ e _ b (cQ.refl _) (by exact bZ _ _) b3 (a0.le<|by exact dX _) h1 a1 g1<|dU.ints e c
end
end
mutual
open Mine
def rd (a:Nat->Nat):hY->E
 |.cx g I=>cz (a g) g
 |.cx g N=>rf<|10+g
 |.eb=>jx "Image"
 |.odd=>jx "PS"
def jE (c:Nat->Nat)(b:Bool)(e:Option hY)(a:List<|ae×E):List<|ae×E:=match e with
 |T=>a
 |H e=>bc (bC b) (rd c e) a
def iC (a:Nat->Nat)(b:cn):List<|ae×E:=jE a N (b N)<|jE a I (b I) []
theorem DJ:bc (bC N) v [(bC I,w)]=[(bC I,w),(bC N,v)]:=if_neg my
theorem JV (a):∀c d b,aI (bC b) (jE a N d<|jE a I c [])=(bif b then c else d).map (rd a)
 |T,T,I=>rfl
 |T,T,N=>rfl
 |T,H _,I=>if_neg Ca
 |T,H _,N=>if_pos rfl
 |H _,T,I=>if_pos rfl
 |H _,T,N=>if_neg my
 |H _,H _,I=>(congrArg (aI _) DJ).trans<|if_pos rfl
 |H _,H _,N=>(congrArg (aI _) DJ).trans<|(if_neg my).trans<|if_pos rfl
theorem Hk (b):aI (bC b) (iC a c)=(c b).map (rd a):=(JV a _ _ b).trans<|by cases b<;>rfl
section
variable {n:bV}{d s P:Nat}{a:R}{X:Prop}{b c r e:Nat}{f:List<|Int×E}{h:Nat->Nat}{t:List E}{m:cn}
def rl (d:Nat)(g i j k:E)(l:Nat)(p:Y):Prop:=p=qA d g i j k (.loc l)\/∃x y z w,p=oA d g i j k (.loc l) x y z w
theorem A8 (B:Lv 4 n<|d+1)(a7:a.get p=H (.aa M))(b1:M.length<=100)(he:m q=H A)(a8:∀g a1,A=.cx g a1->t[g]?=H (cz (h g) g))(hf:rl d a9 b' (.lst t) (.aa<|dC m) p b0)
  (a3:∀i a4,rl d a9 b' (.lst t) (.aa<|dC m) p a4->Fr a i [p]->i.get p=H (.aa<|jE h q (H A) M)->k .next a4 i):eN (On n) 984 0 (.str<|bC q) b0 a k X:=by
 have a5:∀a2,(∀x y z i,Fr a i [p]->i.get p=H (.aa<|jE h q (H A) M)->a2 x y z i)->uD (On n) d (.str<|bC q) (.lst t) (.aa<|dC m) (.loc p) a a2 X:=by
  intro a2 O
  have a0:∀{v} {a6},v=rd h A->(∀i,Fr a i [p]->i.get p=H (.aa<|jE h q (H A) M)->a6 i)->wp (setItem a (.loc p) (.str<|bC q) v) a6:=λev j=>gj a7 (by exact ai (by assumption)<|by decide)<|j _ ((Fr.refl _ _).set<|.inr<|by exact .head _)<|by refine J bP ?_;refine J ev ?_;rfl
  refine dj (v:=kL A) (by refine J (vU m q) ?_;refine J he ?_;rfl) ?_
  cases A with
  |cx g a1=>
   refine nu<|cV (g:=I) (by kernel_rfl)<|en ?_
   cases a1 with
   |true=>exact kD (a8 g I rfl)<|a0 rfl λi l j=>O _ _ _ i l j
   |false=>exact gb<|C0 (B.le<|by exact ab _ _)<|a0 rfl λi l j=>O _ _ _ i l j
  |eb=>exact nu<|cV (g:=N) (by kernel_rfl)<|cV (g:=I) (by kernel_rfl)<|qj (B.le<|by exact ab _ _)<|vq (B.le<|by exact ab _ _)<|a0 rfl λi l j=>O _ _ _ i l j
  |odd=>exact nu<|cV (g:=N) (by kernel_rfl)<|cV (g:=N) (by kernel_rfl)<|qj (B.le<|by exact ab _ _)<|vq (B.le<|by exact ab _ _)<|a0 rfl λi l j=>O _ _ _ i l j
 rcases hf with rfl|⟨x,y,z,w,rfl⟩
 .refine GS ?_;exact a5 _ λx y z i l j=>a3 i _ (.inr ⟨_,_,_,_,rfl⟩) l j
 .refine H9 ?_;exact a5 _ λx y z i l j=>a3 i _ (.inr ⟨_,_,_,_,rfl⟩) l j
theorem AU {k:E->R->Prop}(e6:Lv 7 n d)(c7:ba a s P)(f2:P<=1000000)(b2:eB a b c r f e)(e7:e<=900)(b0:s≠b/\s≠c)
  (c8:∀A g a6,m A=H (.cx g a6)->t[g]?=H (cz (h g) g)/\cZ (10+g) f=H (.tup [.int 0,cz (h g) g]))
  (c9:∀v d0 a2 a3,cQ f a2->Fr a a3 [s,c]->ba a3 s (P+3)->eB a3 b c r a2 (e+2)->dK a2 v (.aa d0)->hQ a2 h d0 m->k v a3):(On n).call d (F 984) [.loc s,.loc b,.lst t,.aa<|dC m] a k X:=by
 refine cq e6 λb1=>?_
 refine Pb ?_
 refine aR (c:=(dC m).map λp=>.str p.1) rfl ?_
 have f0:Fr a (a.alloc<|.aa []) []:=(Fr.refl _ _).alloc
 have f5:=c7.lt
 have f6:=b2.l1
 have f7:=b2.l2
 have d1:∀A,oF f h ((aI (bC A)<|iC h m).getD .none)<|m A:=by
  intro A
  rw [Hk]
  cases a4:m A with
  |none=>rfl
  |some x=>
   cases x with
   |eb=>rfl
   |odd=>rfl
   |cx g a6=>
    cases a6 with
    |true=>rfl
    |false=>exact ⟨rfl,(c8 A g N a4).2⟩
 have d2:∀(B:List<|Int×E) (j:R) (a0:Nat) (v:E),cQ f B->a0<=e+1->Fr a j [s,c]->ba j s (P+2)->eB j b c r B a0->dK B v (.aa<|iC h m)->
   (On n).call (d+1) (F 943) [.loc s,E.int 3] j (λv0 s1=>wp (ax s1 .Eq v0<|E.int 1) λv2=>match v2 with|I=>wp (aV s1 (.loc b)<|Q "add") λv3=>(On n).aE (d+1) (.loc b) (Q "add") v3 [.aa [(Q "XObject",v)]] s1 k X|N=>k (.aa [(Q "XObject",v)]) s1) X:=by
  intro B j a0 v e1 b5 O e8 h1 d3
  have a1:(aI (Q "XObject") [(Q "XObject",v)]).getD .none=v:=by rfl
  refine dD (m:=3) (b1.le<|by exact ab _ _) e8 (by exact ai (dt (by assumption) _)<|by decide) (by decide) (by exact ab _ _) λw q hw M b3=>iI ?_
  have h2:=h1.fr M (λa7=>b0.1.symm<|bW.mp a7)<|by simp;exact b0.2.symm
  have d4:Fr a q [s,c]:=O.trans<|M.sub<|by simp
  cases (w:Int)==1 with
  |true=>
   refine rb h2<|qN (b1.le<|by exact ab _ _) h2 (ay (bK b5 e7)<|by simp+arith only) λi a2 a3 e2 f3 h3 b6=>?_
   exact c9 (rf i) [(Q "XObject",v)] a2 a3 (e1.trans e2) (d4.trans<|f3.sub<|by simp) (b3.fr f3 λa7=>b0.2<|bW.mp a7) {h3 with ln:=by have:=h3.ln;exact ay (bK this b5)<|by simp+arith only} (b6 _ rfl rfl) ⟨iC h m,by refine J a1 ?_;exact d3.ext e2,λA=>(d1 A).ext<|e1.trans e2⟩
  |false=>
   exact c9 (.aa [(Q "XObject",v)]) [(Q "XObject",v)] B q e1 d4 b3 {h2 with ln:=by have:=h2.ln;exact ay (bK this b5)<|by simp+arith only} ⟨rfl,.inl rfl⟩ ⟨iC h m,by refine J a1 ?_;exact d3,λA=>(d1 A).ext e1⟩
 have d5:∀(j:R) (b4:E->E->R->Prop),Fr a j []->a.next<j.next->j.get a.next=H (.aa<|iC h m)->
   (∀(B:List<|Int×E) (q:R) (a0:Nat) (a8 v:E),cQ f B->a0<=e+1->Fr a q [s,c]->ba q s (P+2)->eB q b c r B a0->dK B v (.aa<|iC h m)->b4 a8 v q)->
   (On n).call (d+1) (F 943) [.loc s,E.int 3] j (λv0 s1=>wp (ax s1 .Eq v0<|E.int 1) λv2=>match v2 with|I=>wp (aV s1 (.loc b)<|Q "add") λv3=>wp (bG s1<|.loc a.next) λv4=>(On n).aE (d+1) (.loc b) (Q "add") v3 [v4.1] v4.snd (λv5 s6=>b4 v4.1 v5 s6) X|N=>wp (bG s1<|.loc a.next) λv7=>b4 v7.1 v7.1 v7.snd) X:=by
  intro j b4 O a9 a1 d6
  refine dD (m:=3) (b1.le<|by exact ab _ _) (c7.fr O<|by simp) (by exact ai (by assumption)<|by decide) (by decide) (by exact ab _ _) λw q hw M b3=>iI ?_
  have h2:=(b2.fr O (by simp)<|by simp).fr M (λa7=>b0.1.symm<|bW.mp a7)<|by simp;exact b0.2.symm
  have g2:q.get a.next=H (.aa<|iC h m):=by refine J (M.get _ a9<|by simp;exact dN<|by assumption) ?_;exact a1
  have f3:Fr a (q.free a.next) [s,c]:=((O.sub<|by exact λ_ b2=>nomatch b2).trans<|M.sub<|by simp).free<|.inl<|aT _
  have d7:Fr q (q.free a.next) [a.next]:=(Fr.refl _ _).free<|.inr<|by exact .head _
  have d8:ba (q.free a.next) s<|P+1:=b3.fr d7<|by simp;exact cA<|by assumption
  have h3:=h2.fr d7 (by simp;exact cA<|by assumption)<|by simp;exact cA<|by assumption
  cases (w:Int)==1 with
  |true=>
   refine rb h2<|pe g2<|qN (b1.le<|by exact ab _ _) h3 (by exact ai (by assumption)<|by decide) λi a2 a3 e2 f4 h4 b6=>?_
   exact d6 a2 a3 (e+1) _ _ e2 (by exact aT _) (f3.trans<|f4.sub<|by simp) ((d8.fr f4 λa7=>b0.2<|bW.mp a7).le<|by exact dX _) h4<|b6 _ rfl rfl
  |false=>
   exact pe g2<|d6 f _ e _ _ (cQ.refl _) (by exact bZ _ _) f3 (d8.le<|by exact dX _) h3 ⟨rfl,.inl rfl⟩
 have d9:∀(j:R) (a5:Y),Fr a j []->a.next<j.next->j.get a.next=H (.aa<|iC h m)->rl d (.loc s) (.loc b) (.lst t) (.aa<|dC m) a.next a5->eO (On n) 984 2 k X .next a5 j:=by
  intro j a5 O a9 a1 hf
  refine cI 2 3 (by exact ab _ _) ?_
  rcases hf with rfl|⟨x,y,z,w,rfl⟩
  .refine JP ?_
   refine d5 j (λa8 v s6=>eO (On n) 984 3 k X .next (qS d (.loc s) (.loc b) (.lst t) (.aa<|dC m) a8<|.aa [(Q "XObject",v)]) s6) O a9 a1 λB q a0 a8 v b7 b8 b9 c0 c1 c2=>?_
   refine Pg ?_
   exact d2 B q a0 v b7 b8 b9 c0 c1 c2
  .refine G5 ?_
   refine d5 j (λa8 v s6=>eO (On n) 984 3 k X .next (si d (.loc s) (.loc b) (.lst t) (.aa<|dC m) a8 x y z w<|.aa [(Q "XObject",v)]) s6) O a9 a1 λB q a0 a8 v b7 b8 b9 c0 c1 c2=>?_
   refine I1 ?_
   exact d2 B q a0 v b7 b8 b9 c0 c1 c2
 have e0:∀A a4,m A=H a4->∀g a6,a4=.cx g a6->t[g]?=H (cz (h g) g):=λA a4 h1 g a6 h2=>(c8 A g a6<|h1.trans<|congrArg H h2).1
 have e3:∀{j q:R},Fr a j []->Fr j q [a.next]->Fr a q []:=λc3 A=>⟨ai c3.next A.next,λl x y=>by refine J (A.get l (bE x c3.next)<|by simp;exact cA<|by assumption) ?_;exact J (c3.get l x y) rfl⟩
 have e4:∀(j:R) (a5:Y) (fd:List<|ae×E),fd.length<=100->fd=jE h I (m I) []->Fr a j []->a.next<j.next->j.get a.next=H (.aa fd)->rl d (.loc s) (.loc b) (.lst t) (.aa<|dC m) a.next a5->
   (On n).bH (cN 984 0) (cB 984 0) (match m N with|T=>[]|H _=>[.str<|bC N]) a5 j (eO (On n) 984 2 k X) X:=by
  intro j a5 fd e9 e5 O a9 a1 hf
  cases e2:m N with
  |none=>
   refine jz<|d9 j a5 O a9 ?_ hf
   refine J a1 ?_;refine J e5 ?_
   unfold iC
   refine J e2 ?_
   rfl
  |some a4=>
   refine hV (b1.le<|by exact ab _ _:Lv (4+1) _ _) λc4=>A8 (h:=h) c4 a1 e9 e2 (e0 _ _ e2) hf λq c5 c6 M g2=>?_
   refine jz<|d9 q c5 (e3 O M) (bE a9 M.next) ?_ c6
   refine J g2 ?_;refine J e5 ?_
   unfold iC
   exact J e2 rfl
 have f1:((dC m).map λp=>E.str p.1)=(match m I with|T=>[]|H _=>[.str<|bC I])++match m N with|T=>[]|H _=>[.str<|bC N]:=by
  unfold dC
  cases m I<;>cases m N<;>rfl
 refine J f1 ?_
 cases e1:m I with
 |none=>exact e4 _ _ [] (by trivial) (by refine J e1 ?_;rfl) f0 (fw _) eg<|.inl rfl
 |some a4=>
  refine hV (b1.le<|by exact ab _ _:Lv (4+1) _ _) λc4=>A8 (h:=h) c4 eg (by trivial) e1 (e0 _ _ e1) (.inl rfl) λq c5 c6 M g2=>?_
  exact e4 q c5 (jE h I (H a4) []) (by exact mq _) (by exact J e1 rfl) (e3 f0 M) (bE (fw _) M.next) g2 c6
end
end
noncomputable def uf (a d:Nat)(b:List<|ae×E):Y:={fr a d b with sealed:=[Q "held"]}
end
mutual
section
open Sh PySem PySem.W PyProof.Rows PySem.Calls
def BR (d:Nat)(a:E):Y:=fr 1043 d [(Q "script",a)]
def zG (d:Nat)(a b:E):Y:=fr 1043 d [(Q "script",a),(Q "source",b)]
def rY (d:Nat)(a b c e f g:E):Y:=fr 1043 d [(Q "script",a),(Q "source",b),(Q "spoil",c),(Q "where",e),(Q "at",f),(Q "count",g)]
def yw (d:Nat)(a b c e f g h:E):Y:=fr 1043 d [(Q "script",a),(Q "source",b),(Q "spoil",c),(Q "where",e),(Q "at",f),(Q "count",g),(Q "has_own",h)]
def hW (d:Nat)(a b c e f g h i:E):Y:=fr 1043 d [(Q "script",a),(Q "source",b),(Q "spoil",c),(Q "where",e),(Q "at",f),(Q "count",g),(Q "has_own",h),(Q "rows",i)]
def wR (d:Nat)(a b c e f g h i j:E):Y:=fr 1043 d [(Q "script",a),(Q "source",b),(Q "spoil",c),(Q "where",e),(Q "at",f),(Q "count",g),(Q "has_own",h),(Q "rows",i),(Q "names",j)]
def pn (d:Nat)(a b c e f g h i j k l m n:E):Y:=fr 1043 d [(Q "script",a),(Q "source",b),(Q "spoil",c),(Q "where",e),(Q "at",f),(Q "count",g),(Q "has_own",h),(Q "rows",i),(Q "names",j),(Q "world",k),(Q "shelf",l),(Q "streams",m),(Q "held",n)]
def jw (d:Nat)(a b c e f g h i j k l m n p q:E):Y:=fr 1043 d [(Q "script",a),(Q "source",b),(Q "spoil",c),(Q "where",e),(Q "at",f),(Q "count",g),(Q "has_own",h),(Q "rows",i),(Q "names",j),(Q "world",k),(Q "shelf",l),(Q "streams",m),(Q "held",n),(Q "number",p),(Q "form",q)]
def gV (d:Nat)(a b c e f g h i j k l m n p q r:E):Y:=fr 1043 d [(Q "script",a),(Q "source",b),(Q "spoil",c),(Q "where",e),(Q "at",f),(Q "count",g),(Q "has_own",h),(Q "rows",i),(Q "names",j),(Q "world",k),(Q "shelf",l),(Q "streams",m),(Q "held",n),(Q "number",p),(Q "form",q),(Q "head",r)]
def uw (d:Nat)(a b c e f g h i j k l m n p q r s:E):Y:=fr 1043 d [(Q "script",a),(Q "source",b),(Q "spoil",c),(Q "where",e),(Q "at",f),(Q "count",g),(Q "has_own",h),(Q "rows",i),(Q "names",j),(Q "world",k),(Q "shelf",l),(Q "streams",m),(Q "held",n),(Q "number",p),(Q "form",q),(Q "head",r),(Q "resources",s)]
def vb (d:Nat)(a b c e f g h i j k l m n p q r s t:E):Y:=uf 1043 d [(Q "script",a),(Q "source",b),(Q "spoil",c),(Q "where",e),(Q "at",f),(Q "count",g),(Q "has_own",h),(Q "rows",i),(Q "names",j),(Q "world",k),(Q "shelf",l),(Q "streams",m),(Q "held",n),(Q "number",p),(Q "form",q),(Q "head",r),(Q "resources",s),(Q "painter",t)]
def B7 (d:Nat)(a b c e f g h i j k l m n p q r s t x:E):Y:=uf 1043 d [(Q "script",a),(Q "source",b),(Q "spoil",c),(Q "where",e),(Q "at",f),(Q "count",g),(Q "has_own",h),(Q "rows",i),(Q "names",j),(Q "world",k),(Q "shelf",l),(Q "streams",m),(Q "held",n),(Q "number",p),(Q "form",q),(Q "head",r),(Q "resources",s),(Q "painter",t),(Q "due",x)]
def gS (d:Nat)(a b c e f g h i j k l m n p q r s t x y:E):Y:=uf 1043 d [(Q "script",a),(Q "source",b),(Q "spoil",c),(Q "where",e),(Q "at",f),(Q "count",g),(Q "has_own",h),(Q "rows",i),(Q "names",j),(Q "world",k),(Q "shelf",l),(Q "streams",m),(Q "held",n),(Q "number",p),(Q "form",q),(Q "head",r),(Q "resources",s),(Q "painter",t),(Q "due",x),(Q "is_right",y)]
theorem Q8 (a:O.call (d+1) (F 587) [q] b (λc e=>k (E.tup [S "clip",S "nonzero",c]) e) X):aN O 905 d [.tup [S "clip",S "nonzero",q]] b k X:=aj (by kernel_rfl) a
theorem M7 (a:O.call (d+1) (F 587) [q] b (λe f=>O.call (d+1) (F 898) [c] f (λg h=>k (E.tup [S "fill",S "nonzero",e,g]) h) X) X):aN O 905 d [.tup [S "fill",S "nonzero",q,c]] b k X:=aj (by kernel_rfl) a
theorem M4 (b:wp (aV a m<|Q "told") λc=>O.aE (d+1) m (Q "told") c [] a (λe f=>k (E.tup [S "image",E.str s,e]) f) X):aN O 905 d [.tup [S "image",.str s,m]] a k X:=aj (by kernel_rfl) b
theorem Mf (b:1<=1000000/\O.comp (cp 898 0) (cw 898 0) [q] (bI 898 0 d []) c (λe f=>O.call (d+1) (E.ag<|cX "tuple") [E.lst e] f (λg h=>wp (bA N N h .Add (E.tup [S "DeviceGray"]) g) λa=>k a.1 a.snd) X) X):aN O 898 d [.tup [S "DeviceGray",.tup [q]]] c k X:=aj (by kernel_rfl) b
theorem HY (b:O.call (d+1) (E.ag<|dR "isinstance") [x,E.ag<|cX "str"] c (λe a=>wp (truthy a e) λf=>match f with|I=>k x a|N=>wp (aV a x<|Q "told") λg=>O.aE (d+1) x (Q "told") g [] a k False) False):fO O 898 0 x (bI 898 0 d []) c k:=aj (by kernel_rfl) b
theorem MK (b:O.call (d+1) (F 757) [c,e] a (λg f=>k (E.bool I) f)<|k (E.bool N) a.wipe):aN O 1038 d [c,e] a k X:=aj (by kernel_rfl) b
theorem Mn (b:O.call (d+1) (F 936) [a] c (λe f=>k Fl.next (zG d a e) f) X):cH O 1043 0 1 (BR d a) c k X:=aj (by kernel_rfl) b
theorem F0 (c:O.call (d+1) (F 943) [a,E.int 10] e (λf g=>O.call (d+1) (F 943) [a,E.int 4] g (λh i=>O.call (d+1) (F 943) [a,E.int 4] i (λj l=>O.call (d+1) (F 943) [a,E.int 3] l (λm n=>wp (bA N N n .Add (E.int 1) m) λb=>k Fl.next (rY d p a f h j b.1) b.snd) X) X) X) X):cH O 1043 1 2 (zG d p a) e k X:=aj (by kernel_rfl) c
theorem IH (e:wp (bA N N f .Add a<|E.int 1) λb=>wp (bA N N b.snd .Mod g b.1) λc=>k Fl.next (rY d h i j c.1 l a) c.snd):cH O 1043 2 3 (rY d h i j g l a) f k X:=aj (by kernel_rfl) e
theorem Qj (e:wp (ju a) λb=>b.length<=1000000/\O.comp (cp 1043 0) (cw 1043 0) b (bI 1043 0 d [(Q "source",c)]) f (λg h=>k Fl.next (yw d i c j l m a<|E.lst g) h) X):cH O 1043 3 4 (rY d i c j l m a) f k X:=aj (by kernel_rfl) e
theorem FW (b:O.call (d+1) (F 943) [c,E.int 3] e (λf a=>wp (ax a .Gt f<|E.int 0) λg=>k (E.bool g) a) False):fO O 1043 0 x (bI 1043 0 d [(Q "source",c)]) e k:=aj (by kernel_rfl) b
theorem P4 (g:wp (bA N N h .Add a<|E.int 1) λb=>wp (ju b.1) λc=>c.length<=1000000/\O.comp (cp 1043 1) (cw 1043 1) c (bI 1043 1 d [(Q "source",e)]) b.snd (λi f=>k Fl.next (hW d j e l m n a p<|E.loc f.2)<|f.alloc<|au.lst i) X):cH O 1043 4 5 (yw d j e l m n a p) h k X:=aj (by kernel_rfl) g
theorem MZ (a:O.call (d+1) (F 958) [b] c k False):fO O 1043 1 x (bI 1043 1 d [(Q "source",b)]) c k:=aj (by kernel_rfl) a
def OQ (O:Or)(d:Nat)(b c:E)(e:R->Prop)(X:Prop)(f:E)(g:cL)(h:E)(i:R):Prop:=O.call (d+1) (E.ag<|dR "min") [b,h] i (λj k=>wp (bA N N k .Sub c<|E.int 5) λa=>wp (aO a.snd (E.tup [S "Q",S "EX",S "zz"]) a.1) λl=>O.aE (d+1) f (Q "insert") g [j,E.tup [l,E.lst []]] a.snd (λn m=>e m) X) X
def Gy (O:Or)(d:Nat)(c e f g:E)(a:R)(h:R->Prop)(X:Prop)(b:E):Prop:=wp (aV a b<|Q "insert") λi=>wp (aO a g e) λj=>O.call (d+1) (E.ag<|dR "len") [j] a (λk l=>OQ O d c f h X b i k l) X
theorem Gd (l:wp (ax a .Lt (E.int 4) b) λm=>match m with|I=>wp (ax a .Lt b<|E.int 8) (λn=>match n with|I=>wp (aO a c e) λp=>Gy O d f e b c a (λs=>k Fl.next (hW d g h b e f i j c) s) X p|N=>k Fl.next (hW d g h b e f i j c) a)|N=>k Fl.next (hW d g h b e f i j c) a):cH O 1043 5 6 (hW d g h b e f i j c) a k X:=aj (by kernel_rfl) l
theorem MG (e:wp (aO b a<|E.int 0) λf=>wp (bA N N b .Add f<|E.lst [E.tup [S "re",E.lst [E.int 0,E.int 0,E.int 2,E.int 1]],E.tup [S "BI",E.lst []]]) λc=>wp (setItem c.snd a (E.int 0) c.1) λg=>k Fl.next (hW d h i j l m n p a) g):cH O 1043 6 7 (hW d h i j l m n p a) b k X:=aj (by kernel_rfl) e
theorem MC (c:O.call (d+1) (F 965) [a,b,E.int<|-1] e (λf g=>k Fl.next (wR d h a i j l m b n f) g) X):cH O 1043 7 8 (hW d h a i j l m b n) e k X:=aj (by kernel_rfl) c
theorem M5 (c:O.call (d+1) (F 391) [] (b.alloc<|au.lst []) (λe a=>k Fl.next (pn d f g h i j l m n p (E.loc b.2) e (E.loc a.2)<|E.loc<|a.2+1)<|(a.alloc<|au.lst []).alloc<|au.lst []) X):cH O 1043 8 9 (wR d f g h i j l m n p) b k X:=aj (by kernel_rfl) c
theorem Hp (b:wp (ju a) λc=>O.bH (cN 1043 0) (cB 1043 0) c (pn d e f g h i a j l m n p q r) s (eO O 1043 10 k X) X):bB O 1043 9 (pn d e f g h i a j l m n p q r) s k X:=aj (by kernel_rfl) b
def tY (O:Or)(d:Nat)(c e b g h:E)(f:E->R->Prop)(X:Prop)(i:R):Prop:=wp (bA N N i .Add b<|E.int 1) λa=>wp (ax a.snd .Eq h a.1) λj=>match j with|I=>O.call (d+1) (F 970) [c,e,b,g] a.snd f X|N=>O.call (d+1) (F 970) [c,e,b,E.int 0] a.snd f X
theorem Ko (h:tY O d a b c e f (λv s=>k Fl.next (jw d i a e f j l b m n p q r t c v) s) X g):eu (pn d i a e f j l b m n p q r t) g (cN 1043 0) c λx=>cE O 1043 0 0 1 x g k X:=aj (by kernel_rfl) h
theorem Gx (h:tY O d a b c e f (λv s=>k Fl.next (jw d i a e f j l b m n p q r t c v) s) X g):eu (jw d i a e f j l b m n p q r t y z) g (cN 1043 0) c λx=>cE O 1043 0 0 1 x g k X:=aj (by kernel_rfl) h
def Ln (O:Or)(d:Nat)(b c e:E)(g:R->Prop)(X:Prop)(h:cL)(i:E)(j:R):Prop:=O.aE (d+1) c (Q "append") h [i] j (λn f=>wp (aV f b<|Q "put") λk=>wp (bA N N f .Add (E.int 10) e) λa=>wp (aO a.snd c e) λl=>O.aE (d+1) b (Q "put") k [a.1,E.int 0,l] a.snd (λp m=>g m) X) X
def MU (O:Or)(d:Nat)(c e a:E)(f:R->Prop)(X:Prop)(g:R)(h:cL):Prop:=O.call (d+1) (F 204) [S "Form"] g (λi b=>O.call (d+1) (E.ag<|cX "bytes") [E.lst [a]] (b.alloc<|au.aa [(Q "Subtype",i)]) (λj k=>O.call (d+1) (F 247) [E.loc b.2,j] k (λl m=>Ln O d c e a f X h l m) X) X) X
def Qb (O:Or)(d:Nat)(c a e f:E)(g:R->Prop)(X:Prop)(h:R)(i:cL)(j:E):Prop:=O.call (d+1) (F 991) [j] h (λk l=>O.aE (d+1) e (Q "append") i [k] l (λn b=>wp (aV b a<|Q "append") λm=>MU O d c a f g X b m) X) X
def NP (O:Or)(d:Nat)(e f g c h:E)(i:E->R->Prop)(X:Prop)(j:cL)(a:E×R):Prop:=O.aE (d+1) e (Q "append") j [a.1] a.snd (λm b=>wp (aV b c<|Q "append") λk=>wp (aO b a.1<|S "deeds") λl=>Qb O d f g c h (i a.1) X b k l) X
def F5 (O:Or)(d:Nat)(a f g h i b:E)(j:E->R->Prop)(X:Prop)(c:E×R):Prop:=wp (setItem c.snd b (S "deeds") c.1) λe=>wp (aV e a<|Q "append") λk=>wp (bG e b) λl=>NP O d a f g h i j X k l
theorem Nf (i:wp (bA N N j .Add a<|E.int 1) λb=>wp (aO b.snd c b.1) λl=>wp (bG b.snd l) λm=>F5 O d e f g h a n (λv s=>k Fl.next (jw d p q r t x y z c A e f g h a v) s) X m):cE O 1043 0 1 1000 (jw d p q r t x y z c A e f g h a n) j k X:=aj (by kernel_rfl) i
theorem Mr (b:wp (ju a) λc=>O.bH (cN 1043 1) (cB 1043 1) c (jw d e f g h i a j l m n p q r s t) x (eO O 1043 11 k X) X):bB O 1043 10 (jw d e f g h i a j l m n p q r s t) x k X:=aj (by kernel_rfl) b
theorem Je (f:wp (aO a c b) λg=>wp (aO a e b) λh=>wp (aw a h<|Q "head") λi=>k Fl.next (gV d j l m n p q r s t c x e y b g i) a):eu (jw d j l m n p q r s t c x e y A B) a (cN 1043 1) b λz=>cE O 1043 1 0 1 z a k X:=aj (by kernel_rfl) f
theorem M6 (f:wp (aO a c b) λg=>wp (aO a e b) λh=>wp (aw a h<|Q "head") λi=>k Fl.next (gV d j l m n p q r s t c x e y b g i) a):eu (gV d j l m n p q r s t c x e y A B M) a (cN 1043 1) b λz=>cE O 1043 1 0 1 z a k X:=aj (by kernel_rfl) f
theorem Ks (x:wp (aO a b<|S "six") λy=>wp (ax a .IsNot y E.none) λz=>match z with|I=>wp (aO a b<|S "six") λA=>O.call (d+1) (F 977) [c,e,A] a (λB M=>wp (setItem M f (S "Matrix") B) λP=>k Fl.next (gV d g c h i j l m n p q e r s t b f) P) X|N=>k Fl.next (gV d g c h i j l m n p q e r s t b f) a):cE O 1043 1 1 2 (gV d g c h i j l m n p q e r s t b f) a k X:=aj (by kernel_rfl) x
def Ot (O:Or)(d:Nat)(e f g b:E)(a:R)(c:R->Prop)(X:Prop)(h:E):Prop:=wp (ax a .Eq h<|E.lst []) λi=>match i with|I=>wp (setItem a b (S "BBox")<|E.int 7) c|N=>wp (aO a g<|S "edges") λj=>O.call (d+1) (F 977) [e,f,j] a (λk l=>wp (setItem l b (S "BBox") k) c) X
theorem K2 (y:wp (aO a b<|S "edges") λz=>wp (ax a .IsNot z E.none) λA=>match A with|I=>wp (aO a b<|S "edges") λB=>Ot O d c e b f a (λs=>k Fl.next (gV d g c h i j l m n p q e r t x b f) s) X B|N=>k Fl.next (gV d g c h i j l m n p q e r t x b f) a):cE O 1043 1 2 3 (gV d g c h i j l m n p q e r t x b f) a k X:=aj (by kernel_rfl) y
def Jn (O:Or)(d:Nat)(b c e f:E)(g:E->R->Prop)(X:Prop)(a:E×R):Prop:=wp (aO a.snd e<|S "names") λh=>O.call (d+1) (F 984) [b,c,a.1,h] a.snd (λi j=>wp (setItem j f (S "Resources") i) λk=>g a.1 k) X
theorem Jp (y:wp (aO a b<|S "names") λz=>wp (ax a .IsNot z E.none) λA=>match A with|I=>wp (bG a g) λB=>Jn O d c e b f (λst s=>k Fl.next (gV d h c i j l m n p q r e st t x b f) s) X B|N=>k Fl.next (gV d h c i j l m n p q r e g t x b f) a):cE O 1043 1 3 1000 (gV d h c i j l m n p q r e g t x b f) a k X:=aj (by kernel_rfl) y
theorem P5 (g:wp (aV c a<|Q "fetch") λh=>wp (bG c i) λb=>O.call (d+1) (F 984) [e,a,b.1,f] b.snd (λj l=>O.aE (d+1) a (Q "fetch") h [j] l (λm n=>k Fl.next (uw d p e q r s t x y f z a b.1 A B M P m) n) X) X):cH O 1043 11 12 (gV d p e q r s t x y f z a i A B M P) c k X:=aj (by kernel_rfl) g
theorem K9 (e:(ki (mz 1043)<|H 1040)/\O.call (d+1) (F 746) [a,b,E.bR 890040 [(Q "held",c)]] f (λg h=>k Fl.next (vb d i j l m n p q r s t a x c y z A b g) h) X):cH O 1043 12 13 (uw d i j l m n p q r s t a x c y z A b) f k X:=aj (by kernel_rfl) e
theorem Hd (b:k Fl.next (B7 d c e f g h i j l m n p q r s t x y z<|E.loc a.2)<|a.alloc<|au.lst []):cH O 1043 13 14 (vb d c e f g h i j l m n p q r s t x y z) a k X:=aj (by kernel_rfl) b
theorem Kr (f:wp (bG g h) λa=>wp (aO a.snd b<|E.int 0) λi=>O.call (d+1) (F 1031) [a.1,i,c,E.tup [E.lst [],E.int 0,E.tup []],E.lst [],e] a.snd (λj l=>k Fl.next (gS d m n p q r s t b c a.1 x y z A B M P a0 e j) l) X):cH O 1043 14 15 (B7 d m n p q r s t b c h x y z A B M P a0 e) g k X:=aj (by kernel_rfl) f
def Bn (b c:E)(d e:R->Prop)(a:R):Prop:=wp (ax a .NotEq c b) λf=>match f with|I=>d a|N=>e a
theorem LC (M:wp (aO e a<|E.int 0) λP=>O.call (d+1) (F 991) [P] e (λv1 s2=>O.call (d+1) (F 1038) [b,v1] s2 (λv3 s4=>Bn c v3 (λs=>k (Fl.ret<|E.bool N) (gS d f g h i j l m a n p q r t x y z A b B c) s) (λs=>k Fl.next (gS d f g h i j l m a n p q r t x y z A b B c) s) s4) X) X):cH O 1043 15 16 (gS d f g h i j l m a n p q r t x y z A b B c) e k X:=aj (by kernel_rfl) M
theorem M8 (B:wp (truthy a b) λM=>match !M with|I=>k (Fl.ret<|E.bool I) (gS d c e f g h i j l m n p q r s t x y z A b) a|N=>k Fl.next (gS d c e f g h i j l m n p q r s t x y z A b) a):cH O 1043 16 17 (gS d c e f g h i j l m n p q r s t x y z A b) a k X:=aj (by kernel_rfl) B
def PA (O:Or)(d:Nat)(e f:E->R->Prop)(X:Prop)(g:List E)(a:E×R)(c:List E):Prop:=c.length<=1000000/\O.comp (cp 1043 3) (cw 1043 3) c (bI 1043 3 d []) a.snd (λh b=>wp (ax b .NotEq (E.lst g)<|E.lst h) λi=>match i with|I=>e a.1 b|N=>f a.1 b) X
def I8 (O:Or)(d:Nat)(c:E)(e f:E->R->Prop)(X:Prop)(g:E×R)(a:List E):Prop:=a.length<=1000000/\O.comp (cp 1043 2) (cw 1043 2) a (bI 1043 2 d []) g.snd (λh i=>wp (bG i c) λb=>wp (hj b.1) λj=>PA O d e f X h b j) X
theorem JG (P:wp (aw c a<|Q "marks") λv0=>wp (bG c v0) λe=>wp (hj e.1) λv2=>I8 O d a0 (λb s=>k (Fl.ret<|E.bool N) (gS d f g h i j l m n p q r t x y z A B a b M) s) (λb s=>k Fl.next (gS d f g h i j l m n p q r t x y z A B a b M) s) X e v2):cH O 1043 17 18 (gS d f g h i j l m n p q r t x y z A B a a0 M) c k X:=aj (by kernel_rfl) P
def G6 (O:Or)(d:Nat)(f:E)(k:E->R->Prop)(X:Prop)(g:E×R)(a:List E):Prop:=a.length<=1000000/\O.comp (cp 1043 4) (cw 1043 4) a (bI 1043 4 d []) g.snd (λh i=>wp (bG i f) λb=>wp (hj b.1) λc=>c.length<=1000000/\O.comp (cp 1043 6) (cw 1043 6) c (bI 1043 3 d []) b.snd (λj e=>wp (ax e .Eq (E.lst h)<|E.lst j) λl=>k (E.bool l) e) X) X
theorem Pu (c:wp (aw a e<|Q "clips") λf=>wp (bG a f) λb=>wp (hj b.1) λg=>G6 O d h k X b g):bB O 1043 18 (gS d i j l m n p q r s t x y z A B M P e h a0) a k X:=aj (by kernel_rfl) c
theorem Ob (a:O.call (d+1) (F 905) [x] b k False):fO O 1043 2 x (bI 1043 2 d []) b k:=aj (by kernel_rfl) a
theorem Jy (b:wp (aO a x<|E.int 0) λc=>k c a):fO O 1043 3 x (bI 1043 3 d []) a k:=aj (by kernel_rfl) b
theorem Ny (b:wp (hj x) λa=>a.length<=1000000/\O.comp (cp 1043 5) (cw 1043 5) a (bI 1043 5 d []) c (λe f=>O.call (d+1) (E.ag<|cX "tuple") [E.lst e] f k False) False):fO O 1043 4 x (bI 1043 4 d []) c k:=aj (by kernel_rfl) b
theorem PK (c:wp (gy a x 2) λb=>O.call (d+1) (F 587) [b.getD 1 E.none] a (λe f=>k (E.tup [b.getD 0 E.none,e]) f) False):fO O 1043 5 x (bI 1043 5 d []) a k:=aj (by kernel_rfl) c
theorem N0 (b:wp (aO a x<|E.int 1) λc=>k c a):fO O 1043 6 x (bI 1043 6 d []) a k:=aj (by kernel_rfl) b
end
end
mutual
section
open PySem Sh
def Aq:lL->Prop
 |.fill _ t=>0<=t
 |_=>True
def fP (m:Mk):Prop:=Aq m.k/\m.cs.length<=1000
theorem oN (h:∀x∈b,fP x)(c:fP m):∀x∈b++[m],fP x:=λx a=>by
 rcases gh.mp a with a|a
 .exact h x a
 .rw [bW] at a;subst a;exact c
theorem Md {p:Bool->St->List Mk->R2}(a0:∀b a d j,a.cs.length<900->0<=a.t->(∀x∈d,fP x)->p b a d=H (H j)->∀x∈j,fP x):∀n f k a d j,(∀x∈n,x.ok)->(∀s∈a::f,0<=s.t)->(∀x∈d,fP x)->row p n f k a d=H (H j)->∀x∈j,fP x:=by
 intro n
 induction n with
 |nil=>intro f k a d j _ _ h c;exact bf (bf c)▸h
 |cons x n g=>
  intro f k a d j P l h c
  have i:∀x∈n,x.ok:=λy a1=>P y<|dz _ a1
  have q:=l a<|.head _
  have X:∀s∈f,0<=s.t:=λs m=>l s<|dz _<|by assumption
  have B:∀M,0<=M.t->∀s∈M::f,0<=s.t:=λM h s m=>by
   rcases bF.mp m with rfl|m
   .exact h
   .exact X s m
  have c:(if 900<=d.length\/900<=f.length\/900<=a.cs.length then T else lE p (row p n) f k a d x)=H (H j):=c
  by_cases O:900<=d.length\/900<=f.length\/900<=a.cs.length
  .exact ao<|(if_pos O).symm.trans c
  replace c:=(if_neg O).symm.trans c
  have A:a.cs.length<900:=nM λz=>O<|.inr<|.inr z
  cases x with
  |re x y w v=>exact g _ _ _ _ _ i l (oN h<|show fP ⟨.fill ((box x y w v).by a.m) a.t,a.cs⟩ from ⟨q,by show a.cs.length<=1000;exact ay A<|by simp+arith only⟩) c
  |W x y w v=>exact g _ _ _ _ _ i (B (eT a<|(box x y w v).by a.m).1 q) (oN h<|show fP (eT a<|(box x y w v).by a.m).2 from ⟨trivial,by show (a.cs++[_]).length<=1000;refine J eJ ?_;simp;exact ay A<|by simp+arith only⟩) c
  |cm m=>exact g _ _ _ _ _ i (B {a with m:=m.mul a.m} q) h c
  |gr t=>exact g _ _ _ _ _ i (B {a with t:=t} (P (.gr t)<|.head _).1) h c
  |qq=>exact g _ _ _ _ _ i (λs m=>by rcases bF.mp m with rfl|m;exact q;exact l s m) h c
  |BI=>exact g _ _ _ _ _ i l (oN h<|show fP ⟨.eb T a.m,a.cs⟩ from ⟨trivial,by show a.cs.length<=1000;exact ay A<|by simp+arith only⟩) c
  |BX=>exact g _ _ _ _ _ i l h c
  |Q=>
   cases f with
   |nil=>exact ao<|bf c
   |cons s f=>exact g _ _ _ _ _ i X h c
  |EX=>
   cases k with
   |zero=>exact ao<|bf c
   |succ k=>exact g _ _ _ _ _ i l h c
  |zz=>
   cases k with
   |zero=>exact ao<|bf c
   |succ k=>exact g _ _ _ _ _ i l h c
  |Do b=>
   have c:kJ (row p n f k a) (p b a d)=H (H j):=c
   cases e:p b a d with
   |none=>rw [e] at c;exact ao c
   |some r=>
    replace c:=e▸c
    cases r with
    |none=>cases c
    |some a2=>exact g _ _ _ _ _ i l (a0 b a d a2 A q h e) c
set_option tactic.hygienic true in
theorem Rp (O:∀(g:Nat)(i:Fm),t[g]?=H i->∀x∈i.ds,x.ok):∀f q l n a j p,(∀x∈q,x.ok)->0<=a.t->(∀x∈j,fP x)->go z t f q l n a j=H (H p)->∀x∈p,fP x:=by
 intro f
 induction f with
 |zero=>intro _ _ _ _ _ _ _ _ _ h;exact ao h
 |succ f P=>
  intro q l n a j p X y h c
  refine Md (p:=gY z t l n λi l n a j=>go z t f i.ds l n a j) (λb a j p A y h c=>?_) q [] 0 a j p X (λs m=>by simp at m;subst m;exact y) h c
  refine tS c (λ_ e=>ao e.symm) (λ_ e=>by refine aG e ?_;clear e;rintro rfl;exact oN h ⟨trivial,by show a.cs.length<=1000;exact ay A<|by simp+arith only⟩) (λ_ e=>ao e.symm) λg a3 i a4 a0 c=>nq c (λ_ e=>ao e.symm) λ_ c=>?_
  .cases tI c with
   |out e=>exact ao e.symm
   |go r a1 a2 k d c=>
   have B:r.t=a.t/\r.cs=a.cs:=by
    revert k
    cases i.mx with
    |bad=>exact λk=>ao k
    |_=>intro k;refine aG k ?_;clear k;rintro rfl;exact ⟨rfl,rfl⟩
   have M:a1.t=r.t/\∀x∈a2,fP x:=by
    revert d
    cases i.ed with
    |bad=>exact λd=>ao d
    |no=>intro d;refine kN d ?_;clear d;rintro rfl rfl;exact ⟨rfl,h⟩
    |box=>
     intro d
     refine kN d ?_;clear d;rintro rfl rfl
     refine ⟨rfl,oN h ⟨trivial,?_⟩⟩
     show (r.cs++[_]).length<=1000
     refine J eJ ?_;refine J B.2 ?_;simp;exact ay A<|by simp+arith only
   exact P _ _ _ _ _ _ (O _ i a0) (by refine J M.1 ?_;refine J B.1 ?_;exact y) M.2 c
section
variable {n:bV}{d:Nat}{a:R}{X:Prop}
theorem Ri (p:Lv 13 n d)(B:0<=t)(f:k (ik t) a):(On n).call d (F 898) [.tup [S "DeviceGray",.tup [gP t]]] a k X:=by
 refine cq p λq=>?_
 refine Mf ?_
 refine ⟨by exact ab _ _,?_⟩
 refine gC (q.le<|by exact aT _:Lv (11+1) _ _) λj=>?_
 refine HY ?_
 have g:∀v,.tup [S "DeviceGray",v]=ik t->(On n).comp (cp 898 0) (cw 898 0) [] (bI 898 0 d []) a (λr a=>(On n).call (d+1) (E.ag<|cX "tuple") [E.lst<|v::r] a (λh s=>wp (bA N N s .Add (E.tup [S "DeviceGray"]) h) λl=>k l.1 l.snd) X) X:=by
  intro v e
  refine gD<|hK<|aR (c:=.tup [v]) rfl<|nY (by simp) ?_
  show k (.tup [S "DeviceGray",v]) a
  refine J e ?_
  exact f
 have i:∀{x y} {P:R->Prop} {k},k (.tup [.int x,.int y]) a->(On n).call (d+1) (E.ag<|dR "isinstance") [.inst 155 [(Q "top",.int x),(Q "places",.int y)],E.ag<|cX "str"] a (λz b=>wp (truthy b z) λh=>match h with|I=>P b|N=>wp (aV b (.inst 155 [(Q "top",.int x),(Q "places",.int y)])<|Q "told") λA=>(On n).aE (d+1) (.inst 155 [(Q "top",.int x),(Q "places",.int y)]) (Q "told") A [] b k False) False:=by
  intro x y P k f
  refine hS (c:=.ref 155) (i:=N) (j.le<|by exact ab _ _:Lv (1+1) _ _) rfl (by kernel_rfl) (by kernel_rfl)<|en ?_
  exact aR (c:=.fn 138) (by kernel_rfl)<|cg<|IP (j.le<|by exact ab _ _) f
 by_cases c:9<t
 .refine J (show gP t=D 1 by unfold gP;exact J (if_pos c) rfl) ?_
  refine i ?_
  exact g _<|by unfold ik;exact J (if_pos c) rfl
 by_cases m:t=0
 .subst m
  refine i ?_
  exact g _ rfl
 refine J (show gP t=.inst 155 [(Q "top",.int t),(Q "places",.int 1)] by unfold gP;refine J (if_neg c) ?_;exact J (if_neg m) rfl) ?_
 refine i ?_
 exact g _<|by unfold ik;refine J (if_neg c) ?_;exact J (if_pos<|by grind) rfl
theorem Ni (g:Lv 20 n d)(h:Aq m)(e:∀b,Fr a b []->k m.told b):(On n).call d (F 905) [m.mv] a k X:=by
 refine cq g λc=>?_
 cases m with
 |eb o m=>
  refine M4 ?_
  exact aR (c:=.fn 440) (by kernel_rfl)<|cg<|L5 (c.le<|by exact ab _ _)<|e a<|Fr.refl _ _
 |clip q=>
  refine Q8 ?_
  exact wj (c.le<|by exact ab _ _) λb f=>e b f
 |fill q t=>
  refine M7 ?_
  exact wj (c.le<|by exact ab _ _) λb f=>Ri (c.le<|by exact ab _ _) h<|e b f
theorem HK (c) (m):E.cu m c=I->E.gk c c=I:=
 (qx (P:=λ_ x=>E.beq x x=I) (L:=λ_ c=>E.gk c c=I) (λ_=>rfl) (λ_ i=>beq_self_eq_true i) (λ_ s _=>beq_self_eq_true s) (λ_ _ h _=>h) (λ_ _ h _=>h) (λ_=>rfl) (λ_ _ _ e b=>show (_ && _)=I from J e b) m).2 c
theorem uX (b):(∀x∈b,x.isData m=I)->E.cu m b=I:=by
 induction b with
 |nil=>exact λ_=>rfl
 |cons x b c=>exact λh=>show (_ && _)=I from aW (h x<|.head _)▸c λy e=>h y<|.tail _ e
theorem Bp (h:E.cu 30 b=I):pd (.lst b) (.lst b)=H I:=by
 cases b with
 |nil=>rfl
 |cons x b=>
  show (match E.cu 30 (x::b) && E.cu 30 (x::b) with|I=>H<|E.gk (x::b)<|x::b|N=>T)=_
  refine aW h▸aW (HK _ 30 h)▸?_
  rfl
theorem Rm (h:E.cu 30 b=I)(c:k I):wp (ax a .Eq (.lst b)<|.lst b) k:=fy (r:=ax a .Eq (.lst b)<|.lst b) (congrArg oo<|Bp h) trivial c
theorem Rn (h:E.cu 30 b=I)(c:k N):wp (ax a .NotEq (.lst b)<|.lst b) k:=by
 exact aR (c:=N) (congrArg qI<|Bp h) c
theorem Kw (m:lL):m.told.isData 30=I:=by
 cases m with
 |eb o m=>cases o with
  |none=>kernel_rfl
  |some b=>cases b<;>kernel_rfl
 |clip q=>kernel_rfl
 |fill q t=>
  show (E.isData 29 (S "fill") && (E.isData 29 (S "nonzero") && (E.isData 29 q.out && (E.isData 29 (ik t) && I))))=I
  have:(ik t).isData 29=I:=by
   unfold ik
   split
   .kernel_rfl
   .split<;>kernel_rfl
  simp only [this,show E.isData 29 (S "fill")=I by kernel_rfl,show E.isData 29 (S "nonzero")=I by kernel_rfl,show E.isData 29 q.out=I by kernel_rfl]
  rfl
theorem QA (b:List bX):(E.tup<|b.map dP).isData 30=I:=by
 refine uX _ λx c=>?_
 refine zl c ?_;rintro q _ rfl
 kernel_rfl
end
end
mutual
section
variable {n:bV}{d L':Nat}{X:Prop}
theorem Bv (c:Lv 22 n<|d+1):∀(l:List Mk) a k,(∀x∈l,fP x)->(∀e,Fr a e []->k (l.map λm=>m.k.told) e)->(On n).comp (cp 1043 2) (cw 1043 2) (l.map Mk.mv) (bI 1043 2 d []) a k X
 |[],a,k,_,b=>gD<|b a<|Fr.refl _ _
 |m::l,a,k,f,b=>gC (c.le<|by exact aT _:Lv (21+1) _ _) λg=>by
  refine Ob ?_
  exact Ni (g.le<|by exact ab _ _) (f m<|.head _).1 λh i=>Bv c l h (λj a=>k (m.k.told::j) a) λx r=>f x<|dz _<|by assumption λp q=>b p<|i.trans q
theorem Ck (c:Lv 2 n<|d+1):∀(l:List Mk) a k,k (l.map λm=>m.k.told) a->(On n).comp (cp 1043 3) (cw 1043 3) (l.map Mk.row) (bI 1043 3 d []) a k X
 |[],a,k,b=>gD b
 |m::l,a,k,b=>gC (c.le<|by exact aT _:Lv (1+1) _ _) λf=>by
  refine Jy ?_
  exact ix rfl<|Ck c l a (λe a=>k (m.k.told::e) a) b
theorem zt (c:Lv 18 n<|d+1):∀(l:List bX) a k,(∀e,Fr a e []->k (l.map dP) e)->(On n).comp (cp 1043 5) (cw 1043 5) (l.map iq) (bI 1043 5 d []) a k X
 |[],a,k,b=>gD<|b a<|Fr.refl _ _
 |q::l,a,k,b=>gC (c.le<|by exact aT _:Lv (17+1) _ _) λf=>by
  refine PK ?_
  exact As<|wj (f.le<|by exact ab _ _) λg h=>zt c l g (λi a=>k (dP q::i) a) λj m=>b j<|h.trans m
theorem yX (c:Lv 22 n<|d+1):∀(l:List Mk) a k,(∀x∈l,x.cs.length<=1000000)->(∀e,Fr a e []->k (l.map λm=>.tup<|m.cs.map dP) e)->(On n).comp (cp 1043 4) (cw 1043 4) (l.map Mk.cv) (bI 1043 4 d []) a k X
 |[],a,k,_,b=>gD<|b a<|Fr.refl _ _
 |m::l,a,k,f,b=>gC (c.le<|by exact aT _:Lv (21+1) _ _) λg=>by
  refine Ny ?_
  refine aR (c:=m.cs.map iq) rfl ⟨by rw [cb];exact f m<|.head _,zt (g.le<|by exact ab _ _) m.cs a _ λh i=>hK<|aR (c:=.tup<|m.cs.map dP) rfl ?_⟩
  exact yX c l h (λj a=>k (.tup (m.cs.map dP)::j) a) λx r=>f x<|dz _<|by assumption λp q=>b p<|i.trans q
theorem Kj (c:Lv 2 n<|d+1)(l:List Mk) (a) (k)(b:k (l.map λm=>.tup<|m.cs.map dP) a):(On n).comp (cp 1043 6) (cw 1043 6) (l.map Mk.row) (bI 1043 3 d []) a k X:=by
 have e:bI 1043 3 d []=bI 1043 6 d []:=by kernel_rfl
 clear e
 induction l generalizing k with
 |nil=>exact gD b
 |cons m l f=>
  refine gC (c.le<|by exact aT _:Lv (1+1) _ _) λh=>?_
  refine N0 ?_
  exact ix rfl<|f (λg a=>k (.tup (m.cs.map dP)::g) a) b
theorem LY {z A B M O P v6 v7 v8 v9 a0 a1 a2 a3 a4 a5 a6:E}{p b:Nat}{w:PF}{e:SF}{f g:List E}{i:List<|Nat×au}{a:List Mk}{q:R}{k:E->R->Prop}(j:Lv 26 n<|d+1)
  (h:af q<|C p w e f (a.map Mk.mv) (a.map Mk.cv) g++(b,.lst<|a.map Mk.row)::i) (r:∀x∈a,fP x) (l:a.length<=1000000) (a7:∀a8,k (.bool I) a8):
  bB (On n) 1043 17 (gS d z A B M O P v6 v7 v8 v9 a0 a1 a2 a3 a4 a5 a6 (.loc p) (.loc b)<|.bool I) q k X:=by
 refine cI 17 18 (by exact ab _ _) ?_
 refine JG ?_
 have a9:(a.map Mk.mv).length<=1000000:=by rw [cb];exact l
 have b0:(a.map Mk.cv).length<=1000000:=by rw [cb];exact l
 have s:(a.map Mk.row).length<=1000000:=by rw [cb];exact l
 refine Dc h.gp<|hN h.fa<|aR (c:=a.map Mk.mv) rfl ⟨a9,?_⟩
 refine Bv (j.le<|by exact ab _ _) a _ _ r λb1 f1=>?_
 have t:=(af.free (A:=[(p,PO w),(w.s,SO e),(w.of,.lst f)]) (B:=[(w.cl,.lst<|a.map Mk.cv),(w.pl,.lst g)]++(b,.lst<|a.map Mk.row)::i) h).fr f1
 refine hN (l:=b) (b:=a.map Mk.row) (t.get<|cD (i:=5) rfl)<|aR (c:=a.map Mk.row) rfl ⟨s,Ck (j.le<|by exact ab _ _) a _ _<|Rn (uX _ λx c=>?_) ?_⟩
 .refine zl c ?_;rintro m _ rfl
  exact Kw m.k
 have y:af (b1.free b)<|[(p,PO w),(w.s,SO e),(w.of,.lst f),(w.cl,.lst<|a.map Mk.cv),(w.pl,.lst g)]++i:=af.free (A:=[(p,PO w),(w.s,SO e),(w.of,.lst f),(w.cl,.lst<|a.map Mk.cv),(w.pl,.lst g)]) (B:=i) t
 show bB (On n) 1043 18 _ _ k X
 refine Pu ?_
 refine Dd (w:=w) (y.get<|.head _)<|hN (l:=w.cl) (b:=a.map Mk.cv) (y.get<|cD (i:=3) rfl)<|aR (c:=a.map Mk.cv) rfl ⟨b0,?_⟩
 refine yX (j.le<|by exact ab _ _) a _ _ (λx c=>ai (r x c).2<|by exact ab _ _) λb2 f2=>?_
 refine aR (c:=(.lst<|a.map Mk.row,b2)) rfl<|aR (c:=a.map Mk.row) rfl ⟨s,Kj (j.le<|by exact ab _ _) a _ _<|Rm (uX _ λx c=>?_)<|a7 _⟩
 refine zl c ?_;rintro m _ rfl
 exact QA m.cs
end
end
mutual
open Mine
def eY:St:=⟨.one,0,[]⟩
theorem GV {a b c e f:E}(g:aN O 736 d [a,b,c,e,.none] h k X):aN O 736 d [a,b,c,e] h k X:=aj (by kernel_rfl) g
theorem Qr (b:aN O 320 d [a,.none,.none] c k X):aN O 320 d [a] c k X:=aj (by kernel_rfl) b
section
variable {n:bV}{d:Nat}{a:R}{X:Prop}{k:E->R->Prop}
theorem yQ (b:Lv 10 n d)(c:k (.tup zT) a):(On n).call d (F 615) [S "DeviceGray"] a k X:=by
 refine bN (L:=9) (c:=[]) (l:=I) (m:=I) bO b λb=>?_
 refine Oa ?_
 exact ⟨by have:=b.depth;exact ay this<|by simp+arith only,c⟩
theorem Hu (c:Lv 10 n d)(f:∀e,Fr a e []->k (.aa wc) e):(On n).call d (F 622) [] a k X:=by
 refine bN (L:=9) (c:=[]) (l:=I) (m:=N) bO c λc=>?_
 have g:=c.depth
 refine Kl (nJ<|c.dm rfl) ?_
 refine gj eg (by trivial) ?_
 refine gj bP (fL<|by kernel_rfl) ?_
 refine gj bP (fL<|by kernel_rfl) ?_
 refine gj bP (fL<|by kernel_rfl) ?_
 refine gj bP (fL<|by kernel_rfl) ⟨by exact ay g<|by simp+arith only,?_⟩
 refine gj bP (fL<|by kernel_rfl) ?_
 refine gj bP (fL<|by kernel_rfl) ?_
 refine gj bP (fL<|by kernel_rfl) ?_
 refine pe bP ?_
 refine (?_:k (.aa wc) _)
 have b:a.next<=a.next:=aT _
 exact f _<|((((((((((Fr.refl _ _).alloc).set<|.inl b).set<|.inl b).set<|.inl b).set<|.inl b).set<|.inl b).set<|.inl b).set<|.inl b).set<|.inl b).free<|.inl b
theorem JZ (b:Lv 12 n d)(f:∀s e,(∀c,af a c->af e ((s,SO eY.sf)::c))->k (.loc s) e):(On n).call d (F 630) [.none] a k X:=by
 refine bN (L:=11) (c:=[454,443]) (l:=I) (m:=N) bO b λb=>?_
 refine J6 (nJ<|b.dm rfl) ?_
 refine yQ (b.le<|by exact ab _ _)<|yQ (b.le<|by exact ab _ _)<|Hu (b.le<|by exact ab _ _) λl g=>?_
 refine zp (f:=eY.sf) (b.le<|by exact ab _ _) λi j=>f _ i λc h=>j c<|h.fr g
def ez (a c:R)(e:List<|Nat×au):Prop:=∀b,af a b->af c (e++b)
theorem af.nil:af a []:=⟨Tc,λx h=>by cases h⟩
theorem ez.refl:ez a a []:=λ_ h=>h
theorem ez.alloc (h:ez a b c):ez a (b.alloc o)<|(b.next,o)::c:=λe g=>af.alloc<|h e g
theorem ez.set (h:ez a b<|A++(l,o)::B):ez a (b.set l c)<|A++(l,c)::B:=λe g=>by
 have:=h e g
 rw [hE] at this |-
 exact af.set this
theorem ez.get (h:ez a b c)(m:(l,o)∈c):b.get l=H o:=(h [] af.nil).get<|by simpa using m
theorem ez.call (h:ez a c f)(g:∀b,af c b->af i ((s,o)::b)):ez a i<|(s,o)::f:=λb e=>g _<|h b e
theorem gF {p c:Nat}(h:ez a g<|A++(p,.inst c b)::B)(i:fo c e=I)(j:aP (b.length<=100)=I)(l:∀f,ez a f (A++(p,.inst c<|bc e v b)::B)->m f):wp (setField g (.loc p) e v) m:=
 nt (h.get<|by simp) i j<|l _ h.set
theorem Gg {g i:Nat}{j:List<|ae×E}{l:List<|ae×E}(y:Lv 15 n d)
  (M:∀(w:PF) p B,w.sh=g->w.res=j->w.kk=i->w.ir=l->w.fl=0->mk w w.s w.pl 0=w->ez a B (C p w eY.sf [] [] [] [])->k (.loc p) B):(On n).call d (F 746) [.loc g,.aa j,.bR i l] a k X:=by
 refine tG (i:=736) y (by kernel_rfl) λy=>?_
 refine GV (f:=.none) ?_;refine N2 ?_
 have m:ez a (a.alloc<|.inst 746 []) [(a.next,.inst 746 [])]:=ez.refl.alloc
 refine gF (A:=[]) m (by kernel_rfl) (by kernel_rfl) λ_ m=>gF (A:=[]) m (by kernel_rfl) (by kernel_rfl) λ_ m=>gF (A:=[]) m (by kernel_rfl) (by kernel_rfl) λ_ m=>?_
 refine JZ (y.le<|by exact ab _ _) λs P f=>?_
 have m:=m.call f
 refine gF (A:=[_]) m (by kernel_rfl) (by kernel_rfl) λq m=>?_
 have m:=m.alloc (o:=.lst [])
 refine gF (A:=[_,_]) m (by kernel_rfl) (by kernel_rfl) λ_ m=>gF (A:=[_,_]) m (by kernel_rfl) (by kernel_rfl) λ_ m=>?_
 refine Ct (y.le<|by exact ab _ _) ?_
 refine gF (A:=[_,_]) m (by kernel_rfl) (by kernel_rfl) λ_ m=>gF (A:=[_,_]) m (by kernel_rfl) (by kernel_rfl) λ_ m=>gF (A:=[_,_]) m (by kernel_rfl) (by kernel_rfl) λ_ m=>gF (A:=[_,_]) m (by kernel_rfl) (by kernel_rfl) λr m=>?_
 have m:=m.alloc (o:=.lst [])
 refine gF (A:=[_,_,_]) m (by kernel_rfl) (by kernel_rfl) λt m=>?_
 have m:=m.alloc (o:=.lst [])
 refine gF (A:=[_,_,_,_]) m (by kernel_rfl) (by kernel_rfl) λx m=>?_
 have m:=m.alloc (o:=.lst [])
 refine gF (A:=[_,_,_,_,_]) m (by kernel_rfl) (by kernel_rfl) λO m=>?_
 refine ⟨rfl,M ⟨g,j,i,l,s,q.next,0,[],Q "",0,r.next,t.next,x.next⟩ a.next O rfl rfl rfl rfl rfl rfl λA h=>?_⟩
 refine (m A h).perm ?_
 have e:∀(z b c e f:E),au.inst 746 (bc (Q "clips") f<|bc (Q "marks") e<|bc (Q "open_forms") c<|bc (Q "skips") (.int 0)<|bc (Q "text") .none<|bc (Q "rule") (S "")<|bc (Q "path") P0<|bc (Q "floor") (.int 0)<|bc (Q "pile") b<|bc (Q "state") z<|bc (Q "opener") (.bR i l)<|bc (Q "resources") (.aa j)<|bc (Q "shelf") (.loc g) [])=.inst 746 [(Q "shelf",.loc g),(Q "resources",.aa j),(Q "opener",.bR i l),(Q "state",z),(Q "pile",b),(Q "floor",.int 0),(Q "path",P0),(Q "rule",S ""),(Q "text",.none),(Q "skips",.int 0),(Q "open_forms",c),(Q "marks",e),(Q "clips",f)]:=λz b c e f=>by kernel_rfl
 show lr ((x.next,au.lst [])::(t.next,.lst [])::(r.next,.lst [])::(q.next,.lst [])::(s,SO eY.sf)::(a.next,PO ⟨g,j,i,l,s,q.next,0,[],Q "",0,r.next,t.next,x.next⟩)::([]++A))<|(a.next,PO ⟨g,j,i,l,s,q.next,0,[],Q "",0,r.next,t.next,x.next⟩)::(s,SO eY.sf)::(r.next,.lst [])::(t.next,.lst [])::(x.next,.lst [])::(q.next,.lst [])::A
 generalize (x.next,au.lst [])=x1
 generalize (t.next,au.lst [])=x2
 generalize (r.next,au.lst [])=x3
 generalize (q.next,au.lst [])=x4
 generalize (s,SO eY.sf)=x5
 generalize (a.next,PO _)=x6
 haveI:DecidableEq<|Nat×au:=Fp _
 refine Fq.mpr λz=>?_
 simp only [Fs,nI]
 simp+arith only
theorem JQ (i:Lv 3 n d)(r:∀j l p q,ez a q [(j,bY l p),(l,.tab []),(p,.aa [])]->k (.loc j) q):(On n).call d (F 391) [] a k X:=by
 refine tG (i:=320) i (by kernel_rfl) λi=>?_
 refine Qr ?_;refine LO ?_
 have m:ez a (a.alloc<|.inst 391 []) [(a.next,.inst 391 [])]:=ez.refl.alloc
 have m:=m.alloc (o:=.tab [])
 refine gF (A:=[_]) m (by kernel_rfl) (by kernel_rfl) λc m=>?_
 have m:=m.alloc (o:=.aa [])
 refine gF (A:=[_,_]) m (by kernel_rfl) (by kernel_rfl) λs m=>⟨rfl,r _ (a.next+1) c.next s λg h=>?_⟩
 refine (m g h).perm ?_
 have e:∀f b,au.inst 391 (bc (Q "trailer") b<|bc (Q "table") f [])=.inst 391 [(Q "table",f),(Q "trailer",b)]:=λf b=>by kernel_rfl
 show lr ((c.next,au.aa [])::(a.next+1,.tab [])::(a.next,bY (a.next+1) c.next)::([]++g))<|(a.next,bY (a.next+1) c.next)::(a.next+1,.tab [])::(c.next,au.aa [])::g
 generalize (c.next,au.aa [])=t
 generalize (a.next+1,au.tab [])=x
 generalize (a.next,bY _ _)=y
 haveI:DecidableEq<|Nat×au:=Fp _
 refine Fq.mpr λf=>?_
 simp only [Fs,nI]
 simp+arith only
end
end
mutual
open Mine
theorem af.wO {i a:R}{c:List<|Nat×au}{l:Nat}{o:au}{L:List Nat}(h:af i<|(l,o)::c)(f:Fr i a L)(p:∀x∈L,x=l\/∀y∈c,y.1≠x):af a c/\l<a.next/\∀d,a.get l=H d->af a ((l,d)::c):=by
 have j:=h.tail
 have g:=h.nd
 rw [dQ,gd] at g
 have k:af a c:=⟨j.nd,λx b=>by
  have:=j.at_ x b
  refine ⟨?_,bE this.2 f.next⟩
  refine J (f.get _ this.2 λm=>by
   rcases p _ m with e|e
   .exact g.1<|sQ.mpr ⟨x,b,e⟩
   .exact e x b rfl) ?_
  exact this.1⟩
 have n:l<a.next:=bE (h.lt (o:=o)<|by exact .head _) f.next
 refine ⟨k,n,λd q=>⟨?_,λx b=>?_⟩⟩
 .refine J dQ ?_;rewrite [gd];exact g
 .rcases bF.mp b with rfl|b
  .exact ⟨q,n⟩
  .exact k.at_ x b
section
variable {n:bV}{d:Nat}{X:Prop}{k:E->R->Prop}{c b:List<|Nat×au}{g j t l:Nat}{e:List<|Int×E}{h:Nat->Nat}{i f r:List E}{a:List Fm}{m:cn}{s:List aB}
abbrev fg (a:List Fm)(m:cn)(s:List aB):Prop:=
 hn a/\
 (∀(q:Nat) (p:Fm),a[q]?=H p->p.ds.length<=10)/\
 (∀(q:Nat) (p:Fm),a[q]?=H p->∀x∈p.ds,x.ok)/\
 mB a (-1) m/\
 (∀x∈s,x.ok)/\
 dc s/\
 s.length<=10
theorem fg.uz (p:fg a m s):hn a:=p.1
theorem fg.len (q:fg a m s):∀(x:Nat) p,a[x]?=H p->p.ds.length<=10:=q.2.1
theorem fg.Jk (q:fg a m s):∀(y:Nat) p,a[y]?=H p->∀x∈p.ds,x.ok:=q.2.2.1
theorem fg.ok (p:fg a m s):∀x∈s,x.ok:=p.2.2.2.2.1
theorem fg.one (p:fg a m s):dc s:=p.2.2.2.2.2.1
theorem fg.ln (p:fg a m s):s.length<=10:=p.2.2.2.2.2.2
theorem fg.go (p:fg a m s):∃y,go dM a 9 s m [] eY []=H y/\go iB a 9 s m [] eY []=H y/\∀z,y=H z->(∀x∈z,fP x)/\z.length<=1000000:=by
 refine aK (Lx p.uz p.len 9 8 s m [] eY [] rfl (by decide) p.one p.ln (λM O P A=>(p.2.2.2.1 M O P A).1) (by decide)<|by decide) λy B A=>?_
 refine ⟨y,B,Ru p.uz 9 s m [] (-1) eY [] y ⟨by simp,p.2.2.2.1,p.one,.inl ⟨by simp,by simp⟩⟩ B,λz q=>?_⟩
 subst q
 refine ⟨Rp p.Jk 9 s m [] eY [] z p.ok (by trivial) (by exact λ_ A=>nomatch A) B,?_⟩
 have:=A z rfl
 exact ai (by assumption)<|by decide
theorem Bu (q:x y):Bn (.bool p) (.bool p) z x y:=aR (c:=N) (by cases p<;>rfl) q
theorem F7 (b1:Wd c g j t l e h i a)(lw:oR f a)(M:fg a m s){v0 v1 v2 v3 v4 v5 v6 a2 a3 a4 a5 a6 a7 a8:E}{p a0 rw:Nat}{w:PF}{z:R}(a1:Lv 88 n<|d+1)
  (h1:w.sh=g) (h2:w.kk=890040) (h3:w.ir=[(Q "held",.loc l)]) (h4:w.fl=0) (h5:mk w w.s w.pl 0=w) (b2:hQ e h w.res m)
  (y:af z<|C p w eY.sf [] [] [] []++(a0,.lst f)::b) (b3:∀x∈c,x∈b) (b4:(rw,.lst r)∈b) (b5:r[0]?=H (.lst<|s.map aB.tup)) (b6:∀b7,k (.bool I) b7):
  bB (On n) 1043 13 (vb d v0 v1 v2 v3 v4 v5 v6 (.loc rw) (.aa<|dC m) (.loc a0) a2 a3 a4 a5 a6 a7 a8<|.loc p) z k X:=by
 refine cI 13 14 (by exact ab _ _) ?_
 refine Hd ?_
 have y:=af.alloc (o:=.lst []) y
 refine cI 14 15 (by exact ab _ _) ?_
 refine Kr ?_
 refine hN (l:=a0) (b:=f) (y.get<|by exact cD (i:=7) rfl) ?_
 have y:=af.free (A:=(z.next,au.lst [])::C p w eY.sf [] [] [] []) (B:=b) y
 refine gQ (g:=0) ((λy=>y.get<|eK _ b4) y) b5 ?_
 refine cK M.go λO e1 e2 e3=>?_
 have ln:=M.ln
 have y:af ((z.alloc<|.lst []).free a0)<|(z.next,.lst [])::(C p w eY.sf [] [] [] []++b):=y
 refine IX lw 9 n (d+1) s (dC m) m [] [] eY [] z.next _ _ X O (a1.le<|by exact ab _ _) (vU m) (by exact λ_ y=>nomatch y) rfl (by trivial) (by trivial) (by exact ai (by assumption)<|by decide) M.ok (y.lt (o:=.lst [])<|by exact .head _) (y.get<|by exact .head _) e2 λc8 f2 g2=>?_
 refine dI (y.wO f2 λx a9=>.inl<|by simpa using a9) λb8 c9 c3=>?_
 refine cI 15 16 (by exact ab _ _) ?_
 refine LC ?_
 refine gQ (g:=0) ((λy=>y.get<|eK _ b4) b8) b5<|yI (a1.le<|by exact ab _ _) M.ok (by exact ai (by assumption)<|by decide) λb9 f3=>?_
 have c0:∀(b0:R),(O.isSome=I->bB (On n) 1043 17 (gS d v0 v1 v2 v3 v4 v5 v6 (.loc rw) (.aa<|dC m) (.lst f) a2 a3 a4 a5 a6 a7 a8 (.loc p) (.loc z.next)<|.bool O.isSome) b0 k X)->bB (On n) 1043 16 (gS d v0 v1 v2 v3 v4 v5 v6 (.loc rw) (.aa<|dC m) (.lst f) a2 a3 a4 a5 a6 a7 a8 (.loc p) (.loc z.next)<|.bool O.isSome) b0 k X:=by
  intro b0 c1
  refine cI 16 17 (by exact ab _ _) ?_
  refine M8 ?_
  refine en<|tf O.isSome (λq=>?_) λq=>?_
  .rw [q] at c1 |-;exact c1 rfl
  .refine J q ?_;exact b6 _
 refine cq (a1.le<|by exact ab _ _:Lv (84+1) n<|d+1) λc2=>?_
 refine MK ?_
 cases O with
 |none=>
  have B:=b8.fr f3
  rw [<-h5] at B
  refine CD b1 9 n (d+1+1) s m [] eY [] w w.s w.pl [] b b9 _ _ T (c2.le<|by exact aT _) h1 h2 h3 (by refine J h4 ?_;rfl) (by trivial) (by trivial) b2 M.ok b3 B e1 (λc4 A=>ao A) λ_=>?_
  exact Bu<|c0 _ λA=>ff A
 |some P=>
  refine aL (e3 P rfl) λc5 c6=>?_
  have B:=((c3 _<|g2 P rfl).fr f3).perm<|ij (l₁:=C p w eY.sf [] [] [] []) (l₂:=b) (a:=(z.next,.lst<|P.map Mk.row)).symm
  rw [<-h5] at B
  refine CD b1 9 n (d+1+1) s m [] eY [] w w.s w.pl [] ((z.next,.lst<|P.map Mk.row)::b) b9 _ _ (H P) (c2.le<|by exact aT _) h1 h2 h3 (by refine J h4 ?_;rfl) (by trivial) (by trivial) b2 M.ok (λx a9=>dz _<|b3 x a9) B e1 (λc4 A b7 s' q' c7 d0 d1 B _ _=>?_) λA=>ao A.symm
  refine aG A ?_;clear A;rintro rfl
  refine Bu<|c0 _ λ_=>?_
  exact LY (w:=mk w s' q' c7) (a1.le<|by exact ab _ _) B c5 c6 b6
theorem Hh (O:Wd c g j t l e h i a)(P:oR f a)(a0:fg a m s){v0 v1 v2 v3 v4 v5 v6 a1 a2 a3 a4:E}{q y:Nat}{z:List<|ae×E}{A:R}(B:Lv 88 n<|d+1)(a5:hQ e h z m)
  (a6:af A<|(q,.lst f)::b) (a7:∀x∈c,x∈b) (a8:(y,.lst r)∈b) (a9:r[0]?=H (.lst<|s.map aB.tup)) (b0:∀M,k (.bool I) M):
  bB (On n) 1043 12 (uw d v0 v1 v2 v3 v4 v5 v6 (.loc y) (.aa<|dC m) (.loc q) (.loc g) a1 (.loc l) a2 a3 a4<|.aa z) A k X:=by
 refine cI 12 13 (by exact ab _ _) ?_
 refine K9 ?_
 refine ⟨Mo,Gg (B.le<|by exact ab _ _) λw p M b1 b2 b3 b4 b5 b6 hm=>?_⟩
 exact F7 O P a0 B b1 b3 b4 b5 b6 (by refine J b2 ?_;exact a5) (hm _ a6) a7 a8 a9 b0
end
end
mutual
open Mine
theorem uA:aI y (bc x v a)=if x=y then H v else aI y a:=kS ..
theorem Oy (h:a≠b):¬Q a=Q b:=λe=>h<|by rw [zL] at e;exact e
theorem vg:(bc x v a).length<=a.length+1:=by
 induction a with
 |nil=>exact aT _
 |cons p r b=>
  refine J ra ?_
  split
  .exact dX _
  .exact hy b
theorem jO (c:a≠b):(aI (Q b)<|bc (Q a) v d).getD .none=(aI (Q b) d).getD .none:=by refine J uA ?_;exact J (if_neg<|Oy c) rfl
theorem wa:(aI k<|bc k v a).getD .none=v:=by refine J uA ?_;refine J (if_pos rfl) ?_;rfl
structure gK (a:List<|ae×E)(n:Nat)(m e r:E):Prop where
 s:(aI (Q "Subtype") a).getD .none=dw "Form"
 m:(aI (Q "Matrix") a).getD .none=m
 e:(aI (Q "BBox") a).getD .none=e
 r:(aI (Q "Resources") a).getD .none=r
 len:a.length<=n
theorem gK.mx {m e r v:E}(h:gK a n m e r):gK (bc (Q "Matrix") v a) (n+1) v e r:=⟨(jO<|by decide).trans h.s,wa,(jO<|by decide).trans h.e,(jO<|by decide).trans h.r,ai vg<|hy h.len⟩
theorem gK.bx {m e r v:E}(h:gK a n m e r):gK (bc (Q "BBox") v a) (n+1) m v r:=⟨(jO<|by decide).trans h.s,(jO<|by decide).trans h.m,wa,(jO<|by decide).trans h.r,ai vg<|hy h.len⟩
theorem gK.rs {m e r v:E}(h:gK a n m e r):gK (bc (Q "Resources") v a) (n+1) m e v:=⟨(jO<|by decide).trans h.s,(jO<|by decide).trans h.m,(jO<|by decide).trans h.e,wa,ai vg<|hy h.len⟩
theorem gK.head {m e r:E}{a:Fm}{c:Option<|List<|ae×E}(h:gK d n m e r)(f:kI b m a.mx)(g:lY b e a.ed)(i:nz b j r a.nm c):iv b j d a c:=⟨h.s,aW h.m▸f,aW h.e▸g,aW h.r▸i⟩
theorem nz.ext {a:Option<|List<|ae×E}(h:nz c d v b a)(e:cQ c f):nz f d v b a:=by
 cases b<;>cases a
 .exact h
 .exact h
 .exact h
 .exact ⟨h.1.ext e,h.2.ext e⟩
theorem iv.ext {a:Fm}{b:Option<|List<|ae×E}(h:iv c d f a b)(e:cQ c g):iv g d f a b:=⟨h.sub,h.mx.ext e,h.ed.ext e,h.nm.ext e⟩
def mA (a:E)(b:List E)(c:List<|Nat×au):Prop:=a=.lst b/\c=[]\/∃l,a=.loc l/\c=[(l,.lst b)]
structure Fx where
 (sc sp wh at_ ct ho:E) (s rw:Nat) (na:E) (wo sh hl:Nat)
def Fx.CE (x:Fx)(d:Nat)(a:E):Y:=pn d x.sc (.loc x.s) x.sp x.wh x.at_ x.ct x.ho (.loc x.rw) x.na (.loc x.wo) (.loc x.sh) a<|.loc x.hl
def Fx.kl (x:Fx)(d:Nat)(c a b:E):Y:=jw d x.sc (.loc x.s) x.sp x.wh x.at_ x.ct x.ho (.loc x.rw) x.na (.loc x.wo) (.loc x.sh) c (.loc x.hl) a b
def Fx.jR (x:Fx)(d:Nat)(e a b c:E):Y:=gV d x.sc (.loc x.s) x.sp x.wh x.at_ x.ct x.ho (.loc x.rw) x.na (.loc x.wo) (.loc x.sh) e (.loc x.hl) a b c
def Fx.B (x:Fx)(d:Nat)(e:E)(f:Y):Prop:=(∃a b,f=x.kl d e a b)\/∃a b c,f=x.jR d e a b c
section
variable {n:bV}{d P h:Nat}{a:R}{X:Prop}{t r:Nat}{e:List<|Int×E}{j:Nat->Nat}{f m:List E}{x:Fx}{l:Nat}{b y:List<|Nat×au}{s:E}{i:List<|ae×E}{c:Fm}{g:Nat}
theorem Nn (z:mA s f y)(A:af a<|B++y)(p:f[g]?=H v)(q:k v):wp (aO a s<|.int g) k:=by
 rcases z with ⟨rfl,rfl⟩|⟨l,rfl,rfl⟩
 .exact kD p q
 .exact gQ (A.get<|by simp) p q
theorem za (O:mA s f y)(p:af a<|q++y)(A:ba a B P)(a0:∀a1∈q++y,a1.1≠B)(M:∀z,af z q->ba z B P->k (.lst f,z)):wp (bG a s) k:=by
 rcases O with ⟨rfl,rfl⟩|⟨l,rfl,rfl⟩
 .exact aR (c:=(.lst f,a)) rfl<|M a (by simpa using p) A
 .refine hN (l:=l) (b:=f) (p.get<|by simp)<|M _ ?_<|A.fr (L:=[l]) ((Fr.refl _ _).free<|.inr<|by exact .head _) ?_
  .have:=af.free (A:=q) (B:=[]) p
   simpa using this
  .have:=a0 (l,.lst f)<|by simp
   simp at this |-
   exact λa2=>this a2.symm
theorem af.two {a k:R}{t l A:Nat}{o B p:au}{K:List<|Nat×au}(M:af a<|(t,o)::(l,p)::K)(O:Fr a k [A,t])(a0:∀q∈(t,o)::(l,p)::K,q.1≠A)(g:k.get t=H B):af k<|(t,B)::(l,p)::K:=
 (M.wO O λx z=>by
  rcases bF.mp z with rfl|z
  .exact .inr λq a1=>a0 q<|dz _ a1
  .exact .inl<|by simpa using z).2.2 _ g
theorem af.shl (k:af a<|(t,.tab e)::(l,z)::(b++y))(p:(x.sh,bY t r)∈b)(A:e.length<=h):eB a x.sh t r e h:=by
 have q:(x.sh,bY t r)∈(t,au.tab e)::(l,z)::(b++y):=by simp [p]
 refine ⟨k.get q,k.get<|by exact .head _,k.lt q,k.lt (o:=.tab e)<|by exact .head _,?_,A⟩
 intro B
 have:=k.nd
 rw [dQ,gd] at this
 refine this.1 ?_
 refine J (show (t,au.tab e).1=x.sh from B.symm) ?_
 exact sQ.mpr ⟨(x.sh,bY t r),by simp [p],rfl⟩
theorem tB {k:Fl->Y->R->Prop}{a3:Y}(d0:Lv 10 n<|d+1)(a6:af a<|(t,.tab e)::(l,.aa [(Q "Subtype",dw "Form")])::(b++y))(c5:(x.sh,bY t r)∈b)(f7:(x.wo,.lst m)∈b)(d6:e.length<=h)(d1:h<=800)(d7:ba a x.s P)(d2:P<=900000)
  (b5:∀b0∈(t,au.tab e)::(l,au.aa [(Q "Subtype",dw "Form")])::(b++y),b0.1≠x.s) (d3:mA s f y) (f8:m[g]?=H (.aa i)) (f9:f[g]?=H (cz l g)) (b9:dZ i c) (c6:aI (Q "names") i=H (gw c.nm)) (g1:c.ed.ok)
  (d8:∀nm,c.nm=H nm->∀a1 g c7,nm a1=H (.cx g c7)->f[g]?=H (cz (j g) g)/\cZ (10+g) e=H (.tup [.int 0,cz (j g) g])) (g2:x.B d s a3)
  (d9:∀a4 a7 b1 g3 e0 c8 e1,cQ e a4->af a7 ((t,.tab a4)::(l,.aa b1)::(b++c8))->a4.length<=h+6->ba a7 x.s (P+9)->mA e0 f c8->c8=y\/c8=[]->iv a4 j b1 c g3->(∃O a1 e4,e1=x.jR d e0 O a1 e4)->k .next e1 a7):
  eN (On n) 1043 1 (.int g) a3 a k X:=by
 have c9:∀{a4:List<|Int×E} {b1:List<|ae×E},∀b0∈(t,au.tab a4)::(l,au.aa b1)::(b++y),b0.1≠x.s:=λ{a4 b1} b0 b2=>by
  rcases bF.mp b2 with B|b2
  .refine J B ?_;exact b5 (t,.tab e)<|.head _
  rcases bF.mp b2 with B|b2
  .refine J B ?_;exact b5 (l,.aa [(Q "Subtype",dw "Form")])<|.tail _<|.head _
  .exact b5 b0<|.tail _<|.tail _ b2
 have d4:x.s≠x.sh/\x.s≠t:=⟨λB=>b5 (x.sh,bY t r) (.tail _<|.tail _<|gg _ c5) B.symm,λB=>b5 (t,.tab e) (.head _) B.symm⟩
 have e5:∀{a4:List<|Int×E} {b1 p:List<|ae×E} {a7:R},af a7 ((t,.tab a4)::(l,.aa b1)::(b++y))->af (a7.set l<|.aa p) ((t,.tab a4)::(l,.aa p)::(b++y)):=λa6=>af.set (A:=[_]) a6
 have d5:∀{a7:R} {o:au} {P':Nat},ba a7 x.s P'->ba (a7.set l o) x.s P':=λa6=>a6.fr (L:=[l]) ((Fr.refl _ _).set<|.inr<|.head _) λq=>b5 (l,.aa [(Q "Subtype",dw "Form")]) (.tail _<|.head _) (bW.mp q).symm
 have p3:∀(A:List<|Int×E) (p:List<|ae×E) (O a1:E) (a0:R) (M:E),cQ e A->af a0 ((t,.tab A)::(l,.aa p)::(b++y))->A.length<=h+4->ba a0 x.s (P+6)->gK p 5 O a1 .none->kI A O c.mx->lY A a1 c.ed->cE (On n) 1043 1 3 1000 (x.jR d s M (.aa i)<|.loc l) a0 k X:=by
  intro A p O a1 a0 M e2 h2 c0 c1 a2 c2 e6
  refine Jp ?_
  refine dj c6 ?_
  cases c3:c.nm with
  |none=>
   refine ey ?_
   exact d9 A a0 _ T s y _ e2 h2 (ai c0<|gZ (by decide) _) (c1.le<|gZ (by decide) _) d3 (.inl rfl) (a2.head c2 e6<|c3▸rfl) ⟨_,_,_,rfl⟩
  |some nm=>
   refine aR (c:=I) (by kernel_rfl) ?_
   refine za d3 (q:=(t,.tab A)::(l,.aa p)::b) h2 c1 c9 λa9 h3 b3=>?_
   replace c6:=c3▸c6
   refine dj c6 ?_
   refine AU (h:=j) (d0.le<|by exact ab _ _) b3 (by exact ai (dt d2 _)<|by decide) (af.shl (y:=[]) ((hz b).symm▸h3) c5 c0) (by exact ai (dt d1 _)<|by decide) d4 (λa1 g c7 B=>⟨(d8 nm c3 a1 g c7 B).1,e2 _ _ (d8 nm c3 a1 g c7 B).2⟩) λv g4 z g5 e3 g6 g7 e7 a8 g8=>?_
   have h4:=h3.two g6 (λb0 b2=>c9 b0<|gg y b2) e7.g2
   refine gj (l:=l) (b:=p) (h4.get<|.tail _<|.head _) (ai a2.len<|by decide) ?_
   have h5:af (g5.set l<|.aa<|bc (Q "Resources") v p)<|(t,.tab z)::(l,.aa<|bc (Q "Resources") v p)::b:=af.set (A:=[_]) h4
   exact d9 z _ _ (H g4) (.lst f) [] _ (e2.trans e3) ((hz b).symm▸h5) e7.ln (d5 g7) (.inl ⟨rfl,rfl⟩) (.inr rfl) (a2.rs.head (c2.ext e3) (e6.ext e3)<|c3▸⟨a8,g8⟩) ⟨_,_,_,rfl⟩
 have p2:∀(A:List<|Int×E) (p:List<|ae×E) (O:E) (a0:R) (M:E),cQ e A->af a0 ((t,.tab A)::(l,.aa p)::(b++y))->A.length<=h+2->ba a0 x.s (P+3)->gK p 4 O .none .none->kI A O c.mx->cE (On n) 1043 1 2 1000 (x.jR d s M (.aa i)<|.loc l) a0 k X:=by
  intro A p O a0 M e2 h2 c0 c1 a2 c2
  have e8:p.length<=1000000:=ai a2.len<|by decide
  refine wi 3 (by exact ab _ _) (by exact ab _ _) ?_
  refine K2 ?_
  refine dj b9.rD ?_
  have a5:=b9.rD
  have up:A.length<=h+4:=ai c0<|gZ (by decide) _
  have us:ba a0 x.s<|P+6:=c1.le<|gZ (by decide) _
  have e9:∀(v:E) (z:List<|Int×E) (a9:R),cQ A z->af a9 ((t,.tab z)::(l,.aa p)::(b++y))->z.length<=h+4->ba a9 x.s (P+6)->lY z v c.ed->cE (On n) 1043 1 3 1000 (x.jR d s M (.aa i)<|.loc l) (a9.set l<|.aa<|bc (Q "BBox") v p) k X:=λv z a9 e3 h3 g9 b3 h0=>
   p3 z _ O v _ M (e2.trans e3) (e5 h3) g9 (d5 b3) a2.bx (c2.ext e3) h0
  cases b6:c.ed with
  |no=>
   refine ey ?_
   exact p3 A p O .none a0 M e2 h2 up us ⟨a2.s,a2.m,a2.e,a2.r,jX a2.len⟩ c2<|b6▸rfl
  |bad=>
   rw [b6] at a5
   exact je<|dj a5<|DK<|gj (l:=l) (b:=p) (h2.get<|.tail _<|.head _) e8<|e9 (.int 7) A a0 (cQ.refl _) h2 up us<|b6▸⟨rfl,.inl rfl⟩
  |box f0 f1 f2 f4=>
   rw [b6] at a5
   refine je<|dj a5<|Bo<|dj a5 ?_
   refine Al (c:=[f0,f1,f2,f4]) (d0.le<|by exact ab _ _) c1 (by exact ai (dt d2 _)<|by decide) (h2.shl c5 c0) (by exact ai (dt d1 _)<|by decide) d4 ⟨mq _,ab 4 6⟩ λv xs z a9 e3 f3 b3 c4 a8 a3=>?_
   have h3:=h2.two f3 c9 c4.g2
   refine gj (l:=l) (b:=p) (h3.get<|.tail _<|.head _) e8 ?_
   exact e9 v z a9 e3 h3 c4.ln (b3.le<|aT _)<|b6▸⟨xs,a8,a3,show _ from (b6▸g1:Ed.ok<|.box f0 f1 f2 f4)⟩
 have p1:∀(M:E),cE (On n) 1043 1 1 1000 (x.jR d s M (.aa i)<|.loc l) a k X:=by
  intro M
  refine wi 2 (by exact ab _ _) (by exact ab _ _) ?_
  refine Ks ?_
  refine dj b9.six ?_
  have a5:=b9.six
  have b7:gK [(Q "Subtype",dw "Form")] 3 .none .none .none:=⟨by kernel_rfl,by kernel_rfl,by kernel_rfl,by kernel_rfl,ab 1 2⟩
  have f5:∀(is:List Int),0<is.length/\is.length<=10->(∀z v xs,dK z v (.lst xs)->dU z xs is->kI z v c.mx)->(On n).call (d+1) (.ag<|.ref 977) [.loc x.s,.loc x.sh,.lst<|is.map .int] a (λv3 s4=>wp (setItem s4 (.loc l) (S "Matrix") v3) λv5=>cE (On n) 1043 1 2 1000 (x.jR d s M (.aa i)<|.loc l) v5 k X) X:=by
   intro is h1 hm
   refine Al (d0.le<|by exact ab _ _) d7 (ai d2<|by decide) (a6.shl c5 d6) (ai d1<|by decide) d4 h1 λv xs z a9 e3 f3 b3 c4 a8 a3=>?_
   have h3:=a6.two f3 c9 c4.g2
   refine gj (l:=l) (b:=[(Q "Subtype",dw "Form")]) (h3.get<|.tail _<|.head _) (ab 1 _) ?_
   exact p2 z _ v _ M e3 (e5 h3) c4.ln (d5 b3) b7.mx<|hm _ _ _ a8 a3
  cases b8:c.mx with
  |no=>
   refine ey ?_
   exact p2 e _ .none a M (cQ.refl _) a6 (ai d6<|bZ _ _) (d7.le<|bZ _ _) ⟨b7.s,b7.m,b7.e,b7.r,jX b7.len⟩<|b8▸rfl
  |bad=>
   rw [b8] at a5
   exact je<|dj a5<|f5 [1,0,0,1,0] (by decide) λz v xs a8 a3=>b8▸⟨xs,1,0,0,1,0,a8,a3⟩
  |six b4=>
   rw [b8] at a5
   exact je<|dj a5<|f5 [b4.a,b4.b,b4.c,b4.d,b4.e,b4.f] ⟨mq _,ab 6 4⟩ λz v xs a8 a3=>b8▸⟨xs,a8,a3,b9.sm b4 b8⟩
 have h':af a<|(t,.tab e)::(l,.aa [(Q "Subtype",dw "Form")])::b++y:=a6
 have f6:∀{k1:E->E->Prop},(k1 (.aa i)<|.loc l)->wp (aO a (.loc x.wo)<|.int g) λv0=>wp (aO a s<|.int g) λv1=>wp (aw a v1<|Q "head") λv2=>k1 v0 v2:=λh2=>
  gQ (g:=g) (a6.get<|.tail _<|.tail _<|gg _ f7) f8<|Nn d3 h' f9<|uP h2
 refine qK (a:=1043) (i:=1) 1 (by kernel_rfl) ?_
 rcases g2 with ⟨O,a1,B⟩|⟨O,a1,e4,B⟩
 .refine J B ?_;exact Je<|f6<|p1 _
 .refine J B ?_;exact M6<|f6<|p1 _
end
end
mutual
open Mine
structure FB where
 (F:Fm) (fd:List<|ae×E) (l:Nat)
def ef:Nat->List FB->List E
 |_,[]=>[]
 |i,b::a=>cz b.l i::ef (i+1) a
theorem rC:ef i (b::a)=cz b.l i::ef (i+1) a:=rfl
theorem uo:∀a i j,(ef i a)[j]?=(a[j]?).map λb=>cz b.l<|i+j
 |[],i,j=>by rfl
 |b::a,i,0=>by rfl
 |b::a,i,j+1=>by
  simp only [rC,List.getElem?_cons_succ]
  refine J (uo a (i+1) j) ?_;exact J (show i+1+j=i+(j+1) by simp+arith only) rfl
def jS (a:List FB)(i:Nat):Nat:=match a[i]? with
 |H b=>b.l
 |T=>0
theorem Bs (h:a[i]?=H b):jS a i=b.l:=by unfold jS;exact J h rfl
def dq (a:List FB):List<|Nat×au:=a.map λb=>(b.l,.aa [(Q "Subtype",dw "Form")])
abbrev jq (a:List FB)(c:cn)(d:List aB):Prop:=
 fg (a.map FB.F) c d/\
 (1<=a.length/\a.length<=3)/\
 ∀b∈a,dZ b.fd b.F/\aI (Q "names") b.fd=H (gw b.F.nm)/\b.F.ed.ok
theorem jq.pg (h:jq a b c):fg (a.map FB.F) b c:=h.1
theorem jq.ln (h:jq a b c):1<=a.length/\a.length<=3:=h.2.1
theorem jq.fd (h:jq a c d):∀b∈a,dZ b.fd b.F/\aI (Q "names") b.fd=H (gw b.F.nm)/\b.F.ed.ok:=h.2.2
def eL (a:List FB):List E:=a.map λb=>.aa b.fd
def eQ (a:List FB):List E:=a.map λb=>.lst<|dy b.F.ds
def mb (a:List FB)(c:List<|Int×E):Prop:=∀(i:Nat)(b:FB),a[i]?=H b->cZ (10+(i:Nat)) c=H (.tup [.int 0,cz b.l i])
theorem mb.ext (h:mb a c)(e:cQ c d):mb a d:=λi b f=>e _ _<|h i b f
section
variable {n:bV}{d P:Nat}{a:R}{X:Prop}{t r:Nat}{e:List<|Int×E}{x:Fx}{y A:List<|Nat×au}{c:E}{b:List FB}{m:cn}{f:List aB}{s:List E}{k:E->R->Prop}
def H0 (x:Fx)(t r:Nat)(b:List FB)(s:List E):List<|Nat×au:=[(x.sh,bY t r),(x.wo,.lst<|eL b),(x.rw,.lst s),(x.hl,.lst<|eQ b)]
theorem CN (q:mb b e)(h:mB (b.map FB.F) M z):∀i g j,z i=H (.cx g j)->(ef 0 b)[g]?=H (cz (jS b g) g)/\cZ (10+g) e=H (.tup [.int 0,cz (jS b g) g]):=by
 intro i g j B
 have p:=(h i g j B).1
 rw [cb] at p
 have l:b[g]?=H b[g]:=iQ p
 simp only [uo,l,Bs l]
 refine ⟨by simp,q g _ l⟩
theorem Jd (a4:Lv 90 n<|d+1)(a0:jq b m f)(a9:x.na=.aa (dC m))(h:af a<|(t,.tab e)::(H0 x t r b s++A)++y)(b0:e.length<=800)(b1:ba a x.s P)(d0:P<=900000)(a8:∀B∈(t,au.tab e)::(H0 x t r b s++A)++y,B.1≠x.s)
  (b2:mA c (ef 0 b) y) (b3:mb b e) (b4:∀(i:Nat) (p:FB),b[i]?=H p->∃a2 a5,(p.l,.aa a2)∈A/\iv e (jS b) a2 p.F a5) (b5:s[0]?=H (.lst<|f.map aB.tup)) {b6 p b7:E} (b8:∀b9,k (.bool I) b9):
  bB (On n) 1043 11 (x.jR d c b6 p b7) a k X:=by
 refine cI 11 12 (by exact ab _ _) ?_
 refine P5 ?_;refine J a9 ?_
 have m0:(x.sh,bY t r)∈(t,au.tab e)::(H0 x t r b s++A)++y:=by exact .tail _<|.head _
 refine pj (h.get m0)<|za b2 h b1 a8 λc0 O c1=>?_
 have a6:∀B∈(t,au.tab e)::(H0 x t r b s++A),B.1≠x.s:=λB M=>a8 B<|gg _ M
 have c2:eB c0 x.sh t r e 800:=⟨O.get<|.tail _<|.head _,O.get<|.head _,O.lt (o:=bY t r)<|.tail _<|.head _,O.lt (o:=.tab e)<|.head _,λa1=>by
  have:=O.nd
  rw [dQ,gd] at this
  exact this.1<|by simp [H0,a1],b0⟩
 have c3:x.s≠x.sh/\x.s≠t:=⟨λa1=>a6 (x.sh,bY t r) (.tail _<|.head _) a1.symm,λa1=>a6 (t,.tab e) (.head _) a1.symm⟩
 refine AU (h:=jS b) (a4.le<|by exact ab _ _) c1 (by exact ai (by assumption)<|by decide) c2 (by exact ab _ _) c3 (CN b3 a0.pg.2.2.2.1) λv d1 a3 c4 e3 f3 d2 a7 c5 c6=>?_
 have h3:=(O.wO f3 λB M=>by
  rcases bF.mp M with rfl|M
  .exact .inr λz c7=>a6 z<|dz _ c7
  .exact .inl<|by simpa using M).2.2 _ a7.g2
 refine cg<|kQ (a4.le<|by exact ab _ _) a7.g1 a7.g2 c5 ?_
 have h4:af c4<|(x.wo,.lst<|eL b)::(t,.tab a3)::(x.sh,bY t r)::(x.rw,.lst s)::(x.hl,.lst<|eQ b)::A:=h3.perm<|ij (l₁:=[(t,au.tab a3),(x.sh,bY t r)]) (l₂:=(x.rw,.lst s)::(x.hl,.lst<|eQ b)::A)
 have c8:Wd ((t,.tab a3)::(x.sh,bY t r)::(x.rw,.lst s)::(x.hl,.lst<|eQ b)::A) x.sh t r x.hl a3 (jS b) (eQ b)<|b.map FB.F:=by
  refine ⟨by exact .tail _<|.head _,by exact .head _,by exact cD (i:=3) rfl,λg F j=>?_⟩
  replace j:=hD▸j
  cases l:b[g]? with
  |none=>rw [l] at j;exact ao j
  |some p=>
   replace j:=l▸j
   refine aG j ?_;clear j;rintro rfl
   refine hg (b4 g p l) λa2 a5 q1 q2=>?_
   have c9:g<b.length:=by
    rcases qd g b.length with q|q
    .exact q
    .exact ao<|Fh q▸l
   have:=a0.ln
   refine ⟨a2,a5,?_,q2.ext e3,?_,(a0.fd p<|cD l).1.ok,by exact bE (bE c9 this.2)<|by decide⟩
   .refine J (Bs l) ?_;simp [q1]
   .unfold eQ;refine J hD ?_;refine J l ?_;rfl
 have lw:oR (eL b)<|b.map FB.F:=λg F j=>by
  replace j:=hD▸j
  cases l:b[g]? with
  |none=>rw [l] at j;exact ao j
  |some p=>
   replace j:=l▸j
   refine aG j ?_;clear j;rintro rfl
   exact ⟨p.fd,by unfold eL;refine J hD ?_;refine J l ?_;rfl,(a0.fd p<|cD l).1⟩
 exact Hh c8 lw a0.pg (a4.le<|by exact ab _ _) c6 h4 (λB M=>M) (cD (i:=2) rfl) b5 b8
theorem lB (b8:Lv 91 n<|d+1)(a5:jq b m f)(c5:x.na=.aa (dC m))(c6:s[0]?=H (.lst<|f.map aB.tup))(c7:∀a9,k (.bool I) a9):
  ∀(p l:List FB) (A y:List<|Nat×au) (e:List<|Int×E) (a:R) (c:E) (a4:Y),b=l++p->af a ((t,.tab e)::(H0 x t r b s++A++dq p++y))->e.length<=100+6*l.length->ba a x.s (1000+9*l.length)->(∀O∈(t,au.tab e)::(H0 x t r b s++A++dq p++y),O.1≠x.s)->
   mA c (ef 0 b) y->mb b e->(∀(i:Nat) (g:FB),l[i]?=H g->∃a6 b0,(g.l,.aa a6)∈A/\iv e (jS b) a6 g.F b0)->x.B d c a4->(p=[]->∃b9 g c0,a4=x.jR d c b9 g c0)->
   (On n).bH (cN 1043 1) (cB 1043 1) ((Ft l.length p.length).map λ(i:Nat)=>E.int i) a4 a (eO (On n) 1043 11 k X) X:=by
 intro p
 have b1:=a5.ln
 induction p with
 |nil=>
  intro l A y e a c a4 a1 h b2 b3 B b4 a7 b5 c1 hf
  refine dx (hf rfl) ?_;intro b9 g zz;refine aC zz ?_;clear zz;rintro c0 rfl
  have a1:b=l:=by simpa using a1
  subst a1
  have e2:(t,au.tab e)::(H0 x t r b s++A++dq []++y)=(t,au.tab e)::(H0 x t r b s++A)++y:=by simp [dq]
  rw [e2] at h B
  refine jz ?_
  exact Jd (b8.le<|by exact ab _ _) a5 c5 h (ay (bK b2<|eA 6 b1.2)<|by simp+arith only) b3 (ay (eA 9 b1.2)<|by simp+arith only) B b4 a7 b5 c6 c7
 |cons g p c8=>
  intro l A y e a c a4 a1 h b2 b3 B b4 a7 b5 c1 hf
  have c2:l.length+(p.length+1)<=3:=by
   have:=congrArg Eb a1
   rw [eJ,fM] at this
   exact ai (bh this.symm) b1.2
  have a8:b[l.length]?=H g:=by refine J a1 ?_;simp
  have pm:∀(a0:List<|Int×E) (o:au) (zs:List<|Nat×au),lr ((t,au.tab a0)::(g.l,o)::(H0 x t r b s++A++dq p++zs))<|(t,au.tab a0)::(H0 x t r b s++A++(g.l,o)::(dq p++zs)):=λa0 o zs=>by
   refine mu _ ?_
   rw [hE]
   exact ij.symm
  have e3:(t,au.tab e)::(H0 x t r b s++A++dq (g::p)++y)=(t,au.tab e)::(H0 x t r b s++A++(g.l,.aa [(Q "Subtype",dw "Form")])::(dq p++y)):=by simp [dq]
  replace h:=e3▸h
  replace B:=e3▸B
  have b6:=a5.fd g<|cD a8
  refine hV (b8.le<|by exact ab _ _:Lv (10+1) _ _) λc9=>?_
  refine tB (r:=r) (j:=jS b) (b:=H0 x t r b s++A++dq p) (y:=y) (h:=100+6*l.length) (P:=1000+9*l.length) (m:=eL b) (f:=ef 0 b) c9 (h.perm (pm e _ y).symm) (.head _) (.tail _<|.head _) b2 (ay (eA 6 c2)<|by simp+arith only) b3 (ay (eA 9 c2)<|by simp+arith only) (λO q=>B O<|(pm e _ y).mem_iff.mp q) b4 (by unfold eL;refine J hD ?_;refine J a8 ?_;rfl) (by rewrite [uo];refine J a8 ?_;simp) b6.1 b6.2.1 b6.2.2 (λd0 d1=>CN a7<|a5.pg.uz.nm l.length g.F d0 (by refine J hD ?_;refine J a8 ?_;rfl) d1) c1 ?_
  intro a0 a9 a2 b0 d2 a3 d3 q1 q2 q3 q4 q5 q6 q7 q8
  have d4:=pm a0 (.aa a2) a3
  have e4:(t,au.tab a0)::(H0 x t r b s++A++(g.l,au.aa a2)::(dq p++a3))=(t,au.tab a0)::(H0 x t r b s++(A++[(g.l,au.aa a2)])++dq p++a3):=by simp
  have e5:(l++[g]).length=l.length+1:=by exact eJ
  refine e5▸?_
  refine c8 (l++[g]) (A++[(g.l,.aa a2)]) a3 a0 a9 d2 d3 (by refine J a1 ?_;simp) (e4▸q2.perm d4) (by refine J e5 ?_;exact ay q3<|by simp+arith only) (q4.le<|by refine J e5 ?_;simp+arith only) ?_ q5 (a7.ext q1) ?_ (.inr q8) λ_=>q8
  .intro O q
   have q:O∈(t,au.tab a0)::(H0 x t r b s++A++(g.l,au.aa a2)::(dq p++a3)):=e4▸q
   have d5:∀z∈a3,z∈y:=λz c3=>by
    rcases q6 with rfl|rfl
    .exact c3
    .cases c3
   rcases bF.mp q with rfl|q
   .exact B (t,.tab e)<|.head _
   rcases gh.mp q with q|q
   .exact B O<|dz _<|gg _ q
   rcases bF.mp q with rfl|q
   .exact B (g.l,.aa [(Q "Subtype",dw "Form")])<|by simp
   rcases gh.mp q with q|q
   .exact B O<|dz _<|eK _<|dz _<|gg _ q
   .exact B O<|dz _<|eK _<|dz _<|eK _<|d5 O q
  .intro i b' M
   rcases qd i l.length with b7|b7
   .replace M:=Fu b7▸M
    refine hg (b5 i b' M) λa6 d6 r1 r2=>?_
    exact ⟨a6,d6,by exact gg _<|by assumption,r2.ext q1⟩
   .replace M:=tq b7▸M
    cases c4:i - l.length with
    |zero=>rw [c4] at M;refine aG M ?_;clear M;rintro rfl;exact ⟨a2,b0,by simp,q7⟩
    |succ j=>rw [c4] at M;exact ao M
end
end
mutual
open Mine
theorem af.ud (h:af c a)(f:Fr c d L)(e:∀x∈L,∀y∈a,y.1≠x):af d a:=
 ⟨h.nd,λx b=>by
  have:=h.at_ x b
  exact ⟨by refine J (f.get _ this.2 λm=>e _ m x b rfl) ?_;exact this.1,bE this.2 f.next⟩⟩
abbrev gR (a:List Bool)(g:Nat)(b:FB):Prop:=
 (dZ b.fd b.F/\aI (Q "names") b.fd=H (gw b.F.nm)/\b.F.ed.ok)/\
 (∀c,b.F.nm=H c->jg a g c)/\
 (b.F.nm=T->a[g]?=H N)/\
 dc b.F.ds/\
 b.F.ds.length<=10
theorem gR.fd {a:List Bool}(h:gR a g b):dZ b.fd b.F/\aI (Q "names") b.fd=H (gw b.F.nm)/\b.F.ed.ok:=h.1
theorem gR.nm {a:List Bool}(h:gR a g b):∀c,b.F.nm=H c->jg a g c:=h.2.1
theorem gR.QZ {a:List Bool}(h:gR a g b):b.F.nm=T->a[g]?=H N:=h.2.2.1
theorem gR.one {a:List Bool}(h:gR a g b):dc b.F.ds:=h.2.2.2.1
theorem gR.ln {a:List Bool}(h:gR a g b):b.F.ds.length<=10:=h.2.2.2.2
def mX (a:List aB):Prop:=(∀x∈a,x.ok)/\dc a/\a.length<=10
def Fx.A (x:Fx)(d:Nat)(c:E)(e:Y):Prop:=e=x.CE d c\/∃a b,e=x.kl d c a b
def ew (x:Fx)(b c d:Nat)(e:List<|Int×E)(a:List FB)(f:List E):List<|Nat×au:=[(b,.tab e),(x.sh,bY b c),(x.wo,.lst<|eL a),(x.rw,.lst f),(x.hl,.lst<|eQ a),(d,.lst<|ef 0 a)]
theorem Ht (c):∀i b,ef i (c++[b])=ef i c++[cz b.l<|i+c.length]:=by
 induction c with
 |nil=>
  intro i b
  rfl
 |cons a c d=>
  intro i b
  refine J tn ?_;refine J rC ?_;refine J (d (i+1) b) ?_;refine J rC ?_;refine J fM ?_;refine J (show i+1+c.length=i+(c.length+1) by simp+arith only) ?_
  rfl
section
variable {n:bV}{d P:Nat}{f:R}{X:Prop}{t r b:Nat}{e:List<|Int×E}{x:Fx}{h:List<|Nat×au}{g:List Bool}{c:List E}{a:List FB}{l:Nat}{s:List aB}
theorem M0 {i:Nat}(p:Lv (L'+1) n d)(j:i<256)(m:k (.dk #[me i]) f):(On n).call d (.ag<|.type "bytes") [.lst [.int i]] f k X:=by
 refine hK ?_
 exact fy (c:=.p<|0<=(i:Int)/\(i:Int)<256) (e:=.dk #[me i]) rfl ⟨by exact dO.mpr<|by simp+arith only,by exact jk.mpr<|ai j<|ab _ _⟩ m
theorem FU (i:aI (Q "names") m=H (gw j)):uY m j:=by
 cases j with
 |none=>exact i
 |some k=>exact ⟨dC k,i,vU k⟩
theorem tA {k:Fl->Y->R->Prop}{b2:Y}{sp b3:Int}(a1:Lv 16 n<|d+1)(c7:x.sp=.int sp)(c8:x.wh=.int b3)(c9:x.ho=.lst (g.map .bool))(d0:g.length<=900)(d1:a.length<g.length)(a7:a.length<=100)(a0:af f<|ew x t r b e a c++(l,.lst<|s.map aB.tup)::h)(b4:e.length<=a.length)(d2:ba f x.s P)(g2:P<=100000)
  (b5:∀y∈ew x t r b e a c++(l,au.lst<|s.map aB.tup)::h,y.1≠x.s) (d3:c[a.length+1]?=H (.loc l)) (a2:mX s) (d4:x.A d (.loc b) b2)
  (d5:∀(O:FB) a8 b6,gR g a.length O->af a8 ((O.l,.aa [(Q "Subtype",dw "Form")])::(ew x t r b (eM (10+(a.length:Nat)) (.tup [.int 0,cz O.l a.length]) e) (a++[O]) c++h))->ba a8 x.s (P+30)->O.l≠x.s->(∃a9 O,b6=x.kl d (.loc b) a9 O)->k .next b6 a8):
  eN (On n) 1043 0 (.int a.length) b2 f k X:=by
 have d6:∀{y:Nat} {o:au},(y,o)∈ew x t r b e a c++(l,au.lst<|s.map aB.tup)::h->x.s≠y:=λm M=>b5 _ m M.symm
 have a3:∀{j b7:R} {y:Nat} {o:au} {P':Nat},(y,o)∈ew x t r b e a c++(l,au.lst<|s.map aB.tup)::h->ba j x.s P'->Fr j b7 [y]->ba b7 x.s P':=λm a0 d7=>a0.fr d7<|by simp;exact d6 m
 have a4:∀{j:R} {y:Nat} {o:au},Fr j (j.set y o) [y]:=(Fr.refl _ _).set<|.inr<|.head _
 have b8:∀{j:R} {y:Nat},Fr j (j.free y) [y]:=(Fr.refl _ _).free<|.inr<|.head _
 have b9:∀(sp:Int),(On n).call (d+1) (.ag<|.ref 970) [.loc x.s,.lst<|g.map .bool,.int a.length,.int sp] f (λv2 s3=>cE (On n) 1043 0 1 1000 (x.kl d (.loc b) (.int a.length) v2) s3 k X) X:=by
  intro sp
  refine I9 (a1.le<|by exact ab _ _) d2 (by exact ai (by assumption)<|by decide) ⟨d1,d0⟩ λq z A j d8 d9 e0 e1 f1 c0=>?_
  have h1:=a0.ud f1 λy c1=>by rw [bW] at c1;subst c1;exact b5
  have h2:=af.alloc (o:=.aa [(Q "six",hH q),(Q "edges",ht z),(Q "names",gw A)]) h1
  have c2:x.s≠j.next:=by have:=c0.lt;exact cA<|by assumption
  have e2:ba (j.alloc<|.aa [(Q "six",hH q),(Q "edges",ht z),(Q "names",gw A)]) x.s<|P+30:=c0.fr (L:=[]) (Fr.refl _ _).alloc<|by simp
  unfold Fx.kl
  refine Nf ?_
  refine gb ?_
  refine J (show (a.length:Int)+1=((a.length+1:Nat):Int) by simp+arith) ?_
  refine gQ (g:=a.length+1) (h2.get<|cD (i:=4) rfl) d3<|hN (l:=l) (b:=s.map aB.tup) (h2.get<|cD (i:=7) rfl) ?_
  have h3:=af.free (A:=(j.next,au.aa [(Q "six",hH q),(Q "edges",ht z),(Q "names",gw A)])::ew x t r b e a c) (B:=h) h2
  have e3:=a3 (y:=l) (o:=.lst<|s.map aB.tup) (cD (i:=6) rfl) e2 b8
  refine gj (l:=j.next) (b:=[(Q "six",hH q),(Q "edges",ht z),(Q "names",gw A)]) (h3.get<|.head _) (by simp) ?_
  have h4:=af.set (A:=[]) (g:=.aa<|bc (Q "deeds") (.lst<|s.map aB.tup) [(Q "six",hH q),(Q "edges",ht z),(Q "names",gw A)]) h3
  have c3:=e3.fr (a4 (y:=j.next) (o:=.aa<|bc (Q "deeds") (.lst<|s.map aB.tup) [(Q "six",hH q),(Q "edges",ht z),(Q "names",gw A)]))<|by simp;exact c2
  generalize a5:bc (Q "deeds") (.lst<|s.map aB.tup) [(Q "six",hH q),(Q "edges",ht z),(Q "names",gw A)]=B at h4 c3 |-
  have c4:aI (Q "deeds") B=H (.lst<|s.map aB.tup):=by refine rT a5 ?_;refine J uA ?_;exact J (if_pos rfl) rfl
  refine cU (c:=eL a) (h4.get<|cD (i:=3) rfl)<|pe (l:=j.next) (b:=B) bP ?_
  have h5:=af.free (A:=[]) h4
  have e4:=c3.fr (b8 (y:=j.next))<|by simp;exact c2
  have e5:(eL a).length=a.length:=by exact cb ..
  have e6:(eQ a).length=a.length:=by exact cb ..
  have ls:∀(a:List FB) (i:Nat),(ef i a).length=a.length:=λa=>by
   induction a with
   |nil=>intro i;rfl
   |cons a9 g3 e7=>intro i;simp [rC,e7]
  refine eo (b:=eL a) (h5.get<|cD (i:=2) rfl) (dH (ai (bh e5) a7)<|by decide) ?_
  have h6:=af.set (A:=[(t,au.tab e),(x.sh,bY t r)]) (g:=.lst<|eL a++[.aa B]) h5
  have e8:=a3 (y:=x.wo) (o:=.lst<|eL a) (cD (i:=2) rfl) e4<|a4 (o:=.lst<|eL a++[.aa B])
  refine cU (c:=eQ a) (h6.get<|cD (i:=4) rfl)<|dj c4<|yI (a1.le<|by exact ab _ _) a2.1 (by have:=a2.2.2;exact ai (by assumption)<|by decide) λe9 f7=>?_
  have h7:=h6.fr f7
  have f0:=e8.fr f7<|by simp
  refine eo (b:=eQ a) (h7.get<|cD (i:=4) rfl) (dH (ai (bh e6) a7)<|by decide) ?_
  have h8:=af.set (A:=[(t,au.tab e),(x.sh,bY t r),(x.wo,.lst<|eL a++[.aa B]),(x.rw,.lst c)]) (g:=.lst<|eQ a++[.lst<|dy s]) h7
  have b0:=a3 (y:=x.hl) (o:=.lst<|eQ a) (cD (i:=4) rfl) f0<|a4 (o:=.lst<|eQ a++[.lst<|dy s])
  refine cU (c:=ef 0 a) (h8.get<|cD (i:=5) rfl)<|qj (a1.le<|by exact ab _ _)<|M0 (a1.le<|by exact ab _ _:Lv (1+1) _ _) (by exact dH (by assumption)<|by decide)<|vq (a1.le<|by exact ab _ _) ?_
  have h9:=af.alloc (o:=.aa [(Q "Subtype",dw "Form")]) h8
  generalize g4:e9.set x.hl (.lst<|eQ a++[.lst<|dy s])=p at h8 b0 h9 |-
  have f2:ba (p.alloc<|.aa [(Q "Subtype",dw "Form")]) x.s<|P+30:=b0.fr (L:=[]) (Fr.refl _ _).alloc<|by simp
  have f3:p.next≠x.s:=by have:=b0.lt;exact dN<|by assumption
  refine eo (b:=ef 0 a) (h9.get<|cD (i:=6) rfl) (by rw [ls];exact dH (by assumption)<|by decide) ?_
  have a6:=af.set (A:=[(p.next,au.aa [(Q "Subtype",dw "Form")]),(t,au.tab e),(x.sh,bY t r),(x.wo,.lst<|eL a++[.aa B]),(x.rw,.lst c),(x.hl,.lst<|eQ a++[.lst<|dy s])]) (g:=.lst<|ef 0 a++[cz p.next a.length]) h9
  have f4:=a3 (y:=b) (o:=.lst<|ef 0 a) (cD (i:=5) rfl) f2<|a4 (o:=.lst<|ef 0 a++[cz p.next a.length])
  have b1:eB ((p.alloc<|.aa [(Q "Subtype",dw "Form")]).set b<|.lst<|ef 0 a++[cz p.next a.length]) x.sh t r e 900:=⟨a6.get<|cD (i:=2) rfl,a6.get<|.tail _<|.head _,a6.lt (o:=bY t r)<|cD (i:=2) rfl,a6.lt (o:=.tab e)<|.tail _<|.head _,λM=>by
   have:=a0.nd
   unfold ew at this
   rw [tn,dQ,gd] at this
   exact this.1<|by simp [M],by exact ai (ai b4 a7)<|by decide⟩
  refine JH b1<|gb<|gQ (g:=a.length) (v:=cz p.next a.length) bP (by refine J (tq<|by rw [ls];exact aT _) ?_;rewrite [ls];simp [cz])<|cg<|Ip (a1.le<|by exact ab _ _) b1.g1 b1.g2 (ai (ai b4 a7)<|by decide) ?_
  have f5:=af.set (A:=[(p.next,au.aa [(Q "Subtype",dw "Form")])]) (g:=.tab<|eM (10+(a.length:Nat)) (.tup [.int 0,cz p.next a.length]) e) a6
  have f6:=a3 (y:=t) (o:=.tab e) (.head _) f4<|a4 (o:=.tab<|eM (10+(a.length:Nat)) (.tup [.int 0,cz p.next a.length]) e)
  refine d5 ⟨⟨q,z,A,s⟩,B,p.next⟩ _ _ ⟨⟨⟨?_,?_,c4,?_,d8,a2.1,by have:=a2.2.2;show s.length<=900;exact ai (by assumption)<|by decide⟩,?_,d9⟩,λf8 M=>(e0 f8 M).2,e1,a2.2.1,a2.2.2⟩ ?_ f6 f3 ⟨_,_,rfl⟩
  .refine rT a5 ?_;kernel_rfl
  .refine rT a5 ?_;kernel_rfl
  .exact FU<|by refine rT a5 ?_;kernel_rfl
  .refine rT a5 ?_;kernel_rfl
  .have f9:eL (a++[⟨⟨q,z,A,s⟩,B,p.next⟩])=eL a++[.aa B]:=by unfold eL;simp
   have g1:eQ (a++[⟨⟨q,z,A,s⟩,B,p.next⟩])=eQ a++[.lst<|dy s]:=by unfold eQ;simp
   unfold ew
   refine J f9 ?_;refine J g1 ?_;rewrite [Ht,th]
   exact f5
 have c5:∀{c6:E->R->Prop},(∀sp:Int,(On n).call (d+1) (F 970) [.loc x.s,.lst<|g.map .bool,.int a.length,.int sp] f c6 X)->tY (On n) d (.loc x.s) x.ho (.int a.length) x.sp x.wh c6 X f:=λa0=>by
  refine J c7 ?_;refine J c8 ?_;refine J c9 ?_
  refine gb<|iI ?_
  cases b3==(a.length:Int)+1 with
  |true=>exact a0 sp
  |false=>exact a0 0
 refine qK (a:=1043) (i:=0) 1 (by kernel_rfl) ?_
 rcases d4 with M|⟨a9,O,M⟩
 .refine J M ?_;exact Ko<|c5 b9
 .refine J M ?_;exact Gx<|c5 b9
end
end
mutual
open Mine
def bT (a:List<|Nat×List aB):List<|Nat×au:=a.map λr=>(r.1,.lst<|r.2.map aB.tup)
section
variable {n:bV}{d:Nat}{X:Prop}{b t s:Nat}{x:Fx}{a:List Bool}{r:List E}{m:cn}{c:List aB}{k:E->R->Prop}
theorem jg.w {f:List FB}(B:∀(i:Nat)(j:FB),f[i]?=H j->gR a i j)(l:f.length=a.length)(h:jg a M O):mB (f.map FB.F) M O:=by
 intro j g P e
 refine aL (h j g P e) λp q=>?_
 refine ⟨by rw [cb];exact bE p<|bh l.symm,λy=>⟨(q y).1,?_⟩⟩
 have a0:g<f.length:=by exact bE p<|bh l.symm
 have z:f[g]?=H f[g]:=iQ a0
 have a1:=B g _ z
 cases A:f[g].F.nm with
 |none=>
  have:=a1.QZ A
  replace this:=(q y).2▸this
  cases this
 |some a2=>exact ⟨f[g].F,a2,by refine J hD ?_;refine J z ?_;rfl,A⟩
theorem GO (l:∀(i:Nat)(f:FB),q[i]?=H f->gR a i f)(z:q.length=a.length)(B:1<=a.length/\a.length<=3)(M:jg a (-1) m)(A:mX c):jq q m c:=by
 have y:∀{g:Nat} {p},(q.map FB.F)[g]?=H p->∃f,q[g]?=H f/\f.F=p:=λ{g p} h=>by
  replace h:=hD▸h
  cases j:q[g]? with
  |none=>rw [j] at h;exact ao h
  |some f=>rw [j] at h;refine aG h ?_;clear h;rintro rfl;exact ⟨f,rfl,rfl⟩
 refine ⟨⟨⟨by rw [cb];exact ai (bh z) B.2,λg p h=>?_,λg p O h e=>?_⟩,λg p h=>?_,λg p h=>?_,M.w l z,A.1,A.2.1,A.2.2⟩,by simp_all,λf P=>?_⟩
 .refine aK (y h) ?_;rintro f j rfl;exact (l g f j).one
 .refine aK (y h) ?_;rintro f j rfl;exact ((l g f j).nm O e).w l z
 .refine aK (y h) ?_;rintro f j rfl;exact (l g f j).ln
 .refine aK (y h) ?_;rintro f j rfl;exact (l g f j).fd.1.ok
 .obtain ⟨i,a0,rfl⟩:=List.getElem_of_mem P
  exact (l i _<|iQ a0).fd
theorem lA {sp b8:Int}(b4:Lv 93 n<|d+1)(b9:x.sp=.int sp)(c0:x.wh=.int b8)(c1:x.ho=.lst (a.map .bool))(b5:x.ct=.int a.length)(a0:1<=a.length/\a.length<=3)(c2:x.na=.aa (dC m))(c3:jg a (-1) m)(c4:mX c)(c5:r[0]?=H (.lst<|c.map aB.tup))(c6:∀a7,k (.bool I) a7):
  ∀(A:List<|Nat×List aB) (f:List FB) (M:List<|Int×E) (σ:R) (a4:Y),af σ (ew x b t s M f r++(dq f++bT A))->M.length<=f.length->ba σ x.s (500+30*f.length)->(∀y∈ew x b t s M f r++(dq f++bT A),y.1≠x.s)->
   r.drop (f.length+1)=A.map (λa1=>.loc a1.1)->(∀a1∈A,mX a1.2)->f.length+A.length=a.length->mb f M->(∀(i:Nat) (B:FB),f[i]?=H B->gR a i B)->x.A d (.loc s) a4->(A=[]->∃a8 B,a4=x.kl d (.loc s) a8 B)->
   (On n).bH (cN 1043 0) (cB 1043 0) ((Ft f.length A.length).map λ(i:Nat)=>E.int i) a4 σ (eO (On n) 1043 10 k X) X:=by
 intro A
 induction A with
 |nil=>
  intro f M σ a4 h a9 b0 a5 hd b1 O b2 b3 b6 hf
  refine dx (hf rfl) ?_;rintro a8 B rfl
  have c7:=GO b3 O a0 c3 c4
  refine jz ?_
  refine Mr ?_;refine J b5 ?_
  refine oZ (ai a0.2<|ab _ _) ?_
  refine aW Ts▸O▸?_
  have p:lr (ew x b t s M f r++(dq f++bT []))<|(b,au.tab M)::(H0 x b t f r++[]++dq f++[(s,.lst<|ef 0 f)]):=by
   unfold ew H0 bT
   simp only [tn,nI,hz,Tt]
   refine mu _<|mu _<|mu _<|mu _<|mu _ ?_
   exact List.perm_append_comm (l₁:=[(s,au.lst<|ef 0 f)]) (l₂:=dq f)
  have:=lB (X:=X) (x:=x) (t:=b) (r:=t) (s:=r) (b4.le<|by exact ab _ _) c7 c2 c5 c6 f [] [] [(s,.lst<|ef 0 f)] M σ (.loc s) (x.kl d (.loc s) a8 B) rfl (h.perm p) (by simp;exact ay (bK a9<|bK (bh O) a0.2)<|by simp+arith only) (b0.le<|by simp;exact ay (bK (eA 30<|bh O)<|eA 30 a0.2)<|by simp+arith only) (λy g=>a5 y<|p.mem_iff.mpr g) (.inr ⟨s,rfl,rfl⟩) b2 (λi B e=>by simp at e) (.inl ⟨_,_,rfl⟩) λe=>by subst e;simp at O;exact absurd (ai a0.1<|bh O.symm)<|by decide
  unfold Fx.kl at this
  rw [b5] at this
  rw [<-O] at this
  exact this
 |cons a1 A c8=>
  intro f M σ a4 h a9 b0 a5 hd b1 O b2 b3 b6 hf
  obtain ⟨l,a6⟩:=a1
  rw [fM] at O
  have p1:lr (ew x b t s M f r++(dq f++bT ((l,a6)::A)))<|ew x b t s M f r++(l,.lst<|a6.map aB.tup)::(dq f++bT A):=Tu _ ij
  have c9:r[f.length+1]?=H (.loc l):=by
   have:(r.drop<|f.length+1)[0]?=H (.loc l):=by refine J hd ?_;rfl
   simpa using this
  refine hV (b4.le<|by exact ab _ _:Lv (16+1) _ _) λd0=>?_
  refine tA (h:=dq f++bT A) d0 b9 c0 c1 (ay a0.2<|by simp+arith only) (ay (bh O)<|by simp+arith only) (ay (bK (bh O) a0.2)<|by simp+arith only) (h.perm p1) a9 b0 (ay (bK (eA 30<|bh O)<|eA 30 a0.2)<|by simp+arith only) (λy g=>a5 y<|p1.mem_iff.mpr g) c9 (b1 (l,a6)<|by exact .head _) b6 ?_
  intro B a7 d1 d2 h' d3 d4 b7
  have e5:(f++[B]).length=f.length+1:=by exact eJ
  refine e5▸?_
  have p2:lr ((B.l,au.aa [(Q "Subtype",dw "Form")])::(ew x b t s (eM (10+(f.length:Nat)) (.tup [.int 0,cz B.l f.length]) M) (f++[B]) r++(dq f++bT A)))<|ew x b t s (eM (10+(f.length:Nat)) (.tup [.int 0,cz B.l f.length]) M) (f++[B]) r++(dq (f++[B])++bT A):=by
   refine ij.symm.trans<|Tu _ ?_
   unfold dq
   simp only [jn,dQ,Tt,hE,List.singleton_append]
   exact ij.symm
  refine c8 (f++[B]) _ a7 d1 (h'.perm p2) (ai yK<|by refine J e5 ?_;exact hy<|by assumption) (d3.le<|by refine J e5 ?_;simp+arith only) ?_ ?_ λa1 hm=>b1 a1<|by exact dz _<|by assumption (by refine J e5 ?_;exact mG O<|by simp+arith only) ?_ ?_ (.inr b7) λ_=>b7
  .intro y g
   have g:=p2.mem_iff.mpr g
   rcases bF.mp g with rfl|g
   .exact d4
   .have a3:∀(o:au) (z:Nat),(z,o)∈ew x b t s M f r++(dq f++bT ((l,a6)::A))->z≠x.s:=λo z d5=>a5 _ d5
    rcases gh.mp g with g|g
    .unfold ew at g
     simp only [bF,xS,or_false] at g
     rcases g with rfl|rfl|rfl|rfl|rfl|rfl
     .exact a3 (.tab M) _<|by exact .head _
     .exact a3 (bY b t) _<|by exact .tail _<|.head _
     .exact a3 (.lst<|eL f) _<|by exact cD (i:=2) rfl
     .exact a3 (.lst r) _<|by exact cD (i:=3) rfl
     .exact a3 (.lst<|eQ f) _<|by exact cD (i:=4) rfl
     .exact a3 (.lst<|ef 0 f) _<|by exact cD (i:=5) rfl
    .refine a5 y<|eK _ ?_
     rcases gh.mp g with g|g
     .exact gg _ g
     .exact eK _<|dz _ g
  .have:=congrArg (List.drop 1) hd
   rw [Fd] at this
   refine J e5 ?_
   exact this
  .intro i b' q
   rcases qd i f.length with P|P
   .rw [Fu P] at q
    refine J rO ?_;refine J (if_neg<|by grind) ?_
    exact b2 i b' q
   .rw [tq P] at q
    cases a2:i - f.length with
    |zero=>
     rw [a2] at q;refine aG q ?_;clear q;rintro rfl
     have:i=f.length:=Tv (Tw a2) P
     refine J this ?_
     refine J rO ?_;exact J (if_pos rfl) rfl
    |succ j=>rw [a2] at q;exact ao q
  .intro i b' q
   rcases qd i f.length with P|P
   .rw [Fu P] at q;exact b3 i b' q
   .rw [tq P] at q
    cases a2:i - f.length with
    |zero=>
     rw [a2] at q;refine aG q ?_;clear q;rintro rfl
     have:i=f.length:=Tv (Tw a2) P
     refine this▸?_
     exact d2
    |succ j=>rw [a2] at q;exact ao q
theorem HR {h:Type}(i j l d e f g:h)(p:List h):lr (i::j::([l,d,e]++f::g::p))<|e::d::l::f::g::i::j::p:=by
 haveI:DecidableEq h:=Fp _
 refine Fq.mpr λi=>?_
 simp only [tn,nI,Fs]
 simp+arith only
theorem l8 (a5:Lv 94 n<|d+1)(a6:1<=a.length/\a.length<=3)(a8:jg a (-1) m)(a9:mX c)(b0:∀b1,k (.bool I) b1)
  (h:af A<|(a3,.lst<|.lst (c.map aB.tup)::g.map λf=>.loc f.1)::bT g) (a1:ba A l P) (b2:P<=500) (b3:∀y∈(a3,au.lst<|.lst (c.map aB.tup)::g.map λf=>.loc f.1)::bT g,y.1≠l) (a7:g.length=a.length) (b4:∀f∈g,mX f.2):
  bB (On n) 1043 8 (wR d sc (.loc l) (.int sp) (.int b5) b6 (.int a.length) (.lst<|a.map .bool) (.loc a3)<|.aa<|dC m) A k X:=by
 refine cI 8 9 (by exact ab _ _) ?_
 refine M5 ?_
 have h1:=af.alloc (o:=.lst []) h
 refine JQ (a5.le<|by exact ab _ _) λa2 b t j a4=>?_
 have h2:=a4 _ h1
 show bB (On n) 1043 9 _ _ k X
 refine Hp ?_
 refine oZ (ay a6.2<|by simp+arith only) ?_
 refine J (show ib a.length=Ft 0 g.length by rw [a7,Ts]) ?_
 let x:Fx:=⟨sc,.int sp,.int b5,b6,.int a.length,.lst<|a.map .bool,l,a3,.aa<|dC m,A.next,a2,j.next+1⟩
 have p:lr ((j.next+1,au.lst [])::(j.next,.lst [])::([(a2,bY b t),(b,.tab []),(t,.aa [])]++(A.next,.lst [])::(a3,.lst<|.lst (c.map aB.tup)::g.map λf=>.loc f.1)::bT g))<|(t,.aa [])::(ew x b t j.next [] [] (.lst (c.map aB.tup)::g.map λf=>.loc f.1)++(dq []++bT g)):=HR _ _ _ _ _ _ _ _
 have h4:=((af.alloc (o:=.lst [])<|af.alloc (o:=.lst []) h2).perm p).tail
 have b7:ba ((j.alloc<|.lst []).alloc<|.lst []) l 500:=by
  have f1:Fr A (A.alloc<|.lst []) []:=(Fr.refl _ _).alloc
  have b8:=(a1.le b2).fr f1<|by simp
  obtain ⟨O,f,a0,y1,y2,y3,y4,y5,y6⟩:=b8
  have B:=a4 [(l,.lst [.lst<|O.map .int,.int f,.int a0])] ⟨by simp,λz M=>by rw [bW] at M;subst M;exact ⟨y6,y5⟩⟩
  have B:=af.alloc (o:=.lst [])<|af.alloc (o:=.lst []) B
  exact ⟨O,f,a0,y1,y2,y3,y4,B.lt (o:=.lst [.lst<|O.map .int,.int f,.int a0])<|by exact cD (i:=5) rfl,B.get<|by exact cD (i:=5) rfl⟩
 have c4:=a1.lt
 have b9:∀y∈ew x b t j.next [] [] (.lst (c.map aB.tup)::g.map λf=>.loc f.1)++(dq []++bT g),y.1≠l:=by
  obtain ⟨O,f,a0,y1,y2,y3,y4,y5,y6⟩:=a1
  have c0:af A<|(l,.lst [.lst<|O.map .int,.int f,.int a0])::(a3,.lst<|.lst (c.map aB.tup)::g.map λf=>.loc f.1)::bT g:=by
   refine ⟨?_,λz M=>?_⟩
   .refine J dQ ?_;rewrite [gd]
    refine ⟨λc1=>?_,h.nd⟩
    refine zl c1 λz M e=>?_
    exact b3 z M e
   .rcases bF.mp M with rfl|M
    .exact ⟨y6,y5⟩
    .exact h.at_ z M
  have B:=a4 _<|af.alloc (o:=.lst []) c0
  have B:=af.alloc (o:=.lst [])<|af.alloc (o:=.lst []) B
  have q:lr ((j.next+1,au.lst [])::(j.next,.lst [])::([(a2,bY b t),(b,.tab []),(t,.aa [])]++(A.next,.lst [])::(l,.lst [.lst<|O.map .int,.int f,.int a0])::(a3,.lst<|.lst (c.map aB.tup)::g.map λf=>.loc f.1)::bT g))<|(l,.lst [.lst<|O.map .int,.int f,.int a0])::(t,.aa [])::(ew x b t j.next [] [] (.lst (c.map aB.tup)::g.map λf=>.loc f.1)++(dq []++bT g)):=ij (l₁:=[_,_,_,_,_,_]).trans<|p.cons _
  have:=(B.perm q).nd
  rw [dQ,gd] at this
  intro y c2 e
  exact this.1<|sQ.mpr ⟨y,dz _ c2,e⟩
 have:=lA (X:=X) (x:=x) (b:=b) (t:=t) (s:=j.next) (r:=.lst (c.map aB.tup)::g.map λf=>.loc f.1) (a5.le<|by exact ab _ _) rfl rfl rfl rfl a6 rfl a8 a9 rfl b0 g [] [] _ (x.CE d<|.loc j.next) h4 (by trivial) b7 b9 rfl b4 (by simp;assumption) (λi c3 e=>by simp at e) (λi c3 e=>by simp at e) (.inl rfl) λe=>by subst e;simp at a7;omega
 exact this
end
end
mutual
open Mine
theorem af.snoc (h:af d f)(j:∀y∈f,y.1≠l)(g:d.get l=H o)(k:l<d.next):af d<|f++[(l,o)]:=by
 refine ⟨?_,λx c=>?_⟩
 .refine J jn ?_;rewrite [ml]
  refine ⟨h.nd,by simp,λa m b i e=>?_⟩
  simp at i
  refine zl m λy n q=>?_
  exact j y n<|q.trans<|e.trans i
 .rcases gh.mp c with c|c
  .exact h.at_ x c
  .rw [bW] at c;subst c;exact ⟨g,k⟩
theorem F6 (b:bB O 1043 0 (BR d a) c k X):aN O 1043 d [a] c k X:=aj (by kernel_rfl) b
theorem K1 (a):a.map aB.tup++[E.tup [S "re",.lst [.int 0,.int 0,.int 2,.int 1]],.tup [S "BI",.lst []]]=(a++[aB.re 0 0 2 1,aB.BI]).map aB.tup:=by
 refine J jn ?_;rfl
section
variable {n:bV}{d:Nat}{a:R}{X:Prop}{b:List Bool}{k:E->R->Prop}
theorem P2 (h:a.get l=H (.lst f))(g:f.length+c.length<=1000000)(i:j (.lst<|f++c,a)):wp (bA N N a .Add (.loc l)<|.lst c) j:=by
 have e:bA N N a .Add (.loc l) (.lst c)=.ok (.p<|f.length+c.length<=1000000) (.lst<|f++c,a):=by
  show (vB (fh l<|a.get l) (.lst c)>>=λr=>jb N N a r)=_
  refine J h ?_
  rfl
 exact fy e g i
theorem l6 {sc a0:E}{sp a1:Int}{s g P:Nat}{c:List<|Nat×List aB}(A:Lv 94 n<|d+1)(p:1<=b.length/\b.length<=3)(a2:∀a3,k (.bool I) a3)
  (h:af a<|(g,.lst<|c.map λr=>.loc r.1)::bT c) (a4:ba a s P) (a9:P<=400) (B:∀y∈(g,au.lst<|c.map λr=>.loc r.1)::bT c,y.1≠s) (z:c.length=b.length+1) (q:∀r∈c,(∀x∈r.2,x.ok)/\dc r.2/\r.2.length<=8):
  bB (On n) 1043 6 (hW d sc (.loc s) (.int sp) (.int a1) a0 (.int b.length) (.lst<|b.map .bool)<|.loc g) a k X:=by
 cases c with
 |nil=>simp at z
 |cons r c=>
  obtain ⟨i,f⟩:=r
  have t:=q (i,f)<|.head _
  refine cI 6 7 (by exact ab _ _) ?_
  refine MG ?_
  have a5:a.get i=H (.lst<|f.map aB.tup):=h.get<|.tail _<|.head _
  have b0:f.length<=8:=t.2.2
  refine gQ (g:=0) (b:=((i,f)::c).map λr=>E.loc r.1) (h.get<|.head _) rfl<|P2 a5 (by simp;exact ai (by assumption)<|by decide) ?_
  rw [K1]
  refine rp (i:=0) (b:=((i,f)::c).map λr=>E.loc r.1) (h.get<|.head _) (mq _) (by rw [cb];exact ay (bK (bh z) p.2)<|by simp+arith only) ?_
  have h1:af (a.set g<|.lst<|.lst ((f++[aB.re 0 0 2 1,.BI]).map aB.tup)::c.map λr=>.loc r.1)<|(g,.lst<|.lst ((f++[aB.re 0 0 2 1,.BI]).map aB.tup)::c.map λr=>.loc r.1)::(i,.lst<|f.map aB.tup)::bT c:=af.set (A:=[]) h
  have h2:=h1.sub (H':=(g,.lst<|.lst ((f++[aB.re 0 0 2 1,.BI]).map aB.tup)::c.map λr=>.loc r.1)::bT c)<|Ue _<|nP _ _
  have M:g≠s:=B (g,.lst<|((i,f)::c).map λr=>.loc r.1)<|.head _
  have a6:ba (a.set g<|.lst<|.lst ((f++[aB.re 0 0 2 1,.BI]).map aB.tup)::c.map λr=>.loc r.1) s P:=a4.fr (L:=[g]) ((Fr.refl _ _).set<|.inr<|.head _)<|by simp;exact λe=>M e.symm
  refine cI 7 8 (by exact ab _ _) ?_
  refine MC ?_
  refine zB (a8:=-1) (A.le<|by exact ab _ _) a6 (by exact ai (by assumption)<|by decide) ⟨p.1,ai p.2<|by decide⟩ λnm b1 a7 f2 a8=>?_
  have O:∀y∈(g,au.lst<|.lst ((f++[aB.re 0 0 2 1,.BI]).map aB.tup)::c.map λr=>.loc r.1)::bT c,y.1≠s:=λy j=>by
   rcases bF.mp j with rfl|j
   .exact M
   .exact B y<|dz _<|dz _ j
  have h3:=h2.ud f2 λy j=>by rw [bW] at j;subst j;exact O
  refine l8 A p a7 ⟨?_,?_,?_⟩ a2 h3 a8 (by exact ai (dt (by assumption) _)<|by decide) O (by simpa using z) λr m=>⟨(q r<|dz _<|by assumption).1,(q r<|dz _<|by assumption).2.1,by have:=(q r<|dz _<|by assumption).2.2;exact ai (by assumption)<|by decide⟩
  .intro x l
   rcases gh.mp l with l|l
   .exact t.1 x l
   .simp at l
    rcases l with rfl|rfl
    .exact ⟨⟨⟨by decide,by decide⟩,⟨by decide,by decide⟩⟩,⟨⟨by decide,by decide⟩,⟨by decide,by decide⟩⟩,⟨⟨by decide,by decide⟩,⟨by decide,by decide⟩⟩,⟨⟨by decide,by decide⟩,⟨by decide,by decide⟩⟩⟩
    .trivial
  .have:=t.2.1
   unfold dc at this |-
   exact J ya this
  .have:=t.2.2
   simp;assumption
theorem l5 {sc:E}{O z j:Nat}{s t P:Nat}{f:List<|Nat×List aB}(a5:Lv 94 n<|d+1)(a7:1<=b.length/\b.length<=3)(a8:∀b3,k (.bool I) b3)(b4:j<=b.length)
  (h:af a<|(t,.lst<|f.map λr=>.loc r.1)::bT f) (a9:ba a s P) (b0:P<=400) (a2:∀y∈(t,au.lst<|f.map λr=>.loc r.1)::bT f,y.1≠s) (a4:f.length=b.length+1) (a0:∀r∈f,(∀x∈r.2,x.ok)/\dc r.2/\r.2.length<=3):
  bB (On n) 1043 5 (hW d sc (.loc s) (.int O) (.int j) (.int z) (.int b.length) (.lst<|b.map .bool)<|.loc t) a k X:=by
 refine cI 5 6 (by exact ab _ _) ?_
 refine Gd ?_
 have no:bB (On n) 1043 6 (hW d sc (.loc s) (.int O) (.int j) (.int z) (.int b.length) (.lst<|b.map .bool)<|.loc t) a k X:=l6 a5 a7 a8 h a9 b0 a2 a4 λr m=>⟨(a0 r m).1,(a0 r m).2.1,by have:=(a0 r m).2.2;exact ai (by assumption)<|by decide⟩
 refine pB ?_
 by_cases h4:(4:Int)<(O:Int)
 .refine J (decide_eq_true h4) ?_
  refine pB ?_
  by_cases h8:(O:Int)<8
  .refine J (decide_eq_true h8) ?_
   obtain ⟨A,l,c,B,e,b5⟩:∃(A:List<|Nat×List aB) (l:Nat) (c:List aB) (B:List<|Nat×List aB),f=A++(l,c)::B/\A.length=j:=by
    have hw:j<f.length:=by exact dH b4<|bh a4.symm
    refine ⟨f.take j,f[j].1,f[j].2,f.drop<|j+1,?_,by simp;exact Em<|ig hw⟩
    have:=nH j f
    rw [xM hw] at this
    exact this.symm
   have hm:(l,.lst<|c.map aB.tup)∈(t,au.lst<|f.map λr=>.loc r.1)::bT f:=by refine J e ?_;simp [bT]
   have a3:=a0 (l,c)<|by refine J e ?_;simp
   have g:a.get l=H (.lst<|c.map aB.tup):=h.get hm
   have b1:(f.map λr=>E.loc r.1)[j]?=H (.loc l):=by refine J e ?_;simp [<-b5]
   refine gQ (g:=j) (b:=f.map λr=>E.loc r.1) (h.get<|.head _) b1<|B4 g<|gQ (g:=j) (b:=f.map λr=>E.loc r.1) (h.get<|.head _) b1<|oK (a5.le<|by exact ab _ _:Lv (1+1) _ _) g ?_
   rw [cb]
   refine hK<|aR (c:=.int<|if (c.length:Int)<(z:Int) then (c.length:Int) else (z:Int)) rfl<|hZ ?_
   obtain ⟨i,b6,b7⟩:∃i:Nat,(if (c.length:Int)<(z:Int) then (c.length:Int) else (z:Int))=i/\i<=c.length:=by
    by_cases q:(c.length:Int)<(z:Int)
    .exact ⟨c.length,by exact J (if_pos q) rfl,aT _⟩
    .exact ⟨z,by exact J (if_neg q) rfl,by simp at*;assumption⟩
   refine J b6 ?_
   have a6:∀(p:aB),p.vals=.lst []->p.ok->fE p=N->(On n).aE (d+1) (.loc l) (Q "insert") .blt [.int i,.tup [S p.word,.lst []]] a (λc4 b8=>bB (On n) 1043 6 (hW d sc (.loc s) (.int O) (.int j) (.int z) (.int b.length) (.lst<|b.map .bool)<|.loc t) b8 k X) X:=by
    intro p b9 c0 hd
    refine C_ g (by rw [cb];exact b7) (by have:c.length<=3:=a3.2.2;rw [cb];exact dH (by assumption)<|by decide) ?_
    have c1:(c.map aB.tup).take i++E.tup [S p.word,.lst []]::(c.map aB.tup).drop i=(c.take i++p::c.drop i).map aB.tup:=by
     refine J jn ?_;refine J dQ ?_;refine J x_ ?_;refine J Tr ?_;refine J (aB.ub p) ?_;exact J b9 rfl
    refine J c1 ?_
    have e1:(t,au.lst<|f.map λr=>.loc r.1)::bT f=(t,au.lst<|(A++(l,c)::B).map λr=>.loc r.1)::bT A++(l,.lst<|c.map aB.tup)::bT B:=by refine J e ?_;simp [bT]
    have e2:(t,au.lst<|(A++(l,c.take i++p::c.drop i)::B).map λr=>.loc r.1)::bT (A++(l,c.take i++p::c.drop i)::B)=(t,au.lst<|(A++(l,c)::B).map λr=>.loc r.1)::bT A++(l,.lst<|(c.take i++p::c.drop i).map aB.tup)::bT B:=by simp [bT]
    rw [e1] at h a2
    have h1:=af.set (g:=.lst<|(c.take i++p::c.drop i).map aB.tup) h
    have nl:l≠s:=a2 (l,.lst<|c.map aB.tup)<|by simp
    refine l6 (c:=A++(l,c.take i++p::c.drop i)::B) a5 a7 a8 (e2▸h1) (a9.fr (L:=[l]) ((Fr.refl _ _).set<|.inr<|.head _)<|by simp;exact λq=>nl q.symm) b0 ?_ (by rw [e] at a4;simpa using a4) ?_
    .intro y M
     have M:y∈(t,au.lst<|(A++(l,c)::B).map λr=>.loc r.1)::bT A++(l,au.lst<|(c.take i++p::c.drop i).map aB.tup)::bT B:=e2▸M
     rcases gh.mp M with M|M
     .exact a2 y<|gg _ M
     rcases bF.mp M with rfl|M
     .exact nl
     .exact a2 y<|eK _<|dz _ M
    .intro r c2
     have b2:r∈f->(∀x∈r.2,x.ok)/\dc r.2/\r.2.length<=8:=λm=>⟨(a0 r m).1,(a0 r m).2.1,by have:=(a0 r m).2.2;exact ai (by assumption)<|by decide⟩
     rcases gh.mp c2 with q|q
     .exact b2<|by refine J e ?_;exact gg _<|by assumption
     rcases bF.mp q with rfl|q
     .refine ⟨λx a1=>?_,?_,?_⟩
      .rcases gh.mp a1 with a1|a1
       .exact a3.1 x<|xR a1
       .rcases bF.mp a1 with rfl|a1
        .exact c0
        .exact a3.1 x<|Fo a1
      .have:=a3.2.1
       unfold dc at this |-
       dsimp only at this |-
       rw [<-nH i c,ya] at this
       refine J ya ?_;refine J tC ?_;refine J hd ?_
       simpa using this
      .have:=a3.2.2
       dsimp only at this |-
       simp;grind
     .exact b2<|by refine J e ?_;simp [q]
   have c3:O=5\/O=6\/O=7:=by grind
   rcases c3 with rfl|rfl|rfl
   .exact ix rfl<|a6 .Q rfl trivial rfl
   .exact ix rfl<|a6 .EX rfl trivial rfl
   .exact ix rfl<|a6 .zz rfl trivial rfl
  .refine J (decide_eq_false h8) ?_
   exact no
 .refine J (decide_eq_false h4) ?_
  exact no
theorem AG (h:Lv 6 n<|d+1):∀c a P k,ba a s P->P+c.length<=1000->(∀(b:List Bool) e,b.length=c.length->Fr a e [s]->ba e s (P+c.length)->k (b.map .bool) e)->(On n).comp (cp 1043 0) (cw 1043 0) c (bI 1043 0 d [(Q "source",.loc s)]) a k X
 |[],a,P,k,f,_,g=>gD<|g [] a rfl (Fr.refl _ _) f
 |x::c,a,P,k,f,i,g=>gC (h.le<|by exact aT _:Lv (5+1) _ _) λj=>by
  rw [fM] at i
  refine FW ?_
  refine dD (m:=3) (j.le<|by exact ab _ _) f (by exact ai (dg<|by assumption)<|by decide) (by decide) (by exact ab _ _) λv l A m p=>ji ?_
  refine AG h c l (P+1) (λq a=>k (.bool (aP<|(0:Int)<(v:Int))::q) a) p (ay i<|by simp+arith only) λb r t y z=>?_
  exact g (aP ((0:Int)<(v:Int))::b) r (by simp [t]) (m.trans y)<|z.le<|by refine J fM ?_;simp+arith only
theorem Cy (M:Lv 16 n<|d+1):∀i c a P k,ba a s P->P+30*i.length<=1000->af a (bT c)->(∀y∈bT c,y.1≠s)->(∀r∈c,(∀x∈r.2,x.ok)/\dc r.2/\r.2.length<=3)->
  (∀g t,g.length=i.length->af t (bT<|c++g)->(∀y∈bT<|c++g,y.1≠s)->ba t s (P+30*i.length)->(∀r∈c++g,(∀x∈r.2,x.ok)/\dc r.2/\r.2.length<=3)->k (g.map λr=>.loc r.1) t)->(On n).comp (cp 1043 1) (cw 1043 1) i (bI 1043 1 d [(Q "source",.loc s)]) a k X
 |[],c,a,P,k,p,_,h,q,z,A=>gD<|A [] a rfl (by simpa using h) (by simpa using q) p<|by simpa using z
 |x::i,c,a,P,k,p,B,h,q,z,A=>gC (M.le<|by simp+arith only:Lv (15+1) _ _) λa1=>by
  rw [fM] at B
  refine MZ ?_
  refine NH (a1.le<|by simp+arith only) p (ai (dg B)<|by decide) λj l a2 h1 h2 h3 f1 a3 O a4 g1=>?_
  have a5:=h.ud f1 λy f=>by rw [bW] at f;subst f;exact q
  have a0:=a5.snoc (λy f=>by have:=(h.at_ y f).2;exact cA<|bE this O) g1 a4
  have e:bT c++[(l,.lst<|j.map aB.tup)]=bT (c++[(l,j)]):=by simp [bT]
  rw [e] at a0
  have a6:=p.lt
  have a7:∀y∈bT<|c++[(l,j)],y.1≠s:=λy f=>by
   rw [<-e] at f
   rcases gh.mp f with f|f
   .exact q y f
   .rw [bW] at f;subst f;show l≠s;exact dN<|bE a6 O
  have r1:∀r∈c++[(l,j)],(∀x∈r.2,x.ok)/\dc r.2/\r.2.length<=3:=λr m=>by
   rcases gh.mp m with m|m
   .exact z r m
   .rw [bW] at m;subst m;exact ⟨λx a8=>(h1 x a8).1,h2,h3⟩
  refine Cy M i (c++[(l,j)]) a2 (P+30) (λa9 a=>k (.loc l::a9) a) a3 (ay B<|by simp+arith only) a0 a7 r1 λg b0 q1 q2 q3 q4 q5=>?_
  rw [hE] at q2 q3 q5
  exact A ((l,j)::g) b0 (by simp [q1]) q2 q3 (q4.le<|by refine J fM ?_;simp+arith only) q5
theorem Ml {z:List Int}(A:Lv 96 n d)(B:∀M,k (.bool I) M):(On n).call d (F 1043) [.lst<|z.map .int] a k X:=by
 refine cq A λe=>?_
 refine F6 ?_
 refine cI 0 1 (by exact ab _ _) ?_
 refine Mn ?_
 refine QR (e.le<|by exact ab _ _) λs a7 f1 ns O=>?_
 refine cI 1 2 (by exact ab _ _) ?_
 refine F0 ?_
 refine dD (m:=10) (e.le<|by exact ab _ _) O (by exact ab _ _) (by decide) (by exact ab _ _) λsp a8 a9 f2 P=>?_
 refine dD (m:=4) (e.le<|by exact ab _ _) P (by exact ab _ _) (by decide) (by exact ab _ _) λa0 b0 b1 f3 a1=>?_
 refine dD (m:=4) (e.le<|by exact ab _ _) a1 (by exact ab _ _) (by decide) (by exact ab _ _) λb2 b3 b4 f4 a2=>?_
 refine dD (m:=3) (e.le<|by exact ab _ _) a2 (by exact ab _ _) (by decide) (by exact ab _ _) λc i f f5 a3=>gb ?_
 refine J (show (1:Int)+(c:Int)=((c+1:Nat):Int) by simp+arith) ?_
 show bB (On n) 1043 2 _ i k X
 refine cI 2 3 (by exact ab _ _) ?_
 refine IH ?_
 refine gb ?_
 refine J (show ((c+1:Nat):Int)+1=((c+2:Nat):Int) by simp+arith) ?_
 refine pD (Fj.mpr<|tE _) ?_
 rw [AF]
 have hw:a0 % (c+2)<=c+1:=tw<|Tq _<|by simp+arith only
 show bB (On n) 1043 3 _ i k X
 refine cI 3 4 (by exact ab _ _) ?_
 refine Qj ?_
 refine oZ (ai f<|ab _ _) ⟨by simp;exact ay f<|by simp+arith only,AG (e.le<|by exact ab _ _) _ i 4 _ a3 (by simp;exact ay f<|by simp+arith only) λb a4 g f6 a5=>?_⟩
 have g:b.length=c+1:=by simpa using g
 refine J (show (c+1:Nat)=b.length from g.symm) ?_
 refine cI 4 5 (by exact ab _ _) ?_
 refine P4 ?_
 refine gb ?_
 refine J (show (b.length:Int)+1=((b.length+1:Nat):Int) by simp+arith) ?_
 refine oZ (ay (bK (bh g) f)<|by simp+arith only) ⟨by simp;exact ay (bK (bh g) f)<|by simp+arith only,Cy (e.le<|by exact ab _ _) _ [] a4 10 _ (a5.le<|by simp;exact ay f<|by simp+arith only) (by simp;exact ay (bK (eA 30<|bh g)<|eA 30 f)<|by simp+arith only) (by simpa [bT] using af.nil) (λ_ h=>nomatch h) (λ_ h=>nomatch h) λm a6 j p q q4 t=>?_⟩
 have j:m.length=b.length+1:=by simpa using j
 rw [nI] at p q t
 have x:ba a6 s 200:=q4.le<|by simp;exact ay (bK (eA 30<|bh g)<|eA 30 f)<|by simp+arith only
 have h8:=af.alloc (o:=.lst<|m.map λr=>.loc r.1) p
 refine l5 (e.le<|by exact ab _ _) (by grind) B (ai hw<|bh g.symm) h8 (x.fr (L:=[]) (Fr.refl _ _).alloc<|by simp) (by exact ab _ _) (λy l=>?_) j t
 rcases bF.mp l with rfl|l
 .have:=x.lt
  exact dN<|by assumption
 .exact q y l
end
end
end
section
open PySem
theorem TF (a:List Int):AN a:=λO b _ _ _ c=>Ml (n:=⟨O,b⟩) (d:=0) ⟨by decide⟩ c
end
end Internal
namespace law
mutual
open PySem
theorem tw2347369689906425372:True:=trivial
theorem tw11148209211106824570:True:=trivial
theorem tw16508637522281333976:True:=trivial
theorem tw9234627074571452980:True:=trivial
theorem tw8130362551455132173:True:=trivial
theorem tw112909096598200561:True:=trivial
theorem tw14664319517282083424:True:=trivial
theorem tw10784817717094784163:True:=trivial
theorem tw8393808627357018136:True:=trivial
theorem tw8193473874264823646:True:=trivial
theorem tw1585322459782812627:True:=trivial
theorem tw18196155128599413305:True:=trivial
theorem tw15431040673697057852:True:=trivial
theorem tw8377331569969705457:True:=trivial
theorem tw1841332907510167789:True:=trivial
theorem tw12667241693782485012:True:=trivial
theorem tw6262044703141567226:True:=trivial
theorem tw6658411948278763905:True:=trivial
theorem tw4957404076564866895:True:=trivial
theorem tw5688038205376250302:True:=trivial
theorem tw14342220556856636337:True:=trivial
theorem tw17622635639050845845:True:=trivial
theorem tw2320870193700260646:True:=trivial
theorem tw6348890186956373781:True:=trivial
theorem tw17336665567645570899:True:=trivial
theorem tw11806158963206632191:True:=trivial
theorem tw13707275691944928667:True:=trivial
theorem tw12882978131385986199:True:=trivial
theorem tw15620344983695464440:True:=trivial
theorem tw8834752311729165007:True:=trivial
theorem tw3385168825531313072:True:=trivial
theorem tw13488528207839692323:True:=trivial
theorem tw3121484168603872239:True:=trivial
theorem tw18280209650887226289:True:=trivial
theorem tw3004015269434323142:True:=trivial
theorem tw7951771756357789262:True:=trivial
theorem tw11016118962022476393:True:=trivial
theorem tw389950274358078308:True:=trivial
theorem tw7766641309684699224:True:=trivial
theorem tw625422463607291278:True:=trivial
theorem tw2166595475072027153:True:=trivial
theorem tw3525684479404751635:True:=trivial
theorem tw10015635275278441392:True:=trivial
theorem tw191686779160591024:True:=trivial
theorem tw11712595176486250947:True:=trivial
theorem tw11265018143787030250:True:=trivial
theorem tw1051486845600520342:True:=trivial
theorem tw2772920992713636412:True:=trivial
theorem tw14088940365590322637:True:=trivial
theorem tw14369335692981311101:True:=trivial
theorem tw18105032410671841048:True:=trivial
theorem tw8941945780141715332:True:=trivial
theorem tw2981948317637096883:True:=trivial
theorem tw18213945621770263108:True:=trivial
theorem tw5757006862646242492:True:=trivial
theorem tw7031068214079264072:True:=trivial
theorem tw16339104614362338594:True:=trivial
theorem tw6740063932994144458:True:=trivial
theorem tw5568388260610375861:True:=trivial
theorem tw12559101401677230178:True:=trivial
theorem tw15989989117198419963:True:=trivial
theorem tw6827226416931352268:True:=trivial
theorem tw14378802154175168248:True:=trivial
theorem tw6302143051951965081:True:=trivial
theorem tw7753880514481173888:True:=trivial
theorem tw9015464708710000909:True:=trivial
theorem tw2850884047519681298:True:=trivial
theorem tw15380865273908049988:True:=trivial
theorem tw5856817545370909196:True:=trivial
theorem tw300943790653641174:True:=trivial
theorem tw9923142948409654889:True:=trivial
theorem tw2378248714618606317:True:=trivial
theorem tw1671109121606696204:True:=trivial
theorem tw15847920561983681844:True:=trivial
theorem tw10533463069035766760:True:=trivial
theorem tw13422351003552722203:True:=trivial
theorem tw16304097262273755511:True:=trivial
theorem tw10964770732761951119:True:=trivial
theorem tw1372179646536243630:True:=trivial
theorem tw14932588731611781823:True:=trivial
theorem tw10536080682534042357:True:=trivial
theorem tw1856641416765329477:True:=trivial
theorem tw1264996779986177813:True:=trivial
theorem tw11824627970844036440:True:=trivial
theorem tw14744833100613178862:True:=trivial
theorem tw11426579822771166962:True:=trivial
theorem tw1180481574515560740:True:=trivial
theorem tw328463842579546290:True:=trivial
theorem tw8626915112869598603:True:=trivial
theorem tw16405326720138702633:True:=trivial
theorem tw8689002245099136070:True:=trivial
theorem tw4006667922045918614:True:=trivial
theorem tw17490534313506657616:True:=trivial
theorem tw15937226240868199268:True:=trivial
theorem tw3135026211475072213:True:=trivial
theorem tw11430425064320331171:True:=trivial
theorem tw5824405040477277189:True:=trivial
theorem tw12823695869238226855:True:=trivial
theorem tw7734604250243216639:True:=trivial
theorem tw12159786814154502348:True:=trivial
theorem tw5463558192141173800:True:=trivial
theorem tw3335132417243373077:True:=trivial
theorem tw17816892725917836692:True:=trivial
theorem tw11155384286401814818:True:=trivial
theorem tw14153996315683617364:True:=trivial
theorem tw10316803089186621601:True:=trivial
theorem tw2531875758919502418:True:=trivial
theorem tw7021529481118678600:True:=trivial
theorem tw17190579585055793647:True:=trivial
theorem tw53783548723167669:True:=trivial
theorem tw10682452982375339088:True:=trivial
theorem tw3682453597880938187:True:=trivial
theorem tw11583309005084267911:True:=trivial
theorem tw13479122248907350519:True:=trivial
theorem tw8682739963175335853:True:=trivial
theorem tw1666828478017936458:True:=trivial
theorem tw4182654589858091758:True:=trivial
theorem tw6868005720005893525:True:=trivial
theorem tw17506092116523644560:True:=trivial
theorem tw12631125104204803094:True:=trivial
theorem tw17722742745207735485:True:=trivial
theorem tw10246430513529716788:True:=trivial
theorem tw6914921336513587705:True:=trivial
theorem tw11583600929483320462:True:=trivial
theorem tw16135512224290333599:True:=trivial
theorem tw9897934542801524638:True:=trivial
theorem tw4558158562405209887:True:=trivial
theorem tw16800591462905864772:True:=trivial
theorem tw13649833859309736463:True:=trivial
theorem tw10565404096371878578:True:=trivial
theorem tw4068673481559142534:True:=trivial
theorem tw2052957823566019383:True:=trivial
theorem tw9005963804931441020:True:=trivial
theorem tw9507168425194765073:True:=trivial
theorem tw27750575347808274:True:=trivial
theorem tw3571156449328691658:True:=trivial
theorem tw1153827692895563706:True:=trivial
theorem tw16031990899927697246:True:=trivial
theorem tw3009095056115078190:True:=trivial
theorem tw9085730439063984537:True:=trivial
theorem tw12751084145676522820:True:=trivial
theorem tw14576799054823838208:True:=trivial
theorem tw9367824684869332731:True:=trivial
theorem tw11740940271191787082:True:=trivial
theorem tw3911520878051630713:True:=trivial
theorem tw16453499918431264371:True:=trivial
theorem tw4346506710939506518:True:=trivial
theorem tw9705406087231273881:True:=trivial
theorem tw12230747571914751737:True:=trivial
theorem tw791899376490664284:True:=trivial
theorem tw2706467153675513630:True:=trivial
theorem tw12528612297456115742:True:=trivial
theorem tw16381851870435860624:True:=trivial
theorem tw16762458994305022840:True:=trivial
theorem tw2725570477077953839:True:=trivial
theorem tw18146567417937322041:True:=trivial
theorem tw15527927729848545629:True:=trivial
theorem tw14943883023780470885:True:=trivial
theorem tw7878590574886785029:True:=trivial
theorem tw9859195445176284192:True:=trivial
theorem tw1588967304687831749:True:=trivial
theorem tw10006421476544250452:True:=trivial
theorem tw18279175826143087046:True:=trivial
theorem tw6631183675187109265:True:=trivial
theorem tw14898642962100102854:True:=trivial
theorem tw765298420194286304:True:=trivial
theorem tw10247290731634373033:True:=trivial
theorem tw1233659125815921913:True:=trivial
theorem tw14515976153276121890:True:=trivial
theorem tw13187355304136739696:True:=trivial
theorem tw4486032776419574197:True:=trivial
theorem tw17289018086036417837:True:=trivial
theorem tw7585802756859319165:True:=trivial
theorem tw13733698653794815961:True:=trivial
theorem tw12692742163140075742:True:=trivial
theorem tw1823688381079382038:True:=trivial
theorem tw11042930598568831940:True:=trivial
theorem tw13705118421938282093:True:=trivial
theorem tw1447171808669064302:True:=trivial
theorem tw12245500081363259393:True:=trivial
theorem tw3684762893912169845:True:=trivial
theorem tw12013849283962830758:True:=trivial
theorem tw5606725698872088183:True:=trivial
theorem tw1465988683178648907:True:=trivial
theorem tw10301352058568885028:True:=trivial
theorem tw1913044124354089977:True:=trivial
theorem tw9703114273026260326:True:=trivial
theorem tw17902572638220959821:True:=trivial
theorem tw11451885014820041934:True:=trivial
theorem tw13626960823447451388:True:=trivial
theorem tw5896170298182094975:True:=trivial
theorem tw11301418021767285613:True:=trivial
theorem tw5186830071266829134:True:=trivial
theorem tw3043470036575428307:True:=trivial
theorem tw13936643096378992333:True:=trivial
theorem tw6584260631595109972:True:=trivial
theorem tw15057182624156400746:True:=trivial
theorem tw7990135326770990556:True:=trivial
theorem tw11298811038324506620:True:=trivial
theorem tw11889402102954552362:True:=trivial
theorem tw2427369201646893108:True:=trivial
theorem tw9774928459537144336:True:=trivial
theorem tw15263769805065091549:True:=trivial
theorem tw9040353744561016323:True:=trivial
theorem tw256976601096795226:True:=trivial
theorem tw7805032114618664510:True:=trivial
theorem tw13961721518649118276:True:=trivial
theorem tw2731301522365755722:True:=trivial
theorem tw1060527474883285679:True:=trivial
theorem tw13622200384153131603:True:=trivial
theorem tw13106965193916438251:True:=trivial
theorem tw6609836479102440350:True:=trivial
theorem tw3120224187761796320:True:=trivial
theorem tw4523824963191099297:True:=trivial
theorem tw1430069585349653914:True:=trivial
theorem tw2631597217383475997:True:=trivial
theorem tw13044144269925226613:True:=trivial
theorem tw17865747701858748339:True:=trivial
theorem tw8862305216795178012:True:=trivial
theorem tw1938744211872416739:True:=trivial
theorem tw127317143326429855:True:=trivial
theorem tw13792675428249388266:True:=trivial
theorem tw5526464036434691521:True:=trivial
theorem tw5759171584303317809:True:=trivial
theorem tw17585447988674925725:True:=trivial
theorem tw11935970676940699786:True:=trivial
theorem tw15015745976456417031:True:=trivial
theorem tw16469498818747127984:True:=trivial
theorem tw6394418113948073315:True:=trivial
theorem tw4173070603276499212:True:=trivial
theorem tw15346544961363321373:True:=trivial
theorem tw17434446165756496795:True:=trivial
theorem tw16114145909470816235:True:=trivial
theorem tw4105993526743835061:True:=trivial
theorem tw3499271817265539070:True:=trivial
theorem tw7085137507776641086:True:=trivial
theorem tw16465849635465882880:True:=trivial
theorem tw10302016490043328485:True:=trivial
theorem tw12108104176957899831:True:=trivial
theorem tw6731326881386711618:True:=trivial
theorem tw7552202227076822705:True:=trivial
theorem tw9471597260113704148:True:=trivial
theorem tw6872861749132703480:True:=trivial
theorem tw2637188902194257474:True:=trivial
theorem tw12059403557547378464:True:=trivial
theorem tw8400101796353163633:True:=trivial
theorem tw7720418963345053652:True:=trivial
theorem tw18175444698000654424:True:=trivial
theorem tw5822903616692022278:True:=trivial
theorem tw14454013014457997316:True:=trivial
theorem tw5865331365556526202:True:=trivial
theorem tw7219418724992983073:True:=trivial
theorem tw8368413481722187193:True:=trivial
theorem tw9509988469621980896:True:=trivial
theorem tw4901188629543592175:True:=trivial
theorem tw12279908804925343222:True:=trivial
theorem tw14486345096278870825:True:=trivial
theorem tw13212096257208779674:True:=trivial
theorem tw10855516207563596335:True:=trivial
theorem tw138574305562521906:True:=trivial
theorem tw2066843600984799122:True:=trivial
theorem tw11730304314397825215:True:=trivial
theorem tw4046071567669942238:True:=trivial
theorem tw9926356499664884447:True:=trivial
theorem tw5107225341981795085:True:=trivial
theorem tw16224417117830211812:True:=trivial
theorem tw4545973453172447737:True:=trivial
theorem tw5478055030515842151:True:=trivial
theorem tw16840123298276764928:True:=trivial
theorem tw5765176999169632756:True:=trivial
theorem tw13791976218914085910:True:=trivial
theorem tw15780532435565012867:True:=trivial
theorem tw14014327329194785559:True:=trivial
theorem tw3410264322593213964:True:=trivial
theorem tw14789840032233709398:True:=trivial
theorem tw10611236791313016760:True:=trivial
theorem tw18312642829208519918:True:=trivial
theorem tw8877418767269552731:True:=trivial
theorem tw14577606919805201265:True:=trivial
theorem tw16005900618382996980:True:=trivial
theorem tw3791791659867975981:True:=trivial
theorem tw1686647556559472485:True:=trivial
theorem tw743264849047517613:True:=trivial
theorem tw6424448315993446631:True:=trivial
theorem tw16324040525145837413:True:=trivial
theorem tw8909797698515804255:True:=trivial
theorem tw11828176328403043835:True:=trivial
theorem tw3180723083338580804:True:=trivial
theorem tw13390953723484002094:True:=trivial
theorem tw9172906722627659407:True:=trivial
theorem tw16617871175012263787:True:=trivial
theorem tw3457248441646642254:True:=trivial
theorem tw5079013609374358204:True:=trivial
theorem tw10662095047964012595:True:=trivial
theorem tw13110164881511931476:True:=trivial
theorem tw14499171404124301396:True:=trivial
theorem tw2351102408754878682:True:=trivial
theorem tw17809833116000397319:True:=trivial
theorem tw10023686192747115796:True:=trivial
theorem tw2070672184697497193:True:=trivial
theorem tw13542253949724653569:True:=trivial
theorem tw11902286102626654415:True:=trivial
theorem tw2408790809215497928:True:=trivial
theorem tw3634103573656307507:True:=trivial
theorem tw4908517660498442698:True:=trivial
theorem tw11344415483884623159:True:=trivial
theorem tw336251253817745504:True:=trivial
theorem tw472668490227771761:True:=trivial
theorem tw10469493310202284750:True:=trivial
theorem tw17168628096208288066:True:=trivial
theorem tw1746432321631148817:True:=trivial
theorem tw6427174196504210575:True:=trivial
theorem tw8096505338646543528:True:=trivial
theorem tw13876013198041843859:True:=trivial
theorem tw15615498541637825414:True:=trivial
theorem tw2428457723711304594:True:=trivial
theorem tw1173056557569260014:True:=trivial
theorem tw10946248856476168029:True:=trivial
theorem tw13988015933445734196:True:=trivial
theorem tw4676788777328934994:True:=trivial
theorem tw5037233810833290919:True:=trivial
theorem tw14240871002873000807:True:=trivial
theorem tw8214018013531795001:True:=trivial
theorem tw9419902438303260944:True:=trivial
theorem tw18226738760191909662:True:=trivial
theorem tw16986089415065116321:True:=trivial
theorem tw7630794467942622387:True:=trivial
theorem tw3635574925395915108:True:=trivial
theorem tw5926448791855114412:True:=trivial
theorem tw10874921433726861904:True:=trivial
theorem tw11110636111776139030:True:=trivial
theorem tw2478590926110498673:True:=trivial
theorem tw15842686482387449074:True:=trivial
theorem tw17702700018548142076:True:=trivial
theorem tw4789647429693112344:True:=trivial
theorem tw18076190056400383001:True:=trivial
theorem tw8214243552090061388:True:=trivial
theorem tw8661385045365669865:True:=trivial
theorem tw14833993005684555312:True:=trivial
theorem tw17351294838357633443:True:=trivial
theorem tw16418583038687450806:True:=trivial
theorem tw10198373884071604499:True:=trivial
theorem tw16127396978525395202:True:=trivial
theorem tw10965469551872863244:True:=trivial
theorem tw13759417580001532375:True:=trivial
theorem tw9378306084680490058:True:=trivial
theorem tw10224959171253855442:True:=trivial
theorem tw1894415437690322856:True:=trivial
theorem tw5759119513877862361:True:=trivial
theorem tw15872714501068328079:True:=trivial
theorem tw7171897867850184110:True:=trivial
theorem tw3764636346061320997:True:=trivial
theorem tw11656798678088717821:True:=trivial
theorem tw18048234928913447597:True:=trivial
theorem tw13689942948840679331:True:=trivial
theorem tw15700806725817004867:True:=trivial
theorem tw7915780347706347194:True:=trivial
theorem tw7757085409567536760:True:=trivial
theorem tw16202531623733960336:True:=trivial
theorem tw9590647126063797726:True:=trivial
theorem tw13568788915459206134:True:=trivial
theorem tw4326799050210483083:True:=trivial
theorem tw14863036695008648806:True:=trivial
theorem tw7974842139376466880:True:=trivial
theorem tw16884566110622355778:True:=trivial
theorem tw17204149490039463547:True:=trivial
theorem tw17084091479934422900:True:=trivial
theorem tw16143402536387952546:True:=trivial
theorem tw10685348096577147127:True:=trivial
theorem tw3161069045813151812:True:=trivial
theorem tw5223661357717994792:True:=trivial
theorem tw11911692880981123169:True:=trivial
theorem tw10373599535375446188:True:=trivial
theorem tw10739836229700673485:True:=trivial
theorem tw7702675244742591052:True:=trivial
theorem tw18067812818302755093:True:=trivial
theorem tw2787570134857116660:True:=trivial
theorem tw8231502817629432187:True:=trivial
theorem tw1901144896910080236:True:=trivial
theorem tw9035912170408793244:True:=trivial
theorem tw6944951937206755967:True:=trivial
theorem tw17093361896211462796:True:=trivial
theorem tw10769356432485607983:True:=trivial
theorem tw16125145973140629509:True:=trivial
theorem tw11985165553501520758:True:=trivial
theorem tw13255749571415808605:True:=trivial
theorem tw8208282992192066176:True:=trivial
theorem tw16417708465784863236:True:=trivial
theorem tw16176092079185841447:True:=trivial
theorem tw2759093891202059377:True:=trivial
theorem tw17911457456308883599:True:=trivial
theorem tw964735967877550831:True:=trivial
theorem tw1803423151024578886:True:=trivial
theorem tw14831383725187164143:True:=trivial
theorem tw17065853034018868707:True:=trivial
theorem tw9148902814395704832:True:=trivial
theorem tw9096682357707289654:True:=trivial
theorem tw14805874555140095111:True:=trivial
theorem tw3875074332801123443:True:=trivial
theorem tw1851709066210144986:True:=trivial
theorem tw3272815010394513277:True:=trivial
theorem tw2867496390186870437:True:=trivial
theorem tw3260919848671502144:True:=trivial
theorem tw12987942750445363739:True:=trivial
theorem tw14325307061458958174:True:=trivial
theorem tw13987225519633593624:True:=trivial
theorem tw13817118937593592305:True:=trivial
theorem tw12417648047208412264:True:=trivial
theorem tw10682346804044242067:True:=trivial
theorem tw13571462578222039278:True:=trivial
theorem tw5962509045511649851:True:=trivial
theorem tw17918118426751940849:True:=trivial
theorem tw1265707394578792198:True:=trivial
theorem tw17644929820385954830:True:=trivial
theorem tw6570022011229800607:True:=trivial
theorem tw1502410181280388649:True:=trivial
theorem tw9739477436555827642:True:=trivial
theorem tw16265916976389111379:True:=trivial
theorem tw746207128110855755:True:=trivial
theorem tw1525368065110760597:True:=trivial
theorem tw16969368358214040724:True:=trivial
theorem tw7712447660842303439:True:=trivial
theorem tw2550525375325809800:True:=trivial
theorem tw4430809425077638310:True:=trivial
theorem tw13776951687762794210:True:=trivial
theorem tw16585132557245215809:True:=trivial
theorem tw14854347315293268277:True:=trivial
theorem tw11568188458581799787:True:=trivial
theorem tw7861290965237921058:True:=trivial
theorem tw6151798954670327873:True:=trivial
theorem tw6519122298890219348:True:=trivial
theorem tw9250443183723457477:True:=trivial
theorem tw2840554221268165817:True:=trivial
theorem tw7430217499180593974:True:=trivial
theorem tw10047779025188342691:True:=trivial
theorem tw1702546150003757800:True:=trivial
theorem tw8616365168702025429:True:=trivial
theorem tw2634212117398599397:True:=trivial
theorem tw4210340702303920260:True:=trivial
theorem tw11494605908041371296:True:=trivial
theorem tw15654887443514685115:True:=trivial
theorem tw6597703633786072401:True:=trivial
theorem tw3458491807833918984:True:=trivial
theorem tw6181767216480634638:True:=trivial
theorem tw3921742220093380145:True:=trivial
theorem tw15514850812878357745:True:=trivial
theorem tw5266172909301102864:True:=trivial
theorem tw12195891886813247594:True:=trivial
theorem tw4803315985247402299:True:=trivial
theorem tw15999924402797230065:True:=trivial
theorem tw3877819282751843081:True:=trivial
theorem tw12135178488530861281:True:=trivial
theorem tw13761981718282100201:True:=trivial
theorem tw15680351461648652349:True:=trivial
theorem tw824528157449599020:True:=trivial
theorem tw4581067007963765942:True:=trivial
theorem tw9022724931740917465:True:=trivial
theorem tw16073344771889303942:True:=trivial
theorem tw9259028747146209043:True:=trivial
theorem tw11342317759691371823:True:=trivial
theorem tw18197471594963353654:True:=trivial
theorem tw8555554519771857762:True:=trivial
theorem tw12843600542912737457:True:=trivial
theorem tw615078624715520641:True:=trivial
theorem tw2285089234919929759:True:=trivial
theorem tw6226999849681690003:True:=trivial
theorem tw13595312173567310985:True:=trivial
theorem tw1963671677247560394:True:=trivial
theorem tw18162800935715043523:True:=trivial
theorem tw403514874580602406:True:=trivial
theorem tw5152554778974162585:True:=trivial
theorem tw12069088336919849496:True:=trivial
theorem tw823916864935991505:True:=trivial
theorem tw18256614335192688444:True:=trivial
theorem tw2568047147079326155:True:=trivial
theorem tw6748495095562036567:True:=trivial
theorem tw11572236679478863505:True:=trivial
theorem tw7946260096844134679:True:=trivial
theorem tw9457947355066872279:True:=trivial
theorem tw13667275876176876367:True:=trivial
theorem tw4466841962187379288:True:=trivial
theorem tw14311389908670430172:True:=trivial
theorem tw568555166003729926:True:=trivial
theorem tw155101514389128788:True:=trivial
theorem tw17506701968014169379:True:=trivial
theorem tw8267721622676340176:True:=trivial
theorem tw13363307870379525595:True:=trivial
theorem tw6349320150662514047:True:=trivial
theorem tw7096782637782417568:True:=trivial
theorem tw14000446723430198427:True:=trivial
theorem tw759412082559616514:True:=trivial
theorem tw15716018542321952146:True:=trivial
theorem tw12800761440855176379:True:=trivial
theorem tw16165545079687566800:True:=trivial
theorem tw11432587524955906796:True:=trivial
theorem tw12460558941114831546:True:=trivial
theorem tw16360857089514365176:True:=trivial
theorem tw4704640042688703944:True:=trivial
theorem tw14782981152658694796:True:=trivial
theorem tw4811541298574165355:True:=trivial
theorem tw9171909744762028523:True:=trivial
theorem tw10688277823682773845:True:=trivial
theorem tw6102668323687505502:True:=trivial
theorem tw13094056700709744970:True:=trivial
theorem tw7167135338594676765:True:=trivial
theorem tw13933658508535467490:True:=trivial
theorem tw16234711888074852603:True:=trivial
theorem tw18219528747456934684:True:=trivial
theorem tw1888967101186279259:True:=trivial
theorem tw234088651831972884:True:=trivial
theorem tw4537243172502812280:True:=trivial
theorem tw8541979377530643823:True:=trivial
theorem tw522805188825062445:True:=trivial
theorem tw14533119002083711444:True:=trivial
theorem tw18237845556270483021:True:=trivial
theorem tw15965980055267658272:True:=trivial
theorem tw745060366244241829:True:=trivial
theorem tw1050659009266240554:True:=trivial
theorem tw10794223006604294050:True:=trivial
theorem tw16173505291465673776:True:=trivial
theorem tw17258638142836949332:True:=trivial
theorem tw2767130036542949939:True:=trivial
theorem tw14749892692755204182:True:=trivial
theorem tw5112332982280096225:True:=trivial
theorem tw17155121183968833655:True:=trivial
theorem tw663048005711513719:True:=trivial
theorem tw13728773443057724059:True:=trivial
theorem tw15029479995518090930:True:=trivial
theorem tw51276879991702401:True:=trivial
theorem tw17144349872092252730:True:=trivial
theorem tw1940508613919620296:True:=trivial
theorem tw5241873987765446382:True:=trivial
theorem tw351354326529436124:True:=trivial
theorem tw13066497780578153882:True:=trivial
theorem tw2717157226930896203:True:=trivial
theorem tw466093691909171813:True:=trivial
theorem tw12053299388426269135:True:=trivial
theorem tw13229063250939053747:True:=trivial
theorem tw11889812260386729796:True:=trivial
theorem tw12409729927284601452:True:=trivial
theorem tw3999723570078350482:True:=trivial
theorem tw740211120730030258:True:=trivial
theorem tw14708914154082527141:True:=trivial
theorem tw9535568303525297519:True:=trivial
theorem tw15176254315650684438:True:=trivial
theorem tw304548727882767379:True:=trivial
theorem tw10315161632072059570:True:=trivial
theorem tw3229700554076719671:True:=trivial
theorem tw11172963110503608720:True:=trivial
theorem tw259394306007589022:True:=trivial
theorem tw4857450981121428021:True:=trivial
theorem tw11786191911699353565:True:=trivial
theorem tw14822561477600552272:True:=trivial
theorem tw1635936076561994385:True:=trivial
theorem tw10465857802619788157:True:=trivial
theorem tw4879265347572779297:True:=trivial
theorem tw11572628800222441447:True:=trivial
theorem tw15256692100603658409:True:=trivial
theorem tw3546409519315090473:True:=trivial
theorem tw4656522077572595867:True:=trivial
theorem tw10243927037389961114:True:=trivial
theorem tw16992137452496337772:True:=trivial
theorem tw13880050052962715347:True:=trivial
theorem tw2747473955017203386:True:=trivial
theorem tw163467674121137261:True:=trivial
theorem tw10256362016006735932:True:=trivial
theorem tw6305633960668747206:True:=trivial
theorem tw7561603316362938992:True:=trivial
theorem tw10017303938028548802:True:=trivial
theorem tw11623775344073916624:True:=trivial
theorem tw8355193580418170465:True:=trivial
theorem tw10184130182752807196:True:=trivial
theorem tw3348455353131965155:True:=trivial
theorem tw10807159166486711602:True:=trivial
theorem tw9306489563800820662:True:=trivial
theorem tw15712179433548234360:True:=trivial
theorem tw1610100390967393046:True:=trivial
theorem tw17963578770022020222:True:=trivial
theorem tw8840981965253692143:True:=trivial
theorem tw15618438894097758181:True:=trivial
theorem tw5461974950726986916:True:=trivial
theorem tw15246947223726993395:True:=trivial
theorem tw7650714045787232364:True:=trivial
theorem tw2197534260023057625:True:=trivial
theorem tw2355131481168834475:True:=trivial
theorem tw11321696052379929097:True:=trivial
theorem tw8319792697340206452:True:=trivial
theorem tw16562281266993608982:True:=trivial
theorem tw16250765226258230480:True:=trivial
theorem tw9870198538304392489:True:=trivial
theorem tw6211636419662500346:True:=trivial
theorem tw8952797441857020512:True:=trivial
theorem tw1900324959677325778:True:=trivial
theorem tw12906018389369034649:True:=trivial
theorem tw6286618539715635974:True:=trivial
theorem tw559181110591177822:True:=trivial
theorem tw213149066187617843:True:=trivial
theorem tw16258993846967787804:True:=trivial
theorem tw14317502822950231774:True:=trivial
theorem tw7472392605112009958:True:=trivial
theorem tw15844911930040286848:True:=trivial
theorem tw11906571095565090093:True:=trivial
theorem tw5054631082046157970:True:=trivial
theorem tw14507587579433425230:True:=trivial
theorem tw17661046409378373187:True:=trivial
theorem tw9549881006879880859:True:=trivial
theorem tw15384585382880442412:True:=trivial
theorem tw8958012244803539818:True:=trivial
theorem tw11823684753796001451:True:=trivial
theorem tw18087031937497475063:True:=trivial
theorem tw5074664015257517900:True:=trivial
theorem tw5808560155020538968:True:=trivial
theorem tw11166914248177860083:True:=trivial
theorem tw15302435305213789078:True:=trivial
theorem tw4648666894120409344:True:=trivial
theorem tw1625687556541757332:True:=trivial
theorem tw6797567353260315697:True:=trivial
theorem tw1710791838299486756:True:=trivial
theorem tw11688006964095121570:True:=trivial
theorem tw2875338257047697019:True:=trivial
theorem tw12590918176133248614:True:=trivial
theorem tw1965001072090347827:True:=trivial
theorem tw3883407854063371304:True:=trivial
theorem tw13632639987278980995:True:=trivial
theorem tw10092249737918297831:True:=trivial
theorem tw13522494884491878246:True:=trivial
theorem tw10343620613306851896:True:=trivial
theorem tw4567791690157840171:True:=trivial
theorem tw5927765860272117351:True:=trivial
theorem tw17968703191050498054:True:=trivial
theorem tw11673065614148770094:True:=trivial
theorem tw3058312387204168268:True:=trivial
theorem tw17521603330594381506:True:=trivial
theorem tw14143938635558692539:True:=trivial
theorem tw14152130928434042037:True:=trivial
theorem tw11218094928909113304:True:=trivial
theorem tw10036594631794845626:True:=trivial
theorem tw1466779918729120563:True:=trivial
theorem tw14347874162851305126:True:=trivial
theorem tw14100809504472025193:True:=trivial
theorem tw7947664461464936259:True:=trivial
theorem tw1389820569774816010:True:=trivial
theorem tw4622507943286758663:True:=trivial
theorem tw6320052863035037261:True:=trivial
theorem tw8179598134262590449:True:=trivial
theorem tw17617285060259143518:True:=trivial
theorem tw9116961117901415946:True:=trivial
theorem tw15887162238682033566:True:=trivial
theorem tw8945754567795272355:True:=trivial
theorem tw18114796583763774893:True:=trivial
theorem tw10365027968710667838:True:=trivial
theorem tw13015613923333616007:True:=trivial
theorem tw663549203295587526:True:=trivial
theorem tw8481551819484204512:True:=trivial
theorem tw6003215673028684012:True:=trivial
theorem tw13718042623122868279:True:=trivial
theorem tw9773320771725097094:True:=trivial
theorem tw13440086921605842478:True:=trivial
theorem tw3602087526383413984:True:=trivial
theorem tw12858416332795934490:True:=trivial
theorem tw2759683279807804344:True:=trivial
theorem tw1802847094856485388:True:=trivial
theorem tw7890288807285097245:True:=trivial
theorem tw4792329651925809361:True:=trivial
theorem tw3886675843612926803:True:=trivial
theorem tw11311298186729470735:True:=trivial
theorem tw13478563133243941227:True:=trivial
theorem tw12777688874785687783:True:=trivial
theorem tw14159885695829415453:True:=trivial
theorem tw16214522063434749053:True:=trivial
theorem tw9275403052577847420:True:=trivial
theorem tw7283594651733678074:True:=trivial
theorem tw3291430995647064902:True:=trivial
theorem tw6277695593091390052:True:=trivial
theorem tw8751582047632700879:True:=trivial
theorem tw11062681309371247458:True:=trivial
theorem tw2271115096406454409:True:=trivial
theorem tw8549964072919090490:True:=trivial
theorem tw1038466656383067803:True:=trivial
theorem tw10267598413121274360:True:=trivial
theorem tw9641771715135223730:True:=trivial
theorem tw8724380502384027866:True:=trivial
theorem tw7626034129862577542:True:=trivial
theorem tw654278399032429246:True:=trivial
theorem tw15133894477763591001:True:=trivial
theorem tw15493454373403193892:True:=trivial
theorem tw3369179463843577602:True:=trivial
theorem tw9229838796769363015:True:=trivial
theorem tw12386361565228904706:True:=trivial
theorem tw6460622447872880723:True:=trivial
theorem tw5432566325926082126:True:=trivial
theorem tw12610608067756550805:True:=trivial
theorem tw3975011203230848119:True:=trivial
theorem tw4189197808216739701:True:=trivial
theorem tw10309131346113790939:True:=trivial
theorem tw5220970943305120558:True:=trivial
theorem tw3373445221797699062:True:=trivial
theorem tw14617560702391422364:True:=trivial
theorem tw959195223876475222:True:=trivial
theorem tw3775361592671485517:True:=trivial
theorem tw16426571651486727909:True:=trivial
theorem tw6636046092353448235:True:=trivial
theorem tw14076399572816568179:True:=trivial
theorem tw14708469453074290282:True:=trivial
theorem tw253840606061104439:True:=trivial
theorem tw17048037751263637312:True:=trivial
theorem tw122314062626193385:True:=trivial
theorem tw581630979248748536:True:=trivial
theorem tw4917558012181272488:True:=trivial
theorem tw4202135290752947577:True:=trivial
theorem tw17794265857875359651:True:=trivial
theorem tw6901615715716342155:True:=trivial
theorem tw16283311888657096546:True:=trivial
theorem tw3022312534896902172:True:=trivial
theorem tw6354018499285256535:True:=trivial
theorem tw7653468643433142808:True:=trivial
theorem tw10235096204767538841:True:=trivial
theorem tw13483101245441255321:True:=trivial
theorem tw4733010638956210534:True:=trivial
theorem tw8379801371077579658:True:=trivial
theorem tw13233173488025857792:True:=trivial
theorem tw4089622393701157624:True:=trivial
theorem tw14939899711081777794:True:=trivial
theorem tw13047991302672676317:True:=trivial
theorem tw17502139389040140158:True:=trivial
theorem tw17433297473590432304:True:=trivial
theorem tw6627507069022015959:True:=trivial
theorem tw11382707499955547593:True:=trivial
theorem tw15203146848449140188:True:=trivial
theorem tw12770879722433261261:True:=trivial
theorem tw11212136762469197465:True:=trivial
theorem tw8469116424944935334:True:=trivial
theorem tw13437287165872944686:True:=trivial
theorem tw2349678823959529038:True:=trivial
theorem tw10988966807477449709:True:=trivial
theorem tw11444997793602299991:True:=trivial
theorem tw10713132696388788193:True:=trivial
theorem tw6564146049449511899:True:=trivial
theorem tw3903891362027405964:True:=trivial
theorem tw17938173387331176288:True:=trivial
theorem tw12674282577319284049:True:=trivial
theorem tw445187652221266311:True:=trivial
theorem tw14256497347100926749:True:=trivial
theorem tw8807841539937598354:True:=trivial
theorem tw8695362306470200571:True:=trivial
theorem tw14203077291407213153:True:=trivial
theorem tw5162061362114740:True:=trivial
theorem tw10137495668757444914:True:=trivial
theorem tw3104323637166983492:True:=trivial
theorem tw11665692917106012508:True:=trivial
theorem tw6477474140659905759:True:=trivial
theorem tw10077782211673108025:True:=trivial
theorem tw14968367719556016292:True:=trivial
theorem tw17405017239844752494:True:=trivial
theorem tw4893575301116900237:True:=trivial
theorem tw1469735678299482304:True:=trivial
theorem tw13749054020404154894:True:=trivial
theorem tw12323402489623724369:True:=trivial
theorem tw16251456166430716674:True:=trivial
theorem tw10703760425500077913:True:=trivial
theorem tw17954688815868799476:True:=trivial
theorem tw10706529869983992875:True:=trivial
theorem tw10621653777096046941:True:=trivial
theorem tw6525115498288738249:True:=trivial
theorem tw6086229705292442542:True:=trivial
theorem tw3568066560409018160:True:=trivial
theorem tw15275852157875592578:True:=trivial
theorem tw1520941332042229010:True:=trivial
theorem tw407461395843676723:True:=trivial
theorem tw1009701086978419249:True:=trivial
theorem tw339836876861548572:True:=trivial
theorem tw4457238533287925758:True:=trivial
theorem tw2109362653829874276:True:=trivial
theorem tw4195782108555800314:True:=trivial
theorem tw10391736334519388987:True:=trivial
theorem tw798029290076458353:True:=trivial
theorem tw11963977292032122386:True:=trivial
theorem tw9786200172182825339:True:=trivial
theorem tw3897705189744936346:True:=trivial
theorem tw12226650004936688724:True:=trivial
theorem tw13955149328148524822:True:=trivial
theorem tw15766633513702204512:True:=trivial
theorem tw6118522254490007756:True:=trivial
theorem tw6567547706753919033:True:=trivial
theorem tw5297855924027211889:True:=trivial
theorem tw1173816454557449656:True:=trivial
theorem tw15811142124933470021:True:=trivial
theorem tw14823078309275213862:True:=trivial
theorem tw7145524562484138819:True:=trivial
theorem tw17322645514826386617:True:=trivial
theorem tw1826158907387034965:True:=trivial
theorem tw10175032002033253018:True:=trivial
theorem tw12160674346724409166:True:=trivial
theorem tw9946861707870233718:True:=trivial
theorem tw8733048874739728715:True:=trivial
theorem tw7125311364333075395:True:=trivial
theorem tw18117182151515629710:True:=trivial
theorem tw4640223192950209799:True:=trivial
theorem tw12493615336969742014:True:=trivial
theorem tw3789102771369546251:True:=trivial
theorem tw11495715967210877117:True:=trivial
theorem tw2190958759868804901:True:=trivial
theorem tw12333802034479711089:True:=trivial
theorem tw9404216683206984957:True:=trivial
theorem tw15162945169585403142:True:=trivial
theorem tw17880333376003554739:True:=trivial
theorem tw7656013864741027499:True:=trivial
theorem tw12150825232487008385:True:=trivial
theorem tw3797747664263751548:True:=trivial
theorem tw7059899664208695735:True:=trivial
theorem tw2616515249056484813:True:=trivial
theorem tw5765074778068036712:True:=trivial
theorem tw1028061767266205885:True:=trivial
theorem tw8696591131425080441:True:=trivial
theorem tw11842154518297904970:True:=trivial
theorem tw4093225961972846934:True:=trivial
theorem tw7939736985586983429:True:=trivial
theorem tw5193999175931551279:True:=trivial
theorem tw15666571192504341311:True:=trivial
theorem tw13708295860528259264:True:=trivial
theorem tw3054335285294786930:True:=trivial
theorem tw6297917163433805854:True:=trivial
theorem tw16515034485447260202:True:=trivial
theorem tw13526318596587369203:True:=trivial
theorem tw434239029886370409:True:=trivial
theorem tw16511300880660718354:True:=trivial
theorem tw7874035108860355382:True:=trivial
theorem tw9383713532851269502:True:=trivial
theorem tw7429079395582752953:True:=trivial
theorem tw2205698974497283170:True:=trivial
theorem tw8326462920639921141:True:=trivial
theorem tw12406287720787640118:True:=trivial
theorem tw15494371944516692473:True:=trivial
theorem tw89694365435359018:True:=trivial
theorem tw5710286041021286952:True:=trivial
theorem tw14570365649230677866:True:=trivial
theorem tw14498989106275084464:True:=trivial
theorem tw1869818228139546136:True:=trivial
theorem tw5995636244603389501:True:=trivial
theorem tw14554515677844339146:True:=trivial
theorem tw7264552106395557346:True:=trivial
theorem tw12840742523174619060:True:=trivial
theorem tw3459007337505406896:True:=trivial
theorem tw12772357769716873759:True:=trivial
theorem tw9505315131864032382:True:=trivial
theorem tw1726676707928303028:True:=trivial
theorem tw14179164900458092936:True:=trivial
theorem tw10415937617996713741:True:=trivial
theorem tw11815264373039893456:True:=trivial
theorem tw6463740839748345367:True:=trivial
theorem tw14802755200647372418:True:=trivial
theorem tw17118460274778945656:True:=trivial
theorem tw11584526780024618974:True:=trivial
theorem tw11508276016772910950:True:=trivial
theorem tw11159839355485433583:True:=trivial
theorem tw10514562384108138522:True:=trivial
theorem tw14891762115993069389:True:=trivial
theorem tw10679139363750780021:True:=trivial
theorem tw7640020190703548235:True:=trivial
theorem tw14035150605665280278:True:=trivial
theorem tw7873568984172552413:True:=trivial
theorem tw9557124704186283899:True:=trivial
theorem tw12079662231814899297:True:=trivial
theorem tw7270247864881950596:True:=trivial
theorem tw2947115874711867620:True:=trivial
theorem tw15765421472698966961:True:=trivial
theorem tw18028811614330443932:True:=trivial
theorem tw12471144291089424557:True:=trivial
theorem tw16756087238492270046:True:=trivial
theorem tw14379462156141025328:True:=trivial
theorem tw7928155888929269629:True:=trivial
theorem tw3230608261355345448:True:=trivial
theorem tw15525161276326080298:True:=trivial
theorem tw2471118842875268746:True:=trivial
theorem tw16121300976676042060:True:=trivial
theorem tw10341232955530992781:True:=trivial
theorem tw13633674342485586220:True:=trivial
theorem tw4194663440844013013:True:=trivial
theorem tw8400330649371614963:True:=trivial
theorem tw54563967648231285:True:=trivial
theorem tw8154346924818237842:True:=trivial
theorem tw3626631501046058187:True:=trivial
theorem tw7711025637178765631:True:=trivial
theorem tw544416898564335933:True:=trivial
theorem tw13105785379291272536:True:=trivial
theorem tw18024705061545192003:True:=trivial
theorem tw2306052480582322947:True:=trivial
theorem tw12287136234533164809:True:=trivial
theorem tw15993453377266289018:True:=trivial
theorem tw14088043095209975282:True:=trivial
theorem tw11677494256100043861:True:=trivial
theorem tw14202172626436547515:True:=trivial
theorem tw6384622485912284485:True:=trivial
theorem tw9775578916617131780:True:=trivial
theorem tw1383731269468801798:True:=trivial
theorem tw13759499700678286921:True:=trivial
theorem tw3533238546431096377:True:=trivial
theorem tw11402067044405649372:True:=trivial
theorem tw4843196698346154017:True:=trivial
theorem tw13113920633786177155:True:=trivial
theorem tw6851489509044044948:True:=trivial
theorem tw10427431760851071818:True:=trivial
theorem tw6446545568877546841:True:=trivial
theorem tw17931810161776639709:True:=trivial
theorem tw2688440419461138214:True:=trivial
theorem tw7184117428332930944:True:=trivial
theorem tw16334506775019375125:True:=trivial
theorem tw15041525498782234677:True:=trivial
theorem tw17360577748265574369:True:=trivial
theorem tw3943894540705788830:True:=trivial
theorem tw766751810287931212:True:=trivial
theorem tw10419344180020835187:True:=trivial
theorem tw11937483305184348357:True:=trivial
theorem tw1421179385450372137:True:=trivial
theorem tw7100727894271808853:True:=trivial
theorem tw7238077460143993408:True:=trivial
theorem tw940310143306944107:True:=trivial
theorem tw5803965400209379596:True:=trivial
theorem tw8586705632084015521:True:=trivial
theorem tw13879225670730278427:True:=trivial
theorem tw16686367200484181685:True:=trivial
theorem tw11344259231204785474:True:=trivial
theorem tw12589170361280002200:True:=trivial
theorem tw9322621954701736290:True:=trivial
theorem tw2030965984702790068:True:=trivial
theorem tw8439701749127279522:True:=trivial
theorem tw9439156264196535082:True:=trivial
theorem tw14680285971820489359:True:=trivial
theorem tw14724704486222957876:True:=trivial
theorem tw17383301986935559125:True:=trivial
theorem tw16813236886810034266:True:=trivial
theorem tw9049711809149956010:True:=trivial
theorem tw8592594135356203778:True:=trivial
theorem tw10400890980155540096:True:=trivial
theorem tw12498708318791455037:True:=trivial
theorem tw11097398223588278986:True:=trivial
theorem tw4679974759194884242:True:=trivial
theorem tw17078252043157811359:True:=trivial
theorem tw929403990921777647:True:=trivial
theorem tw10504286700687651304:True:=trivial
theorem tw15342779543168225819:True:=trivial
theorem tw14800722902956816629:True:=trivial
theorem tw9937669407633546576:True:=trivial
theorem tw16176621900282738615:True:=trivial
theorem tw13105815490342322615:True:=trivial
theorem tw13942842804053233393:True:=trivial
theorem tw8736435535398014025:True:=trivial
theorem tw5210029761005115848:True:=trivial
theorem tw16555174397237850865:True:=trivial
theorem tw8424508877784544811:True:=trivial
theorem tw16588905709249636379:True:=trivial
theorem tw13150898266244850823:True:=trivial
theorem tw2469817801405369238:True:=trivial
theorem tw8053484116034330024:True:=trivial
theorem tw17485718604911638032:True:=trivial
theorem tw16189247659635427202:True:=trivial
theorem tw10951376844813844235:True:=trivial
theorem tw13842426366788959810:True:=trivial
theorem tw4549768856118776384:True:=trivial
theorem tw14436188486168700746:True:=trivial
theorem tw15506422056084209929:True:=trivial
theorem tw10994826075172772523:True:=trivial
theorem tw4996075523409900784:True:=trivial
theorem tw6973893990897824167:True:=trivial
theorem tw402279622276383398:True:=trivial
theorem tw12651357785339719109:True:=trivial
theorem tw4459299970376613753:True:=trivial
theorem tw8819820080943635200:True:=trivial
theorem tw9142270756455014936:True:=trivial
theorem tw997637448141237142:True:=trivial
theorem tw10559308171346628317:True:=trivial
theorem tw1981339053424895550:True:=trivial
end
end law
end Mine
set_option tactic.hygienic true
set_option genCtorIdx true
set_option genInjectivity true
set_option genSizeOf true
set_option genSizeOfSpec true
set_option bootstrap.genMatcherCode true
set_option compiler.extract_closed true
set_option backward.match.sparseCases true
open PySem PySem.W PyProof.Rows
set_option Elab.async true
theorem Mine.law:PySem.Challenge.rw_pq0817_01.Holds:=by
 w_on;o_law;k_head;(case hw=>w_witness2)
 refine Mine.Internal.TN ?_ (fun xs _=>Mine.Internal.TF xs) rfl
 constructor<;>(intro P;kernel_rfl)
theorem PySem.Challenge.cw_pq0817_01_holds : PySem.Challenge.rw_pq0817_01.Holds :=
 Mine.law
