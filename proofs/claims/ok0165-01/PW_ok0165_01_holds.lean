import PyProof.Rows.All
import Wide.All
import OpenK.AllK
import Wide.FinOn
import PySem.Challenge.RW_ok0165_01
open PySem PySem.W PyProof.Rows
set_option Elab.async false
set_option maxRecDepth 100000
set_option maxHeartbeats 8000000
set_option linter.all false
namespace Mine
abbrev rw0 := PySem.Challenge.rw_ok0165_01
noncomputable def viewP : PySem.Program := view rw0.row.prog [1, 2, 3, 6, 7, 8, 9, 10, 11, 12, 13, 14, 15, 16, 17, 18, 19, 20, 21, 22, 23, 24, 25, 26, 27, 29, 30, 32, 33, 34, 36, 37, 38, 39, 40, 41, 42, 43, 44, 45, 46, 47, 48, 49, 50, 51, 52, 53, 54, 57, 58, 59, 60, 61, 62, 63, 64, 65, 66, 67, 68, 69, 70, 71, 72]
noncomputable def looseP : List PySem.Str := ["GateError", "signed", "alu_imm", "branch_imm", "check_program"]
theorem lawS (h : rw0.row.Holds) : rw0.Holds := holds_law (by kernel_rfl) fun _ => h
noncomputable def opn : {f : World → Option Shared // ∀ w, openEnds treeTable rw0.row.prog w 6664 = f w} := ⟨fun w => _, fun w => by
  unfold openEnds fencedOpening topFrom
  rw [PySem.W.Fast.te14082659384304107361, PySem.W.Fast.te10274390034422433532, PySem.W.Fast.te14364793385576792824, PySem.W.Fast.te14289696077712309145]⟩
noncomputable def seen (s : Shared) := openSeen viewP looseP (importedModules rw0.row.prog.main.body) (fun s => xlAt viewP [] s && recOk (RowW.records (OpenRow.toRowW rw0.row)) s) true s
theorem seen1 (w : World) : (opn.1 w).map (fun s => (seen s).1) = some (openGood viewP looseP).1 := by kernel_rfl
theorem seen2 (w : World) : (opn.1 w).map (fun s => (seen s).2) = some (openGood viewP looseP).2 := by kernel_rfl
theorem joinMap {α β γ δ : Type} {o p : Option α} {f : α → β × γ} {g : β × γ} {k : α → δ} {d : δ} (e : p = o) (h1 : o.map (fun s => (f s).1) = some g.1) (h2 : o.map (fun s => (f s).2) = some g.2) (h3 : o.map (fun s => k s) = some d) : p.map (fun s => (f s, k s)) = some (g, d) := by
  subst e
  cases p with
  | none => cases h1
  | some a => exact congrArg some (Prod.ext (Prod.ext (Option.some.inj h1) (Option.some.inj h2)) (Option.some.inj h3))
noncomputable def hd (H : Hook) (hl : ∀ w : World, (opn.1 w).map (fun s => H.obs s) = some (H.val w)) :=
  fun hw hc => holds_open (r := rw0.row) (q := viewP) (loose := looseP) (Xt := fun s => xlAt viewP [] s && recOk (RowW.records (OpenRow.toRowW rw0.row)) s) (XP := XL viewP []) (Yf := H.obs) (Ya := H.val) (YP := H.says) (N := 6664) (fun w => joinMap (opn.2 w) (seen1 w) (seen2 w) (hl w)) H.of H.keeps (fun s e => xl_of s (Bool.and_eq_true_iff.mp e).1) XL.keeps (by rfl) (by rfl) (by rfl) (fun s e => recFacts_of (Bool.and_eq_true_iff.mp e).2) (by rfl) (by kernel_rfl) (by decide +kernel) ⟨rfl, rfl, rfl, rfl, rfl, by decide +kernel⟩ hw hc
end Mine
local macro_rules
  | `(tactic| o_law) => `(tactic| refine Mine.lawS ?_)
  | `(tactic| o_head $H) => `(tactic| apply Mine.hd $H fun _ => by kernel_rfl)
namespace Mine
open_top ho for PySem.Challenge.rw_ok0165_01
end Mine
set_option tactic.hygienic false
set_option genSizeOf false
set_option genInjectivity false
namespace Mine.Internal
open PySem.Calls
open Around renaming under_plainId->c6
open Bool renaming and_eq_true->bI,and_eq_true_iff->aP,false_ne_true->cD,not_eq_true'->ku,or_eq_true->lT,true_and->gN
open Builtin renaming bitAnd->d6
open Builtin.Frozenset renaming newClass->mx,sizeOf->mM
open Builtin.List renaming listExtendWith->iB,listFitsIndex->dQ,listLengthHint->nF,listSameRef->ph
open Builtin.Range renaming rangeSize->gh
open Classical renaming byContradiction->aG
open Code renaming quiet_builtin->jT
open Exists renaming elim->bC
open ForInStep renaming yield->gv
open Function renaming comp_def->jJ
open Int renaming add_zero->lU,eq_ofNat_of_zero_le->fh,fdiv_eq_ediv_of_nonneg->jW,fmod_eq_emod_of_nonneg->ty,le_antisymm->bi,le_of_lt->cZ,le_refl->cJ,lt_iff_le_and_ne->dH,mul_le_mul_of_nonneg_left->rT,mul_nonneg->mN,natCast_nonneg->fA,ofNat_le->eO,sub_nonneg_of_le->dI,toNat_natCast->bw,toNat_of_nonneg->aY,zero_add->lV
open List.cons renaming inj->aV
open Looks renaming of_pure->nC
open Nat renaming add_lt_add_right->mO,beq->iX,ble->cU,eq_of_beq_eq_true->fU,eq_zero_of_le_zero->io,exists_eq_add_of_le->lb,le_add_left->dU,le_add_right->b6,le_antisymm->ao,le_of_ble_eq_true->aq,le_of_eq->jK,le_of_lt->bn,le_of_lt_succ->dR,le_of_not_lt->aW,le_refl->ax,le_succ_of_le->pK,le_trans->a8,lt_irrefl->iY,lt_of_le_of_lt->bU,lt_of_lt_of_le->be,lt_or_ge->gC,lt_succ_of_le->kT,lt_succ_of_lt->kU,lt_succ_self->dC,lt_trans->dG,lt_trichotomy->pL,min_le_left->jp,min_le_right->bP,ne_of_lt->cV,not_lt_of_le->lc,pos_of_ne_zero->oJ,sub_add_cancel->oK,succ_le_succ->lg,succ_pos->jL,zero_le->aH
open Option renaming bind_eq_some_iff->gO,bind_some->kW,isNone_iff_eq_none->sD,isSome_iff_exists->b5,map_eq_some_iff->dg,map_some->lh,none->bc,toList_some->jA
open Option.some renaming inj->aj,injEq->my
open Prod.mk renaming inj->lY
open PyData renaming bool->mh,canLay0->bX,canLayAll0->bf,depth->cu,depthAll->cg,eqv->cj,eqvAll->eM
open PyProof.Rows renaming wpAny_release'->nG
open PyProof.Rows.F renaming entry_set_update_loop->kX,plain_set_update_loop->fF
open PySem renaming Addr->ah,Around->cA,FuncData->iO,Model->q7,Operator->oM,Params->lZ,Program->ei,Result->rd,SetTable->fB,Shared->an,Stmt->jX,World->iC,assign->jq,assignEach->eF,attributeBase->q8,backTo->jr,backToKw->oN,behindInMarks->q9,bootBuiltins->sF,builtinLookup_eq_fast->nH,call_meets->re,cameBackBy->mP,cellsFrom->js,checkBuiltinCall->jt,codeAny->gy,codeAny_builtin->dB,codeAny_call_builtin->gM,codeAny_mono->eW,codeAny_of_tree->ig,comprehension->jB,eval->fu,excClassObj->oO,firstIterPos->mQ,fits_of_scanBound->lG,foldedSetIterable->cY,getMethod->pi,getMethod_builtin->sG,holding->kA,intKind->ca,intKind_is->dJ,keywordEach->jM,letOwnedTupleGo->nD,mainGlobals->dW,mem_of_lookup->c7,methodCallForm->oP,model->bj,opaqueClassAbove->tC,pastItsLine_dict->tD,pickOrder->iD,plainId_quiet->gk,pyIter->tE,pyNext->mR,rawInt->bV,relayAll->oQ,seqIndex?->kY,setNext->pj,setsByText->ju,sizeLine_eq->cr,slicePicked->eX,standAt->fV,starEach->cL,stored->ri,subscripted->oR,swappedStores->fi,swapsWith->eV,sysModules->ip,typeLookup->rj,unsupported->oS,valueAt->pn,wpAny->aM,wpAny_Assign_stores->pM,wpAny_alloc->oU,wpAny_askSetting->cm,wpAny_assignInOrder_more->yo,wpAny_assignInOrder_none->yp,wpAny_bind->aa,wpAny_call->mS,wpAny_callSpecial?_slot->mz,wpAny_call_entry->fC,wpAny_execs_nil->jY,wpAny_field->lH,wpAny_holding->a9,wpAny_isSubtype_exc->km,wpAny_load->ro,wpAny_loadPart->k9,wpAny_loadPart_at->d5,wpAny_lookBehind->tF,wpAny_mono->aK,wpAny_newObj_type->gz,wpAny_of_eq->oV,wpAny_pure->af,wpAny_pyIter_list->sH,wpAny_rule->fW,wpAny_seqItems->oW,wpAny_setEntries_of->pO,wpAny_setField->dv,wpAny_setState_of->dw,wpAny_standAt->b7,wpAny_storeName_local->nJ,wpAny_typeOf->sI
open PySem.Calls renaming Name_function_global->oX
open PySem.F renaming excBase_Exception->rV,plain_extend_loop->rW,plain_set_new->ij,slot_list_append->sJ,slot_list_extend->sK,slot_list_pop->li
open PySem.W renaming Frag->kB,any_some->oY,emptyDict->mA,findIn->fj,hasDictIn->mB,instObj->po,looks_findIn->fX
open SeqAt renaming shaped->eG
open SetTable renaming below->bS,grown->fS,sizeAbove->mL
open SetTable.below renaming go->eY
open SetTable.probe renaming go->lI
open Shared renaming TypeIs->ko
open Value renaming isInt_shape->oZ,none->c0,ref->cp,type->iF
open Value.ref renaming inj->gm
open _root_.Array renaming getElem?_eq_getElem->cC,getElem?_eq_none->hG,getElem?_eq_some_iff->d8,getElem?_toList->dp,length_toList->cx
open _root_.List renaming all_eq_true->bJ,any_cons->kS,any_eq_true->la,any_map->lE,append_assoc->fT,append_nil->bt,concat_eq_append->md,contains_cons->gV,drop_eq_getElem_cons->dq,drop_zero->mK,eq_nil_or_concat->me,eq_of_mem_replicate->uO,eraseIdx_cons_succ->gX,ext_getElem?->eJ,filterMap_cons->gI,filter_append->bu,filter_cons->bO,filter_nil->dk,find?_eq_none->on,find?_some->jm,findIdx?_eq_none_iff->tz,foldl_append->dh,foldl_cons->fE,forIn_cons->lX,getD_eq_getElem?_getD->bH,getElem?_append_left->du,getElem?_append_right->cR,getElem?_drop->oq,getElem?_eq_getElem->ac,getElem?_eq_none->b8,getElem?_eq_some_iff->au,getElem?_map->ar,getElem?_range->bK,getElem?_set->ie,getElem?_toArray->fR,getElem?_zipIdx->eK,getElem?_zip_eq_some->tA,getElem_mem->cS,getElem_of_mem->di,idxOf_append->cW,idxOf_lt_length_of_mem->sC,length->bG,length_append->az,length_cons->aF,length_eq_zero_iff->cP,length_filter_le->bp,length_map->ae,length_nil->cG,length_range->kw,length_singleton->b9,length_take->cT,lookup_cons->aZ,map_append->ai,map_congr_left->cy,map_cons->aB,map_map->bz,map_nil->gw,map_take->iN,mem_append->ak,mem_append_left->aC,mem_append_right->aO,mem_cons->aA,mem_filter->bh,mem_filterMap->jU,mem_iff_getElem?->mf,mem_map->aJ,mem_of_find?_eq_some->eA,mem_of_getElem?->aS,mem_or_eq_of_mem_set->tB,mem_range->bZ,mem_singleton->ag,mem_zipIdx_iff_getElem?->rU,nodup_append->cB,nodup_cons->ba,not_mem_nil->cH,pairwise_append->gj,pairwise_cons->jV,pairwise_iff_getElem->gB,pairwise_lt_range->lF,range->aQ,range_succ->ch,replicate->d9,reverse_append->jo,reverse_cons->ky,size_toArray->eL,sum_append->eD,sum_cons->cn,take_add_one->aT,take_length->cz,take_of_length_le->fw,take_sublist->kz,zipIdx_cons->gx
def aR : Lean.Syntax :=.node .none `Lean.Parser.Tactic.tacticRfl #[.atom .none "rfl"]
def aI : Lean.Syntax :=Lean.Unhygienic.run `(tactic|(intros; rfl))
def aU : Lean.Syntax :=Lean.Unhygienic.run `(tactic|(intros; with_unfolding_all rfl))
def aD : Lean.Syntax :=Lean.Unhygienic.run `(tactic|decide)
def aL : Lean.Syntax :=Lean.Unhygienic.run `(tactic|first |exact dn hk |lia)
def aX : Lean.Syntax :=Lean.Unhygienic.run `(tactic|(intro; exact⟨rfl,rfl⟩))
def aN : Lean.Syntax :=Lean.Unhygienic.run `(tactic|exact nofun)
theorem nS{α:Type}{a:α}{P:Prop}(h:none=some a):P:=nomatch h
theorem nB{P:Prop}(h:false=true):P:=nomatch h
theorem nL{α:Type}{a:α}{l:List α}{P:Prop}(h:[]=a::l):P:=nomatch h
@[elab_as_elim] theorem rA{α:Sort _}{P:α->Prop}{a b:α} (h:a=b) (x:P b):P a:=h▸x
@[elab_as_elim] theorem rB{α:Sort _}{P:α->Prop}{a b:α} (h:b=a) (x:P b):P a:=h▸x
theorem bx{α:Sort _}{A B:α->Prop}{C:Prop}(h:∃x,A x/\B x)(k:∀x,A x->B x->C):C:=bC h fun x xh=>k x xh.1 xh.2
theorem ea{A B C:Prop}(h:A/\B)(k:A->B->C):C:=k h.1 h.2
theorem ex{α:Sort _}{A:α->Prop}{C:Prop}(h:∃x,A x)(k:∀x,A x->C):C:=bC h fun x xh=>k x xh
theorem cX{α:Sort _}{A B D:α->Prop}{C:Prop}(h:∃x,A x/\B x/\D x)(k:∀x,A x->B x->D x->C):C:=bC h fun x xh=>k x xh.1 xh.2.1 xh.2.2
theorem cq{α:Sort _}{β:Sort _}{A B D:α->β->Prop}{C:Prop}(h:∃x y,A x y/\B x y/\D x y)(k:∀x y,A x y->B x y->D x y->C):C:=bC h fun x xh=>bC xh fun y yh=>k x y yh.1 yh.2.1 yh.2.2
theorem jc{A B D C:Prop}(h:A/\B/\D)(k:A->B->D->C):C:=k h.1 h.2.1 h.2.2
theorem iM{α:Sort _}{β:Sort _}{γ:Sort _}{A B:α->β->γ->Prop}{C:Prop}(h:∃x y z,A x y z/\B x y z)(k:∀x y z,A x y z->B x y z->C):C:=bC h fun x xh=>bC xh fun y yh=>bC yh fun z zh=>k x y z zh.1 zh.2
theorem jx{α:Sort _}{β:Sort _}{A B:α->β->Prop}{C:Prop}(h:∃x y,A x y/\B x y)(k:∀x y,A x y->B x y->C):C:=bC h fun x xh=>bC xh fun y yh=>k x y yh.1 yh.2
theorem hY{α:Sort _}{β:Sort _}{γ:Sort _}{A B D:α->β->γ->Prop}{C:Prop}(h:∃x y z,A x y z/\B x y z/\D x y z)(k:∀x y z,A x y z->B x y z->D x y z->C):C:=bC h fun x xh=>bC xh fun y yh=>bC yh fun z zh=>k x y z zh.1 zh.2.1 zh.2.2
theorem hV{α:Sort _}{A B D E F:α->Prop}{C:Prop}(h:∃x,A x/\B x/\D x/\E x/\F x)(k:∀x,A x->B x->D x->E x->F x->C):C:=bC h fun x xh=>k x xh.1 xh.2.1 xh.2.2.1 xh.2.2.2.1 xh.2.2.2.2
theorem eN{α:Sort _}{β:Sort _}{γ:Sort _}{A B D E:α->β->γ->Prop}{C:Prop}(h:∃x y z,A x y z/\B x y z/\D x y z/\E x y z)(k:∀x y z,A x y z->B x y z->D x y z->E x y z->C):C:=bC h fun x xh=>bC xh fun y yh=>bC yh fun z zh=>k x y z zh.1 zh.2.1 zh.2.2.1 zh.2.2.2
theorem m9{α:Sort _}{A B C:Prop}{D E:α->Prop}(h:A/\B/\∃x,D x/\E x)(k:A->B->∀x,D x->E x->C):C:=bC h.2.2 fun x xh=>k h.1 h.2.1 x xh.1 xh.2
theorem kZ{α:Sort _}{A B D E:α->Prop}{C:Prop}(h:∃x,A x/\B x/\D x/\E x)(k:∀x,A x->B x->D x->E x->C):C:=bC h fun x xh=>k x xh.1 xh.2.1 xh.2.2.1 xh.2.2.2
theorem xB{α:Sort _}{A C:Prop}{B D:α->Prop}(h:A/\∃x,B x/\D x)(k:A->∀x,B x->D x->C):C:=bC h.2 fun x xh=>k h.1 x xh.1 xh.2
theorem lw{α:Sort _}{β:Sort _}{γ:Sort _}{A:α->Prop}{B D:α->β->γ->Prop}{C:Prop}(h:∃x,A x/\∃y z,B x y z/\D x y z)(k:∀x,A x->∀y z,B x y z->D x y z->C):C:=bC h fun x xh=>bC xh.2 fun y yh=>bC yh fun z zh=>k x xh.1 y z zh.1 zh.2
theorem t9{A B D E F C:Prop}(h:A/\B/\D/\E/\F)(k:A->B->D->E->F->C):C:=k h.1 h.2.1 h.2.2.1 h.2.2.2.1 h.2.2.2.2
theorem vn{α:Sort _}{β:Sort _}{A:α->β->Prop}{C:Prop}(h:∃x y,A x y)(k:∀x y,A x y->C):C:=bC h fun x xh=>bC xh fun y yh=>k x y yh
theorem Bi{A B D E C:Prop}(h:A/\B/\D/\E)(k:A->B->D->E->C):C:=k h.1 h.2.1 h.2.2.1 h.2.2.2
theorem fG{α:Sort _}{β:Sort _}{γ:Sort _}{A B D E F G H:α->β->γ->Prop}{C:Prop}(h:∃x y z,A x y z/\B x y z/\D x y z/\E x y z/\F x y z/\G x y z/\H x y z)(k:∀x y z,A x y z->B x y z->D x y z->E x y z->F x y z->G x y z->H x y z->C):C:=bC h fun x xh=>bC xh fun y yh=>bC yh fun z zh=>k x y z zh.1 zh.2.1 zh.2.2.1 zh.2.2.2.1 zh.2.2.2.2.1 zh.2.2.2.2.2.1 zh.2.2.2.2.2.2
section
variable {a b c d m n:Nat}
theorem rC(h:a<m)(e:autoParam (cU m n=true) aR):a<n:=be h (aq e)
theorem lC(h:a<b)(h2:b<m)(e:autoParam (cU m n=true) aR):a<n:=be (dG h h2) (aq e)
theorem pG(h:a<=b)(h2:b<m)(e:autoParam (cU m n=true) aR):a<n:=be (bU h h2) (aq e)
theorem Dx(h:a<b)(h2:b<=m)(e:autoParam (cU m n=true) aR):a<n:=be (be h h2) (aq e)
theorem oq5(h:a<=b)(h2:b<=m)(e:autoParam (Nat.blt m n=true) aR):a<n:=bU (a8 h h2) (aq e)
theorem nr(h:a<=m)(e:autoParam (Nat.blt m n=true) aR):a<n:=bU h (aq e)
theorem oq7(h:a=b)(h2:b<m)(e:autoParam (cU m n=true) aR):a<n:=h▸rC h2 e
theorem oq8(h:a<=b+1)(h2:b<m)(e:autoParam (Nat.blt m n=true) aR):a<n:=bU h (bU h2 (aq e))
theorem oq9(h:a<=b)(h2:b<=c)(h3:c<m)(e:autoParam (cU m n=true) aR):a<n:=pG (a8 h h2) h3 e
theorem FB(h:a<b)(h2:b<=c)(h3:c<m)(e:autoParam (cU m n=true) aR):a<n:=lC (be h h2) h3 e
theorem FC(h:a=b)(h2:b<=m)(e:autoParam (Nat.blt m n=true) aR):a<n:=h▸nr h2 e
theorem FD(h:a<=b)(h2:b<c)(h3:c<m)(e:autoParam (cU m n=true) aR):a<n:=lC (bU h h2) h3 e
theorem FE(h:a<=2*b)(h2:b<c)(h3:c<m)(e:autoParam (cU (2*m) n=true) aR):a<n:=by have:=aq e;lia
theorem BB(h:a<b)(h2:b=c):a<c:=h2▸h
theorem mI(h:a<b)(h2:c=b):a<c:=h2▸h
theorem oq24(h:a<=b)(h2:b=c):a<=c:=h2▸h
theorem Dh(h:a=b)(h2:b<=c):a<=c:=h▸h2
theorem oq28(h:a<=b)(h2:b<=a):a=b:=ao h h2
theorem zZ(h:a<b+1)(h2:¬a<b):a=b:=ao (dR h) (aW h2)
theorem ul(h:a<=b+1)(h2:¬a=b+1):a<=b:=dR (Nat.lt_of_le_of_ne h h2)
theorem z0(h:a<=b)(h2:¬a=b):a<b:=Nat.lt_of_le_of_ne h h2
theorem vF(h:a<=b):a<=b+1:=pK h
theorem xR(h:a<b):a<b+1:=kU h
theorem FG(h:m<=a)(e:autoParam (cU n m=true) aR):n<=a:=a8 (aq e) h
theorem um(h:a+b<c):a<c:=bU (b6 _ _) h
theorem iy(h:a+b<=c):a<=c:=a8 (b6 _ _) h
theorem oq43(h:a+b<=c):b<=c:=a8 (dU _ _) h
theorem z8(h:a<=m)(h2:autoParam (cU m n=true) aR):a<=n:=a8 h (aq h2)
theorem vG(h:a=b)(h2:b<m)(e:autoParam (cU m n=true) aR):a<=n:=h▸a8 (bn h2) (aq e)
theorem BC(h:a<m)(e:autoParam (cU m n=true) aR):a<=n:=a8 (bn h) (aq e)
theorem xS(h:a<=b)(h2:b<=m)(e:autoParam (cU m n=true) aR):a<=n:=z8 (a8 h h2) e
theorem FI(h:a<b)(h2:b<a):False:=iY _ (dG h h2)
end
section
variable {a b c:Int}{i j m n:Nat}
theorem vI(h:i<m)(e:autoParam (cU m n=true) aR):(i:Int).natAbs<n:=rC h e
theorem oz2(h:i<j)(h2:j<m)(e:autoParam (cU m n=true) aR):(i:Int).natAbs<n:=lC h h2 e
theorem oz3(h:i<=j)(h2:j<m)(e:autoParam (cU m n=true) aR):(i:Int).natAbs<n:=pG h h2 e
theorem oz4(h:i<=m)(e:autoParam (Nat.blt m n=true) aR):(i:Int).natAbs<n:=nr h e
theorem BG(h:0<=a)(h2:a<(m:Int))(e:autoParam (cU m n=true) aR):a.natAbs<n:=by have:=aq e;lia
theorem oz6(h:0<a)(h2:a<(m:Int))(e:autoParam (cU m n=true) aR):a.natAbs<n:=BG (cZ h) h2 e
theorem wP(h:0<a):a≠0:=Int.ne_of_gt h
theorem Dy(h:0<=a):0<=a+1:=Int.le_add_one h
theorem qz(h:i<j):(i:Int)<(j:Int):=Int.ofNat_lt.mpr h
theorem jy(h:i<=j):(i:Int)<=(j:Int):=eO.mpr h
theorem jz(h:(i:Int)<(j:Int)):i<j:=Int.ofNat_lt.mp h
theorem l9(h:(i:Int)<=(j:Int)):i<=j:=eO.mp h
theorem tm(h:(i:Int)=(j:Int)):i=j:=Int.ofNat.inj h
theorem xU:(0:Int)<=(i:Int):=fA _
theorem Di(h:¬a<b):b<=a:=Int.not_lt.mp h
theorem oz17(h:¬a<=b):b<a:=Int.not_le.mp h
theorem FJ(h:¬i=j):¬(i:Int)=(j:Int):=fun e=>h (Int.ofNat.inj e)
theorem FK(h:a<=b)(h2:b<c):a<c:=Int.lt_of_le_of_lt h h2
theorem oz22(h:a<=b)(h2:b<=c):a<=c:=Int.le_trans h h2
theorem Dj(h:a<=b+1)(h2:b<=c+(i:Int)):a<=c+((i:Int)+1):=by lia
theorem BD(h:a<(m:Int))(e:autoParam (cU m n=true) aR):a<(n:Int):=Int.lt_of_lt_of_le h (eO.mpr (aq e))
theorem oz28(h:a=(i:Int))(h2:i<j):a<(j:Int):=h▸Int.ofNat_lt.mpr h2
theorem BE(h:a.natAbs<2^62):-2^62<=a:=by lia
theorem BF(h:a.natAbs<2^62):a<2^62:=by lia
end
noncomputable def vh(f:Nat->Int):List Int->Int
 |[]=>0
 |x::l=>f 0*x+vh (fun i=>f (i+1)) l
noncomputable def cs(c:List Nat):List Int:=c.map fun(n:Nat)=>(n:Int)
theorem z4{a b c d:Int}:a+b+(c+d)=a+c+(b+d):=by rw[Int.add_assoc,Int.add_assoc,Int.add_left_comm b]
theorem z5{a b c d:Int}:a+b-(c+d)=a-c+(b-d):=by rw[Int.sub_eq_add_neg,Int.neg_add,z4];rfl
section
variable {a b c d x y z A:Int}{f g:Nat->Int}{l:List Int}{P:Prop}{i:Nat}
theorem z6(h:a=b)(k:c=d):a+c=b+d:=congr (congrArg HAdd.hAdd h) k
theorem z7(h:a=b)(k:c=d):a-c=b-d:=congr (congrArg HSub.hSub h) k
theorem sV:∀{l:List Int}{f g:Nat->Int},vh (fun i=>f i+g i) l=vh f l+vh g l
 |[],_,_=>rfl
 |_::_,_,_=>(z6 (Int.add_mul _ _ _) sV).trans z4
theorem sY:∀{l:List Int}{f g:Nat->Int},vh (fun i=>f i-g i) l=vh f l-vh g l
 |[],_,_=>rfl
 |_::_,_,_=>(z6 (Int.sub_mul _ _ _) sY).trans z5.symm
theorem sW{j:Int}:∀{l:List Int}{f:Nat->Int},vh (fun i=>j*f i) l=j*vh f l
 |[],_=>(Int.mul_zero _).symm
 |_::_,_=>(z6 (Int.mul_assoc _ _ _) sW).trans (Int.mul_add _ _ _).symm
theorem ke:∀{l:List Int},vh (fun zz=>0) l=0
 |[]=>rfl
 |_::_=>z6 (Int.zero_mul _) ke
theorem sX:∀{l:List Int}{j:Nat},vh (fun i=>cond (iX j i) 1 0) l=l.getD j 0
 |[],_=>rfl
 |x::l,0=>(z6 (Int.one_mul x) ke).trans (lU _)
 |x::l,j+1=>(z6 (Int.zero_mul x) (sX (j:=j))).trans (lV _)
theorem zw:∀{c:List Nat}{i:Nat},(cs c).getD i 0=(c.getD i 0:Nat)
 |[],_=>rfl
 |_::_,0=>rfl
 |_::l,i+1=>zw (c:=l) (i:=i)
structure ZL where
 V:List Nat->List Int->Int
 K:Int
 F:Nat->Int
 E:Nat->Int
 ok:∀c e,V c e=K+(vh F (cs c)+vh E e)
structure NL where
 V:List Nat->Nat
 Z:ZL
 ok:∀c e,((V c:Nat):Int)=Z.V c e
theorem FV(h:a=x+(y+z))(k:b=c+(d+A)):a+b=x+c+(y+d+(z+A)):=(z6 h k).trans (z4.trans (congrArg _ z4))
noncomputable def Pz(x y:ZL):ZL:=⟨fun c e=>x.V c e+y.V c e,x.K+y.K,fun i=>x.F i+y.F i,fun i=>x.E i+y.E i,fun c e=>(FV (x.ok c e) (y.ok c e)).trans (congrArg _ (z6 sV.symm sV.symm))⟩
theorem FU(h:a=x+(y+z))(k:b=c+(d+A)):a-b=x-c+(y-d+(z-A)):=(z7 h k).trans (z5.trans (congrArg _ z5))
noncomputable def Mz(x y:ZL):ZL:=⟨fun c e=>x.V c e-y.V c e,x.K-y.K,fun i=>x.F i-y.F i,fun i=>x.E i-y.E i,fun c e=>(FU (x.ok c e) (y.ok c e)).trans (congrArg _ (z6 sY.symm sY.symm))⟩
noncomputable def Tz(k:Nat)(x:ZL):ZL:=⟨fun c e=>(k:Int)*x.V c e,k*x.K,fun i=>k*x.F i,fun i=>k*x.E i,fun c e=>(congrArg _ (x.ok c e)).trans ((Int.mul_add _ _ _).trans (congrArg _ ((Int.mul_add _ _ _).trans (z6 sW.symm sW.symm))))⟩
noncomputable def Kz(k:Nat):ZL:=⟨fun zz zz=>(k:Int),k,fun zz=>0,fun zz=>0,fun c e=>((congrArg _ (z6 ke ke)).trans (lU _)).symm⟩
noncomputable def Xz(i:Nat):ZL:=⟨fun zz e=>e.getD i 0,0,fun zz=>0,fun j=>cond (iX i j) 1 0,fun c e=>((lV _).trans ((z6 ke sX).trans (lV _))).symm⟩
noncomputable def Cz(x:NL):ZL:=⟨fun c zz=>(x.V c:Int),x.Z.K,x.Z.F,x.Z.E,fun c e=>(x.ok c e).trans (x.Z.ok c e)⟩
noncomputable def Pn(x y:NL):NL:=⟨fun c=>x.V c+y.V c,Pz x.Z y.Z,fun c e=>z6 (x.ok c e) (y.ok c e)⟩
noncomputable def Tn(k:Nat)(x:NL):NL:=⟨fun c=>k*x.V c,Tz k x.Z,fun c e=>(Int.natCast_mul _ _).trans (congrArg _ (x.ok c e))⟩
noncomputable def Kn(k:Nat):NL:=⟨fun zz=>k,Kz k,fun zz zz=>rfl⟩
noncomputable def Xn(i:Nat):NL:=⟨fun c=>c.getD i 0,⟨fun c zz=>(c.getD i 0:Nat),0,fun j=>cond (iX i j) 1 0,fun zz=>0,fun c e=>((lV _).trans ((z6 (sX.trans zw) ke).trans (lU _))).symm⟩,fun zz zz=>rfl⟩
noncomputable def N0:=Xn 0
noncomputable def N1:=Xn 1
noncomputable def N2:=Xn 2
noncomputable def N3:=Xn 3
noncomputable def M0:=Pn N0 (Kn 1)
noncomputable def M1:=Pn N1 (Kn 1)
noncomputable def M2:=Pn N2 (Kn 1)
noncomputable def Z0:=Xz 0
noncomputable def Z1:=Xz 1
noncomputable def C0:=Cz N0
noncomputable def C1:=Cz N1
noncomputable def C2:=Cz N2
structure Ct where
 S:List Nat->List Int->Prop
 w:ZL
 ok:∀c e A,0<=A->(0<=A+w.V c e->False)->S c e
noncomputable def Rr(P:List Nat->List Int->Prop)(v:ZL)(ok:∀c e,P c e->0<=v.V c e)(t:Ct):Ct:=⟨fun c e=>P c e->t.S c e,Pz v t.w,fun c e A h f z=>t.ok c e (A+v.V c e) (Int.add_nonneg h (ok c e z)) fun q=>f (Int.add_assoc ..▸q)⟩
theorem dE(h:¬a<=b):0<=a-(b+1):=dI (Int.add_one_le_of_lt (Int.not_le.mp h))
theorem gW(h:0<=A)(k:0<=A+(a-(b+1))->False):a<=b:=aG fun z=>k (Int.add_nonneg h (dE z))
noncomputable def Ra(x y:NL):=Rr (fun c e=>x.V c<=y.V c) (Mz (Cz y) (Cz x)) fun c e z=>dI (eO.mpr z)
noncomputable def Rb(x y:NL):=Rr (fun c e=>x.V c=y.V c) (Mz (Cz y) (Cz x)) fun c e z=>dI (eO.mpr (jK z))
noncomputable def Rc(x y:NL):=Rr (fun c e=>x.V c=y.V c) (Mz (Cz x) (Cz y)) fun c e z=>dI (eO.mpr (jK z.symm))
noncomputable def Rd(x y:NL):=Rr (fun c e=>¬x.V c<=y.V c) (Mz (Cz x) (Pz (Cz y) (Kz 1))) fun c e z=>dE fun q=>z (eO.mp q)
noncomputable def Sa(x y:ZL):=Rr (fun c e=>x.V c e<=y.V c e) (Mz y x) fun c e z=>dI z
noncomputable def Sb(x y:ZL):=Rr (fun c e=>x.V c e=y.V c e) (Mz y x) fun c e z=>dI (Int.le_of_eq z)
noncomputable def Sd(x y:ZL):=Rr (fun c e=>x.V c e=y.V c e) (Mz x y) fun c e z=>dI (Int.le_of_eq z.symm)
noncomputable def Se(x y:ZL):=Rr (fun c e=>¬x.V c e<=y.V c e) (Mz x (Pz y (Kz 1))) fun c e z=>dE z
noncomputable def Fa:Ct:=⟨fun zz zz=>False,Kz 0,fun c e A h k=>k ((lU A).symm▸h)⟩
noncomputable def Gn(x y:NL):Ct:=⟨fun c e=>x.V c<=y.V c,Mz (Cz x) (Pz (Cz y) (Kz 1)),fun c e A h k=>eO.mp (gW h k)⟩
noncomputable def Gz(x y:ZL):Ct:=⟨fun c e=>x.V c e<=y.V c e,Mz x (Pz y (Kz 1)),fun c e A h k=>gW h k⟩
noncomputable def Bg(t:ZL)(m n:Nat):Bool:=decide (t.K<0)&&((aQ m).all (fun j=>decide (t.F j<=0))&&(aQ n).all fun j=>decide (t.E j=0))
theorem zA:∀{c:List Nat}{f:Nat->Int},(∀i,i<c.length->f i<=0)->vh f (cs c)<=0
 |[],_,_=>cJ _
 |_::_,_,h=>Int.add_le_add (Int.mul_nonpos_of_nonpos_of_nonneg (h 0 (jL _)) (fA _)) (zA fun i hi=>h (i+1) (Nat.succ_lt_succ hi))
theorem wq:∀{e:List Int}{f:Nat->Int},(∀i,i<e.length->f i=0)->vh f e=0
 |[],_,_=>rfl
 |x::_,_,h=>(z6 ((congrArg (·*x) (h 0 (jL _))).trans (Int.zero_mul x)) (wq fun i hi=>h (i+1) (Nat.succ_lt_succ hi))).trans (lU _)
theorem za{n:Nat}{p:Nat->Prop} [∀i,Decidable (p i)](h:(aQ n).all (fun j=>decide (p j))=true)(i:Nat)(hi:i<n):p i:=of_decide_eq_true (bJ.mp h i (bZ.mpr hi))
theorem Lz(c:List Nat)(e:List Int)(t:Ct)(h:Bg t.w c.length e.length=true):t.S c e :=
 t.ok c e 0 (cJ _) fun q=>(aP.mp h).elim fun h1 h=>(aP.mp h).elim fun h2 h3=>
  absurd ((((lV _).trans (t.w.ok c e))▸q:(0:Int)<=_)) (Int.not_le.mpr (Int.add_lt_add_of_lt_of_le (of_decide_eq_true h1) (Int.add_le_add (zA (za h2)) (Int.le_of_eq (wq (za h3))))))
theorem L1{a0:Nat}(t:Ct)(h:Bg t.w 1 0=true):t.S [a0] []:=Lz [a0] [] t h
theorem L2{a0 a1:Nat}(t:Ct)(h:Bg t.w 2 0=true):t.S [a0,a1] []:=Lz [a0,a1] [] t h
theorem L3{a0 a1 a2:Nat}(t:Ct)(h:Bg t.w 3 0=true):t.S [a0,a1,a2] []:=Lz [a0,a1,a2] [] t h
theorem L4{a0 a1 a2 a3:Nat}(t:Ct)(h:Bg t.w 4 0=true):t.S [a0,a1,a2,a3] []:=Lz [a0,a1,a2,a3] [] t h
theorem L5{a0 a1 a2 a3 a4:Nat}(t:Ct)(h:Bg t.w 5 0=true):t.S [a0,a1,a2,a3,a4] []:=Lz [a0,a1,a2,a3,a4] [] t h
theorem L6{a0 a1 a2 a3 a4 a5:Nat}(t:Ct)(h:Bg t.w 6 0=true):t.S [a0,a1,a2,a3,a4,a5] []:=Lz [a0,a1,a2,a3,a4,a5] [] t h
theorem L7{a0 a1 a2 a3 a4 a5 a6:Nat}(t:Ct)(h:Bg t.w 7 0=true):t.S [a0,a1,a2,a3,a4,a5,a6] []:=Lz [a0,a1,a2,a3,a4,a5,a6] [] t h
theorem L8{a0 a1 a2 a3 a4 a5 a6 a7:Nat}(t:Ct)(h:Bg t.w 8 0=true):t.S [a0,a1,a2,a3,a4,a5,a6,a7] []:=Lz [a0,a1,a2,a3,a4,a5,a6,a7] [] t h
theorem jF{a b:Nat}:a<=a-b+b:=(Nat.add_comm b (a-b)▸Nat.sub_le_iff_le_add'.mp (ax _))
theorem iE{a b:Nat}(h:b<=a):a-b+b=a:=oK h
theorem wJ{a:Int}:a<=(a.toNat:Int):=Int.self_le_toNat a
theorem AK{n:Nat}(h:0<=x)(h2:x<(n:Int)):x.natAbs<n:=Int.ofNat_lt.mp ((Int.natAbs_of_nonneg h).symm▸h2)
end
theorem bL(h:Heap):h.get? h.objs.size=none:=by
 cases q:h.get? h.objs.size with
 |none=>rfl
 |some o=>exact absurd (Heap.lt_size q) (iY _)
noncomputable def kg(e:Int×Value):Int:=match e.2 with
 |.int k _=>k
 |_=>0
noncomputable def gp(prog:ei)(w:iC)(h:Heap)(a:ah)(xs:List Int):Prop :=
 ∃es ep t,h.get? a=some {cls:=.type "set",dict:=none,data:=.set es ep t,slots:=#[]}/\ElemsOf (ca prog w) es.toList/\(es.toList.map kg).Perm xs/\es.size<scanBound/\t.fits es.size=true /\
  (w.params.followText "set-order"=true∨t.led=true)/\t.place.toList.Pairwise (·<·)
noncomputable abbrev gE(xs:Array Nat):Prop:=xs.toList.Pairwise (·<·)
theorem gE.get{xs:Array Nat}(h:gE xs){i k:Nat}(hik:i<k)(hk:k<xs.size):xs.getD i 0<xs.getD k 0:=by
 have:=gB.mp h i k (by simp;exact dG hik hk) (by simpa using hk) hik;simp only[Array.getElem_toList]at this;simpa [Array.getD,hk,(by exact dG hik hk:i<xs.size)]using this
set_option tactic.hygienic true in
theorem zj{xs:Array Nat}(h:gE xs)(j:Nat):∀(fuel lo hi:Nat),hi-lo<=fuel->lo<=hi->hi<=xs.size->(∀i,i<lo->xs.getD i 0<j)->(∀i,hi<=i->i<xs.size->j<=xs.getD i 0) ->
  (eY xs j fuel lo hi<=xs.size/\(∀i,i<eY xs j fuel lo hi->xs.getD i 0<j)/\∀i,eY xs j fuel lo hi<=i->i<xs.size->j<=xs.getD i 0):=by
 intro fuel
 induction fuel with
 |zero=>
  intro lo hi hf hl hs h1 h2;have:lo=hi:=by exact ao (L2 (Ra N0 N1 (Gn N0 N1)) rfl hl) (L3 (Ra N0 (Kn 0) (Ra N1 (Pn N0 N2) (Gn N1 N2))) rfl hf jF)
  subst this;exact⟨hs,h1,h2⟩
 |succ fuel ih=>
  intro lo hi hf hl hs h1 h2;refine rA (show eY xs j (fuel+1) lo hi=if lo<hi then(if xs.getD ((lo+hi) / 2) j<j then eY xs j fuel ((lo+hi) / 2+1) hi else eY xs j fuel lo ((lo+hi) / 2))else lo from rfl) ?_
  by_cases hlt:lo<hi
  ·refine rA (if_pos hlt) ?_;have hm1:lo<=(lo+hi) / 2:=(Nat.le_div_iff_mul_le (by decide)).mpr (by rw[Nat.mul_two];exact Nat.add_le_add_left hl _);have hm2:(lo+hi) / 2<hi:=Nat.div_lt_of_lt_mul (by rw[Nat.two_mul];exact mO hlt _);generalize (lo+hi) / 2=mid at hm1 hm2;have hmd:xs.getD mid j=xs.getD mid 0:=by simp[Array.getD,(by exact be hm2 hs:mid<xs.size)]
   refine rA hmd ?_;split
   ·rename_i hc;refine ih (mid+1) hi (Nat.sub_le_of_le_add (a8 (Nat.le_add_of_sub_le hf) (by rw[Nat.add_assoc,Nat.add_comm 1];exact Nat.add_le_add_left (lg hm1) _))) (by exact l9 (jy hm2)) hs (fun i hi'=>?_) h2;rcases gC i mid with q|q
    ·exact dG (h.get q (by exact be hm2 hs)) hc
    ·have:i=mid:=by exact ao (dR hi') q
     subst this;exact hc
   ·rename_i hc;refine ih lo mid (Nat.sub_le_of_le_add (dR (be hm2 (a8 (Nat.le_add_of_sub_le hf) (jK (Nat.add_right_comm _ _ _)))))) hm1 (by exact a8 (bn hm2) hs) h1 fun i hi' hs'=>?_;rcases gC mid i with q|q
    ·have:=h.get q hs';exact a8 (aW hc) (bn this)
    ·have:i=mid:=by exact ao q hi'
     subst this;exact aW hc
  ·refine rA (if_neg hlt) ?_;have:lo=hi:=by exact ao hl (aW hlt)
   subst this;exact⟨hs,h1,h2⟩
theorem tQ{xs:Array Nat}(h:gE xs)(j:Nat):bS xs j<=xs.size/\(∀i,i<bS xs j->xs.getD i 0<j)/\∀i,bS xs j<=i->i<xs.size->j<=xs.getD i 0 :=
 zj h j xs.size 0 xs.size (by exact ax _) (by exact aH _) (ax _) (fun i hi=>absurd hi (Nat.not_lt_zero _)) fun i h1 h2=>absurd h2 (by exact fun z'=>L2 (Ra N0 N1 (Ra M1 N0 Fa)) rfl h1 h2)
theorem tP{xs:Array Nat}(h:gE xs){i:Nat}(hi:i<=xs.size){j:Nat}(h1:∀k,k<i->xs.getD k 0<j)(h2:∀k,i<=k->k<xs.size->j<=xs.getD k 0):bS xs j=i:=by
 refine jc (tQ h j) fun a b c=>?_;rcases pL (bS xs j) i with q|q|q
 ·exact absurd (h1 _ q) (lc (c _ (ax _) (be q hi)))
 ·exact q
 ·exact absurd (b _ q) (lc (h2 i (ax _) (be q a)))
set_option tactic.hygienic true in
theorem o7{xs:Array Nat}(h:gE xs){j:Nat}(hn:(xs[bS xs j]?==some j)=false):gE (SetTable.insertAt xs (bS xs j) j):=by
 refine jc (tQ h j) fun a b c=>?_;show List.Pairwise _ _;rw[SetTable.toList_insertAt];have hlen:xs.toList.length=xs.size:=by simp
 have gt:∀i,bS xs j<=i->i<xs.size->j<xs.getD i 0:=fun i h1 h2=>by
  have:=c i h1 h2;rcases gC j (xs.getD i 0)with q|q
  ·exact q
  ·exfalso;have e:xs.getD i 0=j:=by exact ao q this
   rcases gC (bS xs j) i with q2|q2
   ·have:=h.get q2 h2;have:=c _ (ax _) (by exact dG q2 h2);(rename_i FW FY;exact L3 (Ra N0 N1 (Ra M2 N0 (Ra N1 N2 Fa))) rfl q FY this)
   ·have:i=bS xs j:=by exact ao q2 h1
    subst this;rw[cC h2]at hn;simp[Array.getD,h2]at e;rw[e]at hn;simp at hn
 have at':∀{x:Nat}{i:Nat},xs.toList[i]?=some x->i<xs.size/\xs.getD i 0=x:=fun{x i} e=>by
  rw[dp]at e;refine ex (d8.mp e) fun hi e=>?_;exact⟨hi,by simp[Array.getD,hi,e]⟩
 rw[gj];refine⟨h.sublist (kz _ _),?_,?_⟩
 ·rw[jV];refine⟨fun x hx=>?_,h.sublist (List.drop_sublist _ _)⟩;refine ex (mf.mp hx) fun i e=>?_;rw[oq]at e;refine ea (at' e) fun h1 h2=>?_;refine rB h2 ?_;exact gt _ (by exact b6 _ _) h1
 ·intro x hx y hy;refine ex (mf.mp hx) fun i e=>?_;rw[List.getElem?_take]at e;split at e
  ·rename_i hi;refine ea (at' e) fun h1 h2=>?_;have hx':x<j:=by refine rB h2 ?_;exact b i hi
   rcases aA.mp hy with rfl|hy
   ·exact hx'
   ·refine ex (mf.mp hy) fun k e=>?_;rw[oq]at e;refine ea (at' e) fun h3 h4=>?_;have:j<y:=by refine rB h4 ?_;exact gt _ (by exact b6 _ _) h3
    exact dG hx' this
  ·exact nS e
theorem Ad{t:fB}{hashAt:Nat->Int}{h:Int}:∀(fuel:Nat) (p:SetTable.Probe) {j:Nat}{d:Option Nat},(∀x,p.dummy=some x->t.slot x=.dummy)->lI t hashAt h fuel p=some (.empty j d)->t.slot j=.empty/\∀x,d=some x->t.slot x=.dummy:=by
 intro fuel
 induction fuel with
 |zero=>intro p j d _ e;exact nS e
 |succ fuel ih=>
  intro p j d hp e;have adv:∀q:SetTable.Probe,(t.advance q).dummy=q.dummy:=fun q=>by
   unfold SetTable.advance;split <;> rfl
  revert e;show(match t.slot p.j with
   |.empty=>some (SetTable.Met.empty p.j p.dummy)
   |.dummy=>lI t hashAt h fuel (t.advance {p with dummy:=some p.j})
   |.live i=>if hashAt i==h then some (SetTable.Met.candidate p.j i (t.advance p))else lI t hashAt h fuel (t.advance p))=_->_
  cases hs:t.slot p.j with
  |empty=>intro e;cases e;exact⟨hs,hp⟩
  |dummy=>
   refine ih _ (fun x hx=>?_);rw[adv]at hx;obtain rfl:=aj hx;exact hs
  |live i=>
   show((if _ then _ else _)=_)->_
   by_cases q:(hashAt i==h)=true
   ·intro e;rw[if_pos q]at e;cases e
   ·intro e;rw[if_neg q]at e;refine ih _ (fun x hx=>?_) e;rw[adv]at hx;exact hp x hx
theorem mr{t:fB}{j:Nat}(h:∀i,t.slot j≠.live i):(t.place[bS t.place j]?==some j)=false:=by
 cases q:(t.place[bS t.place j]?==some j)with
 |false=>rfl
 |true=>
  refine absurd ?_ (h (bS t.place j));unfold SetTable.slot;exact rA (if_pos q) rfl
set_option tactic.hygienic true in
theorem uc{t:fB}{h:Int}{j:Nat}{b:Bool}(e:t.freeSlot h=some (j,b)):(t.place[bS t.place j]?==some j)=false:=by
 unfold SetTable.freeSlot at e;split at e
 ·rename_i k d hp;cases e;unfold SetTable.probe at hp;refine ea (Ad _ _ (fun x hx=>by unfold SetTable.probeStart at hx;exact nS hx) hp) fun h1 h2=>?_;cases d with
  |none=>exact mr fun i q=>by simp only[Option.getD_none]at q;rw[h1]at q;cases q
  |some x=>exact mr fun i q=>by simp only[Option.getD_some]at q;rw[h2 x rfl]at q;cases q
 ·exact nS e
theorem to(n:Nat):gE (Array.range n):=by
 show List.Pairwise _ _;refine rA Array.toList_range ?_;exact lF
theorem kR(t:fB)(n:Nat):gE (t.standIn n).place/\(t.standIn n).led=t.led:=⟨to n,rfl⟩
set_option tactic.hygienic true in
theorem xI{t:fB}{es:Array (Int×Value)}{h:Int}{x:Value}(hr:gE t.place):gE (layNew t es h x).2.1.place/\(layNew t es h x).2.1.led=t.led:=by
 unfold layNew;split
 ·rename_i slot wd hs;dsimp only;unfold SetTable.orStandIn;split
  ·exact⟨o7 hr (uc hs),rfl⟩
  ·exact kR _ _
 ·exact kR _ _
set_option tactic.hygienic true in
theorem ur{t:fB}{es:Array (Int×Value)}{n:Nat}:gE (oQ t es n).2.1.place/\(oQ t es n).2.1.led=t.led:=by
 unfold oQ;split
 ·rename_i t' order hl;dsimp only;split
  ·unfold SetTable.relaid SetTable.laid at hl;cases q:SetTable.layClean (mL n-1) (es.map (·.1))with
   |none=>rw[q]at hl;exact nS hl
   |some owner=>
    rw[q]at hl;simp only[Option.pure_def,Option.bind_eq_bind,kW,my,Prod.mk.injEq]at hl;refine ea hl fun FW zz=>?_;clear hl;subst FW;refine⟨?_,rfl⟩;show List.Pairwise _ _;dsimp only;refine rA List.map_filterMap ?_;have:(List.filterMap (fun j=>Option.map (fun x=>x.1) (Option.map (fun x=>(j,x)) (owner.getD j none))) (aQ (mL n-1+1))).Sublist (aQ (mL n-1+1)):=by
     have:∀l:List Nat,(List.filterMap (fun j=>Option.map (fun x=>x.1) (Option.map (fun x=>(j,x)) (owner.getD j none))) l).Sublist l:=by
      intro l
      induction l with
      |nil=>exact .slnil
      |cons a l ih=>
       refine rA gI ?_;cases owner.getD a none with
       |none=>exact .cons _ ih
       |some y=>exact .cons_cons _ ih
     exact this _
    exact List.Pairwise.sublist this lF
  ·exact kR _ _
 ·exact kR _ _
noncomputable def cO(xs:List Int)(k:Int):List Int:=if k∈xs then xs else xs++[k]
section
variable {prog:ei}{w:iC}{A:cA}{E:Value->an->Prop}{s:an}{a:ah}{xs:List Int}
theorem zK{e:Int×Value}(h:∃k,(ca prog w).is k e.2=true/\e.1=(ca prog w).hash k):∃t,e.2=.int (kg e) t:=by
 refine bx h fun k hk zz=>?_;refine ex (oZ hk) fun t e2=>?_;exact⟨t,by unfold kg;exact rA e2 rfl⟩
theorem zJ{e:Int×Value}(h:∃k,(ca prog w).is k e.2=true/\e.1=(ca prog w).hash k)(k:Int):(ca prog w).is k e.2=true↔k=kg e:=by
 refine ex (zK h) fun t e2=>?_;refine rA e2 ?_;constructor
 ·intro q;have q:Value.isInt k (.int (kg e) t)=true:=q;refine ex (oZ q) fun t' q=>?_;cases q;rfl
 ·rintro rfl;exact dJ _ _ _ _
theorem uf{es:List (Int×Value)}(hel:ElemsOf (ca prog w) es)(k:Int):k∈es.map kg↔∃e∈es,(ca prog w).is k e.2=true:=by
 rw[aJ];exact⟨fun z'=>by refine bx z' fun e he q=>?_;exact⟨e,he,(zJ (hel e he).1 k).mpr q.symm⟩,fun z'=>by refine bx z' fun e he q=>?_;exact⟨e,he,((zJ (hel e he).1 k).mp q).symm⟩⟩
theorem gp.setOf{h:Heap}(x:gp prog w h a xs):h.SetOf (ca prog w) a (fun k=>decide (k∈xs)) xs.length:=by
 refine eN x fun es ep t ho hel hp FW=>?_;refine jc FW fun hb hf zz=>?_;refine⟨_,es,ep,t,ho,⟨rfl,rfl,rfl⟩,rfl,hel,fun k=>?_,hb,hf,?_⟩
 ·rw[decide_eq_true_eq,←hp.mem_iff];exact uf hel k
 ·have:=hp.length_eq;simpa using this
theorem gp.fresh(h:Heap){led:Bool}(hl:w.params.followText "set-order"=true∨led=true):gp prog w (h.push {cls:=.type "set",dict:=none,data:=.set #[] 0 (.fresh 0 0 led)}) h.objs.size [] :=
 ⟨#[],0,_,Heap.get?_push_size _ rfl,fun e he=>by simp at he,.refl _,by decide,by rfl,hl,.nil⟩
theorem qY{Q:Value->an->Prop}(h:∀led:Bool,gp prog w (s.heap.push {cls:=.type "set",dict:=none,data:=.set #[] 0 (.fresh 0 0 led)}) s.heap.objs.size []->Q (.ref s.heap.objs.size) {s with heap:=s.heap.push {cls:=.type "set",dict:=none,data:=.set #[] 0 (.fresh 0 0 led)} }) :
  aM (bj prog w) A (newSet (.type "set")) Q E s:=by
 unfold newSet ju;refine aa (aa (cm (af ?_)));dsimp only;simp only[newObj];refine aa (oU (af (h _ (gp.fresh _ ?_))));show w.params.followText "set-order"=true∨(!w.params.followText "set-order")=true;cases w.params.followText "set-order" <;> simp
theorem pW{h:Heap}{es es':Array (Int×Value)}{ep:Nat}{t t':fB}{ys:List Int}(ho:h.get? a=some {cls:=.type "set",dict:=none,data:=.set es ep t,slots:=#[]})(hel:ElemsOf (ca prog w) es'.toList)(hp:(es'.toList.map kg).Perm ys)(hb:es'.size<scanBound)(hf:t'.fits es'.size=true)
  (hl:w.params.followText "set-order"=true∨t'.led=true) (hr:gE t'.place) :
  (h.update a (Obj.putSet es' t')).get? a=some {cls:=.type "set",dict:=none,data:=.set es' (ep+1) t',slots:=#[]}/\gp prog w (h.update a (Obj.putSet es' t')) a ys:=by
 have hg:(h.update a (Obj.putSet es' t')).get? a=some {cls:=.type "set",dict:=none,data:=.set es' (ep+1) t',slots:=#[]}:=by
  have:=Heap.get?_update_self (Obj.putSet es' t') ho (by refine rA (putSet_of es' t' rfl) ?_;rfl);rw[putSet_of es' t' rfl]at this;exact this
 exact⟨hg,es',ep+1,t',hg,hel,hp,hb,hf,hl,hr⟩
theorem wi{g:Bool->Sem Unit}(hg:∀(b:Bool) (s₁:an) (Q':Unit->an->Prop),Q' () s₁->aM (bj prog w) A (g b) Q' E s₁)
  {es:Array (Int×Value)}{ep:Nat}{t:fB} (ho:s.heap.get? a=some {cls:=.type "set",dict:=none,data:=.set es ep t,slots:=#[]})
  {es1:Array (Int×Value)}{t2:fB}{ys:List Int} (hel1:ElemsOf (ca prog w) es1.toList) (hp1:(es1.toList.map kg).Perm ys)
  (hb1:es1.size<scanBound) (hf2:t2.fits es1.size=true) (hl:w.params.followText "set-order"=true∨t2.led=true) (hr:gE t2.place) {wasDummy:Bool}{R:Option Bool->an->Prop}
  (h:∀h',Heap.SameBut a s.heap h'->gp prog w h' a ys->R (some true) {s with heap:=h'}) :
  aM (bj prog w) A (do
    storeSet a es1 t2
    if(!wasDummy&&t2.tooFull)=true then do
      g (oQ t2 es1 (fS es1.size)).2.2
      storeSet a (oQ t2 es1 (fS es1.size)).1 (oQ t2 es1 (fS es1.size)).2.1
      pure (some true)
     else pure (some true)) R E s:=by
 refine aa (wpAny_storeSet_of ho rfl ?_ (lG hb1));refine ea (pW ho hel1 hp1 hb1 hf2 hl hr) fun ho1 hS1=>?_;have hsb1:=Heap.SameBut.update s.heap a (Obj.putSet es1 t2);split
 ·have hp:=relayAll_perm t2 es1 (fS es1.size);have hfr:=relayAll_fits t2 es1 (fS es1.size);refine ea (ur (t:=t2) (es:=es1) (n:=fS es1.size)) fun hr3 hl3=>?_;generalize hRl:oQ t2 es1 (fS es1.size)=Rl at hp hfr hr3 hl3 ⊢;obtain⟨es2,t3,gave2⟩:=Rl;dsimp only at hp hfr hr3 hl3 ⊢;have hsz:es2.size=es1.size:=by exact rB cx (rA hp.length_eq (rA cx rfl))
  have hb2:es2.size<scanBound:=by refine rA hsz ?_;exact hb1
  refine aa (hg _ _ _ ?_);refine aa (wpAny_storeSet_of ho1 rfl ?_ (lG hb2));refine ea (pW (prog:=prog) (w:=w) (ys:=ys) ho1 (hel1.perm hp) ((hp.map kg).trans hp1) hb2 hfr (by refine rA hl3 ?_;exact hl) hr3) fun zz hS2=>?_;exact af (h _ (hsb1.trans (Heap.SameBut.update _ a _)) hS2)
 ·exact af (h _ hsb1 hS1)
theorem jl{k:Int}{tk:Tok}{Q:Bool->an->Prop}(hS:gp prog w s.heap a xs)(hroom:xs.length+1<scanBound)
  (h:∀h',Heap.SameBut a s.heap h'->gp prog w h' a (cO xs k)->Q (!decide (k∈xs)) {s with heap:=h'}) :
  aM (bj prog w) A (setAddHashed a (.int k tk) ((ca prog w).hash k)) Q E s:=by
 refine fG (id hS) fun es ep t ho hel hp hb hf hl hr=>?_;have hkey:=dJ prog w k tk;have hsc:(Value.int k tk).scannable=true:=rfl;have hn:es.size=xs.length:=by have:=hp.length_eq;simpa using this
 have hmem:∀k',k'∈xs↔∃e∈es.toList,(ca prog w).is k' e.2=true:=fun k'=>hp.mem_iff.symm.trans (uf hel k');unfold setAddHashed setAddHashedIn;refine a9 (aa (dw ho rfl hf ?_));dsimp only;refine rA (byScan_of hsc hb hel) ?_;simp only[↓reduceIte];unfold setAddByScan;refine aa ?_;refine aa (fW ?_);refine aa (wpAny_setScan_of hkey ho rfl hf hel ?_);cases hq:List.findIdx? (fun e=>(ca prog w).is k e.2) es.toList with
 |some j=>
  dsimp only;refine bx (List.findIdx?_eq_some_iff_getElem.mp hq) fun hj hpj zz=>?_;have hk:k∈xs:=(hmem k).mpr ⟨es.toList[j],cS hj,hpj⟩;refine af (af ?_);have:=h s.heap (Heap.SameBut.refl a s.heap) (by unfold cO;refine rA (if_pos hk) ?_;exact hS);rw[decide_eq_true hk]at this;exact this
 |none=>
  dsimp only;have hk:k∉xs:=fun hk=>by
   refine bx ((hmem k).mp hk) fun e he hp=>?_;have:=tz.mp hq e he;rw[hp]at this;exact Bool.noConfusion this
  have hgw:∀(b:Bool) {s₁:an}{Q':Unit->an->Prop},Q' () s₁->aM (bj prog w) A (match b with|true=>rule "set.scan.the-table-gave-way"|false=>pure ()) Q' E s₁ :=
   fun b s₁ Q' hq=>by cases b <;> first|exact af hq|exact fW hq
  have hperm:=layNew_perm t es ((ca prog w).hash k) (.int k tk);have hfits:=layNew_fits t es ((ca prog w).hash k) (.int k tk);refine ea (xI (es:=es) (h:=(ca prog w).hash k) (x:=.int k tk) hr) fun hr1 hl1=>?_;generalize hL:layNew t es ((ca prog w).hash k) (.int k tk)=L at hperm hfits hr1 hl1 ⊢;obtain⟨es1,t1,wasDummy,gave⟩:=L;dsimp only at hperm hfits hr1 hl1 ⊢;rw[Array.toList_push]at hperm;have hel1:ElemsOf (ca prog w) es1.toList:=(hel.push hkey hsc).perm hperm;have hp1:(es1.toList.map kg).Perm (cO xs k):=by
   unfold cO;refine rA (if_neg hk) ?_;refine(hperm.map kg).trans ?_;refine rA ai ?_;exact hp.append (.refl _)
  have hb1:es1.size<scanBound:=by refine rB cx (rA hperm.length_eq (rA az (rA cx (rA hn ?_))));simpa using hroom
  refine aa (hgw _ ?_);have hend:∀h',Heap.SameBut a s.heap h'->gp prog w h' a (cO xs k)->Q true {s with heap:=h'}:=fun h' hsb hS'=>by
   have:=h h' hsb hS';rw[decide_eq_false hk]at this;exact this
  split
  ·refine aa ?_;refine rA (hashByValue_scannable 8 hsc) ?_;refine af ?_;refine wi ?_ ho hel1 hp1 hb1 ?_ ?_ ?_ ?_
   ·intro b s₁ Q' hq;cases b <;> first|exact af hq|exact fW hq
   ·split
    ·exact hfits
    ·exact SetTable.fits_plain_off hfits
   ·split <;> (show _∨t1.led=true;refine rA hl1 ?_;exact hl)
   ·split <;> exact hr1
   ·intro h' hsb hS';dsimp only;exact af (hend h' hsb hS')
  ·refine aa (af ?_);simp only[↓reduceIte];refine wi ?_ ho hel1 hp1 hb1 hfits (by refine rA hl1 ?_;exact hl) hr1 ?_
   ·intro b s₁ Q' hq;cases b <;> first|exact af hq|exact fW hq
   ·intro h' hsb hS';dsimp only;exact af (hend h' hsb hS')
theorem qf{k:Int}{tk:Tok}{Q:Value->an->Prop}(hS:gp prog w s.heap a xs)(hroom:xs.length+1<scanBound)
  (h:∀h',Heap.SameBut a s.heap h'->gp prog w h' a (cO xs k)->Q .none {s with heap:=h',toks:=s.toks+1}) :
  aM (bj prog w) A (call (.builtin "set.add") [.ref a,.int k tk]) Q E s:=by
 refine fC PySem.F.slot_set_add hS.setOf.typeIs PySem.F.entry_set_add ?_ (PySem.F.args_set_add_2 _ _);unfold Builtin.«set.add» Builtin.Frozenset.oneOther;simp only[List.isEmpty_nil,bind_assoc];unfold Builtin.Frozenset.addrOf setAdd;refine aa (af ?_)
 try dsimp only
 refine aa (af ?_)
 try dsimp only
 refine aa ?_;refine a9 ?_;refine aa ((ca prog w).pyHash (dJ _ _ k tk) ?_);refine jl (s:={s with toks:=s.toks+1}) hS hroom fun h' hsb hS'=>?_;show aM _ _ (ret c0) _ _ _;exact af ⟨_,rfl,h h' hsb hS'⟩
end
theorem mH{α:Type}:∀{l:List α}{i:Nat} (h:i<l.length),(l[i]::l.eraseIdx i).Perm l
 |x::l,0,_=>by simp
 |x::l,i+1,h=>by
  have:=mH (l:=l) (i:=i) (by simpa using h);simp only[List.getElem_cons_succ,gX];exact(List.Perm.swap _ _ _).trans (this.cons _)
namespace SF
theorem jg:Manifest.owners.lookup (String.ofList ['s','e','t','_','i','t','e','r','a','t','o','r'])=some Manifest.sig_set_iterator:=by kernel_rfl
theorem slot_next:PySem.Slot "set_iterator" "__next__" "set_iterator.__next__" :=
 .of (owner:="set_iterator") (n:="__next__") (by rw[typeLookup_type,nH];kernel_rfl) (by decide +kernel) (by decide +kernel) (by decide +kernel)
  (by first|exact .inl (by decide +kernel)|exact .inr (by decide +kernel)) (by rw[isSubtype_type];kernel_rfl)
theorem entry_next:entryFor table "set_iterator.__next__"=some Builtin.«set_iterator.__next__»:=entryFor_of_tree (by kernel_rfl)
theorem args_next(a:Value):argsOk "set_iterator.__next__" ⟨[a],[]⟩:=by
 unfold argsOk;refine rA (signature?_of (id:="set_iterator.__next__") (n:=['_','_','t','x','e','n','_','_']) (o:=['r','o','t','a','r','e','t','i','_','t','e','s']) (by kernel_rfl) jg) ?_;kernel_rfl
theorem slot_iter:PySem.Slot "set_iterator" "__iter__" "set_iterator.__iter__" :=
 .of (owner:="set_iterator") (n:="__iter__") (by rw[typeLookup_type,nH];kernel_rfl) (by decide +kernel) (by decide +kernel) (by decide +kernel)
  (by first|exact .inl (by decide +kernel)|exact .inr (by decide +kernel)) (by rw[isSubtype_type];kernel_rfl)
theorem entry_iter:entryFor table "set_iterator.__iter__"=some Builtin.«dict_keyiterator.__iter__» :=
 entryFor_alias (id':="dict_keyiterator.__iter__") (by kernel_rfl) (by first|rfl|decide +kernel|(unfold String.splitOn;simp +decide [String.splitOnAux])) (by decide +kernel) (by kernel_rfl)
theorem args_iter(a:Value):argsOk "set_iterator.__iter__" ⟨[a],[]⟩:=by
 unfold argsOk;refine rA (signature?_of (id:="set_iterator.__iter__") (n:=['_','_','r','e','t','i','_','_']) (o:=['r','o','t','a','r','e','t','i','_','t','e','s']) (by kernel_rfl) jg) ?_;kernel_rfl
theorem entry_set_iter:entryFor table "set.__iter__"=some Builtin.«frozenset.__iter__» :=
 entryFor_alias (id':="frozenset.__iter__") (by kernel_rfl) rfl (by decide +kernel) (by kernel_rfl)
end SF
section
variable {M:q7}{A:cA}{E:Value->an->Prop}{s:an}
theorem rS{src:Source}{n:Nat}{Q:Nat->an->Prop}(hn:n≠0)(h:∀i dr,i<n->Q i {s with drawn:=dr}):aM M A (choose src n) Q E s:=fun Γ p zz=>by
 show Sem.wp M Γ (.choose src n .pure) _ _ p s;rw[Sem.wp_choose];exact⟨hn,h _ _ (Nat.mod_lt _ (oJ hn))⟩
theorem k8{α:Type}:∀(n:Nat) (xs:List α) (s:an) {Q:List α->an->Prop},n=xs.length->(∀ys dr,ys.Perm xs->Q ys {s with drawn:=dr})->aM M A (drawOrder n xs) Q E s
 |0,xs,s,Q,hn,h=>by
  have:xs=[]:=cP.mp hn.symm;subst this;exact af (h [] s.drawn (.refl _))
 |n+1,[],s,Q,hn,h=>by cases hn
 |n+1,x::xs,s,Q,hn,h=>by
  show aM M A (choose .order (x::xs).length >>=fun i=>match (x::xs)[i]? with|some y=>(drawOrder n ((x::xs).eraseIdx i) >>=fun r=>pure (y::r))|none=>oS "internal:drawOrder") Q E s;refine aa (rS (by simp) fun i dr hi=>?_);refine rA (ac hi) ?_;dsimp only;refine aa (k8 n _ _ (by refine rA List.length_eraseIdx (rA (if_pos hi) ?_);exact ao (L3 (Rb M0 N1 (Ra N1 M2 (Gn N0 N2))) rfl hn jF) (L3 (Rc M0 N1 (Rb M2 N1 (Gn N2 N0))) rfl hn (iE (L2 (Rb M0 N1 (Gn (Kn 1) N1)) rfl hn)))) fun ys dr' hp=>?_);refine af (h _ dr' ?_);exact(hp.cons _).trans (mH hi)
end
theorem wQ{α:Type}{next:Nat->Nat}:∀(fuel k:Nat) (left:List α) (out:Array α),left.length<=fuel->(pickOrder.go next fuel k left out).toList.Perm (out.toList++left)
 |0,k,left,out,h=>by
  have:left=[]:=cP.mp (by exact ao (L1 (Ra N0 (Kn 0) (Gn N0 (Kn 0))) rfl h) (L1 (Gn (Kn 0) N0) rfl));subst this;show out.toList.Perm _;simp
 |fuel+1,k,left,out,h=>by
  show(Array.toList (match left[next k % left.length]? with|some x=>pickOrder.go next fuel (k+1) (left.eraseIdx (next k % left.length)) (out.push x)|none=>out)).Perm _;cases left with
  |nil=>simp
  |cons x left=>
   have hi:next k % (x::left).length<(x::left).length:=Nat.mod_lt _ (by simp);refine rA (ac hi) ?_;dsimp only;refine(wQ fuel (k+1) _ _ (by refine rA List.length_eraseIdx (rA (if_pos hi) ?_);exact L3 (Ra N0 M1 (Rb M2 N0 (Gn N2 N1))) rfl h (iE (L2 (Ra M0 N1 (Gn (Kn 1) N1)) rfl hi)))).trans ?_;rw[Array.toList_push,fT];exact(List.Perm.refl _).append (mH hi)
theorem sp{α:Type}(next:Nat->Nat)(xs:Array α):(iD next xs).toList.Perm xs.toList:=by
 unfold iD;have:=wQ (next:=next) xs.size 0 xs.toList #[] (by simp);simpa using this
noncomputable def vR(first:Value)(i:Nat)(a:ah)(n ep:Nat):Obj:={cls:=.type "set_iterator",dict:=none,data:=.fields #[first,bV i,.ref a,bV n,bV ep],slots:=#[]}
noncomputable def BQ(es:Array (Int×Value))(ep:Nat)(t:fB):Obj:={cls:=.type "set",dict:=none,data:=.set es ep t,slots:=#[]}
noncomputable def wD(es:Array (Int×Value))(t:fB):Bool:=!t.plain&&es.size > 1
inductive rY(w:iC)(a:ah)(es:Array (Int×Value))(ep:Nat)(t:fB)(order:List Value)(T:ah)(i:Nat)(h:Heap):Value->Prop
 |text (sl:Nat):w.params.followText "set-order"=true->order=(iD (w.params.setOrder a ep) es).toList.map (·.2)->rY w a es ep t order T i h (bV sl)
 |plain (sl:Nat):w.params.followText "set-order"=false->wD es t=false->t.led=true->gE t.place->order=es.toList.map (·.2)->bS t.place sl=i->rY w a es ep t order T i h (bV sl)
 |drawn (ps:List Nat):IsTup h T (ps.map fun p:Nat=>bV p).toArray->ps.Perm (aQ es.size)->order=ps.filterMap (fun p=>es[p]?.map (·.2))->rY w a es ep t order T i h (.ref T)
noncomputable def CH(w:iC)(a I:ah)(es:Array (Int×Value))(ep:Nat)(t:fB)(order:List Value)(T:ah)(i:Nat)(h:Heap):Prop :=
 h.get? a=some (BQ es ep t)/\∃first,h.get? I=some (vR first i a es.size ep)/\rY w a es ep t order T i h first
section
variable {prog:ei}{w:iC}{A:cA}{E:Value->an->Prop}{s:an}{a I T:ah}{es:Array (Int×Value)}{ep:Nat}{t:fB}{order:List Value}
theorem nu{s:an}{first:Value}{i n ep:Nat}(h:s.heap.get? I=some (vR first i a n ep)):s.TypeIs (.ref I) "set_iterator":=⟨_,h,rfl⟩
theorem oB{ps:List Nat}(hp:ps.Perm (aQ es.size)):ps.map (fun p=>es[p]?.map (·.2))=(ps.filterMap (fun p=>es[p]?.map (·.2))).map some:=by
 have hlt:∀p∈ps,p<es.size:=fun p hp'=>bZ.mp (hp.mem_iff.mp hp');clear hp
 induction ps with
 |nil=>rfl
 |cons p ps ih=>
  have h1:es[p]?=some es[p]!:=by
   have:=hlt p (.head _);simp[this]
  refine rA aB (rA gI (rA h1 ?_));simp only[lh,aB];exact rA (ih fun q hq=>hlt q (.tail _ hq)) rfl
set_option tactic.hygienic true in
theorem Ao{i:Nat}{Q:Option Value->an->Prop}(st:CH w a I es ep t order T i s.heap)(hai:a≠I)(hTi:T≠I)(hf:t.fits es.size=true)(hlen:order.length=es.size)(hi:i<es.size)
  (hQ:∀v h',order[i]?=some v->CH w a I es ep t order T (i+1) h'->(∀b o,b∉[I]->s.heap.get? b=some o->h'.get? b=some o)->Q (some v) {s with heap:=h'}):aM (bj prog w) A (mR (.ref I)) Q E s:=by
 refine xB st fun ha first hI hm=>?_;have hT:=nu hI;unfold mR;refine aa (wpAny_attempt (mz (name:=Str.ofString "__next__") hT SF.slot_next (fC SF.slot_next hT SF.entry_next ?_ (SF.args_next _))));unfold Builtin.«set_iterator.__next__»;refine aa (af (a:=(cp I,[])) ?_);refine aa (wpAny_fieldsOf hI rfl ?_);dsimp only[bV];refine aa (pO ha rfl hf ?_);refine rA (if_neg (by simp)) ?_;have upd1:∀(h1:Heap) (o:Obj) (k:Nat) (v:Value) (vs:Array Value),h1.get? I=some o->o.data=.fields vs->(h1.update I (Obj.mapFields (·.setIfInBounds k v))).get? I=some {o with data:=.fields (vs.setIfInBounds k v)}:=fun h1 o k v vs e d=>by
  have e2:Obj.mapFields (·.setIfInBounds k v) o={o with data:=.fields (vs.setIfInBounds k v)}:=by
   obtain⟨c,d1,dt,sl⟩:=o;dsimp only at d;subst d;rfl
  rw[Heap.get?_update_self _ e (by rw[e2];rfl),e2]
 have eU:∀(h1:Heap) (b:ah) (o:Obj) (k:Nat) (v:Value),b≠I->h1.get? b=some o->(h1.update I (Obj.mapFields (·.setIfInBounds k v))).get? b=some o:=fun h1 b o k v n e=>
  (Heap.get?_update_other _ _ (Ne.symm n)).trans e
 have e0:∀n:Nat,(n:Int).toNat=n:=fun n=>rfl;have slots:∀(E':Value->an->Prop) (x:Value) (nx:Nat),order[i]?=some x->(∀h',rY w a es ep t order T (i+1) h' (bV nx)) ->
   aM (bj prog w) A.in1 (do
    setField (.ref I) 0 (bV nx)
    setField (.ref I) 1 (bV ((i:Int)+1))
    ret x) (fun fin s'=>∃v,fin=Fin.done (.ret v)/\aM (bj prog w) A (pure (some v)) Q E s') E' s:=fun E' x nx hx hm'=>by
  refine aa (dv hI rfl (by simp) ?_);have g1:=upd1 s.heap _ 0 (bV nx) _ hI rfl;refine aa (dv g1 rfl (by simp) ?_);have g2:=upd1 _ _ 1 (bV ((i:Int)+1)) _ g1 rfl;refine af ⟨x,rfl,af (hQ x _ hx ⟨eU _ _ _ _ _ hai (eU _ _ _ _ _ hai ha),bV nx,?_,hm' _⟩ fun b o hb e=>?_)⟩
  ·refine rA g2 ?_;rfl
  ·have hb':b≠I:=fun q=>hb (by refine rA q ?_;exact .head _);exact eU _ _ _ _ _ hb' (eU _ _ _ _ _ hb' e)
 cases hm with
 |text sl hb ho=>
  dsimp only[bV];refine aa (m:=pj a _ _ _) ?_;simp only[e0];obtain⟨x,hx⟩:∃x,order[i]?=some x:=⟨order[i]'(by exact mI hi hlen),by simp[hlen,hi]⟩;have hx':(iD (w.params.setOrder a ep) es)[i]?.map (fun e:Int×Value=>(e.2,sl))=some (x,sl):=by
   rw[ho,ar,dp]at hx;cases q:(iD (w.params.setOrder a ep) es)[i]? with
   |none=>rw[q]at hx;exact nS hx
   |some e=>rw[q]at hx;obtain rfl:=aj hx;rfl
  unfold pj ju;refine aa (dw ha rfl hf ?_);refine aa (aa (cm (af ?_)));split
  ·refine rA (if_neg (by simp)) ?_;unfold setWalk ju;refine aa (aa (dw ha rfl hf ?_));refine aa (aa (cm (af ?_)));split
   ·refine aa (cm (af (af ?_)));show aM _ _ (match (iD (w.params.setOrder a ep) es)[i]?.map (fun e:Int×Value=>(e.2,sl))with|some (x,next)=>_|none=>_) _ _ _;refine rA hx' ?_;exact slots _ x sl hx fun h'=>.text sl hb ho
   ·rename_i hc;exact absurd hb hc
  ·rename_i hc;exact absurd hb hc
 |plain sl hb hd hl hr ho hbl=>
  dsimp only[bV];refine aa (m:=pj a _ _ _) ?_;simp only[e0];have hpl:t.place.size=es.size:=by
   simp only[SetTable.fits,bI,beq_iff_eq]at hf;exact hf.1
  unfold pj ju;refine aa (dw ha rfl hf ?_);refine aa (aa (cm (af ?_)));split
  ·rename_i hc;exact absurd (hb.symm.trans hc) (by simp)
  ·split
   ·rename_i hc;exact absurd (hd.symm.trans hc) (by simp)
   ·show aM _ _ ((if(!t.led&&!es.isEmpty)=true then oS "set:maker-not-led" else pure ()) >>=_) _ _ _;refine rA hl (rA (if_neg (by simp)) ?_);refine aa (af ?_);show aM _ _ (pure (match es[bS t.place sl]?,t.place[bS t.place sl]? with|some (_,x),some j=>some (x,j+1)|_,_=>none)) _ _ _;refine rA hbl (rA (cC hi) (rA (cC (by exact mI hi hpl:i<t.place.size)) ?_));refine af ?_;refine slots _ es[i].2 (t.place[i]'(by exact mI hi hpl)+1) (by refine rA ho ?_;simp[hi]) fun h'=>.plain _ hb hd hl hr ho ?_;have gd:∀k,(hk:k<t.place.size)->t.place.getD k 0=t.place[k]:=fun k hk=>by simp[Array.getD,hk]
    refine tP hr (by exact L3 (Ra M0 N1 (Rc N2 N1 (Gn M0 N2))) rfl hi hpl) (fun k hk=>?_) fun k h1 h2=>?_
    ·rcases gC k i with q|q
     ·have:=hr.get q (by exact mI hi hpl);rw[gd i (by exact mI hi hpl)]at this;exact kT (bn this)
     ·have:k=i:=by exact ao (dR hk) q
      subst this;refine rA (gd k (by exact mI hi hpl)) ?_;exact dC _
    ·have:=hr.get (show i<k by exact jz (qz h1)) h2;rw[gd i (by exact mI hi hpl)]at this;exact l9 (jy this)
 |drawn ps hT2 hp ho=>
  refine cX (id hT2) fun oT hoT hcT FW=>?_;refine ex FW fun nT hdT=>?_;have hpl:ps.length=es.size:=by have:=hp.length_eq;simpa using this
  have hip:i<ps.length:=by exact mI hi hpl
  have hlt:ps[i]<es.size:=bZ.mp (hp.mem_iff.mp (cS hip));dsimp only[bV];refine aa (m:=seqItems? (.ref T)) (oW hoT hdT ?_);simp only[e0];refine rA (show((ps.map fun p:Nat=>bV p).toArray)[i]?=some (bV ps[i]) from by simp[hip]) ?_;dsimp only[bV];simp only[e0];refine aa (m:=setNextDrawn a _ _) ?_;unfold setNextDrawn;refine aa (dw ha rfl hf ?_);dsimp only;refine rA (if_neg (by simp)) (rA (cC hlt) ?_);refine af ?_;refine aa (dv hI rfl (by simp) ?_);have g2:=upd1 s.heap _ 1 (bV ((i:Int)+1)) _ hI rfl;refine af ⟨_,rfl,af (hQ _ _ ?_ ⟨eU _ _ _ _ _ hai ha,.ref T,?_,.drawn ps ?_ hp ho⟩ fun b o hb e=>?_)⟩
  ·have:=oB hp;rw[←ho]at this;have e2:=congrArg (·[i]?) this;simp only[ar,ac hip,lh,cC hlt]at e2;cases q:order[i]? with
   |none=>rw[q]at e2;exact nS e2.symm
   |some x=>rw[q]at e2;simp at e2;exact congrArg some e2.symm
  ·exact g2.trans rfl
  ·exact⟨oT,eU _ _ _ _ _ hTi hoT,hcT,nT,hdT⟩
  ·exact eU _ _ _ _ _ (fun q=>hb (by refine rA q ?_;exact .head _)) e
theorem vN{A:cA}{P:Fin->an->Prop}{E':Value->an->Prop}{s:an}(hh:A.handled=none)
  (h:∀h' e,(∀b o,s.heap.get? b=some o->h'.get? b=some o)->(∃o,h'.get? e=some o/\o.cls=.type "StopIteration")->E' (.ref e) {s with heap:=h'}) :
  aM (bj prog w) A (newExc (.type "StopIteration") [] >>=fun e=>raiseNew (α:=Fin) e) P E' s:=by
 refine aa ?_;simp only[newExc,newTuple];refine aa (gz ?_ (by size_fits));refine aa (m:=firstArgMember _ _) (oV (a:=c0) (by first|rfl|(simp only[firstArgMember];rfl)) ?_);refine gz ?_ (by size_fits);simp only[raiseNew];refine aa (wpAny_handled ?_);refine rA hh ?_;refine aa (af (wpAny_throw ?_));exact h _ _ (fun b o e=>Heap.get?_push_of_some _ (Heap.get?_push_of_some _ e)) ⟨_,Heap.get?_push_size _ rfl,rfl⟩
set_option tactic.hygienic true in
theorem Ak{Q:Option Value->an->Prop}(hh:A.handled=none)(st:CH w a I es ep t order T es.size s.heap)(hai:a≠I)(hTi:T≠I)(hf:t.fits es.size=true)(hlen:order.length=es.size)
  (hQ:∀h',(∀b o,b∉[I]->s.heap.get? b=some o->h'.get? b=some o)->Q none {s with heap:=h'}):aM (bj prog w) A (mR (.ref I)) Q E s:=by
 refine xB st fun ha first hI hm=>?_;have hT:=nu hI;unfold mR;refine aa (wpAny_attempt (mz (name:=Str.ofString "__next__") hT SF.slot_next (fC SF.slot_next hT SF.entry_next ?_ (SF.args_next _))));unfold Builtin.«set_iterator.__next__»;refine aa (af (a:=(cp I,[])) ?_);refine aa (wpAny_fieldsOf hI rfl ?_);dsimp only[bV];refine aa (pO ha rfl hf ?_);refine rA (if_neg (by simp)) ?_;have eU:∀(h1:Heap) (b:ah) (o:Obj) (k:Nat) (v:Value),b≠I->h1.get? b=some o->(h1.update I (Obj.mapFields (·.setIfInBounds k v))).get? b=some o:=fun h1 b o k v n e=>
  (Heap.get?_update_other _ _ (Ne.symm n)).trans e
 have e0:∀n:Nat,(n:Int).toNat=n:=fun n=>rfl;have fin:∀(s1:an) (P:Fin->an->Prop),(∃h1,s1={s with heap:=h1}/\∀b o,b∉[I]->s.heap.get? b=some o->h1.get? b=some o) ->
   aM (bj prog w) A.in1 (newExc (.type "StopIteration") [] >>=fun e=>raiseNew (α:=Fin) e) P (fun e s'=>aM (bj prog w) A (do
       let __do_lift ←isInstance e (iF "StopIteration")
       if __do_lift=true then pure none else throw e) Q E s') s1:=fun s1 P ⟨h1,e1,k1⟩=>by
  subst e1;refine vN (by exact hh) fun h' e k2 z'=>?_;refine bx z' fun o ho hc=>?_;refine aa (wpAny_isInstance (T:="StopIteration") (b:=true) ⟨_,ho,hc⟩ isSubtype_stop ?_);exact af (hQ h' fun b o hb e=>k2 b o (k1 b o hb e))
 have one:∀(h1:Heap) (k:Nat) (v:Value),(∀b o,b∉[I]->s.heap.get? b=some o->h1.get? b=some o)->∀b o,b∉[I]->s.heap.get? b=some o->(h1.update I (Obj.mapFields (·.setIfInBounds k v))).get? b=some o:=fun h1 k v k1 b o hb e=>
  eU _ _ _ _ _ (fun q=>hb (by refine rA q ?_;exact .head _)) (k1 b o hb e)
 cases hm with
 |text sl hb ho=>
  dsimp only[bV];refine aa (m:=pj a _ _ _) ?_;simp only[e0];have hx':(iD (w.params.setOrder a ep) es)[es.size]?.map (fun e:Int×Value=>(e.2,sl))=none:=by
   rw[ho,ae]at hlen;have:(iD (w.params.setOrder a ep) es)[es.size]?=none:=hG (by have:=jK hlen;simpa using this);refine rA this ?_;rfl
  unfold pj ju;refine aa (dw ha rfl hf ?_);refine aa (aa (cm (af ?_)));split
  ·refine rA (if_neg (by simp)) ?_;unfold setWalk ju;refine aa (aa (dw ha rfl hf ?_));refine aa (aa (cm (af ?_)));split
   ·refine aa (cm (af (af ?_)));show aM _ _ (match (iD (w.params.setOrder a ep) es)[es.size]?.map (fun e:Int×Value=>(e.2,sl))with|some (x,next)=>_|none=>_) _ _ _;refine rA hx' ?_;exact aa (dv hI rfl (by simp) (fin _ _ ⟨_,rfl,one _ _ _ fun b o zz e=>e⟩))
   ·rename_i hc;exact absurd hb hc
  ·rename_i hc;exact absurd hb hc
 |plain sl hb hd hl hr ho hbl=>
  dsimp only[bV];refine aa (m:=pj a _ _ _) ?_;simp only[e0];unfold pj ju;refine aa (dw ha rfl hf ?_);refine aa (aa (cm (af ?_)));split
  ·rename_i hc;exact absurd (hb.symm.trans hc) (by simp)
  ·split
   ·rename_i hc;exact absurd (hd.symm.trans hc) (by simp)
   ·show aM _ _ ((if(!t.led&&!es.isEmpty)=true then oS "set:maker-not-led" else pure ()) >>=_) _ _ _;refine rA hl (rA (if_neg (by simp)) ?_);refine aa (af ?_);show aM _ _ (pure (match es[bS t.place sl]?,t.place[bS t.place sl]? with|some (_,x),some j=>some (x,j+1)|_,_=>none)) _ _ _;refine rA hbl (rA (hG (ax _)) ?_);refine af ?_;exact aa (dv hI rfl (by simp) (fin _ _ ⟨_,rfl,one _ _ _ fun b o zz e=>e⟩))
 |drawn ps hT2 hp ho=>
  refine cX (id hT2) fun oT hoT hcT FW=>?_;refine ex FW fun nT hdT=>?_;have hpl:ps.length=es.size:=by have:=hp.length_eq;simpa using this
  dsimp only[bV];refine aa (m:=seqItems? (.ref T)) (oW hoT hdT ?_);simp only[e0];refine rA (show((ps.map fun p:Nat=>bV p).toArray)[es.size]?=none from by simp[hpl]) ?_;have g1:(s.heap.update I (Obj.mapFields (·.setIfInBounds 0 (bV 0)))).get? I=some {cls:=.type "set_iterator",dict:=none,data:=.fields #[bV 0,bV es.size,.ref a,bV es.size,bV ep],slots:=#[]}:=by
   refine rA (Heap.get?_update_self _ hI (by rfl)) ?_;rfl
  refine aa (dv hI rfl (by simp) ?_);exact aa (dv g1 rfl (by simp) (fin _ _ ⟨_,rfl,one _ _ _ (one _ _ _ fun b o zz e=>e)⟩))
theorem Ap{i:Nat}{Q:Value->an->Prop}(st:CH w a I es ep t order T i s.heap)(h:Q (.ref I) s):aM (bj prog w) A (tE (.ref I)) Q E s:=by
 refine xB st fun ha first hI hm=>?_;have hT:=nu hI;refine wpAny_pyIter_slot hT SF.slot_iter (fC SF.slot_iter hT SF.entry_iter ?_ (SF.args_iter _));show aM _ _ (ret (.ref I)) _ _ s;exact af ⟨_,rfl,"set_iterator",_,hT,SF.slot_next.lookup,h⟩
theorem yj(hh:A.handled=none)(hai:a≠I)(hTi:T≠I)(hf:t.fits es.size=true)(hlen:order.length=es.size) :
  Walks prog w A I [I,a,T] [I] es.size (fun i v=>order[i]?=some v) (CH w a I es ep t order T) where
 sub:=fun b hb=>by simp at hb;simp[hb]
 frame:=fun i h h' st hk=>by
  refine xB st fun ha first hI hm=>?_;refine⟨hk a (by simp) _ ha,first,hk I (by simp) _ hI,?_⟩;cases hm with
  |text sl hb ho=>exact .text sl hb ho
  |plain sl hb hd hl hr ho hbl=>exact .plain sl hb hd hl hr ho hbl
  |drawn ps hT2 hp ho=>refine bx hT2 fun oT hoT r=>?_;exact .drawn ps ⟨oT,hk T (by simp) _ hoT,r⟩ hp ho
 item:=fun i s Q E hi st hQ=>Ao st hai hTi hf hlen hi fun v h' hv st' k=>hQ v h' s.toks hv st' k
 done:=fun s Q E st hQ=>Ak hh st hai hTi hf hlen fun h' k=>hQ h' s.toks k
 self:=fun i s Q E st hQ=>Ap st hQ
set_option tactic.hygienic true in
theorem Am{xs:List Int}{Q:Value->an->Prop}(hS:gp prog w s.heap a xs)
  (h:∀(I T:ah) (es:Array (Int×Value)) (ep:Nat) (t:fB) (order:List Value) (h':Heap) (dr:Drawn),a≠I->T≠I->s.heap.get? I=none->(T=a∨s.heap.get? T=none)->(∀b o,s.heap.get? b=some o->h'.get? b=some o) ->
   t.fits es.size=true->order.length=es.size->es.size=xs.length->(∃ns,IntsAre order ns/\ns.Perm xs)->CH w a I es ep t order T 0 h'->Q (.ref I) {s with heap:=h',drawn:=dr}) :
  aM (bj prog w) A (tE (.ref a)) Q E s:=by
 refine fG (id hS) fun es ep t ho hel hp hb hf hl hr=>?_;have hTy:=hS.setOf.typeIs;have hn:es.size=xs.length:=by have:=hp.length_eq;simpa using this
 have hints:∀{l:List (Int×Value)},ElemsOf (ca prog w) l->IntsAre (l.map (·.2)) (l.map kg):=by
  intro l
  induction l with
  |nil=>intro _;exact .nil
  |cons e l ih=>
   intro hl;refine ex (zK (hl e (.head _)).1) fun tk e2=>?_;refine rA aB (rA aB (rA e2 ?_));exact .cons _ tk (ih fun x hx=>hl x (.tail _ hx))
 have hord:∀l:List (Int×Value),l.Perm es.toList->∃ns,IntsAre (l.map (·.2)) ns/\ns.Perm xs:=fun l hq=>⟨_,hints (hel.perm hq),(hq.map kg).trans hp⟩;have haS:a<s.heap.objs.size:=Heap.lt_size ho;refine wpAny_pyIter_slot hTy PySem.F.slot_set_iter (fC PySem.F.slot_set_iter hTy SF.entry_set_iter ?_ (PySem.F.args_set_iter_1 _));unfold Builtin.«frozenset.__iter__» Builtin.Frozenset.slot0;refine aa (aa (af (a:=(cp a,[])) (af (a:=a) ?_)));refine aa (m:=mM a) ?_;unfold mM;refine aa (pO ho rfl hf (af ?_));refine aa (m:=setDrawn a) ?_;unfold setDrawn ju;refine aa (dw ho rfl hf ?_);refine aa (aa (cm (af ?_)));refine af ?_;show aM _ _ (if(!w.params.followText "set-order"&&wD es t)=true then _ else _) _ _ _;have fin:∀(s1:an) (first:Value) (order:List Value) (T:ah),(∃h1 dr,s1={s with heap:=h1,drawn:=dr}/\(∀b o,s.heap.get? b=some o->h1.get? b=some o))->T≠s1.heap.objs.size->(T=a∨s.heap.get? T=none)->order.length=es.size->(∃ns,IntsAre order ns/\ns.Perm xs) ->
   (∀h',(∀b o,s1.heap.get? b=some o->h'.get? b=some o)->rY w a es ep t order T 0 h' first) ->
   aM (bj prog w) A.in1 (do ret (←newFields "set_iterator" [first,bV 0,.ref a,bV es.size,bV (←setEpoch a)])) (fun fin s'=>∃v,fin=Fin.done (.ret v)/\∃T' r,s'.TypeIs v T'/\rj (.type T') "__next__"=pure (some r)/\Q v s') E s1:=by
  refine fun s1 first order T FW=>jx FW fun h1 dr FY k1=>?_;clear FW;subst FY;intro hT1 hT2 hlen hns hm;refine aa (wpAny_setEpoch_of (k1 _ _ ho) rfl hf ?_);refine aa (m:=newFields "set_iterator" _) ?_;unfold newFields;refine gz ?_;have g:(h1.push {cls:=.type "set_iterator",data:=.fields [first,bV 0,cp a,bV es.size,bV ep].toArray}).get? h1.objs.size=some (vR first 0 a es.size ep):=Heap.get?_push_size _ rfl;have hgt:s.heap.get? h1.objs.size=none:=by
   cases q:s.heap.get? h1.objs.size with
   |none=>rfl
   |some o=>have:=Heap.lt_size (k1 _ _ q);exact absurd this (iY _)
  refine af ⟨_,rfl,"set_iterator",_,nu g,SF.slot_next.lookup,?_⟩;exact h h1.objs.size T es ep t order _ dr (fun q=>by have:=Heap.lt_size (k1 _ _ ho);rw[q]at this;exact iY _ this) hT1 hgt hT2 (fun b o e=>Heap.get?_push_of_some _ (k1 b o e)) hf hlen hn hns
   ⟨Heap.get?_push_of_some _ (k1 _ _ ho),first,g,hm _ fun b o e=>Heap.get?_push_of_some _ e⟩
 split
 ·rename_i hd;simp only[bI,ku]at hd;refine aa (k8 (α:=Nat) _ (aQ es.size) s (by exact rA kw rfl) fun ys dr hys=>?_);refine aa (wpAny_newTuple ?_ (by rw[ae,hys.length_eq,kw];exact lG hb));have hys':ys.Perm (aQ es.size):=hys;have hlen:(ys.filterMap (fun p=>es[p]?.map (·.2))).length=es.size:=by
   have:=congrArg bG (oB hys');simp only[ae]at this;refine rB this (rA hys'.length_eq ?_);simp
  have horder:(ys.filterMap fun p=>es[p]?.map (·.2))=(ys.filterMap fun p=>es[p]?).map (·.2):=by
   exact rA List.map_filterMap rfl
  have fr:=bL s.heap;refine fin _ (.ref s.heap.objs.size) (ys.filterMap fun p=>es[p]?.map (·.2)) s.heap.objs.size ⟨_,dr,rfl,fun b o e=>Heap.get?_push_of_some _ e⟩ ?_ (.inr fr) hlen ?_ fun h' k=>.drawn ys ⟨_,k _ _ (Heap.get?_push_size _ rfl),rfl,_,rfl⟩ hys' rfl
  ·show s.heap.objs.size≠(s.heap.push _).objs.size;rw[Heap.size_push];exact cV (dC _)
  ·refine rA horder ?_;refine hord _ ((hys'.filterMap _).trans ?_);rw[filterMap_getElem?_range]
 ·rename_i hd;refine aa (af ?_);refine fin s (bV 0) (if w.params.followText "set-order"=true then(iD (w.params.setOrder a ep) es).toList.map (·.2)else es.toList.map (·.2)) a ⟨s.heap,s.drawn,rfl,fun zz zz e=>e⟩ (cV haS) (.inl rfl) ?_ ?_ fun h' k=>?_
  ·split
   ·rw[ae,(sp _ es).length_eq];simp
   ·simp
  ·split
   ·exact hord _ (sp _ es)
   ·exact hord _ (.refl _)
  ·by_cases hb:w.params.followText "set-order"=true
   ·refine rA (if_pos hb) ?_;exact .text 0 hb rfl
   ·refine rA (if_neg hb) ?_;have hb':w.params.followText "set-order"=false:=by simpa using hb
    rw[hb']at hd;refine .plain 0 hb' (by simpa using hd) (hl.resolve_left hb) hr rfl ?_;exact tP hr (aH _) (fun k hk=>absurd hk (Nat.not_lt_zero _)) fun k zz zz=>aH _
end
section
variable {prog:ei}{w:iC}{A:cA}{E:Value->an->Prop}{s:an}{a:ah}{xs:List Int}
theorem zF{r:ah}{Q:Bool->an->Prop}(hT:s.TypeIs (.ref r) "set")(h:Q false s):aM (bj prog w) A (nF (.ref r)) Q E s:=by
 unfold nF;refine aa (wpAny_specialOf hT PySem.F.slot_set_len.lookup ?_);generalize hid:("set.__len__":String)=id0
 wp_delta
 refine rA (show splitId id0=some ("set","__len__") from by subst hid;decide +kernel) ?_;subst hid;refine aa (wpAny_isInstance (T:="set") (b:=true) hT (by rw[isSubtype_type];kernel_rfl) ?_);refine wpAny_ite_split (fun hab=>absurd hab (by decide)) (fun zz=>?_);refine wpAny_ite_split (fun zz=>?_) (fun hab=>absurd (by decide +kernel) hab);refine aa (sI hT ?_);exact af h
theorem ry{order:List Value}{ns:List Int}(hI:IntsAre order ns){n:Nat}{acc:Array Value}(hn:order.length=n)(h:ItemsOf (fun i v=>order[i]?=some v) acc n):acc.toList=order:=by
 refine eJ fun i=>?_;rcases gC i acc.size with q|q
 ·have e:acc[i]?=some acc[i]:=cC q;exact rA dp (rA e (rA (h.2 i _ e) rfl))
 ·rw[dp,hG q,b8 (by rw[hn,←h.1];exact q)]
theorem vm{R:rd->an->Prop}(hh:A.handled=none)(hS0:gp prog w s.heap a xs)(S:ah)(hSa:S≠a)(res:Value)(c₀:Nat)(hS:s.heap.get? S=some {cls:=.type "list",data:=.seq #[] c₀})
  (hR:∀h' tk dr vs ns c',(∀b o,b≠S->s.heap.get? b=some o->h'.get? b=some o)->h'.get? S=some {cls:=.type "list",dict:=none,data:=.seq vs c',slots:=#[]}->IntsAre vs.toList ns->ns.Perm xs->R (.ok (.ret res)) {s with heap:=h',toks:=tk,drawn:=dr}) :
  aM (bj prog w) A.in1 (iB (.ref S) (.ref a) res)
   (fun fin s'=>match fin with|.done f=>R (.ok f) s'|.again c'=>c'.quiet=true/\gy (bj prog w) A c' R s') (fun e s'=>R (.error e) s') s:=by
 have hT:=hS0.setOf.typeIs;unfold iB;refine aa (sI (T:="set") hT ?_);have h1:ph (.ref S) (.ref a)=false:=by simp[ph,hSa]
 have h2:(iF "set" ==iF "list")=false:=by decide
 have h3:(iF "set" ==iF "tuple")=false:=by decide
 simp only[h1,h2,h3,Bool.or_false,Bool.false_eq_true,if_false];refine aa (Am hS0 fun I T es ep t order h0 dr hai hTi hI0 hT0 hk0 hf hlen hn ⟨ns,hns,hp⟩ st=>?_);have hne:∀{b:ah},s.heap.get? b=none->S≠b:=fun e q=>by rw[←q,hS]at e;exact nS e.symm
 have hSI:=hne hI0;have hST:S≠T:=by
  rcases hT0 with q|q
  ·refine rA q ?_;exact hSa
  ·exact hne q
 have hSf:S∉[I,a,T]:=by simp only[aA,cH,or_false,not_or];exact⟨hSI,hSa,hST⟩
 have W:=yj (prog:=prog) (w:=w) (A:=A.in1) (I:=I) (a:=a) (T:=T) (es:=es) (ep:=ep) (t:=t) (order:=order) hh hai hTi hf hlen;have hsz:es.size<=sizeLine:=by
  refine eN hS0 fun es2 ep2 t2 ho2 zz hp2 FW=>?_;refine ea FW fun hb2 zz=>?_;have:es2.size=xs.length:=by have:=hp2.length_eq;simpa using this
  refine rA hn (rB this ?_);exact lG hb2
 have key:∀(h:Heap) (c₁ tk:Nat),CH w a I es ep t order T 0 h->(∀b o,b≠S->s.heap.get? b=some o->h.get? b=some o) ->
   h.get? S=some {cls:=.type "list",data:=.seq #[] c₁}->gy (bj prog w) A (.builtin "list.extend.loop" ⟨[.ref S,.ref I,res],[]⟩) R {s with heap:=h,toks:=tk,drawn:=dr}:=by
  intro h c₁ tk hst hk hS₁;refine codeAny_extend_loopS W.toS hsz S hSf res es.size 0 _ #[] c₁ rfl (aH _) hst hS₁ (ItemsOf.nil _) fun s' acc' c' hm hS' hacc=>?_;refine rA (Moved.eq_with hm) ?_;refine hR s'.heap s'.toks dr acc' ns c' (fun b o hb e=>hm.heap b o (fun hmem=>?_) (hk b o hb e)) hS' (by refine rA (ry hns hlen hacc) ?_;exact hns) hp;rcases aA.mp hmem with e'|hmem
  ·exact hb e'
  ·rw[ag.mp hmem,hI0]at e;exact nS e
 have hS₁:h0.get? S=some {cls:=.type "list",data:=.seq #[] c₀}:=hk0 _ _ hS;have hT':ko {s with heap:=h0,drawn:=dr} (.ref a) "set":=by refine bx hT fun o ho hc=>?_;exact⟨o,hk0 _ _ ho,hc⟩
 refine aa (a9 (zF hT' ?_));refine wpAny_ite_split (fun zz=>?_) (fun zz=>af ⟨gk rW _,key _ c₀ _ st (fun b o zz e=>hk0 b o e) hS₁⟩);refine aa (fW ?_);refine aa ?_;show aM _ _ (updateSeq S (·.push .none) >>=fun zz=>updateSeq S (·.pop)) _ _ _;refine aa (wpAny_updateSeq hS₁ rfl ?_);have hS₂:=Heap.get?_update_self (Obj.mapSeq (·.push c0)) hS₁ rfl;refine wpAny_updateSeq (hz:=by seq_fits) hS₂ rfl ?_;have hS₃:=Heap.get?_update_self (Obj.mapSeq (·.pop)) hS₂ rfl;refine af ⟨gk rW _,key _ _ _ ?_ (fun b o hb e=>?_) hS₃⟩
 ·refine W.frame 0 _ _ st fun b hb o e=>?_;have hbS:b≠S:=fun h=>hSf (h▸hb);exact(Heap.get?_update_other _ _ (Ne.symm hbS)).trans ((Heap.get?_update_other _ _ (Ne.symm hbS)).trans e)
 ·exact(Heap.get?_update_other _ _ (Ne.symm hb)).trans ((Heap.get?_update_other _ _ (Ne.symm hb)).trans (hk0 b o e))
theorem tZ{R:List Value->an->Prop}(hh:A.handled=none)(hS0:gp prog w s.heap a xs)
  (h:∀(h':Heap) (tk:Nat) (dr:Drawn) (vs:List Value) (ns:List Int),(∀b o,s.heap.get? b=some o->h'.get? b=some o)->IntsAre vs ns->ns.Perm xs->R vs {s with heap:=h',toks:=tk,drawn:=dr}) :
  aM (bj prog w) A (collect (.ref a)) R E s:=by
 unfold collect;refine aa (wpAny_runValue (dB entry_proto_collect' ?_));refine rA (c6 PySem.F.plain_proto_collect _) ?_;show aM _ A.in1 (newList [] >>=fun l=>again (.builtin "list.__iadd__" ⟨[l,.ref a],[]⟩)) _ _ s;refine aa (gz ?_);refine af ⟨gk PySem.F.plain_list_iadd _,dB entry_list_iadd' ?_⟩;refine rA (c6 PySem.F.plain_list_iadd _) ?_;have hS₁:(s.heap.push {cls:=.type "list",data:=.seq ([]:List Value).toArray}).get? s.heap.objs.size=some {cls:=.type "list",data:=.seq #[]}:=Heap.get?_push_size _ rfl;show aM _ A.in1 (iB (.ref s.heap.objs.size) (.ref a) (.ref s.heap.objs.size)) _ _ _;refine iM (id hS0) fun es ep t ho r=>?_;have hlt:a<s.heap.objs.size:=Heap.lt_size ho;have hS2:gp prog w (s.heap.push {cls:=.type "list",data:=.seq ([]:List Value).toArray}) a xs:=⟨es,ep,t,Heap.get?_push_of_some _ ho,r⟩;have key:=vm (A:=A) (s:={s with heap:=s.heap.push {cls:=.type "list",data:=.seq ([]:List Value).toArray} })
  (R:=fun(q:rd) (s':an)=>∃(h':Heap) (tk:Nat) (dr:Drawn) (vs:Array Value) (ns:List Int) (c':Nat),q=.ok (.ret (.ref s.heap.objs.size))/\s'={s with heap:=h',toks:=tk,drawn:=dr} /\
   (∀b o,s.heap.get? b=some o->h'.get? b=some o)/\h'.get? s.heap.objs.size=some {cls:=.type "list",dict:=none,data:=.seq vs c',slots:=#[]}/\IntsAre vs.toList ns/\ns.Perm xs)
  hh hS2 s.heap.objs.size (Nat.ne_of_gt hlt) (.ref s.heap.objs.size) 0 hS₁
  (fun h' tk dr vs ns c' hk hS' hacc hp=>⟨h',tk,dr,vs,ns,c',rfl,rfl,fun b o e=>hk b o (cV (Heap.lt_size e)) (Heap.get?_push_of_some _ e),hS',hacc,hp⟩)
 refine aK key (fun fin s' x=>?_) fun e s' x=>?_
 ·cases fin with
  |done f=>
   refine vn x fun h' tk FW=>?_;clear x;refine vn FW fun dr vs FY=>?_;clear FW;obtain⟨ns,c',e,rfl,hk,hS',hacc,hp⟩:=FY;obtain rfl:=Except.ok.inj e;show aM _ A (load s.heap.objs.size >>=_) _ _ _;refine aa (ro hS' ?_);exact af (h h' tk dr _ ns hk hacc hp)
  |again c₁=>
   refine⟨x.1,eW x.2 fun q s₂ y=>?_⟩;refine vn y fun h' tk FZ=>?_;clear y;refine vn FZ fun dr vs F7=>?_;clear FZ;obtain⟨ns,c',rfl,rfl,hk,hS',hacc,hp⟩:=F7;show aM _ A (load s.heap.objs.size >>=_) _ _ _;refine aa (ro hS' ?_);exact af (h h' tk dr _ ns hk hacc hp)
 ·refine vn x fun zz zz F8=>?_;refine vn F8 fun zz zz F9=>?_;obtain⟨_,_,e',_⟩:=F9;cases e'
noncomputable def pQ(prog:ei)(w:iC)(v:Value)(s:an)(ns:List Int):Prop :=
 ∀(A:cA) (E:Value->an->Prop) (R:List Value->an->Prop),A.handled=none ->
  (∀(h':Heap) (tk:Nat) (dr:Drawn) (vs:List Value) (ms:List Int),(∀b o,s.heap.get? b=some o->h'.get? b=some o)->IntsAre vs ms->ms.Perm ns->R vs {s with heap:=h',toks:=tk,drawn:=dr})->aM (bj prog w) A (collect v) R E s
theorem yc{v:Value}{ns:List Int}{Q:Value->an->Prop}(hh:A.handled=none)(hc:pQ prog w v s ns)(h64:ns.length<64)
  (h:∀(h':Heap) (tk:Nat) (dr:Drawn) (D:ah) (vs:List Value) (ms:List Int) (c:Nat),(∀b o,s.heap.get? b=some o->h'.get? b=some o)->s.heap.get? D=none->h'.get? D=some (seqObj "list" vs.toArray c)->IntsAre vs ms->ms.Perm ns->ms.Pairwise (·<=·)->Q (.ref D) {s with heap:=h',toks:=tk,drawn:=dr}) :
  aM (bj prog w) A (call (.builtin "sorted") [v]) Q E s:=by
 refine Calls.call_function_entry kind_sorted plain_sorted entry_sorted (args_sorted1 _) ?_;unfold Builtin.«sorted»;refine aa (m:=checkCount "sorted" 1 1 _) (af ?_);refine aa (hc A.in1 _ _ hh fun h1 tk dr vs ms k1 hi hp=>?_);have hlen:vs.length=ns.length:=by exact rA hi.length (rA hp.length_eq rfl)
 refine aa (wpAny_newList ?_ (by refine rA hlen (rA cr ?_);exact BC h64));have hoL:(h1.push (seqObj "list" vs.toArray 0)).get? h1.objs.size=some (seqObj "list" vs.toArray 0):=Heap.get?_push_size _ rfl;refine aa (a9 (fC slot_list_sort ⟨_,hoL,rfl⟩ entry_list_sort (list_sort_tree hoL hi (by refine rA hlen ?_;exact h64) fun out ns' a1 a2 a3=>⟨_,rfl,?_⟩) (args_list_sort _)));refine ex (sortedHeap_at (h:=h1.push (seqObj "list" vs.toArray 0)) (a:=h1.objs.size) (vs:=vs) (out:=out) hoL) fun e he=>?_;have fr:s.heap.get? h1.objs.size=none:=by
  cases q:s.heap.get? h1.objs.size with
  |none=>rfl
  |some o=>have:=Heap.lt_size (k1 _ _ q);exact absurd this (iY _)
 refine af ⟨_,rfl,h _ tk dr h1.objs.size out.toList ns' e (fun b o eb=>?_) fr (by simpa using he) a1 (a2.trans hp) a3⟩;have hb:b≠h1.objs.size:=cV (Heap.lt_size (k1 _ _ eb));rw[sortedHeap_old hb (by rw[size_push'];exact kU (Heap.lt_size (k1 _ _ eb)))];exact Heap.get?_push_of_some _ (k1 _ _ eb)
theorem pQ.set(hS:gp prog w s.heap a xs):pQ prog w (.ref a) s xs:=fun A E R hh h=>tZ hh hS fun h' tk dr vs ns k hi hp=>h h' tk dr vs ns k hi hp
theorem pQ.list{vs:List Value}{ns:List Int}(hl:s.heap.IsList a vs.toArray)(hi:IntsAre vs ns)(hsz:vs.length<1000000):pQ prog w (.ref a) s ns:=fun A E R hh h=>
 collect_list hl (h _ s.toks s.drawn vs ns (fun b o e=>by
  have hb:b≠s.heap.objs.size:=cV (Heap.lt_size e);refine rA (Heap.get?_update_other _ _ (Ne.symm hb)) ?_;exact Heap.get?_push_of_some _ e) hi (.refl _)) (by refine rA cr ?_;exact BC hsz)
theorem pQ.dict{kvs:List (Int×Value)}(hz:(a==ip)=false)(hd:s.heap.DictOf (ca prog w) a kvs)(hsz:kvs.length<1000000):pQ prog w (.ref a) s (kvs.map (·.1)):=fun A E R hh h=>by
 refine ex hd.dictAt fun ep hat=>?_;refine kdu_collect (kdl_dict (knd:=ca prog w) (kvs:=kvs) (ep:=ep) hz) hh hat (by refine rA cr ?_;exact BC hsz) fun h' tk acc k hacc=>?_;refine h h' tk s.drawn acc.toList (kvs.map (·.1)) k ?_ (.refl _);have:∀(kvs:List (Int×Value)) (vs:List Value),vs.length=kvs.length->(∀(i:Nat) (v:Value),vs[i]?=some v->∃k x,kvs[i]?=some (k,x)/\(ca prog w).is k v=true)->IntsAre vs (kvs.map (·.1)):=by
  intro kvs
  induction kvs with
  |nil=>intro vs hl _;refine rA (cP.mp hl) ?_;exact .nil
  |cons p kvs ih=>
   intro vs hl hv;cases vs with
   |nil=>cases hl
   |cons v vs=>
    refine jx (hv 0 v rfl) fun k x e1 e2=>?_;obtain rfl:=aj e1;refine ex (oZ e2) fun t FW=>?_;subst FW;exact .cons _ t (ih vs (by simpa using hl) fun i v e=>hv (i+1) v e)
 exact this kvs acc.toList (by refine rA cx ?_;exact hacc.1) fun i v e=>hacc.2 i v (by refine rB dp ?_;exact e)
end
noncomputable abbrev yG(w:iC)(led:Bool):Prop:=w.params.followText "set-order"=true∨led=true
noncomputable abbrev df(led:Bool):Obj:={cls:=.type "set",dict:=none,data:=.set #[] 0 (.fresh 0 0 led)}
section
variable {prog:ei}{w:iC}{A:cA}{E:Value->an->Prop}{s:an}{a:ah}{xs:List Int}
theorem Fw:yG w (!w.params.followText "set-order"):=by
 cases h:w.params.followText "set-order" with
 |true=>exact .inl h
 |false=>exact .inr rfl
theorem rt{Q₁:Value->an->Prop}(h:∀led:Bool,yG w led->Q₁ (.ref s.heap.objs.size) {s with heap:=s.heap.push (df led)}) :
  gy (bj prog w) A (.call (.builtin "set.__new__") ⟨[.type "set"],[]⟩) (wants Q₁ E) s:=by
 refine ig ?_;show aM _ A.in1 (do jt "set.__new__" ⟨[.type "set"],[]⟩;again (.builtin "set.__new__" ⟨[.type "set"],[]⟩)) _ _ s;refine aa (oV PySem.F.newCall_set_0 (af ⟨gk ij _,dB PySem.F.entry_set_new ?_⟩));refine rA (c6 ij _) ?_;unfold Builtin.«set.__new__» mx;have hsub:=sub_set_self;obtain⟨hp,g,d,tk,os⟩:=s;dsimp only
 wp_walk
 refine cm (af ?_);dsimp only;simp only[newObj];refine aa (oU (af ?_));exact af (h _ Fw)
theorem qh(x:Value){Q₁:Value->an->Prop}(h:∀led:Bool,yG w led->Q₁ (.ref s.heap.objs.size) {s with heap:=s.heap.push (df led)}) :
  gy (bj prog w) A (.call (.builtin "set.__new__") ⟨[.type "set",x],[]⟩) (wants Q₁ E) s:=by
 refine ig ?_;show aM _ A.in1 (do jt "set.__new__" ⟨[.type "set",x],[]⟩;again (.builtin "set.__new__" ⟨[.type "set",x],[]⟩)) _ _ s;refine aa (oV (PySem.F.newCall_set_1 x) (af ⟨gk ij _,dB PySem.F.entry_set_new ?_⟩));refine rA (c6 ij _) ?_;unfold Builtin.«set.__new__» mx;have hsub:=sub_set_self;obtain⟨hp,g,d,tk,os⟩:=s;dsimp only
 wp_walk
 refine cm (af ?_);dsimp only;simp only[newObj];refine aa (oU (af ?_));exact af (h _ Fw)
noncomputable abbrev yJ(w:iC)(s:an)(obj:Value)(s₁:an):Prop:=∃led:Bool,yG w led/\obj=.ref s.heap.objs.size/\s₁={s with heap:=s.heap.push (df led)}
theorem tV{Q:Value->an->Prop}(h:∀led:Bool,yG w led->Q (.ref s.heap.objs.size) {s with heap:=s.heap.push (df led)}) :
  aM (bj prog w) A (call (.type "set") []) Q E s:=by
 refine vn PySem.F.called_set.mro fun c tl hmro=>?_;have hmade:=PySem.F.called_set.made;have hsub:=PySem.F.called_set.sub;refine mS (ig ?_);show aM _ _ (callAny (.type "set") _) _ _ _;refine af ⟨jT _ (by decide +kernel),dB PySem.F.entry_type_call ?_⟩;refine rA (Around.under_plain (weight_type_call_type "set" [] []) rfl) ?_;have h1:=PySem.F.called_set.notType;have h2:=PySem.F.called_set.canCreate;have hct:=PySem.F.typeCall_set_0
 repeat (any_goals (first|assumption|wp_step))
 refine eW (rt (E:=E) (Q₁:=yJ w s) fun led hl=>⟨led,hl,rfl,rfl⟩) fun r s₁ hr=>?_;cases r with
 |error e=>exact hr
 |ok fl=>
  cases fl with
  |ret obj=>
   refine cX hr fun led hled FW FY=>?_;clear hr;subst FW;subst FY;have hS:(s.heap.push (df led)).get? s.heap.objs.size=some (df led):=Heap.get?_push_size _ rfl;have hT:ko {s with heap:=s.heap.push (df led)} (.ref s.heap.objs.size) "set":=⟨_,hS,rfl⟩;have hli:=PySem.F.called_set.init.lookup;have hbi:=PySem.F.called_set.init.bind (.ref s.heap.objs.size)
   repeat (any_goals (first|assumption|wp_step))
   refine eW (gM (R:=wants (fun r s₂=>r=.none/\Q (.ref s.heap.objs.size) s₂) E) PySem.F.called_set.init.plain PySem.F.entry_set_init (check_set_init hT ?_)) fun r₂ s₂ hr₂=>?_
   ·unfold Builtin.«set.__init__» noKeywords
    wp_walk
    exact⟨rfl,h led hled⟩
   ·cases r₂ with
    |error e=>exact hr₂
    |ok fl₂=>
     cases fl₂ with
     |ret r=>
      refine ea hr₂ fun FZ hq=>?_;clear hr₂;subst FZ
      repeat (any_goals (first|assumption|wp_step))
     |_=>exact hr₂.elim
  |_=>exact hr.elim
theorem vW(ns:List Int){i:Nat}(hi:i<ns.length):(ns.take (i+1)).foldl cO []=cO ((ns.take i).foldl cO []) (ns.getD i 0):=by
 refine rA aT (rA dh (rA (ac hi) ?_));simp[List.getD,hi]
theorem fM(xs:List Int)(k:Int):(cO xs k).length<=xs.length+1:=by
 unfold cO;split <;> simp
set_option tactic.hygienic true in
theorem tu(ns:List Int):∀xs:List Int,(ns.foldl cO xs).length<=xs.length+ns.length:=by
 induction ns with
 |nil=>intro xs;simp
 |cons n ns ih=>intro xs;refine rA fE ?_;have:=ih (cO xs n);have:=fM xs n;simp only[aF];(rename_i FW;exact L4 (Ra N0 (Pn N1 N2) (Ra N1 (Pn N3 (Kn 1)) (Gn N0 (Pn N3 M2)))) rfl FW this)
theorem n8{R:rd->an->Prop}{I:ah}{fp wr:List ah}{GG:Array GenState->Array GenState->Prop}{P:Nat->Value->Prop}{St:Nat->an->Prop}(ns:List Int)(W:WalksS prog w A.in1 I fp wr GG ns.length P St)(S:ah)(hSf:S∉fp)
  (hval:∀i v,P i v->∃t,v=.int (ns.getD i 0) t) (hb:ns.length+1<scanBound) :
  ∀(k i:Nat) (s:an),ns.length-i=k->i<=ns.length->St i s->gp prog w s.heap S ((ns.take i).foldl cO []) ->
   (∀s',Moved (S::wr) GG s s'->gp prog w s'.heap S (ns.foldl cO [])->R (.ok (.ret .none)) s') ->
   gy (bj prog w) A (.builtin "set.update.loop" ⟨[.ref S,.ref I],[]⟩) R s:=by
 have hSw:S∉wr:=fun h=>hSf (W.sub _ h);have hsub:∀b∈wr,b∈S::wr:=fun b hb=>List.mem_cons_of_mem _ hb;have keepS:∀{h h':Heap}{ys:List Int},(∀o,h.get? S=some o->h'.get? S=some o)->gp prog w h S ys->gp prog w h' S ys:=fun k ⟨es,ep,t,ho,r⟩=>⟨es,ep,t,k _ ho,r⟩;intro k
 induction k with
 |zero=>
  intro i s hk hi hst hS hR;have hin:i=ns.length:=by exact ao (L2 (Ra N0 N1 (Gn N0 N1)) rfl hi) (L3 (Rb N0 (Kn 0) (Ra N1 (Pn N0 N2) (Gn N1 N2))) rfl hk jF)
  subst hin;refine dB kX ?_;refine rA (c6 fF _) ?_;show aM _ A.in1 (mR (.ref I) >>=_) _ _ s;refine aa (W.done s _ _ hst fun s' hm=>?_);show aM _ A.in1 (ret c0) _ _ s';rw[cz]at hS;exact af (hR s' (hm.mono hsub) (keepS (fun o e=>hm.heap S o hSw e) hS))
 |succ k ih=>
  intro i s hk hi hst hS hR;have hlt:i<ns.length:=by exact L4 (Rc N0 M1 (Rb (Pn N0 N2) N3 (Gn M2 N3))) rfl hk (iE (L2 (Ra N0 N1 (Gn N0 N1)) rfl hi))
  refine dB kX ?_;refine rA (c6 fF _) ?_;show aM _ A.in1 (mR (.ref I) >>=_) _ _ s;refine aa (W.item i s _ _ hlt hst fun v s' hP hst' hm=>?_);refine ex (hval i v hP) fun t FW=>?_;subst FW;have hS':=keepS (fun o e=>hm.heap S o hSw e) hS;show aM _ A.in1 (kA [Value.int (ns.getD i 0) t] (setAdd S (.int (ns.getD i 0) t)) >>=_) _ _ s';refine aa (a9 ?_);unfold setAdd;refine a9 ?_;refine aa ((ca prog w).pyHash (k:=ns.getD i 0) (dJ _ _ _ _) ?_);have hroom:((ns.take i).foldl cO []).length+1<scanBound:=by
   have:=tu (ns.take i) [];have h2:(ns.take i).length<=ns.length:=by simp;exact L2 (Ra N0 N1 (Gn N0 N1)) rfl (bP _ _)
   simp only[cG]at this;exact L4 (Ra (Pn M0 (Kn 1)) N1 (Ra N2 (Pn (Kn 0) N3) (Ra N3 N0 (Gn (Pn M2 (Kn 1)) N1)))) rfl hb this h2
  refine jl (s:={s' with toks:=s'.toks+1}) hS' hroom fun h' hsb hS2=>?_;rw[←vW ns hlt]at hS2;refine af ⟨gk fF _,ih (i+1) _ (by exact ao (L5 (Rb N0 M1 (Rb (Pn N2 (Pn N3 (Kn 1))) (Xn 4) (Ra (Xn 4) (Pn N0 N3) (Gn N2 N1)))) rfl hk (iE (L2 (Ra M0 N1 (Gn M0 N1)) rfl hlt)) jF) (L5 (Rc N0 M1 (Rb (Pn N0 N2) N3 (Ra N3 (Pn (Xn 4) M2) (Gn N1 (Xn 4))))) rfl hk (iE (L2 (Ra N0 N1 (Gn N0 N1)) rfl hi)) jF)) hlt (W.frame _ s' _ _ hst' (Nat.le_succ _) fun b hb o e=>?_) hS2 fun s'' hm'' hS''=>?_⟩
  ·rw[hsb.2 b (fun h:b=S=>hSf (by rw[←h];exact hb))];exact e
  ·refine hR s'' (Moved.trans W.gtrans ((hm.mono hsub).then_heap (Nat.le_succ _) fun b o hb e=>?_) hm'') hS'';rw[hsb.2 b (fun h:b=S=>hb (by rw[h];exact List.mem_cons_self))];exact e
noncomputable abbrev AP(prog:ei)(w:iC)(s:an)(ns:List Int)(r:Value)(s₂:an):Prop:=r=.none/\∃h' tk,s₂={s with heap:=h',toks:=tk}/\gp prog w h' s.heap.objs.size (ns.foldl cO [])/\(∀b o,s.heap.get? b=some o->h'.get? b=some o)
theorem qg{l:ah}{items:Array Value}{ns:List Int}{Q:Value->an->Prop}
  (hh:A.handled=none) (hl:s.heap.IsList l items) (hi:IntsAre items.toList ns) (hb:ns.length+1<scanBound)
  (h:∀(h':Heap) (tk:Nat),gp prog w h' s.heap.objs.size (ns.foldl cO [])->(∀b o,s.heap.get? b=some o->h'.get? b=some o)->Q (.ref s.heap.objs.size) {s with heap:=h',toks:=tk}) :
  aM (bj prog w) A (call (.type "set") [.ref l]) Q E s:=by
 refine vn PySem.F.called_set.mro fun c tl hmro=>?_;have hmade:=PySem.F.called_set.made;have hsub:=PySem.F.called_set.sub;have hin:items.size=ns.length:=by exact rB hi.length (rA cx rfl)
 refine mS (ig ?_);show aM _ _ (callAny (.type "set") _) _ _ _;refine af ⟨jT _ (by decide +kernel),dB PySem.F.entry_type_call ?_⟩;refine rA (Around.under_plain (weight_type_call_type "set" [.ref l] []) rfl) ?_;have h1:=PySem.F.called_set.notType;have h2:=PySem.F.called_set.canCreate;have hct:=PySem.F.typeCall_set_1 (.ref l)
 repeat (any_goals (first|assumption|wp_step))
 refine eW (qh (.ref l) (E:=E) (Q₁:=yJ w s) fun led hl=>⟨led,hl,rfl,rfl⟩) fun r s₁ hr=>?_;cases r with
 |error e=>exact hr
 |ok fl=>
  cases fl with
  |ret obj=>
   refine cX hr fun led hled FW FY=>?_;clear hr;subst FW;subst FY;have hS:(s.heap.push (df led)).get? s.heap.objs.size=some (df led):=Heap.get?_push_size _ rfl;have hT:ko {s with heap:=s.heap.push (df led)} (.ref s.heap.objs.size) "set":=⟨_,hS,rfl⟩;have hli:=PySem.F.called_set.init.lookup;have hbi:=PySem.F.called_set.init.bind (.ref s.heap.objs.size)
   repeat (any_goals (first|assumption|wp_step))
   refine eW (gM (R:=wants (AP prog w s ns) E) PySem.F.called_set.init.plain PySem.F.entry_set_init (check_set_init_1 hT ?_)) fun r₂ s₂ hr₂=>?_
   ·refine cX hl fun ol hol hcl FZ=>?_;refine ex FZ fun nl hdl=>?_;obtain⟨ocls,odict,odata,oslots⟩:=ol;simp only at hcl hdl;subst hcl;subst hdl;have hol':(s.heap.push (df led)).get? l=some {cls:=.type "list",dict:=odict,data:=.seq items nl,slots:=oslots}:=Heap.get?_push_of_some _ hol;have hsls:=PySem.F.sub_list_set;have hslf:=PySem.F.sub_list_frozenset;have hne:(iF "list" ==iF "dict")=false:=by decide
    have hl1:(s.heap.push (df led)).IsList l items:=⟨_,hol',rfl,nl,rfl⟩;unfold Builtin.«set.__init__» noKeywords Builtin.Frozenset.updateFrom;generalize hPI:tE=PI
    wp_walk
    subst hPI;refine sH hl1 ?_;refine aa (wpAny_runValue ?_);have hlS:l<s.heap.objs.size:=Heap.lt_size hol;have hh3:A.in1.in1.in1.handled=none:=by simp[hh]
    have hneI:l≠(s.heap.push (df led)).objs.size:=by
     rw[Heap.size_push];exact cV (kU hlS)
    have hSf:s.heap.objs.size∉[(s.heap.push (df led)).objs.size,l]:=by
     rw[Heap.size_push];simp only[aA,ag,cH,or_false,not_or];exact⟨cV (dC _),Nat.ne_of_gt hlS⟩
    have hval:∀(i:Nat) (v:Value),items[i]?=some v->∃t,v=.int (ns.getD i 0) t:=fun i v hv=>
     PyProof.Rows.IntsAre.int_at hi i v (by refine rA dp ?_;exact hv)
    have W:=(Walks.list (prog:=prog) (w:=w) hh3 (s.heap.push (df led)).objs.size l hneI items).toS;rw[hin]at W;refine n8 ns W s.heap.objs.size hSf hval hb (ns.length-0) 0 _ (by exact ao (L1 (Gn N0 N0) rfl) (L1 (Gn N0 N0) rfl)) (aH _) ⟨⟨_,Heap.get?_push_size _ rfl,rfl,rfl⟩,(hl1.push _)⟩ ?hS0 ?hR
    case hS0=>
     have:=gp.fresh (prog:=prog) (w:=w) s.heap hled;refine iM this fun es ep t ho r=>?_;exact⟨es,ep,t,Heap.get?_push_of_some _ ho,r⟩
    case hR=>
     intro s' hm hS';obtain⟨h',g',d',tk',os'⟩:=s';have eg:g'=s.gens:=hm.gens;have ed:d'=s.drawn:=hm.drawn;have eo:os'=s.os:=hm.os;subst eg;subst ed;subst eo;show aM _ _ _ _ _ _;refine af ?_;show aM _ _ (ret c0) _ _ _;refine af ⟨rfl,h',tk',rfl,hS',fun b o e=>?_⟩;have hlt:b<s.heap.objs.size:=Heap.lt_size e;have hb1:b≠s.heap.objs.size:=cV hlt;have hb2:b≠(s.heap.push (df led)).objs.size:=by
      rw[Heap.size_push];exact cV (kU hlt)
     exact hm.heap b o (by simp only[aA,ag,cH,or_false,not_or];exact⟨hb1,hb2⟩) (Heap.get?_push_of_some _ (Heap.get?_push_of_some _ e))
   ·cases r₂ with
    |error e=>exact hr₂
    |ok fl₂=>
     cases fl₂ with
     |ret r=>
      refine ea hr₂ fun F7 F8=>?_;clear hr₂;subst F7;refine cq F8 fun h' tk F9 hS' hk'=>?_;clear F8;subst F9
      repeat (any_goals (first|assumption|wp_step))
      exact h _ _ hS' hk'
     |_=>exact hr₂.elim
  |_=>exact hr.elim
end
section
variable {prog:ei}{w:iC}{A:cA}{E:Value->an->Prop}{h:Heap}{g:Array GenState}{d:Drawn}{t:Nat}{os:OsState}
variable {nm q:Str}{C N:ah}{bs bm bmB:List Value}{hdct:Bool}{sn:List Str}{sub:List Value}{ab:Bool}{col:Option Bool}{dd:Option ah}{k0 k1 k2 k3 k5:Option Value}{B newId initId:String}
structure yq(bm:List Value)(B:String):Prop where
 hasB:bm.contains (.type B)=true
 base:bm.contains (.type "BaseException")=true
 noAttr:bm.contains (.type "AttributeError")=false
 noName:bm.contains (.type "NameError")=false
theorem vf(F:ExcBaseFacts B newId initId bmB)(T:yq bm B){M:q7}{rest:List Value}{Q:Unit->an->Prop}(hC:h.get? C=some (oO nm q C N bs bm hdct sn sub ab col dd k0 k1 k2 k3 k5 newId))
  (hq:Q () ⟨h,g,d,t,os⟩):aM M A (jt newId ⟨.ref C::rest,[]⟩) Q E ⟨h,g,d,t,os⟩:=wpAny_check_new_subU F T.hasB .base hC hq
theorem zC{R:rd->an->Prop}(F:ExcBaseFacts B newId initId bmB)(T:yq bm B){rest:List Value}(hC:h.get? C=some (oO nm q C N bs bm hdct sn sub ab col dd k0 k1 k2 k3 k5 newId))
  (hq:R (.ok (.ret (.ref (h.objs.size+1)))) ⟨(h.push {cls:=.type "tuple",data:=.seq rest.toArray}).push
   {cls:=.ref C,data:=.fields #[.ref h.objs.size,.none,.none,.none,.bool false,.none]},g,d,t,os⟩) (hrest:rest.length<=sizeLine) :
  gy (bj prog w) A (.builtin newId ⟨.ref C::rest,[]⟩) R ⟨h,g,d,t,os⟩:=by
 have hends:=F.ends;have hcB:(cp C::bm).contains (.type B)=true:=by rw[gV,T.hasB,Bool.or_true]
 have hcA:(cp C::bm).contains (.type "AttributeError")=false:=by refine rA gV (rA T.noAttr ?_);rfl
 have hcN:(cp C::bm).contains (.type "NameError")=false:=by refine rA gV (rA T.noName ?_);rfl
 refine codeAny_builtinAt F.entry ?_;unfold Builtin.«BaseException.__new__»;refine PySem.wpAt_bind ?_;show PySem.wpAt _ _ _ (stack >>=_) _ _ _;refine PySem.wpAt_bind (PySem.wpAt_stack fun p below=>PySem.wpAt_of_wpAny ?_)
 wp_walk
 refine PySem.wpAt_of_wpAny ?_;refine rA F.owner ?_
 repeat (first|with_reducible refine wpAny_madeHere_exc F.canon hC ?_|with_reducible refine d5 hC ?_|(with_reducible refine km hC ?_;first|rw[hcB]|rw[hcA]|rw[hcN])|wp_step)
 show R _ _;rw[Heap.size_push];exact hq
theorem xw(F:ExcBaseFacts B newId initId bmB)(T:yq bm B){rest:List Value}{fI:ah}{R:rd->an->Prop}(hC:h.get? C=some (oO nm q C N bs bm hdct sn sub ab col dd k0 k1 k2 k3 k5 newId))
  (hi:Looks (bj prog w) h (rj (.ref C) "__init__") (some (.ref fI))) (hb:∀self,Looks (bj prog w) h (bindSpecial (.ref fI) self) (.ref fI,[self]))
  (hq:∀h' e,Heap.MadeExcOf h h' e (.ref C) rest->gy (bj prog w) (A.under (.builtin "type.__call__" ⟨.ref C::rest,[]⟩)) (.call (.ref fI) ⟨.ref e::rest,[]⟩)
   (fun r s'=>match r with|.ok (.ret v)=>v=.none/\R (.ok (.ret (.ref e))) s'|.ok _=>False|.error x=>R (.error x) s') ⟨h',g,d,t,os⟩) (hrest:rest.length<=sizeLine) :
  gy (bj prog w) A (.call (.ref C) ⟨rest,[]⟩) R ⟨h,g,d,t,os⟩:=by
 have f1:=tc_lookup;have f2:=tc_bind (.ref C);have hT:(⟨h,g,d,t,os⟩:an).TypeIs (.ref C) "type":=⟨_,hC,rfl⟩;refine ig ?_;show aM _ _ (callAny (.ref C) _) _ _ _
 repeat (any_goals (first|assumption|with_reducible refine d5 hC ?_|wp_step))
 refine⟨rfl,?_⟩;refine codeAny_call_builtin_at (jT _ (by decide +kernel)) entry_typeCall (wpAny_check_type_call_sub hC ?_)
 repeat (first|with_reducible refine d5 hC ?_|with_reducible refine wpAny_madeBy_exc hC ?_|wp_step)
 refine codeAny_call_builtin_code (jT _ F.quiet) (vf F T hC ?_);refine zC F T hC ?_ hrest;have k:∀b o,h.get? b=some o->((h.push {cls:=.type "tuple",data:=.seq rest.toArray}).push {cls:=.ref C,data:=.fields #[.ref h.objs.size,.none,.none,.none,.bool false,.none]}).get? b=some o:=fun b o e=>Heap.get?_push_of_some _ (Heap.get?_push_of_some _ e);have hC₁:=k _ _ hC;have hget:((h.push {cls:=.type "tuple",data:=.seq rest.toArray}).push
   {cls:=.ref C,data:=.fields #[.ref h.objs.size,.none,.none,.none,.bool false,.none]}).get? (h.objs.size+1)=some
   {cls:=.ref C,data:=.fields #[.ref h.objs.size,.none,.none,.none,.bool false,.none]}:=by heap_get
 have hcC:(cp C::bm).contains (.ref C)=true:=by simp
 show aM _ _ _ _ _ ⟨(h.push {cls:=.type "tuple",data:=.seq rest.toArray}).push {cls:=.ref C,data:=.fields #[.ref h.objs.size,.none,.none,.none,.bool false,.none]},g,d,t,os⟩;unfold isInstance
 repeat (first|with_reducible refine d5 hget ?_|(with_reducible refine km hC₁ ?_;refine rA hcC ?_)|wp_step)
 show aM _ _ (rj (.ref C) _) _ _ _;refine hi _ _ _ _ k ?_;refine a9 (aa ?_);refine hb _ _ _ _ _ k ?_;refine aa (mS ?_);refine eW (hq _ (h.objs.size+1) ⟨k,Heap.get?_none_of_le (Nat.le_succ _),h.objs.size,hget,Heap.get?_none_of_le (ax _),?_⟩) fun r s' hr=>?_
 ·exact Heap.get?_push_of_some _ (Heap.get?_push_at rfl rfl)
 ·rcases r with x|(_|_|_|v)
  ·exact hr
  ·exact hr.elim
  ·exact hr.elim
  ·exact hr.elim
  ·refine ea hr fun FW hQ=>?_;clear hr;subst FW
   wp_walk
   exact hQ
end
theorem o8:rj (.type "list") "keys"=pure none:=by rw[typeLookup_type,nH];kernel_rfl
theorem tj{prog:ei}{w:iC}{A:cA}{E:Value->an->Prop}{s:an}{a:ah}{xs:Array Value}{k:Nat}{sl:Array (Option Value)}{Q:Option Value->an->Prop}
  (hx:s.heap.get? a=some {cls:=.type "list",dict:=none,data:=.seq xs k,slots:=sl}) (hA:A.handled=none)
  (h:∀h' tk,(∀b o,s.heap.get? b=some o->h'.get? b=some o)->Q none {s with heap:=h',toks:=tk}) :
  aM (bj prog w) A (getAttr? (.ref a) "keys") Q E s:=by
 obtain⟨hp,g,d,tk,os⟩:=s;have hT:∀tk',(⟨hp,g,d,tk',os⟩:an).TypeIs (.ref a) "list":=fun zz=>⟨_,hx,rfl⟩;have f1:=sub_AttributeError;have f3:=F.slot_list_getattribute.lookup;have f4:=F.slot_list_getattribute.bind (.ref a);have f5:=am_list_getattr_none;have hname:(["__module__","__name__","__qualname__","__doc__","__annotations__"]:List Str).contains "keys"=false:=by decide +kernel
 unfold getAttr? getAttrBy? getAttrBy
 repeat (any_goals (first|assumption|exact hT _|((with_reducible show aM _ _ (call (Value.builtin "list.__getattribute__") _ _) _ _ _);refine re F.slot_list_getattribute (hT _) am_entry_list_getattribute (F.args_list_getattribute_2 _ _) (meets_getattribute_miss_list a xs k sl "keys" _ o8 hname) ⟨hx,hA,fun h' tk' e hx'=>?_⟩)|wp_step))
 refine vn hx'.there fun t' u' he=>?_;show aM _ _ (getattributeRaised _ _ _ _ _ _ _) _ _ _;unfold getattributeRaised
 repeat (any_goals (first|assumption|wp_step))
 exact h _ _ hx'.of.keeps
namespace F
theorem entry_dict_update_loop:entryFor table "dict.update.loop"=some Builtin.«dict.update.loop»:=entryFor_of_tree (by kernel_rfl)
theorem plain_dict_update_loop:plainId "dict.update.loop"=true:=by decide +kernel
end F
noncomputable def jS(kvs:List (Int×Value)):List (Int×Value):=kvs.foldl (fun acc p=>ri acc p.1 p.2) []
theorem uH(kvs:List (Int×Value)){i:Nat}{p:Int×Value}(hi:kvs[i]?=some p):jS (kvs.take (i+1))=ri (jS (kvs.take i)) p.1 p.2:=by
 unfold jS;refine rA aT (rA dh (rA hi ?_))
 rfl
theorem rQ(kvs:List (Int×Value))(k:Int)(v:Value):(ri kvs k v).length<=kvs.length+1:=by
 unfold ri;split <;> simp
theorem rR(kvs:List (Int×Value)):(jS kvs).length<=kvs.length:=by
 have:∀(l:List (Int×Value)) (acc:List (Int×Value)),(l.foldl (fun acc p=>ri acc p.1 p.2) acc).length<=acc.length+l.length:=by
  intro l
  induction l with
  |nil=>intro acc;simp
  |cons p l ih=>intro acc;refine rA fE ?_;have:=ih (ri acc p.1 p.2);have:=rQ acc p.1 p.2;simp only[aF];lia
 have:=this kvs [];unfold jS;simpa using this
theorem m7{prog:ei}{w:iC}{A:cA}{R:rd->an->Prop}{h0:Heap}{l S I:ah}(hSI:S≠I)(hlS:l≠S)(hlI:l≠I){items:Array Value}{kvs:List (Int×Value)}(hlen:items.size=kvs.length)
  (hit:∀(i:Nat) (v:Value) (p:Int×Value),items[i]?=some v->kvs[i]?=some p->∃(ti:ah) (t:Tok) (o:Obj) (n:Nat),v=cp ti/\ti≠S/\ti≠I/\h0.get? ti=some o/\o.cls=.type "tuple"/\o.data=.seq #[.int p.1 t,p.2] n) (hL:h0.IsList l items) (hh:A.handled=none) (hb:kvs.length<=sizeLine) :
  ∀(n i:Nat) (t:Tok) (s:an),items.size-i=n->i<=items.size->s.heap.IsListIter I l i->s.heap.DictOf (ca prog w) S (jS (kvs.take i))->(∀b o,b≠S->b≠I->h0.get? b=some o->s.heap.get? b=some o) ->
   (∀h' tk,h'.DictOf (ca prog w) S (jS kvs)->(∀b o,b≠S->b≠I->h0.get? b=some o->h'.get? b=some o)->R (.ok (.ret .none)) {s with heap:=h',toks:=tk}) ->
   gy (bj prog w) A (.builtin "dict.update.loop" ⟨[.ref S,.ref I,.int i t,.none],[]⟩) R s:=by
 intro n
 induction n with
 |zero=>
  intro i t s hk hi hI hS hkeep hR;have hin:items[i]?=none:=by rw[hG];exact L3 (Rb N0 (Kn 0) (Ra N1 (Pn N0 N2) (Gn N1 N2))) rfl hk jF
  refine dB F.entry_dict_update_loop ?_;refine rA (c6 F.plain_dict_update_loop _) ?_;show aM _ A.in1 (mR (.ref I) >>=_) _ _ s;have hL':s.heap.IsList l items:=by refine bx hL fun o ho r=>?_;exact⟨o,hkeep l o hlS hlI ho,r⟩
  refine aa (wpAny_pyNext_list_end (by simp[hh]) hI hL' hin fun h' hx=>?_);show aM _ A.in1 (Builtin.Dict.addKeywords S [] >>=_) _ _ _;refine aa (af (af ?_));have e:kvs.take i=kvs:=fw (by exact L4 (Rc N0 N1 (Rb N2 (Kn 0) (Ra N0 (Pn N2 N3) (Gn N1 N3)))) rfl hlen hk jF);rw[e]at hS;refine hR h' s.toks ?_ fun b o n1 n2 e=>hx b o n2 (hkeep b o n1 n2 e);refine iM hS fun o es ep ho r=>?_;exact⟨o,es,ep,hx S o hSI ho,r⟩
 |succ n ih=>
  intro i t s hk hi hI hS hkeep hR;have hlt:i<items.size:=by exact L4 (Rc N0 M1 (Rb (Pn N0 N2) N3 (Gn M2 N3))) rfl hk (iE (L2 (Ra N0 N1 (Gn N0 N1)) rfl hi))
  obtain⟨v,hv⟩:∃v,items[i]?=some v:=⟨_,cC hlt⟩;obtain⟨p,hp⟩:∃p,kvs[i]?=some p:=⟨_,ac (by exact BB hlt hlen)⟩;refine vn (hit i v p hv hp) fun ti tt FW=>?_;refine cq FW fun o nn FY hn1 FZ=>?_;clear FW;subst FY;obtain⟨hn2,ho,hc,hd⟩:=FZ;refine dB F.entry_dict_update_loop ?_;refine rA (c6 F.plain_dict_update_loop _) ?_;show aM _ A.in1 (mR (.ref I) >>=_) _ _ s;have hL':s.heap.IsList l items:=by refine bx hL fun o ho r=>?_;exact⟨o,hkeep l o hlS hlI ho,r⟩
  refine aa (wpAny_pyNext_list_item hI hL' hv fun h' hI' hsb=>?_);have ho':h'.get? ti=some o:=hsb.extBut ti o hn2 (hkeep ti o hn1 hn2 ho);have hS':h'.DictOf (ca prog w) S (jS (kvs.take i)):=hS.sameBut hsb hSI;dsimp only;refine aa (a9 ?_);refine aa (wpAny_tryCatch ?_);unfold Builtin.Dict.pairItems;have hT:ko {s with heap:=h'} (.ref ti) "tuple":=⟨o,ho',hc⟩;refine aa (sI hT ?_);refine rA (if_pos (by decide)) ?_;refine aa (oW ho' hd (af ?_));dsimp only[Option.getD];refine a9 ?_;have hsz:(jS (kvs.take i)).length<=sizeLine:=by
   have h1:=rR (kvs.take i);have h2:(kvs.take i).length<=kvs.length:=by simp;exact L2 (Ra N0 N1 (Gn N0 N1)) rfl (bP _ _)
   lia
  refine wpAny_dictSet_pairs (dJ _ _ p.1 tt) hS' (fun h'' hS'' hsb'=>?_) hsz;rw[←uH kvs hp]at hS'';refine af ⟨gk F.plain_dict_update_loop _,?_⟩;refine ih (i+1) 0 _ (by exact ao (L5 (Rb N0 M1 (Rb (Pn N2 (Pn N3 (Kn 1))) (Xn 4) (Ra (Xn 4) (Pn N0 N3) (Gn N2 N1)))) rfl hk (iE (L2 (Ra M0 N1 (Gn M0 N1)) rfl hlt)) jF) (L5 (Rc N0 M1 (Rb (Pn N0 N2) N3 (Ra N3 (Pn (Xn 4) M2) (Gn N1 (Xn 4))))) rfl hk (iE (L2 (Ra N0 N1 (Gn N0 N1)) rfl hi)) jF)) hlt (hI'.extBut hsb'.extBut (Ne.symm hSI)) hS'' (fun b o n1 n2 e=>hsb'.extBut b o n1 (hsb.extBut b o n2 (hkeep b o n1 n2 e))) fun h3 tk h3S h3k=>hR h3 tk h3S h3k
theorem o4{prog:ei}{w:iC}{A:cA}{E:Value->an->Prop}{s:an}{l:ah}{items:Array Value}{nl:Nat}{sl:Array (Option Value)}{kvs:List (Int×Value)}{Q:Value->an->Prop}(hlen:items.size=kvs.length)
  (hit:∀(i:Nat) (v:Value) (p:Int×Value),items[i]?=some v->kvs[i]?=some p->∃(ti:ah) (t:Tok) (o:Obj) (n:Nat),v=cp ti/\s.heap.get? ti=some o/\o.cls=.type "tuple"/\o.data=.seq #[.int p.1 t,p.2] n)
  (hL:s.heap.get? l=some {cls:=.type "list",dict:=none,data:=.seq items nl,slots:=sl}) (hh:A.handled=none) (hb:kvs.length<=sizeLine)
  (h:∀h' tk,h'.DictOf (ca prog w) s.heap.objs.size (jS kvs)->(∀b o,s.heap.get? b=some o->h'.get? b=some o)->Q (.ref s.heap.objs.size) {s with heap:=h',toks:=tk}) :
  aM (bj prog w) A (call (.type "dict") [.ref l]) Q E s:=by
 refine callType_codes (Q₁:=fun obj s₁=>obj=.ref s.heap.objs.size/\s₁={s with heap:=s.heap.push {cls:=.type "dict",data:=.dict #[]} }) PySem.F.kt_called_dict (PySem.F.kt_typeCall_dict_1 _) PySem.F.entry_dict_init (kt_code_dict_new _ ⟨rfl,rfl⟩) ?_;refine fun obj s₁ FW=>ea FW fun FY FZ=>?_;clear FW;subst FY;subst FZ;have hnew:(s.heap.push {cls:=.type "dict",data:=.dict #[]}).DictOf (ca prog w) s.heap.objs.size []:=Heap.DictOf.new s.heap;have hL':(s.heap.push {cls:=.type "dict",data:=.dict #[]}).get? l=some {cls:=.type "list",dict:=none,data:=.seq items nl,slots:=sl}:=Heap.get?_push_of_some _ hL;have hT:ko {s with heap:=s.heap.push {cls:=.type "dict",data:=.dict #[]} } (.ref l) "list":=⟨_,hL',rfl⟩;refine⟨hnew.typeIs,PySem.F.args_dict_init_2 _ _,?_⟩;unfold Builtin.«dict.__init__»;refine aa ?_;unfold Builtin.Dict.selfAndRest;refine aa (wpAny_notOrdered_dict hnew.typeIs ?_);show aM _ _ (pure (s.heap.objs.size,[cp l])) _ _ _;refine af ?_;show aM _ _ (Builtin.Dict.updateFrom "dict.__init__" s.heap.objs.size (.ref l) [] .none) _ _ _;unfold Builtin.Dict.updateFrom;refine aa (sI hT ?_);refine rA (if_pos (by decide)) ?_;refine aa (tj (s:={s with heap:=s.heap.push {cls:=.type "dict",data:=.dict #[]} }) hL' (by show A.handled=none;exact hh) fun h1 tk1 k1=>?_);refine rA (if_pos (by rfl)) ?_;refine aa (fW ?_);have hL1:=k1 _ _ hL';refine aa (sH ⟨_,hL1,rfl,nl,rfl⟩ ?_);refine af ⟨gk F.plain_dict_update_loop _,?_⟩;have k2:∀b o,s.heap.get? b=some o->h1.get? b=some o:=fun b o e=>k1 b o (Heap.get?_push_of_some _ e);have hlt:∀b o,s.heap.get? b=some o->b≠s.heap.objs.size/\b≠h1.objs.size:=fun b o e=>⟨cV (Heap.lt_size e),cV (Heap.lt_size (k2 b o e))⟩;have hS1:h1.DictOf (ca prog w) s.heap.objs.size []:=by refine iM hnew fun o es ep ho r=>?_;exact⟨o,es,ep,k1 _ _ ho,r⟩
 have hSlt:s.heap.objs.size≠h1.objs.size:=by refine iM hS1 fun o es ep ho r=>?_;exact cV (Heap.lt_size ho)
 refine m7 (h0:=s.heap) (l:=l) (I:=h1.objs.size) hSlt (hlt _ _ hL).1 (hlt _ _ hL).2 hlen (fun i v p hv hp=>?_) ⟨_,hL,rfl,nl,rfl⟩ (by show A.handled=none;exact hh) hb _ 0 0 _ rfl (aH _) ⟨_,Heap.get?_push_size _ rfl,rfl,rfl⟩ (hS1.push _) (fun b o zz zz e=>Heap.get?_push_of_some _ (k2 b o e)) fun h' tk hS hk=>⟨rfl,h h' tk hS fun b o e=>hk b o (hlt b o e).1 (hlt b o e).2 e⟩;refine vn (hit i v p hv hp) fun ti t F7=>?_;refine cq F7 fun o n e ho F8=>?_;obtain⟨hc,hd⟩:=F8;exact⟨ti,t,o,n,e,(hlt _ _ ho).1,(hlt _ _ ho).2,ho,hc,hd⟩
inductive V where
 |none
 |bool (b:Bool)
 |int (i:Int)
 |str (s:Str)
 |ref (a:ah)
 |glob (v:Value)
 |tup (xs:List V)
 |lst (xs:List V)
 |dct (kvs:List (Int×V))
 |sdct (kvs:List (Str×V))
 |set (xs:List Int)
 |inst (c:ah) (d:V)
 |adict (fs:List (Str×V))
 |rng (lo hi:Int)
 |exc (c:ah) (d:V)
 |exn (c:ah) (d:Option ah)
structure GC where
 prog:ei
 w:iC
 K:kB
 base:Heap
 p:ei
 loose:List Str
 mg:Str->Option Value
 mb:Str->Option Value
 os:OsState
 kin:K.In base
 top:TopRead p loose mg mb base
noncomputable def yx(h:Heap)(a c dx:ah):Prop:=∃o,h.get? a=some o/\o.cls=.ref c/\o.dict=some dx/\∃vs,o.data=.fields vs
noncomputable def yv(h:Heap)(a c:ah)(d:Option ah):Prop:=∃vs,h.get? a=some {cls:=.ref c,dict:=d,data:=.fields vs,slots:=#[]}/\vs.size=6/\vs[1]?=some .none
noncomputable def tI(h:Heap)(a:ah)(items:Array Value):Prop:=∃n,h.get? a=some {cls:=.type "list",dict:=none,data:=.seq items n,slots:=#[]}
theorem tI.isList{h:Heap}{a:ah}{items:Array Value}(x:tI h a items):h.IsList a items:=by refine ex x fun n e=>?_;exact⟨_,e,rfl,n,rfl⟩
inductive J where
 |v (x:V) (c:Value)
 |vs (xs:List V) (cs:List Value)
 |k (xs:List (Int×V)) (cs:List (Int×Value))
 |sk (xs:List (Str×V)) (cs:List (Str×Value))
 |f (xs:List (Str×V)) (m:Str->Option Value)
 |o (x:V) (a:ah)
inductive Rl(G:GC)(h:Heap)(F:ah->Prop):J->Prop
 |none:Rl G h F (.v .none .none)
 |bool (b:Bool):Rl G h F (.v (.bool b) (.bool b))
 |int (i:Int) (t:Tok):Rl G h F (.v (.int i) (.int i t))
 |str (s:Str) (t:Tok):Rl G h F (.v (.str s) (.str s t))
 |ref (a:ah):Rl G h F (.v (.ref a) (.ref a))
 |glob (v:Value):Rl G h F (.v (.glob v) v)
 |fz {x:V}{a:ah}:F a->Rl G h F (.o x a)->Rl G h F (.v x (.ref a))
 |nil:Rl G h F (.vs [] [])
 |cons {x:V}{c:Value}{xs:List V}{cs:List Value}:Rl G h F (.v x c)->Rl G h F (.vs xs cs)->Rl G h F (.vs (x::xs) (c::cs))
 |knil:Rl G h F (.k [] [])
 |kcons {k:Int}{x:V}{c:Value}{xs cs}:Rl G h F (.v x c)->Rl G h F (.k xs cs)->Rl G h F (.k ((k,x)::xs) ((k,c)::cs))
 |sknil:Rl G h F (.sk [] [])
 |skcons {k:Str}{x:V}{c:Value}{xs cs}:Rl G h F (.v x c)->Rl G h F (.sk xs cs)->Rl G h F (.sk ((k,x)::xs) ((k,c)::cs))
 |fnil {m:Str->Option Value}:Rl G h F (.f [] m)
 |fcons {k:Str}{x:V}{c:Value}{xs}{m:Str->Option Value}:m k=some c->Rl G h F (.v x c)->Rl G h F (.f xs m)->Rl G h F (.f ((k,x)::xs) m)
 |tup {xs:List V}{cs:List Value}{a:ah}:IsTup h a cs.toArray->Rl G h F (.vs xs cs)->Rl G h F (.o (.tup xs) a)
 |lst {xs:List V}{cs:List Value}{a:ah}:tI h a cs.toArray->Rl G h F (.vs xs cs)->Rl G h F (.o (.lst xs) a)
 |dct {xs:List (Int×V)}{cs:List (Int×Value)}{a:ah}:(a==ip)=false->h.DictOf (ca G.prog G.w) a cs->Rl G h F (.k xs cs)->Rl G h F (.o (.dct xs) a)
 |sdct {xs:List (Str×V)}{cs:List (Str×Value)}{a:ah}:(a==ip)=false->h.DictOf (strKind G.prog G.w) a cs->Rl G h F (.sk xs cs)->Rl G h F (.o (.sdct xs) a)
 |set {xs:List Int}{a:ah}:gp G.prog G.w h a xs->xs.Nodup->Rl G h F (.o (.set xs) a)
 |inst {c dx a:ah}{d:V}:h.get? a=some (po c dx)->Rl G h F (.v d (.ref dx))->Rl G h F (.o (.inst c d) a)
 |adict {xs:List (Str×V)}{m:Str->Option Value}{a:ah}:h.Ns1 a m->(∀n,xs.lookup n=bc->m n=bc)->Rl G h F (.f xs m)->Rl G h F (.o (.adict xs) a)
 |rng {lo hi:Int}{t u v:Tok}{a:ah}:IsRange h a lo hi 1 t u v->lo.natAbs<2^62->hi.natAbs<2^62->Rl G h F (.o (.rng lo hi) a)
 |exn {c a:ah}{d:Option ah}:yv h a c d->Rl G h F (.o (.exn c d) a)
 |exc {c dx a:ah}{d:V}:yx h a c dx->Rl G h F (.v d (.ref dx))->Rl G h F (.o (.exc c d) a)
noncomputable abbrev VR(G:GC)(h:Heap)(F:ah->Prop)(x:V)(c:Value):Prop:=Rl G h F (.v x c)
noncomputable abbrev d7(G:GC)(h:Heap)(F:ah->Prop)(xs:List V)(cs:List Value):Prop:=Rl G h F (.vs xs cs)
noncomputable abbrev OR(G:GC)(h:Heap)(F:ah->Prop)(x:V)(a:ah):Prop:=Rl G h F (.o x a)
theorem Rl.mono{G:GC}{h h':Heap}{F F':ah->Prop}(hF:∀a,F a->F' a)(hk:∀a o,F a->h.get? a=some o->h'.get? a=some o){j:J}
  (r:Rl G h F j):(∀x a,j=.o x a->∀o,h.get? a=some o->h'.get? a=some o)->Rl G h' F' j:=by
 induction r with
 |none=>intro _;exact .none
 |bool b=>intro _;exact .bool b
 |int i t=>intro _;exact .int i t
 |str s t=>intro _;exact .str s t
 |ref a=>intro _;exact .ref a
 |glob v=>intro _;exact .glob v
 |fz hf _ ih=>intro _;exact .fz (hF _ hf) (ih fun x a e o ho=>by cases e;exact hk _ o hf ho)
 |nil=>intro _;exact .nil
 |cons _ _ i1 i2=>intro _;exact .cons (i1 fun zz zz e=>by cases e) (i2 fun zz zz e=>by cases e)
 |knil=>intro _;exact .knil
 |kcons _ _ i1 i2=>intro _;exact .kcons (i1 fun zz zz e=>by cases e) (i2 fun zz zz e=>by cases e)
 |sknil=>intro _;exact .sknil
 |skcons _ _ i1 i2=>intro _;exact .skcons (i1 fun zz zz e=>by cases e) (i2 fun zz zz e=>by cases e)
 |fnil=>intro _;exact .fnil
 |fcons e _ _ i1 i2=>intro _;exact .fcons e (i1 fun zz zz e=>by cases e) (i2 fun zz zz e=>by cases e)
 |tup ht _ ih=>
  intro k;refine bx ht fun o ho r=>?_;exact .tup ⟨o,k _ _ rfl o ho,r⟩ (ih fun zz zz e=>by cases e)
 |lst ht _ ih=>
  intro k;refine ex ht fun n ho=>?_;exact .lst ⟨n,k _ _ rfl _ ho⟩ (ih fun zz zz e=>by cases e)
 |dct hz ht _ ih=>
  intro k;refine iM ht fun o es ep ho r=>?_;exact .dct hz ⟨o,es,ep,k _ _ rfl o ho,r⟩ (ih fun zz zz e=>by cases e)
 |sdct hz ht _ ih=>
  intro k;refine iM ht fun o es ep ho r=>?_;exact .sdct hz ⟨o,es,ep,k _ _ rfl o ho,r⟩ (ih fun zz zz e=>by cases e)
 |set ht hn=>
  intro k;refine iM ht fun es ep t ho r=>?_;exact .set ⟨es,ep,t,k _ _ rfl _ ho,r⟩ hn
 |inst ht _ ih=>intro k;exact .inst (k _ _ rfl _ ht) (ih fun zz zz e=>by cases e)
 |adict ht hn _ ih=>
  intro k;refine iM ht fun o es ep ho r=>?_;exact .adict ⟨o,es,ep,k _ _ rfl o ho,r⟩ hn (ih fun zz zz e=>by cases e)
 |rng ht h1 h2=>intro k;exact .rng (k _ _ rfl _ ht) h1 h2
 |exn ht=>
  intro k;refine bx ht fun vs ho r=>?_;exact .exn ⟨vs,k _ _ rfl _ ho,r⟩
 |exc ht _ ih=>
  intro k;refine bx ht fun o ho r=>?_;exact .exc ⟨o,k _ _ rfl o ho,r⟩ (ih fun zz zz e=>by cases e)
section
variable {G:GC}{h h':Heap}{F F':ah->Prop}
theorem VR.mono{x:V}{c:Value}(hF:∀a,F a->F' a)(hk:∀a o,F a->h.get? a=some o->h'.get? a=some o)(r:VR G h F x c):VR G h' F' x c :=
 Rl.mono hF hk r fun zz zz e=>by cases e
theorem d7.mono{x:List V}{c:List Value}(hF:∀a,F a->F' a)(hk:∀a o,F a->h.get? a=some o->h'.get? a=some o)(r:d7 G h F x c):d7 G h' F' x c :=
 Rl.mono hF hk r fun zz zz e=>by cases e
theorem OR.mono{x:V}{a:ah}(hF:∀a,F a->F' a)(hk:∀a o,F a->h.get? a=some o->h'.get? a=some o)(ha:∀o,h.get? a=some o->h'.get? a=some o)(r:OR G h F x a):OR G h' F' x a :=
 Rl.mono hF hk r fun zz zz e=>by cases e;exact ha
noncomputable def Inv(G:GC)(h:Heap)(F:ah->Prop):J->Prop
 |.o x a=>match x with
  |.tup xs=>∃cs,IsTup h a cs.toArray/\d7 G h F xs cs
  |.lst xs=>∃cs,tI h a cs.toArray/\d7 G h F xs cs
  |.dct xs=>∃cs,(a==ip)=false/\h.DictOf (ca G.prog G.w) a cs/\Rl G h F (.k xs cs)
  |.sdct xs=>∃cs,(a==ip)=false/\h.DictOf (strKind G.prog G.w) a cs/\Rl G h F (.sk xs cs)
  |.set xs=>gp G.prog G.w h a xs/\xs.Nodup
  |.inst c d=>∃dx,h.get? a=some (po c dx)/\VR G h F d (.ref dx)
  |.adict xs=>∃m,h.Ns1 a m/\(∀n,xs.lookup n=bc->m n=bc)/\Rl G h F (.f xs m)
  |.rng lo hi=>∃t u v,IsRange h a lo hi 1 t u v/\lo.natAbs<2^62/\hi.natAbs<2^62
  |.exn c d=>yv h a c d
  |.exc c d=>∃dx,yx h a c dx/\VR G h F d (.ref dx)
  |_=>False
 |.vs xs cs=>match xs with
  |[]=>cs=[]
  |x::xs=>∃c cs',cs=c::cs'/\VR G h F x c/\d7 G h F xs cs'
 |.k xs cs=>match xs with
  |[]=>cs=[]
  |(n,x)::xs=>∃c cs',cs=(n,c)::cs'/\VR G h F x c/\Rl G h F (.k xs cs')
 |.sk xs cs=>match xs with
  |[]=>cs=[]
  |(n,x)::xs=>∃c cs',cs=(n,c)::cs'/\VR G h F x c/\Rl G h F (.sk xs cs')
 |.f xs m=>match xs with
  |[]=>True
  |(n,x)::xs=>∃c,m n=some c/\VR G h F x c/\Rl G h F (.f xs m)
 |.v x c=>match x with
  |.none=>c=.none
  |.bool b=>c=.bool b
  |.int i=>∃t,c=.int i t
  |.str y=>∃t,c=.str y t
  |.ref a=>c=.ref a
  |.glob v=>c=v
  |x=>∃a,c=.ref a/\F a/\OR G h F x a
theorem Rl.inv{G:GC}{h:Heap}{F:ah->Prop}{j:J}(r:Rl G h F j):Inv G h F j:=by
 induction r with
 |none=>exact rfl
 |bool b=>exact rfl
 |int i t=>exact⟨t,rfl⟩
 |str s t=>exact⟨t,rfl⟩
 |ref a=>exact rfl
 |glob v=>exact rfl
 |@fz x a hf q ih=>cases x <;> first|exact⟨a,rfl,hf,q⟩|exact False.elim ih
 |nil=>exact rfl
 |cons a b=>exact⟨_,_,rfl,a,b⟩
 |knil=>exact rfl
 |kcons a b=>exact⟨_,_,rfl,a,b⟩
 |sknil=>exact rfl
 |skcons a b=>exact⟨_,_,rfl,a,b⟩
 |fnil=>exact True.intro
 |fcons e a b=>exact⟨_,e,a,b⟩
 |tup a b=>exact⟨_,a,b⟩
 |lst a b=>exact⟨_,a,b⟩
 |dct z a b=>exact⟨_,z,a,b⟩
 |sdct z a b=>exact⟨_,z,a,b⟩
 |set a b=>exact⟨a,b⟩
 |inst a b=>exact⟨_,a,b⟩
 |adict a n b=>exact⟨_,a,n,b⟩
 |rng a b c=>exact⟨_,_,_,a,b,c⟩
 |exn a=>exact a
 |exc a b=>exact⟨_,a,b⟩
theorem VR.int_inv{i:Int}{c:Value}(r:VR G h F (.int i) c):∃t,c=.int i t:=r.inv
theorem VR.bool_inv{b:Bool}{c:Value}(r:VR G h F (.bool b) c):c=.bool b:=r.inv
theorem VR.none_inv{c:Value}(r:VR G h F .none c):c=.none:=r.inv
theorem VR.str_inv{x:Str}{c:Value}(r:VR G h F (.str x) c):∃t,c=.str x t:=r.inv
theorem VR.glob_inv{v c:Value}(r:VR G h F (.glob v) c):c=v:=r.inv
theorem VR.ref_inv{a:ah}{c:Value}(r:VR G h F (.ref a) c):c=.ref a:=r.inv
theorem Rl.kcons_inv{n:Int}{x:V}{xs cs}(r:Rl G h F (.k ((n,x)::xs) cs)):∃c cs',cs=(n,c)::cs'/\VR G h F x c/\Rl G h F (.k xs cs'):=r.inv
theorem Rl.skcons_inv{n:Str}{x:V}{xs cs}(r:Rl G h F (.sk ((n,x)::xs) cs)):∃c cs',cs=(n,c)::cs'/\VR G h F x c/\Rl G h F (.sk xs cs'):=r.inv
theorem Rl.fcons_inv{n:Str}{x:V}{xs m}(r:Rl G h F (.f ((n,x)::xs) m)):∃c,m n=some c/\VR G h F x c/\Rl G h F (.f xs m):=r.inv
end
noncomputable abbrev HH:=ah->Option V
structure St where
 m:List (Str×V)
 H:HH
structure Fm where
 env:Env
 own:List ah
 caps:List Str
structure Sc where
 scope:Scope
 caps:List Str
noncomputable def Fm.sc(fm:Fm):Sc:=⟨fm.env.scope,fm.caps⟩
noncomputable def Sc.kindOf(sc:Sc)(x:Str):Option NameKind:=sc.scope.names.lookup x
noncomputable def upd(H:HH)(a:ah)(x:V):HH:=fun b=>if b=a then some x else H b
theorem aw{H:HH}{a:ah}{x:V}:upd H a x a=some x:=by simp[upd]
theorem bE{H:HH}{a b:ah}{x:V}(h:b≠a):upd H a x b=H b:=by simp[upd,h]
noncomputable def ce(o:Obj):Prop:=∀vs,o.data≠.fields vs
noncomputable def ln(h':Heap)(b:ah)(o:Obj):Prop:=∃sl,h'.get? b=some {o with slots:=sl}/\((∃vs,o.data=.fields vs)->sl=o.slots)
theorem ln.of{h':Heap}{b:ah}{o:Obj}(e:h'.get? b=some o):ln h' b o:=⟨o.slots,e,fun zz=>rfl⟩
theorem ln.trans{h1 h2:Heap}{b:ah}{o:Obj}(x:ln h1 b o)(y:∀o1,h1.get? b=some o1->ln h2 b o1):ln h2 b o:=by
 refine bx x fun sl e f=>?_;refine bx (y _ e) fun sl' e' f'=>?_;exact⟨sl',e',fun q=>(f' q).trans (f q)⟩
theorem ln.fields{h':Heap}{b:ah}{o:Obj}{vs}(x:ln h' b o)(e:o.data=.fields vs):h'.get? b=some o:=by
 refine bx x fun sl e' f=>?_;rw[e',f ⟨vs,e⟩]
structure bQ(own:List ah)(H:HH)(F:ah->Prop)(h:Heap)(H':HH)(F':ah->Prop)(h':Heap):Prop where
 fz:∀a,F a->F' a
 keepF:∀b o,h.get? b=some o->F b->h'.get? b=some o
 keepR:∀b o,h.get? b=some o->H b=none->b∉own->ln h' b o
 live:∀b o,h.get? b=some o->∃o',h'.get? b=some o'
 nf:∀b o,h.get? b=some o->ce o->∃o',h'.get? b=some o'/\ce o'
 fnew:∀a,F' a->F a∨h.get? a=none∨∃x,H a=some x
 hnew:∀a x,H' a=some x->h.get? a=none∨∃y,H a=some y
theorem bQ.refl{own H F h}:bQ own H F h H F h :=
 ⟨fun zz x=>x,fun zz zz e zz=>e,fun zz o e zz zz=>.of e,fun zz o e=>⟨o,e⟩,fun zz o e n=>⟨o,e,n⟩,fun zz x=>.inl x,fun zz x e=>.inr ⟨x,e⟩⟩
theorem bQ.trans{own H F h H1 F1 h1 H2 F2 h2}(x:bQ own H F h H1 F1 h1)(y:bQ own H1 F1 h1 H2 F2 h2):bQ own H F h H2 F2 h2 where
 fz:=fun a e=>y.fz a (x.fz a e)
 keepF:=fun b o e f=>y.keepF b o (x.keepF b o e f) (x.fz b f)
 keepR:=fun b o e n q=>(x.keepR b o e n q).trans fun o1 e1=>y.keepR b o1 e1 (by
   cases hb:H1 b with
   |none=>rfl
   |some z=>rcases x.hnew b z hb with c|⟨z,c⟩ <;> simp_all) q
 live:=fun b o e=>by refine ex (x.live b o e) fun o' e'=>?_;exact y.live b o' e'
 nf:=fun b o e n=>by refine bx (x.nf b o e n) fun o' e' n'=>?_;exact y.nf b o' e' n'
 fnew:=fun a e=>by
  rcases y.fnew a e with c|c|⟨z,c⟩
  ·exact x.fnew a c
  ·cases q:h.get? a with
   |none=>exact .inr (.inl rfl)
   |some o=>let ⟨o',e'⟩:=x.live a o q;rw[c]at e';exact nS e'
  ·rcases x.hnew a z c with d|d
   ·exact .inr (.inl d)
   ·exact .inr (.inr d)
 hnew:=fun a z e=>by
  rcases y.hnew a z e with c|⟨z',c⟩
  ·cases q:h.get? a with
   |none=>exact .inl rfl
   |some o=>let ⟨o',e'⟩:=x.live a o q;rw[c]at e';exact nS e'
  ·exact x.hnew a z' c
theorem bQ.mono{own own':List ah}{H F h H1 F1 h1}(x:bQ own H F h H1 F1 h1)(hs:∀a,a∈own->a∈own'):bQ own' H F h H1 F1 h1 :=
 ⟨x.fz,x.keepF,fun b o e n q=>x.keepR b o e n fun z=>q (hs _ z),x.live,x.nf,x.fnew,x.hnew⟩
inductive xf(base:Heap)(F:ah->Prop)(H:HH)(h:Heap)(env:Env):Prop
 |mk (k:env.scope.kind≠.module) (L:ah) (o:Obj) (e1:env.frame=some L) (e2:base.get? L=none) (e3:h.get? L=some o) (e4:ce o) (e5:¬F L) (e6:H L=none)
structure bB(G:GC)(fs:List Env)(F:ah->Prop)(H:HH)(s:an):Prop where
 base:∀b o,G.base.get? b=some o->s.heap.get? b=some o
 bF:∀b o,G.base.get? b=some o->F b
 live:∀a,F a->∃o,s.heap.get? a=some o
 sep:∀a x,H a=some x->¬F a
 own:∀a x,H a=some x->OR G s.heap F x a
 frs:∀env∈fs,xf G.base F H s.heap env
 gens:s.gens=#[]
 os:s.os=G.os
inductive Slot(env:Env)(h:Heap)(x:Str)(c:Value):Prop
 |inl (k:env.kindOf x=some .local) (mc:Str->Option Value) (n:h.Ns env.locals mc) (e:mc x=some c)
 |inr (k:env.kindOf x=some .cell∨(env.kindOf x=some .free/\(x==("__classdict__":Str))=false)) (a:ah) (e:env.cells.lookup x=some a) (v:h.IsCell a (some c))
structure o3(G:GC)(fm:Fm)(F:ah->Prop)(H:HH)(m:List (Str×V))(s:an):Prop where
 kind:fm.env.scope.kind=.function
 glob:fm.env.globals=dW
 blt:fm.env.builtins=builtinsNs
 code:fm.env.code=.none∨∃c o vs,fm.env.code=.ref c/\G.base.get? c=some o/\o.data=.fields vs
 ns:∃mc,s.heap.Ns fm.env.locals mc
 lown:fm.env.locals∈fm.own
 cells:∀x a,fm.env.cells.lookup x=some a->(∃v,s.heap.IsCell a v)/\¬F a/\H a=none
 ocell:∀x,fm.env.kindOf x=some .cell->x∉fm.caps->∃a,fm.env.cells.lookup x=some a/\a∈fm.own
 inj:∀x y a,fm.env.cells.lookup x=some a->fm.env.cells.lookup y=some a->x=y
 sep:∀a,a∈fm.own->¬F a/\H a=none/\∃o,s.heap.get? a=some o/\ce o
 vars:∀x v,m.lookup x=some v->∃c,Slot fm.env s.heap x c/\VR G s.heap F v c
structure jn(G:GC)(fs:List Env)(fm:Fm)(F:ah->Prop)(σ:St)(s:an):Prop where
 hp:bB G fs F σ.H s
 fr:o3 G fm F σ.H σ.m s
theorem OR.at{G:GC}{h:Heap}{F:ah->Prop}{x:V}{a:ah}(r:OR G h F x a):∃o,h.get? a=some o:=by
 cases r with
 |tup ht _=>exact⟨_,ht.choose_spec.1⟩
 |lst ht _=>exact⟨_,ht.choose_spec⟩
 |dct _ ht _=>exact⟨_,ht.choose_spec.choose_spec.choose_spec.1⟩
 |sdct _ ht _=>exact⟨_,ht.choose_spec.choose_spec.choose_spec.1⟩
 |set ht _=>exact⟨_,ht.choose_spec.choose_spec.choose_spec.1⟩
 |inst ht _=>exact⟨_,ht⟩
 |adict ht _ _=>exact⟨_,ht.choose_spec.choose_spec.choose_spec.1⟩
 |rng ht _ _=>exact⟨_,ht⟩
 |exc ht _=>exact⟨_,ht.choose_spec.1⟩
 |exn ht=>exact⟨_,ht.choose_spec.1⟩
theorem Heap.Ns.upTo{h h':Heap}{a:ah}{m}(hn:h.Ns a m)(k:∀o,h.get? a=some o->ln h' a o):h'.Ns a m:=by
 refine iM hn fun o es ep ho q=>?_;refine bx (k o ho) fun sl e zz=>?_;exact⟨_,es,ep,e,q⟩
theorem Heap.IsCell.upTo{h h':Heap}{a:ah}{v}(hn:h.IsCell a v)(k:∀o,h.get? a=some o->ln h' a o):h'.IsCell a v:=by
 refine bx hn fun o ho q=>?_;refine bx (k o ho) fun sl e zz=>?_;exact⟨_,e,q⟩
section
variable {G:GC}{fs:List Env}{fm:Fm}{F F':ah->Prop}{σ:St}{s s':an}{H H':HH}{m:List (Str×V)}
theorem bQ.vr{own h h'}(st:bQ own H F h H' F' h'){x:V}{c:Value}(live:∀a,F a->∃o,h.get? a=some o)(v:VR G h F x c):VR G h' F' x c :=
 v.mono st.fz fun a o hf e=>st.keepF a o e hf
theorem bQ.vrs{own h h'}(st:bQ own H F h H' F' h'){x:List V}{c:List Value}(v:d7 G h F x c):d7 G h' F' x c :=
 v.mono st.fz fun a o hf e=>st.keepF a o e hf
theorem bQ.rest{own:List ah}{h h':Heap}(st:bQ own H F h H' F' h'){a:ah}{o:Obj}(e:h.get? a=some o)(hf:¬F a)(hn:H a=none):¬F' a/\H' a=none:=by
 refine⟨fun q=>?_,?_⟩
 ·rcases st.fnew a q with c|c|⟨x,c⟩
  ·exact hf c
  ·rw[c]at e;exact nS e
  ·rw[hn]at c;exact nS c
 ·cases q:H' a with
  |none=>rfl
  |some x=>
   rcases st.hnew a x q with c|⟨y,c⟩
   ·rw[c]at e;exact nS e
   ·rw[hn]at c;exact nS c
theorem xf.step{own:List ah}{base h h':Heap}{env:Env}(st:bQ own H F h H' F' h')(x:xf base F H h env):xf base F' H' h' env:=by
 obtain⟨k,L,o,e1,e2,e3,e4,e5,e6⟩:=x;refine bx (st.nf L o e3 e4) fun o' e' n'=>?_;exact⟨k,L,o',e1,e2,e',n',(st.rest e3 e5 e6).1,(st.rest e3 e5 e6).2⟩
theorem o3.keeps(r:o3 G fm F H m s)(st:bQ [] H F s.heap H' F' s'.heap):o3 G fm F' H' m s':=by
 have frk:∀a o,¬F a->H a=none->s.heap.get? a=some o->ln s'.heap a o/\¬F' a/\H' a=none:=fun a o hf hn e=>
  ⟨st.keepR a o e hn cH,st.rest e hf hn⟩
 have nsk:∀mc,s.heap.Ns fm.env.locals mc->s'.heap.Ns fm.env.locals mc:=fun mc hn=>Heap.Ns.upTo hn fun o e=>(frk _ o (r.sep _ r.lown).1 (r.sep _ r.lown).2.1 e).1;have ck:∀x a v,fm.env.cells.lookup x=some a->s.heap.IsCell a v->s'.heap.IsCell a v:=fun x a v hc hv=>Heap.IsCell.upTo hv fun o e=>(frk a o (r.cells x a hc).2.1 (r.cells x a hc).2.2 e).1;refine⟨r.kind,r.glob,r.blt,r.code,?_,r.lown,fun x a hc=>?_,r.ocell,r.inj,fun a ha=>?_,fun x v hv=>?_⟩
 ·refine ex r.ns fun mc hn=>?_;exact⟨mc,nsk mc hn⟩
 ·refine jc (r.cells x a hc) fun FW hf hn=>?_;refine ex FW fun v hv=>?_;refine bx (id hv) fun o ho hd=>?_;exact⟨⟨v,ck x a v hc hv⟩,(frk a o hf hn ho).2⟩
 ·refine m9 (r.sep a ha) fun hf hn o ho nf=>?_;have:=frk a o hf hn ho;refine bx (st.nf a o ho nf) fun o' ho' nf'=>?_;exact⟨this.2.1,this.2.2,o',ho',nf'⟩
 ·refine bx (r.vars x v hv) fun c hs hv'=>?_;refine⟨c,?_,hv'.mono st.fz fun a o hf e=>st.keepF a o e hf⟩;rcases hs with ⟨hl,mc,hn,hm⟩|⟨hl,a,hc,hcell⟩
  ·exact .inl hl mc (nsk mc hn) hm
  ·exact .inr hl a hc (ck x a _ hc hcell)
theorem jn.keeps(r:jn G fs fm F σ s)(st:bQ [] σ.H F s.heap H' F' s'.heap)(r':bB G fs F' H' s'):jn G fs fm F' ⟨σ.m,H'⟩ s':=⟨r',r.fr.keeps st⟩
theorem bB.next{own:List ah}(r:bB G fs F H s)(st:bQ own H F s.heap H' F' s'.heap)(hg:s'.gens=s.gens)(hos:s'.os=s.os)
  (liveF:∀a,F' a->∃o,s'.heap.get? a=some o)
  (own:∀a x,H' a=some x->¬F' a/\OR G s'.heap F' x a):bB G fs F' H' s' where
 base:=fun b o e=>st.keepF b o (r.base b o e) (r.bF b o e)
 bF:=fun b o e=>st.fz b (r.bF b o e)
 live:=liveF
 sep:=fun a x e=>(own a x e).1
 own:=fun a x e=>(own a x e).2
 frs:=fun env he=>(r.frs env he).step st
 gens:=hg.trans r.gens
 os:=hos.trans r.os
theorem bB.fresh(r:bB G fs F H s){a:ah}(ha:s.heap.get? a=none):¬F a/\H a=none:=by
 refine⟨fun q=>?_,?_⟩
 ·refine ex (r.live _ q) fun o e=>?_;rw[ha]at e;exact nS e
 ·cases q:H a with
  |none=>rfl
  |some x=>refine ex ((r.own _ x q).at) fun o e=>?_;rw[ha]at e;exact nS e
theorem bB.calm(r:bB G fs F H s){h':Heap}(tk:Nat)(k:∀b o,s.heap.get? b=some o->(F b∨∃x,H b=some x)->h'.get? b=some o)
  (kr:∀b o,s.heap.get? b=some o->ln h' b o) :
  bB G fs F H {s with heap:=h',toks:=tk}/\bQ [] H F s.heap H F h':=by
 have st:bQ [] H F s.heap H F h':=⟨fun zz x=>x,fun b o e f=>k b o e (.inl f),fun b o e zz zz=>kr b o e,fun b o e=>let ⟨_,e',_⟩:=kr b o e;⟨_,e'⟩,
  fun b o e n=>let ⟨_,e',_⟩:=kr b o e;⟨_,e',n⟩,fun zz x=>.inl x,fun zz x e=>.inr ⟨x,e⟩⟩
 refine⟨r.next (s':={s with heap:=h',toks:=tk}) st rfl rfl (fun a hf=>let ⟨o',e⟩:=r.live a hf;⟨o',k a o' e (.inl hf)⟩) fun a x e=>⟨r.sep a x e,?_⟩,st⟩;exact(r.own a x e).mono (fun zz x=>x) (fun b o f e'=>k b o e' (.inl f)) fun o e'=>k a o e' (.inr ⟨x,e⟩)
theorem bB.grow(r:bB G fs F H s){h':Heap}(tk:Nat)(k:∀b o,s.heap.get? b=some o->h'.get? b=some o) :
  bB G fs F H {s with heap:=h',toks:=tk}/\bQ [] H F s.heap H F h' :=
 r.calm tk (fun b o e zz=>k b o e) fun b o e=>.of (k b o e)
theorem bB.toks(r:bB G fs F H s)(tk:Nat):bB G fs F H {s with toks:=tk}:=(r.grow tk fun zz zz e=>e).1
theorem bB.cold(r:bB G fs F H s){h':Heap}(tk:Nat){a:ah}{o:Obj}(ha:s.heap.get? a=none)(ho:h'.get? a=some o)(k:∀b o,s.heap.get? b=some o->h'.get? b=some o) :
  bB G fs (fun b=>F b∨b=a) H {s with heap:=h',toks:=tk}/\bQ [] H F s.heap H (fun b=>F b∨b=a) h':=by
 have st:bQ [] H F s.heap H (fun b=>F b∨b=a) h':=⟨fun zz x=>.inl x,fun b o e zz=>k b o e,fun b o e zz zz=>.of (k b o e),fun b o e=>⟨o,k b o e⟩,
  fun b o e n=>⟨o,k b o e,n⟩,fun b x=>x.elim .inl fun e=>.inr (.inl (e▸ha)),fun zz x e=>.inr ⟨x,e⟩⟩
 refine⟨r.next (s':={s with heap:=h',toks:=tk}) st rfl rfl (fun b hf=>?_) fun b x e=>⟨fun q=>?_,?_⟩,st⟩
 ·rcases hf with hf|rfl
  ·refine ex (r.live b hf) fun o' e=>?_;exact⟨o',k b o' e⟩
  ·exact⟨o,ho⟩
 ·rcases q with q|rfl
  ·exact r.sep b x e q
  ·rw[(r.fresh ha).2]at e;exact nS e
 ·exact(r.own b x e).mono (fun zz x=>.inl x) (fun b o zz e'=>k b o e') fun o e'=>k b o e'
theorem bB.mine(r:bB G fs F H s){h':Heap}(tk:Nat){a:ah}(x:V)(ha:s.heap.get? a=none)(k:∀b o,s.heap.get? b=some o->h'.get? b=some o)(hx:OR G h' F x a) :
  bB G fs F (upd H a x) {s with heap:=h',toks:=tk}/\bQ [] H F s.heap (upd H a x) F h':=by
 have st:bQ [] H F s.heap (upd H a x) F h':=⟨fun zz x=>x,fun b o e zz=>k b o e,fun b o e zz zz=>.of (k b o e),fun b o e=>⟨o,k b o e⟩,
  fun b o e n=>⟨o,k b o e,n⟩,fun b x=>.inl x,fun b y e=>by
   by_cases q:b=a
   ·exact .inl (q▸ha)
   ·rw[bE q]at e;exact .inr ⟨y,e⟩⟩
 refine⟨r.next (s':={s with heap:=h',toks:=tk}) st rfl rfl (fun b hf=>by refine ex (r.live b hf) fun o' e=>?_;exact⟨o',k b o' e⟩) fun b y e=>?_,st⟩
 by_cases q:b=a
 ·subst q;rw[aw]at e;obtain rfl:=aj e;exact⟨(r.fresh ha).1,hx⟩
 ·rw[bE q]at e;exact⟨r.sep b y e,(r.own b y e).mono (fun zz x=>x) (fun b o zz e'=>k b o e') fun o e'=>k b o e'⟩
theorem bB.turn(r:bB G fs F H s){a:ah}{x y:V}{h':Heap}(tk:Nat)(ha:H a=some x)(k:∀b o,b≠a->s.heap.get? b=some o->h'.get? b=some o)
  (hnf:∀o,s.heap.get? a=some o->ce o->∃o',h'.get? a=some o'/\ce o')
  (hy:(∀z c,VR G s.heap F z c->VR G h' F z c)->(∀z c,d7 G s.heap F z c->d7 G h' F z c)->OR G h' F y a) :
  bB G fs F (upd H a y) {s with heap:=h',toks:=tk}/\bQ [] H F s.heap (upd H a y) F h':=by
 have hf:∀b o,F b->s.heap.get? b=some o->h'.get? b=some o:=fun b o q e=>k b o (fun z=>r.sep a x ha (z▸q)) e;have hy':=hy (fun z c v=>v.mono (fun zz x=>x) hf) (fun z c v=>v.mono (fun zz x=>x) hf);have st:bQ [] H F s.heap (upd H a y) F h' :=
  ⟨fun zz x=>x,fun b o e f=>hf b o f e,fun b o' e n zz=>.of (k b o' (fun z=>by rw[z,ha]at n;exact nS n.symm) e),fun b o' e=>by
    by_cases q:b=a
    ·subst q;exact hy'.at
    ·exact⟨o',k b o' q e⟩,fun b o' e n=>by
    by_cases q:b=a
    ·subst q;exact hnf o' e n
    ·exact⟨o',k b o' q e,n⟩,fun a x=>.inl x,fun b z e=>by
   by_cases q:b=a
   ·subst q;exact .inr ⟨x,ha⟩
   ·rw[bE q]at e;exact .inr ⟨z,e⟩⟩
 refine⟨r.next (s':={s with heap:=h',toks:=tk}) st rfl rfl (fun b q=>by refine ex (r.live b q) fun o' e=>?_;exact⟨o',hf b o' q e⟩) fun b z e=>?_,st⟩
 by_cases q:b=a
 ·subst q;rw[aw]at e;obtain rfl:=aj e;exact⟨r.sep b x ha,hy'⟩
 ·rw[bE q]at e;exact⟨r.sep b z e,(r.own b z e).mono (fun zz x=>x) hf fun o e=>k b o q e⟩
theorem bB.drop(r:bB G fs F H s)(hs:∀a x,H' a=some x->H a=some x) :
  bB G fs (fun a=>F a∨((∃x,H a=some x)/\H' a=none)) H' s/\bQ [] H F s.heap H' (fun a=>F a∨((∃x,H a=some x)/\H' a=none)) s.heap:=by
 have st:bQ [] H F s.heap H' (fun a=>F a∨((∃x,H a=some x)/\H' a=none)) s.heap :=
  ⟨fun zz x=>.inl x,fun zz zz e zz=>e,fun zz o e zz zz=>.of e,fun zz o e=>⟨o,e⟩,fun zz o e n=>⟨o,e,n⟩,fun a x=>x.imp id fun y=>.inr y.1,fun a x e=>.inr ⟨x,hs a x e⟩⟩
 refine⟨r.next (s':=s) st rfl rfl (fun a q=>?_) fun a x e=>⟨fun q=>?_,?_⟩,st⟩
 ·rcases q with q|⟨⟨x,q⟩,_⟩
  ·exact r.live a q
  ·exact(r.own a x q).at
 ·rcases q with q|⟨_,q⟩
  ·exact r.sep a x (hs a x e) q
  ·rw[e]at q;exact nS q.symm
 ·exact(r.own a x (hs a x e)).mono (fun zz x=>.inl x) (fun zz zz zz e=>e) fun zz e=>e
end
noncomputable def put(x:Str)(v:V):List (Str×V)->List (Str×V)
 |[]=>[(x,v)]
 |(y,u)::r=>if y=x then(y,v)::r else(y,u)::put x v r
theorem jh{x:Str}{v:V}:∀{m:List (Str×V)}{y:Str},(put x v m).lookup y=if y=x then some v else m.lookup y
 |[],y=>by
  by_cases h:y=x
  ·subst h;show List.lookup y [(y,v)]=_;simp
  ·have:(y==x)=false:=by simpa using h
   show List.lookup y [(x,v)]=_;simp[aZ,h,this]
 |(z,u)::r,y=>by
  show(if z=x then(z,v)::r else(z,u)::put x v r).lookup y=if y=x then some v else List.lookup y ((z,u)::r)
  by_cases h:z=x
  ·subst h;refine rA (if_pos rfl) ?_
   by_cases q:y=z
   ·subst q;simp
   ·have:(y==z)=false:=by simpa using q
    simp[aZ,q,this]
  ·refine rA (if_neg h) ?_
   by_cases q:y=z
   ·subst q;simp[aZ,h]
   ·have:(y==z)=false:=by simpa using q
    refine rA aZ (rA this (rA aZ (rA this ?_)));exact jh
section
variable {G:GC}{fs:List Env}{fm:Fm}{F F':ah->Prop}{σ:St}{s s':an}{H H':HH}{m:List (Str×V)}
theorem bB.frame(r:bB G fs F H s){a:ah}{h':Heap}(tk:Nat)(k:∀b o,b≠a->s.heap.get? b=some o->h'.get? b=some o)(own:List ah)(ha:a∈own)(hF:¬F a)(hn:H a=none)
  (hnf:∃o',h'.get? a=some o'/\ce o') :
  bB G fs F H {s with heap:=h',toks:=tk}/\bQ own H F s.heap H F h':=by
 have hf:∀b o,F b->s.heap.get? b=some o->h'.get? b=some o:=fun b o q e=>k b o (fun z=>hF (z▸q)) e;have st:bQ own H F s.heap H F h':=⟨fun zz x=>x,fun b o e f=>hf b o f e,fun b o e n q=>.of (k b o (fun z=>q (z▸ha)) e),fun b o e=>by
   by_cases q:b=a
   ·subst q;exact⟨_,hnf.choose_spec.1⟩
   ·exact⟨o,k b o q e⟩,fun b o e n=>by
   by_cases q:b=a
   ·subst q;exact hnf
   ·exact⟨o,k b o q e,n⟩,fun zz x=>.inl x,fun zz x e=>.inr ⟨x,e⟩⟩
 refine⟨r.next (s':={s with heap:=h',toks:=tk}) st rfl rfl (fun b q=>by refine ex (r.live b q) fun o' e=>?_;exact⟨o',hf b o' q e⟩) fun b z e=>⟨r.sep b z e,?_⟩,st⟩;exact(r.own b z e).mono (fun zz x=>x) hf fun o q=>k b o (fun z=>by rw[z,hn]at e;exact nS e) q
theorem f6{o:Obj}{es ep}(hd:o.data=.dict es ep):ce o:=fun vs q=>by rw[hd]at q;cases q
theorem pB{o:Obj}{v}(hd:o.data=.cell v):ce o:=fun vs q=>by rw[hd]at q;cases q
theorem jn.storeL(r:jn G fs fm F σ s){x:Str}{v:V}{c:Value}{h':Heap}{mc:Str->Option Value}(tk:Nat)(hk:fm.env.kindOf x=some .local)(hv:VR G s.heap F v c)
  (hn:s.heap.Ns fm.env.locals mc) (hn':h'.Ns fm.env.locals (fun y=>if y=x then some c else mc y)) (hs:Heap.SameBut fm.env.locals s.heap h') :
  jn G fs fm F ⟨put x v σ.m,σ.H⟩ {s with heap:=h',toks:=tk}/\bQ fm.own σ.H F s.heap σ.H F h':=by
 have Ls:=r.fr.sep _ r.fr.lown;have hk':∀b o,b≠fm.env.locals->s.heap.get? b=some o->h'.get? b=some o:=fun b o n e=>(hs.2 b n).trans e;have hf:∀b o,F b->s.heap.get? b=some o->h'.get? b=some o:=fun b o q e=>hk' b o (fun z=>Ls.1 (z▸q)) e;have hl:∃o',h'.get? fm.env.locals=some o'/\ce o':=by refine hY hn' fun o es ep ho hd zz=>?_;exact⟨o,ho,f6 hd⟩
 have hl':∀b o,s.heap.get? b=some o->ce o->∃o',h'.get? b=some o'/\ce o':=fun b o e n=>by
  by_cases q:b=fm.env.locals
  ·subst q;exact hl
  ·exact⟨o,hk' b o q e,n⟩
 have cne:∀y a,fm.env.cells.lookup y=some a->a≠fm.env.locals:=fun y a e q=>by
  refine ea (r.fr.cells y a e) fun FW zz=>?_;refine jx FW fun v o ho hd=>?_;refine hY hn fun o' es ep ho' hd' zz=>?_;rw[q,ho']at ho;obtain rfl:=aj ho;rw[hd']at hd;cases hd
 have ck:∀y a v,fm.env.cells.lookup y=some a->s.heap.IsCell a v->h'.IsCell a v:=fun y a v e hv=>hv.sameBut hs (cne y a e);refine ea (r.hp.frame tk hk' fm.own r.fr.lown Ls.1 Ls.2.1 hl) fun rh st=>?_;refine⟨⟨rh,?_⟩,st⟩;refine⟨r.fr.kind,r.fr.glob,r.fr.blt,r.fr.code,⟨_,hn'⟩,r.fr.lown,fun y a e=>?_,r.fr.ocell,r.fr.inj,fun b hb=>?_,fun y u hu=>?_⟩
 ·refine ea (r.fr.cells y a e) fun FY q=>?_;refine ex FY fun v hv=>?_;exact⟨⟨v,ck y a v e hv⟩,q⟩
 ·refine m9 (r.fr.sep b hb) fun q1 q2 o ho nf=>?_;exact⟨q1,q2,hl' b o ho nf⟩
 ·dsimp only at hu;rw[jh]at hu
  by_cases q:y=x
  ·rw[if_pos q]at hu;obtain rfl:=aj hu;subst q;exact⟨c,.inl hk _ hn' (if_pos rfl),hv.mono (fun zz x=>x) hf⟩
  ·rw[if_neg q]at hu;refine bx (r.fr.vars y u hu) fun c' hs' hv'=>?_;refine⟨c',?_,hv'.mono (fun zz x=>x) hf⟩;rcases hs' with ⟨hl',mc',hn2,hm⟩|⟨hl',b,hc',hcell⟩
   ·refine .inl hl' _ hn' ?_;show(if y=x then some c else mc y)=_;refine rA (if_neg q) ?_;refine eN hn fun o es ep ho hd zz hfn=>?_;refine eN hn2 fun o2 es2 ep2 ho2 hd2 zz hfn2=>?_;rw[ho]at ho2;obtain rfl:=aj ho2;rw[hd]at hd2;cases hd2;exact rB (hfn y) (rA (hfn2 y) (rA hm rfl))
   ·exact .inr hl' b hc' (ck y b _ hc' hcell)
theorem jn.storeC(r:jn G fs fm F σ s){x:Str}{v:V}{c:Value}{h':Heap}{a:ah}(tk:Nat)(hk:fm.env.kindOf x=some .cell)(hc:fm.env.cells.lookup x=some a)(hown:a∈fm.own)(hv:VR G s.heap F v c)
  (hn':h'.IsCell a (some c)) (hs:Heap.SameBut a s.heap h') :
  jn G fs fm F ⟨put x v σ.m,σ.H⟩ {s with heap:=h',toks:=tk}/\bQ fm.own σ.H F s.heap σ.H F h':=by
 have Ls:=r.fr.sep _ hown;have hk':∀b o,b≠a->s.heap.get? b=some o->h'.get? b=some o:=fun b o n e=>(hs.2 b n).trans e;have hf:∀b o,F b->s.heap.get? b=some o->h'.get? b=some o:=fun b o q e=>hk' b o (fun z=>Ls.1 (z▸q)) e;have hl:∃o',h'.get? a=some o'/\ce o':=by refine bx hn' fun o ho hd=>?_;exact⟨o,ho,pB hd⟩
 have hl':∀b o,s.heap.get? b=some o->ce o->∃o',h'.get? b=some o'/\ce o':=fun b o e n=>by
  by_cases q:b=a
  ·subst q;exact hl
  ·exact⟨o,hk' b o q e,n⟩
 have Lne:fm.env.locals≠a:=fun q=>by
  refine ea (r.fr.cells x a hc) fun FW zz=>?_;refine jx FW fun v o ho hd=>?_;refine vn r.fr.ns fun mc o' FY=>?_;refine cq FY fun es ep ho' hd' zz=>?_;rw[q,ho]at ho';obtain rfl:=aj ho';rw[hd']at hd;cases hd
 have nsk:∀mc,s.heap.Ns fm.env.locals mc->h'.Ns fm.env.locals mc:=fun mc hn=>hn.sameBut hs Lne;refine ea (r.hp.frame tk hk' fm.own hown Ls.1 Ls.2.1 hl) fun rh st=>?_;refine⟨⟨rh,?_⟩,st⟩;refine⟨r.fr.kind,r.fr.glob,r.fr.blt,r.fr.code,by refine ex r.fr.ns fun mc e=>?_;exact⟨mc,nsk mc e⟩,r.fr.lown,fun y b e=>?_,r.fr.ocell,r.fr.inj,fun b hb=>?_,fun y u hu=>?_⟩
 ·refine ea (r.fr.cells y b e) fun FZ q=>?_;refine ex FZ fun v hv=>?_
  by_cases z:b=a
  ·exact⟨⟨_,z▸hn'⟩,q⟩
  ·exact⟨⟨v,hv.sameBut hs z⟩,q⟩
 ·refine m9 (r.fr.sep b hb) fun q1 q2 o ho nf=>?_;exact⟨q1,q2,hl' b o ho nf⟩
 ·dsimp only at hu;rw[jh]at hu
  by_cases q:y=x
  ·rw[if_pos q]at hu;obtain rfl:=aj hu;subst q;exact⟨c,.inr (.inl hk) a hc hn',hv.mono (fun zz x=>x) hf⟩
  ·rw[if_neg q]at hu;refine bx (r.fr.vars y u hu) fun c' hs' hv'=>?_;refine⟨c',?_,hv'.mono (fun zz x=>x) hf⟩;rcases hs' with ⟨hl',mc',hn2,hm⟩|⟨hl',b,hc',hcell⟩
   ·exact .inl hl' mc' (nsk mc' hn2) hm
   ·exact .inr hl' b hc' (hcell.sameBut hs fun z=>q (r.fr.inj y x a (z▸hc') hc))
end
structure Ok(k:Nat)(A:cA)(fs:List Env):Prop where
 depth:A.depth+k<=1000
 units:A.units+8*k+100<=9900
 guards:A.guards=some []
 frames:A.frames=some fs
 handled:3<=k->A.handled=none
noncomputable abbrev VP:=V->HH->Prop
noncomputable abbrev XP:=ah->V->HH->Prop
noncomputable abbrev NX:XP:=fun zz zz zz=>False
inductive E9(h0 h:Heap)(F:ah->Prop)(H:HH)(a:ah)(vs:Array Value)(fl:Value):Prop
 |mk (T:ah) (oT:Obj) (ts:Array Value) (y1:vs[1]?=some (.ref T)) (y2:T≠a) (y3:h0.get? T=none) (y4:h.get? T=some oT) (y5:oT.data=.fields ts) (y6:ts[3]?=some fl) (y7:¬F T) (y8:H T=none)
noncomputable def TbSt(h0 h:Heap)(F:ah->Prop)(H:HH)(a:ah)(vs:Array Value):Option Value->Prop
 |none=>vs[1]?=some .none
 |some fl=>E9 h0 h F H a vs fl
inductive v6(G:GC)(F:ah->Prop)(H:HH)(h0 h:Heap)(fl:Option Value)(c:ah)(d:V)(e:Value):Prop
 |mk (a:ah) (o:Obj) (vs:Array Value) (dx:ah) (x1:e=.ref a) (x2:h0.get? a=none) (x3:h.get? a=some o) (x4:o.cls=.ref c) (x5:o.dict=some dx) (x6:o.data=.fields vs) (x7:TbSt h0 h F H a vs fl) (x8:¬F a) (x9:H a=none) (x10:VR G h F d (.ref dx))
inductive GP(G:GC)(fs:List Env)(own:List ah)(H:HH)(F:ah->Prop)(h0:Heap){α:Type}(R:α->HH->(ah->Prop)->an->Prop)(a:α)(s':an):Prop
 |mk (H':HH) (F':ah->Prop) (r:bB G fs F' H' s') (st:bQ own H F h0 H' F' s'.heap) (q:R a H' F' s')
inductive cK(G:GC)(fs:List Env)(own:List ah)(H:HH)(F:ah->Prop)(h0:Heap)(P:Option Value->Prop)(X:XP)(e:Value)(s':an):Prop
 |mk (H':HH) (F':ah->Prop) (fl:Option Value) (c:ah) (d:V) (r:bB G fs F' H' s') (st:bQ own H F h0 H' F' s'.heap) (x:v6 G F' H' h0 s'.heap fl c d e) (p:P fl) (q:X c d H')
noncomputable def ot:Option Value->Prop:=fun fl=>fl=some .none
noncomputable def rc(env:Env):Option Value->Prop:=fun fl=>fl=none∨fl=some .none∨∃L,env.frame=some L/\fl=some (bV L)
noncomputable def Wp(G:GC)(fs:List Env)(A:cA)(own:List ah)(H:HH)(F:ah->Prop)(s:an){α:Type}(t:Sem α)(R:α->HH->(ah->Prop)->an->Prop)(P:Option Value->Prop)(X:XP):Prop :=
 aM (bj G.prog G.w) A t (GP G fs own H F s.heap R) (cK G fs own H F s.heap P X) s
section
variable {G:GC}{fs:List Env}{A:cA}{own own':List ah}{H H1:HH}{F F1:ah->Prop}{s s1:an}{α β:Type}{P P':Option Value->Prop}{X X':XP}
 {R R':α->HH->(ah->Prop)->an->Prop}{R2:β->HH->(ah->Prop)->an->Prop}
theorem GP.from{h0 h1:Heap}(st:bQ own H F h0 H1 F1 h1){a:α}{s':an}(g:GP G fs own' H1 F1 h1 R a s')(ho:∀b,b∈own'->b∈own):GP G fs own H F h0 R a s':=by
 obtain⟨H',F',r,st',q⟩:=g;exact⟨H',F',r,st.trans (st'.mono ho),q⟩
theorem bQ.none_back{h0 h1:Heap}(st:bQ own H F h0 H1 F1 h1){a:ah}(e:h1.get? a=none):h0.get? a=none:=by
 cases q:h0.get? a with
 |none=>rfl
 |some o=>refine ex (st.live a o q) fun o' e'=>?_;rw[e]at e';exact nS e'
theorem v6.from{h0 h1 h:Heap}(st:bQ own H F h0 H1 F1 h1){F' H' fl c d e}(x:v6 G F' H' h1 h fl c d e):v6 G F' H' h0 h fl c d e:=by
 obtain⟨a,o,vs,dx,x1,x2,x3,x4,x5,x6,x7,x8,x9,x10⟩:=x;refine⟨a,o,vs,dx,x1,st.none_back x2,x3,x4,x5,x6,?_,x8,x9,x10⟩;cases fl with
 |none=>exact x7
 |some fl=>
  obtain⟨T,oT,ts,y1,y2,y3,y4,y5,y6,y7,y8⟩:=x7;exact⟨T,oT,ts,y1,y2,st.none_back y3,y4,y5,y6,y7,y8⟩
theorem cK.from{h0 h1:Heap}(st:bQ own H F h0 H1 F1 h1){e:Value}{s':an}(g:cK G fs own' H1 F1 h1 P X e s')(ho:∀b,b∈own'->b∈own)(hP:∀fl,P fl->P' fl):cK G fs own H F h0 P' X e s':=by
 obtain⟨H',F',fl,c,d,r,st',x,p,q⟩:=g;exact⟨H',F',fl,c,d,r,st.trans (st'.mono ho),x.from st,hP _ p,q⟩
theorem Wp.mono{t:Sem α}(h:Wp G fs A own H F s t R P X)(hR:∀a H' F' s',bB G fs F' H' s'->bQ own H F s.heap H' F' s'.heap->R a H' F' s'->R' a H' F' s')
  (hX:∀c d H',X c d H'->X' c d H') (hP:∀fl,P fl->P' fl) (ho:∀b,b∈own->b∈own'):Wp G fs A own' H F s t R' P' X' :=
 aK h (fun a s' z'=>by obtain⟨H',F',r,st,q⟩:=z';exact⟨H',F',r,st.mono ho,hR _ _ _ _ r st q⟩) fun e s' z'=>by obtain⟨H',F',fl,c,d,r,st,x,p,q⟩:=z';exact⟨H',F',fl,c,d,r,st.mono ho,x,hP _ p,hX _ _ _ q⟩
theorem GP.here{h0:Heap}{s':an}{H':HH}{F':ah->Prop}(r:bB G fs F' H' s')(st:bQ own H F h0 H' F' s'.heap){a:α}(q:R a H' F' s'):GP G fs own H F h0 R a s':=⟨H',F',r,st,q⟩
end
inductive RV(G:GC)(Q:VP)(c:Value)(H:HH)(F:ah->Prop)(s:an):Prop
 |mk (v:V) (vr:VR G s.heap F v c) (q:Q v H)
inductive RVs(G:GC)(Q:List V->HH->Prop)(c:List Value)(H:HH)(F:ah->Prop)(s:an):Prop
 |mk (v:List V) (vr:d7 G s.heap F v c) (q:Q v H)
noncomputable def RB(Q:Bool->HH->Prop):Bool->HH->(ah->Prop)->an->Prop:=fun b H zz zz=>Q b H
theorem RV.imp{G:GC}{Q Q':VP}{c H F s}(x:RV G Q c H F s)(h:∀v H,Q v H->Q' v H):RV G Q' c H F s:=by
 obtain⟨v,a,b⟩:=x;exact⟨v,a,h _ _ b⟩
inductive Fl where
 |next
 |brk
 |ret (v:V)
inductive FlR(G:GC)(h:Heap)(F:ah->Prop):Fl->Flow->Prop
 |next:FlR G h F .next .next
 |brk:FlR G h F .brk .brk
 |ret {v:V}{c:Value}:VR G h F v c->FlR G h F (.ret v) (.ret c)
noncomputable abbrev SP:=Fl->St->Prop
inductive RS(G:GC)(fm:Fm)(Q:SP)(fl:Flow)(H:HH)(F:ah->Prop)(s:an):Prop
 |mk (m:List (Str×V)) (fa:Fl) (rf:o3 G fm F H m s) (hf:FlR G s.heap F fa fl) (q:Q fa ⟨m,H⟩)
inductive RU(G:GC)(fm:Fm)(Q:St->Prop)(u:Unit)(H:HH)(F:ah->Prop)(s:an):Prop
 |mk (m:List (Str×V)) (rf:o3 G fm F H m s) (q:Q ⟨m,H⟩)
theorem RS.imp{G:GC}{fm:Fm}{Q Q':SP}{c H F s}(x:RS G fm Q c H F s)(h:∀f σ,Q f σ->Q' f σ):RS G fm Q' c H F s:=by
 obtain⟨m,f,a,b,q⟩:=x;exact⟨m,f,a,b,h _ _ q⟩
theorem RU.imp{G:GC}{fm:Fm}{Q Q':St->Prop}{c H F s}(x:RU G fm Q c H F s)(h:∀σ,Q σ->Q' σ):RU G fm Q' c H F s:=by
 obtain⟨m,a,q⟩:=x;exact⟨m,a,h _ q⟩
noncomputable def VT(G:GC)(k:Nat)(t:List Value->Sem Value)(args:List V)(H:HH)(Q:VP)(X:XP):Prop :=
 ∀A fs F s cs,Ok k A fs->bB G fs F H s->d7 G s.heap F args cs->Wp G fs A [] H F s (t cs) (RV G Q) ot X
noncomputable def BT(G:GC)(k:Nat)(t:List Value->Sem Bool)(args:List V)(H:HH)(Q:Bool->HH->Prop)(X:XP):Prop :=
 ∀A fs F s cs,Ok k A fs->bB G fs F H s->d7 G s.heap F args cs->Wp G fs A [] H F s (t cs) (RB Q) ot X
noncomputable def TE(G:GC)(k:Nat)(sc:Sc)(e:Expr)(σ:St)(Q:VP)(X:XP):Prop :=
 ∀fm A fs F s,fm.sc=sc->Ok k A fs->jn G fs fm F σ s->Wp G fs A [] σ.H F s (fu e fm.env) (RV G Q) ot X
noncomputable def pq(G:GC)(k:Nat)(sc:Sc)(es:List Expr)(σ:St)(Q:List V->HH->Prop)(X:XP):Prop :=
 ∀fm A fs F s pos,fm.sc=sc->Ok k A fs->jn G fs fm F σ s->Wp G fs A [] σ.H F s (spliced (jr pos (cL es fm.env))) (RVs G Q) ot X
noncomputable def TT(G:GC)(k:Nat)(sc:Sc)(e:Expr)(σ:St)(Q:Bool->HH->Prop)(X:XP):Prop :=
 ∀fm A fs F s,fm.sc=sc->Ok k A fs->jn G fs fm F σ s->Wp G fs A [] σ.H F s (isTrue e fm.env (fu e fm.env)) (RB Q) ot X
noncomputable def TA(G:GC)(k:Nat)(sc:Sc)(e:Expr)(v:V)(σ:St)(Q:St->Prop)(X:XP):Prop :=
 ∀fm A fs F s c,fm.sc=sc->Ok k A fs->jn G fs fm F σ s->VR G s.heap F v c->Wp G fs A fm.own σ.H F s (assign e fm.env c) (RU G fm Q) ot X
noncomputable def TS(G:GC)(k:Nat)(sc:Sc)(e:jX)(σ:St)(Q:SP)(X:XP):Prop :=
 ∀fm A outer F s,fm.sc=sc->Ok k A (fm.env::outer)->jn G (fm.env::outer) fm F σ s->Wp G (fm.env::outer) A fm.own σ.H F s (exec e fm.env) (RS G fm Q) (rc fm.env) X
noncomputable def lK(G:GC)(k:Nat)(sc:Sc)(e:List jX)(σ:St)(Q:SP)(X:XP):Prop :=
 ∀fm A outer F s,fm.sc=sc->Ok k A (fm.env::outer)->jn G (fm.env::outer) fm F σ s->Wp G (fm.env::outer) A fm.own σ.H F s (execs e fm.env) (RS G fm Q) (rc fm.env) X
section
variable {G:GC}{fs:List Env}{A:cA}{own own' own0:List ah}{H H1 H0:HH}{F F1 F0:ah->Prop}{s s1:an}{h0:Heap}{α β:Type}{P P':Option Value->Prop}{X X':XP}
 {R R':α->HH->(ah->Prop)->an->Prop}
theorem Wp.thn{t:Sem α}{Q:α->an->Prop}(st0:bQ own0 H0 F0 h0 H F s.heap)(h:Wp G fs A own' H F s t R P X)
  (k:∀a s1 H1 F1,bB G fs F1 H1 s1->bQ own0 H0 F0 h0 H1 F1 s1.heap->bQ own' H F s.heap H1 F1 s1.heap->R a H1 F1 s1->Q a s1) (ho:∀b,b∈own'->b∈own0) (hP:∀fl,P fl->P' fl) :
  aM (bj G.prog G.w) A t Q (cK G fs own0 H0 F0 h0 P' X) s :=
 aK h (fun a s1 z'=>by obtain⟨H1,F1,r,st,q⟩:=z';exact k a s1 H1 F1 r (st0.trans (st.mono ho)) st q) fun zz zz g=>g.from st0 ho hP
theorem Wp.thnV{t:Sem Value}{Q:Value->an->Prop}{QV:VP}(st0:bQ own0 H0 F0 h0 H F s.heap)(h:Wp G fs A own' H F s t (RV G QV) P X)
  (k:∀a s1 H1 F1,bB G fs F1 H1 s1->bQ own0 H0 F0 h0 H1 F1 s1.heap->bQ own' H F s.heap H1 F1 s1.heap->∀v,VR G s1.heap F1 v a->QV v H1->Q a s1) (ho:∀b,b∈own'->b∈own0) (hP:∀fl,P fl->P' fl) :
  aM (bj G.prog G.w) A t Q (cK G fs own0 H0 F0 h0 P' X) s:=h.thn st0 (fun a s1 H1 F1 r st st' z=>by obtain⟨v,vr,q⟩:=z;exact k a s1 H1 F1 r st st' v vr q) ho hP
theorem Wp.thnVs{t:Sem (List Value)}{Q:List Value->an->Prop}{QV:List V->HH->Prop}(st0:bQ own0 H0 F0 h0 H F s.heap)(h:Wp G fs A own' H F s t (RVs G QV) P X)
  (k:∀a s1 H1 F1,bB G fs F1 H1 s1->bQ own0 H0 F0 h0 H1 F1 s1.heap->bQ own' H F s.heap H1 F1 s1.heap->∀v,d7 G s1.heap F1 v a->QV v H1->Q a s1) (ho:∀b,b∈own'->b∈own0) (hP:∀fl,P fl->P' fl) :
  aM (bj G.prog G.w) A t Q (cK G fs own0 H0 F0 h0 P' X) s:=h.thn st0 (fun a s1 H1 F1 r st st' z=>by obtain⟨v,vr,q⟩:=z;exact k a s1 H1 F1 r st st' v vr q) ho hP
theorem Wp.fin{t:Sem α}(st0:bQ own0 H0 F0 h0 H F s.heap)(h:Wp G fs A own' H F s t R P X)(ho:∀b,b∈own'->b∈own0)(hP:∀fl,P fl->P' fl) :
  aM (bj G.prog G.w) A t (GP G fs own0 H0 F0 h0 R) (cK G fs own0 H0 F0 h0 P' X) s :=
 aK h (fun zz zz g=>g.from st0 ho) fun zz zz g=>g.from st0 ho hP
theorem GP.v{Q:VP}{v:V}{c:Value}{h0:Heap}(r:bB G fs F1 H1 s)(st:bQ own H F h0 H1 F1 s.heap)(vr:VR G s.heap F1 v c)(q:Q v H1):GP G fs own H F h0 (RV G Q) c s:=⟨H1,F1,r,st,v,vr,q⟩
theorem GP.b{Q:Bool->HH->Prop}{b:Bool}{h0:Heap}(r:bB G fs F1 H1 s)(st:bQ own H F h0 H1 F1 s.heap)(q:Q b H1):GP G fs own H F h0 (RB Q) b s:=⟨H1,F1,r,st,q⟩
theorem dD{p:Option Value->Prop}:∀fl,p fl->p fl:=fun zz x=>x
theorem fP{l:List ah}:∀b:ah,b∈([]:List ah)->b∈l:=fun zz x=>nomatch x
theorem subs{l:List ah}:∀b:ah,b∈l->b∈l:=fun zz x=>x
theorem gH{env:Env}:∀fl,ot fl->rc env fl:=fun zz x=>.inr (.inl x)
end
theorem Ok.mono{k k' A fs}(h:Ok k A fs)(e:k'<=k):Ok k' A fs:=⟨by have:=h.depth;exact L3 (Ra N0 N1 (Ra (Pn N2 N1) (Kn 1000) (Gn (Pn N2 N0) (Kn 1000)))) rfl e this,by have:=h.units;exact L3 (Ra (Pn (Pn N0 (Tn 8 N1)) (Kn 100)) (Kn 9900) (Ra N2 N1 (Ra N2 N1 (Ra N2 N1 (Ra N2 N1 (Ra N2 N1 (Ra N2 N1 (Ra N2 N1 (Ra N2 N1 (Gn (Pn (Pn N0 (Tn 8 N2)) (Kn 100)) (Kn 9900))))))))))) rfl this e e e e e e e e,h.guards,h.frames,fun h3=>h.handled (a8 h3 e)⟩
theorem Ok.deeper{k A fs}(h:Ok (k+1) A fs)(env:Env):Ok k (A.deeper env) (env::fs) :=
 ⟨by have:=h.depth;show A.depth+1+k<=_;exact L2 (Ra (Pn N0 M1) (Kn 1000) (Gn (Pn M0 N1) (Kn 1000))) rfl this,by have:=h.units;show A.units+3+_+_<=_;exact L2 (Ra (Pn (Pn N0 (Tn 8 M1)) (Kn 100)) (Kn 9900) (Gn (Pn (Pn (Pn N0 (Kn 3)) (Tn 8 N1)) (Kn 100)) (Kn 9900))) rfl this,h.guards,Around.frames_deeper h.frames,fun h3=>h.handled (pK h3)⟩
set_option tactic.hygienic true in
theorem Ok.cline{k A fs}(h:Ok k A fs):A.units+64<cLine:=by have:=h.units;have:cLine=9900:=rfl;(rename_i FW;exact L3 (Ra (Pn (Pn N0 (Tn 8 N1)) (Kn 100)) (Kn 9900) (Rc N2 (Kn 9900) (Gn (Pn (Pn N0 (Kn 64)) (Kn 1)) N2))) rfl FW this)
set_option tactic.hygienic true in
theorem Ok.room{k A fs}(h:Ok (k+1) A fs):A.depth<recursionLimit:=by have:=h.depth;have:recursionLimit=1000:=rfl;(rename_i FW;exact L3 (Ra (Pn N0 M1) (Kn 1000) (Rc N2 (Kn 1000) (Gn M0 N2))) rfl FW this)
noncomputable def con(H:HH):V->V
 |.ref a=>(H a).getD (.ref a)
 |v=>v
noncomputable def V.isObj:V->Bool
 |.tup _|.lst _|.dct _|.sdct _|.set _|.inst _ _|.adict _|.rng _ _|.exc _ _|.exn _ _=>true
 |_=>false
section
variable {G:GC}{fs:List Env}{fm:Fm}{F F':ah->Prop}{H:HH}{s s':an}{h:Heap}{k:Nat}{X:XP}{A:cA}
theorem VR.obj_inv{v:V}{c:Value}(r:VR G h F v c)(ho:v.isObj=true):∃a,c=.ref a/\F a/\OR G h F v a:=by
 cases v <;> first|exact r.inv|exact nB ho
theorem VR.read{v x:V}{c:Value}(r:bB G fs F H s)(hv:VR G s.heap F v c)(e:con H v=x)(ho:x.isObj=true):∃a,c=.ref a/\OR G s.heap F x a:=by
 cases v with
 |ref a=>
  obtain rfl:=hv.ref_inv;have e:(H a).getD (.ref a)=x:=e;cases q:H a with
  |none=>rw[q]at e;cases e;exact nB ho
  |some y=>rw[q]at e;cases e;exact⟨a,rfl,r.own a _ q⟩
 |_=>cases e;refine cX (hv.obj_inv ho) fun a e1 zz e2=>?_;exact⟨a,e1,e2⟩
theorem OR.lst_inv{xs:List V}{a:ah}(r:OR G h F (.lst xs) a):∃cs,tI h a cs.toArray/\d7 G h F xs cs:=r.inv
theorem OR.tup_inv{xs:List V}{a:ah}(r:OR G h F (.tup xs) a):∃cs,IsTup h a cs.toArray/\d7 G h F xs cs:=r.inv
theorem OR.dct_inv{xs:List (Int×V)}{a:ah}(r:OR G h F (.dct xs) a):∃cs,(a==ip)=false/\h.DictOf (ca G.prog G.w) a cs/\Rl G h F (.k xs cs):=r.inv
theorem OR.sdct_inv{xs:List (Str×V)}{a:ah}(r:OR G h F (.sdct xs) a):∃cs,(a==ip)=false/\h.DictOf (strKind G.prog G.w) a cs/\Rl G h F (.sk xs cs):=r.inv
theorem OR.set_inv{xs:List Int}{a:ah}(r:OR G h F (.set xs) a):gp G.prog G.w h a xs/\xs.Nodup:=r.inv
theorem OR.inst_inv{c:ah}{d:V}{a:ah}(r:OR G h F (.inst c d) a):∃dx,h.get? a=some (po c dx)/\VR G h F d (.ref dx):=r.inv
theorem OR.exn_inv{c:ah}{d:Option ah}{a:ah}(r:OR G h F (.exn c d) a):yv h a c d:=r.inv
theorem OR.exc_inv{c:ah}{d:V}{a:ah}(r:OR G h F (.exc c d) a):∃dx,yx h a c dx/\VR G h F d (.ref dx):=r.inv
theorem OR.adict_inv{xs:List (Str×V)}{a:ah}(r:OR G h F (.adict xs) a):∃m,h.Ns1 a m/\(∀n,xs.lookup n=none->m n=none)/\Rl G h F (.f xs m):=r.inv
theorem OR.rng_inv{lo hi:Int}{a:ah}(r:OR G h F (.rng lo hi) a):∃t u v,IsRange h a lo hi 1 t u v/\lo.natAbs<2^62/\hi.natAbs<2^62:=r.inv
theorem d7.nil_inv{cs:List Value}(r:d7 G h F [] cs):cs=[]:=r.inv
theorem d7.cons_inv{x:V}{xs:List V}{cs:List Value}(r:d7 G h F (x::xs) cs):∃c cs',cs=c::cs'/\VR G h F x c/\d7 G h F xs cs':=r.inv
theorem d7.one{x:V}{c:Value}(r:VR G h F x c):d7 G h F [x] [c]:=.cons r .nil
theorem d7.two{x y:V}{c d:Value}(r:VR G h F x c)(q:VR G h F y d):d7 G h F [x,y] [c,d]:=.cons r (.cons q .nil)
theorem d7.elim1{x:V}{cs:List Value}{P:List Value->Prop}(r:d7 G h F [x] cs)(k:∀c,VR G h F x c->P [c]):P cs:=by
 refine cq r.cons_inv fun c cs' FW a b=>?_;subst FW;refine rA b.nil_inv ?_;exact k c a
theorem d7.elim2{x y:V}{cs:List Value}{P:List Value->Prop}(r:d7 G h F [x,y] cs)(k:∀c d,VR G h F x c->VR G h F y d->P [c,d]):P cs:=by
 refine cq r.cons_inv fun c cs' FW a b=>?_;subst FW;exact b.elim1 (P:=fun z=>P (c::z)) fun d e=>k c d a e
theorem d7.elim3{x y z:V}{cs:List Value}{P:List Value->Prop}(r:d7 G h F [x,y,z] cs)(k:∀c d e,VR G h F x c->VR G h F y d->VR G h F z e->P [c,d,e]):P cs:=by
 refine cq r.cons_inv fun c cs' FW a b=>?_;subst FW;exact b.elim2 (P:=fun z=>P (c::z)) fun d e m n=>k c d e a m n
theorem VR.intE{i:Int}{c:Value}{P:Value->Prop}(r:VR G h F (.int i) c)(k:∀t,P (.int i t)):P c:=by
 refine ex r.int_inv fun t FW=>?_;subst FW;exact k t
theorem VR.strE{i:Str}{c:Value}{P:Value->Prop}(r:VR G h F (.str i) c)(k:∀t,P (.str i t)):P c:=by
 refine ex r.str_inv fun t FW=>?_;subst FW;exact k t
theorem VR.lstE{v:V}{xs:List V}{c:Value}{P:Value->Prop}(r:VR G s.heap F v c)(hp:bB G fs F H s)(e:con H v=.lst xs)(k:∀a ds n,s.heap.get? a=some {cls:=.type "list",dict:=none,data:=.seq ds.toArray n,slots:=#[]}->d7 G s.heap F xs ds->P (.ref a)):P c:=by
 refine bx (r.read hp e rfl) fun a FW o=>?_;subst FW;refine bx o.lst_inv fun ds FY vs=>?_;refine ex FY fun n ho=>?_;exact k a ds n ho vs
theorem d7.length{xs:List V}:∀{cs:List Value},d7 G h F xs cs->cs.length=xs.length:=by
 induction xs with
 |nil=>intro cs r;refine rA r.nil_inv ?_;rfl
 |cons x xs ih=>intro cs r;refine cq r.cons_inv fun c cs' FW zz q=>?_;subst FW;simp[ih q]
theorem d7.get{xs:List V}:∀{cs:List Value}{i:Nat}{x:V},d7 G h F xs cs->xs[i]?=some x->∃c,cs[i]?=some c/\VR G h F x c:=by
 induction xs with
 |nil=>intro cs i x r e;simp at e
 |cons y xs ih=>
  intro cs i x r e;refine cq r.cons_inv fun c cs' FW p q=>?_;subst FW;cases i with
  |zero=>simp at e;subst e;exact⟨c,by simp,p⟩
  |succ i=>refine bx (ih q (by simpa using e)) fun d e1 e2=>?_;exact⟨d,by simpa using e1,e2⟩
theorem d7.append{xs ys:List V}:∀{cs ds:List Value},d7 G h F xs cs->d7 G h F ys ds->d7 G h F (xs++ys) (cs++ds):=by
 induction xs with
 |nil=>intro cs ds r q;refine rA r.nil_inv ?_;exact q
 |cons x xs ih=>intro cs ds r q;refine cq r.cons_inv fun c cs' FW p r'=>?_;subst FW;exact .cons p (ih r' q)
theorem d7.set{xs:List V}:∀{cs:List Value} (n:Nat) {x:V}{c:Value},d7 G h F xs cs->VR G h F x c->d7 G h F (xs.set n x) (cs.set n c):=by
 induction xs with
 |nil=>intro cs n x c r _;refine rA r.nil_inv ?_;exact .nil
 |cons y xs ih=>
  intro cs n x c r v;refine cq r.cons_inv fun d cs' FW p r'=>?_;subst FW;cases n with
  |zero=>exact .cons v r'
  |succ n=>exact .cons p (ih n r' v)
theorem d7.eraseIdx{xs:List V}:∀{cs:List Value} (n:Nat),d7 G h F xs cs->d7 G h F (xs.eraseIdx n) (cs.eraseIdx n):=by
 induction xs with
 |nil=>intro cs n r;refine rA r.nil_inv ?_;exact .nil
 |cons y xs ih=>
  intro cs n r;refine cq r.cons_inv fun d cs' FW p r'=>?_;subst FW;cases n with
  |zero=>exact r'
  |succ n=>exact .cons p (ih n r')
theorem d7.ints{ns:List Int}:∀{cs:List Value},d7 G h F (ns.map V.int) cs->IntsAre cs ns:=by
 induction ns with
 |nil=>intro cs r;refine rA (d7.nil_inv r) ?_;exact .nil
 |cons n ns ih=>
  intro cs r;refine cq (d7.cons_inv r) fun c cs' FW p q=>?_;subst FW;refine ex p.int_inv fun t FY=>?_;subst FY;exact .cons n t (ih q)
theorem tK{ns:List Int}{cs:List Value}(r:IntsAre cs ns):d7 G h F (ns.map V.int) cs:=by
 induction r with
 |nil=>exact .nil
 |cons n t _ ih=>exact .cons (.int n t) ih
end
noncomputable def yi(op:oM):List Value->Sem Value|[a,b]=>binaryOp op a b|_=>pure .none
noncomputable def gu(op:CmpOp):List Value->Sem Value|[a,b]=>compareOp op a b|_=>pure .none
noncomputable def FQ(op:UnaryOp):List Value->Sem Value|[a]=>unaryOp op a|_=>pure .none
noncomputable def jk:List Value->Sem Bool|[a]=>truthy a|_=>pure false
noncomputable def dm(f:Value):List Value->Sem Value:=fun cs=>call f cs []
section
variable {G:GC}{k:Nat}{sc:Sc}{σ:St}{X:XP}{Q:VP}{QB:Bool->HH->Prop}
theorem VT.mono{t a H}{Q Q':VP}{X X':XP}{k k':Nat}(h:VT G k t a H Q X)(hk:k<=k')(hQ:∀v H,Q v H->Q' v H)(hX:∀c d H,X c d H->X' c d H):VT G k' t a H Q' X' :=
 fun A fs F s cs ok r v=>(h A fs F s cs (ok.mono hk) r v).mono (fun zz zz zz zz zz zz z=>z.imp hQ) hX dD subs
theorem BT.mono{t a H}{Q Q':Bool->HH->Prop}{X X':XP}{k k':Nat}(h:BT G k t a H Q X)(hk:k<=k')(hQ:∀v H,Q v H->Q' v H)(hX:∀c d H,X c d H->X' c d H):BT G k' t a H Q' X' :=
 fun A fs F s cs ok r v=>(h A fs F s cs (ok.mono hk) r v).mono (fun zz zz zz zz zz zz b=>hQ _ _ b) hX dD subs
theorem TE.mono{e}{Q Q':VP}{X X':XP}{k k':Nat}(h:TE G k sc e σ Q X)(hk:k<=k')(hQ:∀v H,Q v H->Q' v H)(hX:∀c d H,X c d H->X' c d H):TE G k' sc e σ Q' X' :=
 fun fm A fs F s hs ok r=>(h fm A fs F s hs (ok.mono hk) r).mono (fun zz zz zz zz zz zz z=>z.imp hQ) hX dD subs
theorem TT.mono{e}{Q Q':Bool->HH->Prop}{X X':XP}{k k':Nat}(h:TT G k sc e σ Q X)(hk:k<=k')(hQ:∀v H,Q v H->Q' v H)(hX:∀c d H,X c d H->X' c d H):TT G k' sc e σ Q' X' :=
 fun fm A fs F s hs ok r=>(h fm A fs F s hs (ok.mono hk) r).mono (fun zz zz zz zz zz zz b=>hQ _ _ b) hX dD subs
theorem TA.mono{e v}{Q Q':St->Prop}{X X':XP}{k k':Nat}(h:TA G k sc e v σ Q X)(hk:k<=k')(hQ:∀σ,Q σ->Q' σ)(hX:∀c d H,X c d H->X' c d H):TA G k' sc e v σ Q' X' :=
 fun fm A fs F s c hs ok r vr=>(h fm A fs F s c hs (ok.mono hk) r vr).mono (fun zz zz zz zz zz zz z=>z.imp hQ) hX dD subs
theorem TS.mono{e}{Q Q':SP}{X X':XP}{k k':Nat}(h:TS G k sc e σ Q X)(hk:k<=k')(hQ:∀f σ,Q f σ->Q' f σ)(hX:∀c d H,X c d H->X' c d H):TS G k' sc e σ Q' X' :=
 fun fm A fs F s hs ok r=>(h fm A fs F s hs (ok.mono hk) r).mono (fun zz zz zz zz zz zz z=>z.imp hQ) hX dD subs
theorem lK.mono{e}{Q Q':SP}{X X':XP}{k k':Nat}(h:lK G k sc e σ Q X)(hk:k<=k')(hQ:∀f σ,Q f σ->Q' f σ)(hX:∀c d H,X c d H->X' c d H):lK G k' sc e σ Q' X' :=
 fun fm A fs F s hs ok r=>(h fm A fs F s hs (ok.mono hk) r).mono (fun zz zz zz zz zz zz z=>z.imp hQ) hX dD subs
theorem TE.int{i k0 pos}(h:Q (.int i) σ.H):TE G k sc (.Constant (.int i) k0 pos) σ Q X :=
 fun fm A fs F s zz zz r=>by
  refine wpAny_Constant_int ?_;exact⟨_,_,r.hp.toks _,.refl,_,.int _ _,h⟩
theorem TE.str{i k0 pos}(h:Q (.str i) σ.H):TE G k sc (.Constant (.str i) k0 pos) σ Q X :=
 fun fm A fs F s zz zz r=>by
  refine wpAny_Constant_str ?_;exact⟨_,_,r.hp.toks _,.refl,_,.str _ _,h⟩
theorem TE.bool{i k0 pos}(h:Q (.bool i) σ.H):TE G k sc (.Constant (.bool i) k0 pos) σ Q X :=
 fun fm A fs F s zz zz r=>wpAny_Constant_bool (GP.v r.hp .refl (.bool _) h)
theorem yP{k0 pos}(h:Q .none σ.H):TE G k sc (.Constant .none k0 pos) σ Q X :=
 fun fm A fs F s zz zz r=>wpAny_Constant_none (GP.v r.hp .refl .none h)
theorem TE.name{x v pos}(hv:σ.m.lookup x=some v)(h:Q v σ.H)(hd:autoParam ((x==("__debug__":Str))=false) aD):TE G k sc (.Name x pos) σ Q X:=fun fm A fs F s zz zz r=>by
 obtain⟨c,hs,hv'⟩:=r.fr.vars x v hv;refine wpAny_Name ?_ hd;have e:GP G fs [] σ.H F s.heap (RV G Q) c s:=GP.v r.hp .refl hv' h;rcases hs with ⟨hl,mc,hn,hm⟩|⟨hl,a,hc,hcell⟩
 ·exact wpAny_loadName_local r.fr.kind hl hn hm e
 ·rcases hl with hl|⟨hl,hcd⟩
  ·exact wpAny_loadName_cell r.fr.kind hl hc hcell e
  ·exact wpAny_loadName_free r.fr.kind hl hc hcell e hcd
noncomputable def nZ:Value->V
 |.int i _=>.int i
 |.str x _=>.str x
 |v=>.glob v
theorem ud{h:Heap}{F:ah->Prop}(v:Value):VR G h F (nZ v) v:=by
 cases v <;> first|exact .int _ _|exact .str _ _|exact .glob _
theorem TE.glob{x v pos}(hk:sc.kindOf x=some .globalImplicit)(hg:nsIn G.K dW x=some (some v))(h:Q (nZ v) σ.H)(hd:autoParam ((x==("__debug__":Str))=false) aD):TE G k sc (.Name x pos) σ Q X:=fun fm A fs F s hsc zz r=>by
 subst hsc;have hb:G.base.Ns dW G.mg:=G.top.g;refine oX r.fr.kind hk (loadGlobal_global (mg:=G.mg) ?_ (mg_of G.kin hb hg) (GP.v r.hp .refl (ud v) h)) hd;refine rA r.fr.glob ?_;exact hb.keeps r.hp.base
theorem TE.blt{x v pos}(hk:sc.kindOf x=some .globalImplicit)(hg:nsIn G.K dW x=some none)(hb:sF x=some v)(h:Q (.glob v) σ.H)(hn:x≠"__name__")(hd:autoParam ((x==("__debug__":Str))=false) aD) :
  TE G k sc (.Name x pos) σ Q X:=fun fm A fs F s hsc zz r=>by
 subst hsc;refine oX r.fr.kind hk (loadGlobal_builtin (mg:=G.mg) (mb:=G.mb) ?_ (mg_none_of G.kin G.top.g hg) ?_ ((G.top.builtins x hn).trans hb) (GP.v r.hp .refl (.glob v) h)) hd
 ·refine rA r.fr.glob ?_;exact G.top.g.keeps r.hp.base
 ·refine rA r.fr.blt ?_;exact G.top.b.keeps r.hp.base
theorem CI{l op r pos}(h:TE G k sc l σ (fun a H1=>TE G k sc r ⟨σ.m,H1⟩ (fun b H2=>VT G k (yi op) [a,b] H2 Q X) X) X):TE G k sc (.BinOp l op r pos) σ Q X:=fun fm A fs F s hsc ok rel=>by
 refine wpAny_BinOp ((h fm A fs F s hsc ok rel).thnV .refl (fun c s1 H1 F1 r1 st1 st1' a va h1=>?_) subs dD);refine(h1 fm A fs F1 s1 hsc ok (rel.keeps st1 r1)).thnV st1 (fun d s2 H2 F2 r2 dE st2' b vb h2=>?_) subs dD;exact(h2 A fs F2 s2 [c,d] ok r2 (.two (st2'.vr r1.live va) vb)).fin dE subs dD
theorem TE.cmp{l op r pos}(h:TE G k sc l σ (fun a H1=>TE G k sc r ⟨σ.m,H1⟩ (fun b H2=>VT G k (gu op) [a,b] H2 Q X) X) X)(hm:autoParam (q9 op r=false) aU):TE G k sc (.Compare l [op] [r] pos) σ Q X:=fun fm A fs F s hsc ok rel=>by
 refine wpAny_Compare1 ((h fm A fs F s hsc ok rel).thnV .refl (fun c s1 H1 F1 r1 st1 st1' a va h1=>?_) subs dD) hm;refine(h1 fm A fs F1 s1 hsc ok (rel.keeps st1 r1)).thnV st1 (fun d s2 H2 F2 r2 dE st2' b vb h2=>?_) subs dD;exact(h2 A fs F2 s2 [c,d] ok r2 (.two (st2'.vr r1.live va) vb)).fin dE subs dD
theorem E8{op x pos}(h:TE G k sc x σ (fun a H1=>VT G k (FQ op) [a] H1 Q X) X):TE G k sc (.UnaryOp op x pos) σ Q X:=fun fm A fs F s hsc ok rel=>by
 refine wpAny_UnaryOp ((h fm A fs F s hsc ok rel).thnV .refl (fun c s1 H1 F1 r1 st1 st1' a va h1=>?_) subs dD);exact(h1 A fs F1 s1 [c] ok r1 (.one va)).fin st1 subs dD
theorem CJ{t b o pos}(h:TT G k sc t σ (fun x H1=>if x then TE G k sc b ⟨σ.m,H1⟩ Q X else TE G k sc o ⟨σ.m,H1⟩ Q X) X):TE G k sc (.IfExp t b o pos) σ Q X:=fun fm A fs F s hsc ok rel=>by
 refine wpAny_IfExp ((h fm A fs F s hsc ok rel).thn .refl (fun c s1 H1 F1 r1 st1 st1' h1=>?_) subs dD);cases c
 ·exact(h1 fm A fs F1 s1 hsc ok (rel.keeps st1 r1)).fin st1 subs dD
 ·exact(h1 fm A fs F1 s1 hsc ok (rel.keeps st1 r1)).fin st1 subs dD
noncomputable def xi(G:GC)(k:Nat)(sc:Sc)(op:BoolOp)(es:List Expr)(σ:St)(Q:VP)(X:XP):Prop :=
 ∀fm A fs F s pos,fm.sc=sc->Ok k A fs->jn G fs fm F σ s->Wp G fs A [] σ.H F s (boolOp pos op (evalEach es fm.env)) (RV G Q) ot X
theorem TE.bo{op es pos}(h:xi G k sc op es σ Q X):TE G k sc (.BoolOp op es pos) σ Q X:=fun fm A fs F s hsc ok rel=>by
 rw[arm_eval_BoolOp];exact h fm A fs F s pos hsc ok rel
theorem xi.one{op x}(h:TE G k sc x σ Q X):xi G k sc op [x] σ Q X:=fun fm A fs F s pos hsc ok rel=>h fm A fs F s hsc ok rel
theorem xi.and{x y es}(h:TE G k sc x σ (fun v H1=>BT G k jk [v] H1 (fun b H2=>if b then xi G k sc .And (y::es) ⟨σ.m,H2⟩ Q X else Q v H2) X) X):xi G k sc .And (x::y::es) σ Q X:=fun fm A fs F s pos hsc ok rel=>by
 show Wp G fs A [] σ.H F s (do
  let v ←fu x fm.env
  fV pos
  let t ←kA [v] (truthy v)
  match BoolOp.And,t with
  |.And,false|.Or,true=>pure v
  |_,_=>boolOp pos .And (fu y fm.env::evalEach es fm.env)) _ _ _
 refine aa ((h fm A fs F s hsc ok rel).thnV .refl (fun c s1 H1 F1 r1 st1 st1' a va h1=>?_) subs dD);refine aa (b7 (aa (a9 ((h1 A fs F1 s1 [c] ok r1 (.one va)).thn st1 (fun t s2 H2 F2 r2 dE st2' h2=>?_) subs dD))));cases t with
 |false=>exact af (GP.v r2 dE (st2'.vr r1.live va) h2)
 |true=>exact(h2 fm A fs F2 s2 pos hsc ok (rel.keeps dE r2)).fin dE subs dD
theorem xi.or{x y es}(h:TE G k sc x σ (fun v H1=>BT G k jk [v] H1 (fun b H2=>if b then Q v H2 else xi G k sc .Or (y::es) ⟨σ.m,H2⟩ Q X) X) X):xi G k sc .Or (x::y::es) σ Q X:=fun fm A fs F s pos hsc ok rel=>by
 show Wp G fs A [] σ.H F s (do
  let v ←fu x fm.env
  fV pos
  let t ←kA [v] (truthy v)
  match BoolOp.Or,t with
  |.And,false|.Or,true=>pure v
  |_,_=>boolOp pos .Or (fu y fm.env::evalEach es fm.env)) _ _ _
 refine aa ((h fm A fs F s hsc ok rel).thnV .refl (fun c s1 H1 F1 r1 st1 st1' a va h1=>?_) subs dD);refine aa (b7 (aa (a9 ((h1 A fs F1 s1 [c] ok r1 (.one va)).thn st1 (fun t s2 H2 F2 r2 dE st2' h2=>?_) subs dD))));cases t with
 |true=>exact af (GP.v r2 dE (st2'.vr r1.live va) h2)
 |false=>exact(h2 fm A fs F2 s2 pos hsc ok (rel.keeps dE r2)).fin dE subs dD
theorem TT.val{e}(h:TE G k sc e σ (fun a H1=>BT G k jk [a] H1 QB X) X)(he:autoParam (∀env whole,isTrue e env whole=(do let v ←whole;fV e.pos;kA [v] (truthy v))) aI):TT G k sc e σ QB X:=fun fm A fs F s hsc ok rel=>by
 refine wpAny_isTrue_value ((h fm A fs F s hsc ok rel).thnV .refl (fun c s1 H1 F1 r1 st1 st1' a va h1=>?_) subs dD) (he _ _);exact(h1 A fs F1 s1 [c] ok r1 (.one va)).fin st1 subs dD
theorem CL{x pos}(h:TT G k sc x σ (fun b H1=>QB (!b) H1) X):TT G k sc (.UnaryOp .Not x pos) σ QB X:=fun fm A fs F s hsc ok rel=>
 wpAny_isTrue_Not ((h fm A fs F s hsc ok rel).thn .refl (fun c s1 H1 F1 r1 st1 st1' h1=>GP.here r1 st1 h1) subs dD)
theorem TT.cmp{l op r pos}(h:TE G k sc l σ (fun a H1=>TE G k sc r ⟨σ.m,H1⟩ (fun b H2=>VT G k (gu op) [a,b] H2 (fun c H3=>BT G k jk [c] H3 QB X) X) X) X)(hm:autoParam (q9 op r=false) aU):TT G k sc (.Compare l [op] [r] pos) σ QB X:=fun fm A fs F s hsc ok rel=>by
 refine wpAny_isTrue_Compare1 ((h fm A fs F s hsc ok rel).thnV .refl (fun c s1 H1 F1 r1 st1 st1' a va h1=>?_) subs dD) hm;refine(h1 fm A fs F1 s1 hsc ok (rel.keeps st1 r1)).thnV st1 (fun d s2 H2 F2 r2 dE st2' b vb h2=>?_) subs dD;refine(h2 A fs F2 s2 [c,d] ok r2 (.two (st2'.vr r1.live va) vb)).thnV dE (fun e s3 H3 F3 r3 gW st3' x vx h3=>?_) subs dD;exact(h3 A fs F3 s3 [e] ok r3 (.one vx)).fin gW subs dD
noncomputable def l4(G:GC)(k:Nat)(sc:Sc)(op:BoolOp)(es:List Expr)(σ:St)(Q:Bool->HH->Prop)(X:XP):Prop :=
 ∀fm A fs F s,fm.sc=sc->Ok k A fs->jn G fs fm F σ s->Wp G fs A [] σ.H F s (allTrue op es fm.env) (RB Q) ot X
theorem TT.bo{op es pos}(h:l4 G k sc op es σ QB X):TT G k sc (.BoolOp op es pos) σ QB X:=fun fm A fs F s hsc ok rel=>wpAny_isTrue_BoolOp (h fm A fs F s hsc ok rel)
theorem tJ(h:QB true σ.H):l4 G k sc .And [] σ QB X:=fun fm A fs F s hsc ok rel=>wpAny_allTrue_And_nil (GP.here rel.hp .refl h)
theorem uX(h:QB false σ.H):l4 G k sc .Or [] σ QB X:=fun fm A fs F s hsc ok rel=>wpAny_allTrue_Or_nil (GP.here rel.hp .refl h)
theorem l4.and{x es}(h:TT G k sc x σ (fun b H1=>if b then l4 G k sc .And es ⟨σ.m,H1⟩ QB X else QB false H1) X):l4 G k sc .And (x::es) σ QB X:=fun fm A fs F s hsc ok rel=>by
 refine wpAny_allTrue_And_cons ((h fm A fs F s hsc ok rel).thn .refl (fun c s1 H1 F1 r1 st1 st1' h1=>?_) subs dD);cases c
 ·exact GP.here r1 st1 h1
 ·exact(h1 fm A fs F1 s1 hsc ok (rel.keeps st1 r1)).fin st1 subs dD
theorem l4.or{x es}(h:TT G k sc x σ (fun b H1=>if b then QB true H1 else l4 G k sc .Or es ⟨σ.m,H1⟩ QB X) X):l4 G k sc .Or (x::es) σ QB X:=fun fm A fs F s hsc ok rel=>by
 refine wpAny_allTrue_Or_cons ((h fm A fs F s hsc ok rel).thn .refl (fun c s1 H1 F1 r1 st1 st1' h1=>?_) subs dD);cases c
 ·exact(h1 fm A fs F1 s1 hsc ok (rel.keeps st1 r1)).fin st1 subs dD
 ·exact GP.here r1 st1 h1
theorem AW{l op1 op2 r1 r2 pos}(h:TE G k sc l σ (fun a H1=>TE G k sc r1 ⟨σ.m,H1⟩ (fun b H2=>VT G k (gu op1) [a,b] H2 (fun c H3=>BT G k jk [c] H3 (fun t H4=>
   if t then TE G k sc r2 ⟨σ.m,H4⟩ (fun d H5=>VT G k (gu op2) [b,d] H5 (fun e H6=>BT G k jk [e] H6 QB X) X) X else QB false H4) X) X) X) X) (hm:autoParam (lastMarks [op1,op2] [r1,r2]=false) aU) :
  TT G k sc (.Compare l [op1,op2] [r1,r2] pos) σ QB X:=fun fm A fs F s hsc ok rel=>by
 refine isTrue_chain ((h fm A fs F s hsc ok rel).thnV .refl (fun c s1 H1 F1 q1 st1 st1' a va h1=>?_) subs dD) hm;refine test_link ((h1 fm A fs F1 s1 hsc ok (rel.keeps st1 q1)).thnV st1 (fun d s2 H2 F2 q2 dE st2' b vb h2=>?_) subs dD);refine(h2 A fs F2 s2 [c,d] ok q2 (.two (st2'.vr q1.live va) vb)).thnV dE (fun e s3 H3 F3 q3 gW st3' x vx h3=>?_) subs dD;refine(h3 A fs F3 s3 [e] ok q3 (.one vx)).thn gW (fun t s4 H4 F4 q4 st4 st4' h4=>?_) subs dD;cases t
 ·exact GP.here q4 st4 h4
 ·refine test_last ((h4 fm A fs F4 s4 hsc ok (rel.keeps st4 q4)).thnV st4 (fun f s5 H5 F5 q5 st5 st5' y vy h5=>?_) subs dD);refine(h5 A fs F5 s5 [d,f] ok q5 (.two (st5'.vr q4.live (st4'.vr q3.live (st3'.vr q2.live vb))) vy)).thnV st5 (fun g s6 H6 F6 q6 st6 st6' z vz h6=>?_) subs dD;exact(h6 A fs F6 s6 [g] ok q6 (.one vz)).fin st6 subs dD
theorem pq.nil{QQ:List V->HH->Prop}(h:QQ [] σ.H):pq G k sc [] σ QQ X:=fun fm A fs F s pos hsc ok rel=>wpAny_items_nil (GP.here rel.hp .refl ⟨[],.nil,h⟩)
theorem pq.cons{e es}{QQ:List V->HH->Prop}(h:TE G k sc e σ (fun v H1=>pq G k sc es ⟨σ.m,H1⟩ (fun vs H2=>QQ (v::vs) H2) X) X)
  (he:autoParam (∀env,cL (e::es) env=(false,fu e env)::cL es env) aI):pq G k sc (e::es) σ QQ X:=fun fm A fs F s pos hsc ok rel=>by
 refine wpAny_items_cons ((h fm A fs F s hsc ok rel).thnV .refl (fun c s1 H1 F1 r1 st1 st1' a va h1=>?_) subs dD) (he _);refine(h1 fm A fs F1 s1 pos hsc ok (rel.keeps st1 r1)).thnVs st1 (fun cs s2 H2 F2 r2 dE st2' vs vv h2=>?_) subs dD;exact GP.here r2 dE ⟨a::vs,.cons (st2'.vr r1.live va) vv,h2⟩
theorem TE.tup{es k0 pos}(h:pq G k sc es σ (fun vs H1=>vs.length<=1000/\Q (.tup vs) H1) X):TE G k sc (.Tuple es k0 pos) σ Q X:=fun fm A fs F s hsc ok rel=>by
 refine wpAny_Tuple ((h fm A fs F s pos hsc ok rel).thnVs .refl (fun cs s1 H1 F1 r1 st1 st1' vs vv hq__=>?_) subs dD);obtain⟨hl,h1⟩:=hq__;refine⟨by refine rA vv.length ?_;exact a8 hl (by decide),?_⟩;obtain⟨r2,dE⟩:=r1.cold (h':=s1.heap.push {cls:=.type "tuple",data:=.seq cs.toArray}) s1.toks (bL _) (Heap.get?_push_size _ rfl) fun b o e=>Heap.get?_push_of_some _ e;refine GP.here r2 (st1.trans dE) ⟨.tup vs,.fz (.inr rfl) (.tup ⟨_,Heap.get?_push_size _ rfl,rfl,_,rfl⟩ (dE.vrs vv)),h1⟩
theorem TE.list{es pos}(h:pq G k sc es σ (fun vs H1=>vs.length<=1000/\∀a,H1 a=.none->Q (.ref a) (upd H1 a (.lst vs))) X):TE G k sc (.List es pos) σ Q X:=fun fm A fs F s hsc ok rel=>by
 refine wpAny_List ((h fm A fs F s pos hsc ok rel).thnVs .refl (fun cs s1 H1 F1 r1 st1 st1' vs vv hq__=>?_) subs dD);obtain⟨hl,h1⟩:=hq__;refine⟨by refine rA vv.length ?_;exact a8 hl (by decide),?_⟩;obtain⟨r2,dE⟩:=r1.mine (h':=s1.heap.push {cls:=.type "list",data:=.seq cs.toArray}) s1.toks (.lst vs) (bL _) (fun b o e=>Heap.get?_push_of_some _ e)
  (.lst ⟨0,Heap.get?_push_size _ rfl⟩ (vv.mono (fun zz x=>x) fun b o zz e=>Heap.get?_push_of_some _ e))
 exact GP.v r2 (st1.trans dE) (.ref _) (h1 _ (r1.fresh (bL _)).2)
end
section
variable {G:GC}{fs:List Env}{A:cA}{own:List ah}{H H' H1:HH}{F F' F1:ah->Prop}{s s' s1:an}{h0 h h':Heap}{X:XP}{env:Env}{outer:List Env}{L a:ah}
theorem bQ.more(st:bQ own H F h0 H' F' h)(kF:∀b o,F' b->h.get? b=some o->h'.get? b=some o)
  (kr:∀b o o0,h0.get? b=some o0->h.get? b=some o->ln h' b o):bQ own H F h0 H' F' h' where
 fz:=st.fz
 keepF:=fun b o e f=>kF b o (st.fz b f) (st.keepF b o e f)
 keepR:=fun b o e n q=>(st.keepR b o e n q).trans fun o1 e1=>kr b o1 o e e1
 live:=fun b o e=>by refine ex (st.live b o e) fun o' e'=>?_;exact let ⟨_,e2,_⟩:=kr b _ o e e';⟨_,e2⟩
 nf:=fun b o e n=>by refine bx (st.nf b o e n) fun o' e' n'=>?_;exact let ⟨_,e2,_⟩:=kr b _ o e e';⟨_,e2,n'⟩
 fnew:=st.fnew
 hnew:=st.hnew
theorem bB.more(r:bB G fs F H s){h':Heap}(k:∀b o,(F b∨∃x,H b=some x)->s.heap.get? b=some o->h'.get? b=some o)
  (kn:∀b o,ce o->s.heap.get? b=some o->∃sl,h'.get? b=some {o with slots:=sl}):bB G fs F H {s with heap:=h'} where
 base:=fun b o e=>k b o (.inl (r.bF b o e)) (r.base b o e)
 bF:=r.bF
 live:=fun b f=>by refine ex (r.live b f) fun o e=>?_;exact⟨o,k b o (.inl f) e⟩
 sep:=r.sep
 own:=fun b x e=>(r.own b x e).mono (fun zz x=>x) (fun b o f e'=>k b o (.inl f) e') fun o e'=>k b o (.inr ⟨x,e⟩) e'
 frs:=fun env he=>by
  obtain⟨k1,L,o,e1,e2,e3,e4,e5,e6⟩:=r.frs env he;refine ex (kn L o e4 e3) fun sl e7=>?_;exact⟨k1,L,_,e1,e2,e7,e4,e5,e6⟩
 gens:=r.gens
 os:=r.os
theorem nc{base h:Heap}:∀{l:List Env},(∀env∈l,xf base F H h env)->h.FunFrames base l
 |[],_=>trivial
 |env::l,x=>by
  obtain⟨k1,L,o,e1,e2,e3,e4,e5,e6⟩:=x env (.head _);exact⟨k1,⟨L,o,e1,e2,e3,e4⟩,nc fun e he=>x e (.tail _ he)⟩
theorem bB.funFrames(r:bB G fs F H s):s.heap.FunFrames G.base fs:=nc r.frs
theorem ly(r:bB G fs F H s){b:ah}(hb:b∈fs.filterMap (·.frame)):¬F b/\H b=none/\∃o,s.heap.get? b=some o/\ce o:=by
 refine bx (jU.mp hb) fun env he hf=>?_;obtain⟨_,L,o,e1,_,e3,e4,e5,e6⟩:=r.frs env he;rw[e1]at hf;obtain rfl:=aj hf;exact⟨e5,e6,o,e3,e4⟩
theorem entry{vs:Array Value}{o:Obj}{dx c:ah}{d:V}{head:Value}{b:Bool}{E:Value->an->Prop}(hL:env.frame=some L)(hfr:A.frames=some (env::outer))
  (r:bB G (env::outer) F' H' s) (st:bQ own H F h0 H' F' s.heap) (x2:h0.get? a=none) (x3:s.heap.get? a=some o) (x4:o.cls=.ref c) (x5:o.dict=some dx) (x6:o.data=.fields vs) (x7:1<vs.size)
  (x8:¬F' a) (x9:H' a=none) (x10:VR G s.heap F' d (.ref dx)) (q:X c d H') :
  aM (bj G.prog G.w) A (do setField (.ref a) 1 (←EntryCells.newEntry head (←frameOf env) .none (bV L) .none (←entryPlaceOf L b)))
   (fun zz s''=>cK G (env::outer) own H F h0 (fun fl=>fl=some (bV L)) X (.ref a) s'') E s:=by
 have hene:a∉(env::outer).filterMap (·.frame):=fun hm=>by
  refine m9 (ly r hm) fun zz zz o' ho hnf=>?_;rw[x3]at ho;injection ho with ho;subst ho;exact hnf vs x6
 refine aa (wpAny_frameOf_fun hfr r.funFrames hL fun h₁ hs₁=>?_);refine aa (wpAny_entryPlaceOf fun pl hpl=>?_);unfold EntryCells.newEntry newFields;refine aa (gz ?_ (hpl.sizeOk5 _ _ _ _ _));have he₁:h₁.get? a=some o:=(hs₁.2.1 a hene).trans x3;have he₂:=Heap.get?_push_of_some (h:=h₁) {cls:=.type "traceback",dict:=none,data:=.fields ([head,.ref L,.none,bV L,.none]++(if pl.isEmpty then d9 6 c0 else pl)).toArray} he₁;refine dv he₂ x6 x7 ?_;have hTe:h₁.objs.size≠a:=Nat.ne_of_gt (Heap.lt_size he₁);have hd₃:=Obj.data_mapFields x6 (·.setIfInBounds 1 (cp h₁.objs.size));have he₃:=Heap.get?_update_self (Obj.mapFields (·.setIfInBounds 1 (cp h₁.objs.size))) he₂ (Obj.isFreed_of_fields hd₃);have hT₃:=(Heap.get?_update_other (h₁.push {cls:=.type "traceback",dict:=none,data:=.fields ([head,.ref L,.none,bV L,.none]++(if pl.isEmpty then d9 6 c0 else pl)).toArray})
  (Obj.mapFields (·.setIfInBounds 1 (cp h₁.objs.size))) (Ne.symm hTe)).trans (Heap.get?_push_size h₁ rfl)
 have keep:∀b o,b≠a->h₁.get? b=some o ->
   ((h₁.push {cls:=.type "traceback",dict:=none,data:=.fields ([head,.ref L,.none,bV L,.none]++(if pl.isEmpty then d9 6 c0 else pl)).toArray}).update a (Obj.mapFields (·.setIfInBounds 1 (cp h₁.objs.size)))).get? b=some o:=fun b o hbe hb=>by
  refine rA (Heap.get?_update_other _ _ (Ne.symm hbe)) ?_;exact Heap.get?_push_of_some _ hb
 have exact':∀b o,(F' b∨∃x,H' b=some x)->s.heap.get? b=some o->h₁.get? b=some o/\b≠a:=fun b o hb e=>by
  refine⟨(hs₁.2.1 b fun hm=>?_).trans e,fun q=>?_⟩
  ·refine jc (ly r hm) fun y1 y2 zz=>?_;rcases hb with hb|⟨x,hb⟩
   ·exact y1 hb
   ·rw[y2]at hb;exact nS hb
  ·subst q;rcases hb with hb|⟨x,hb⟩
   ·exact x8 hb
   ·rw[x9]at hb;exact nS hb
 have k1:∀b o,(F' b∨∃x,H' b=some x)->s.heap.get? b=some o->_:=fun b o hb e=>keep b o (exact' b o hb e).2 (exact' b o hb e).1;have noRecord:∀b o,s.heap.get? b=some o->ce o->b≠a:=fun b o hb hnf q=>by
  rw[q,x3]at hb;injection hb with hb;subst hb;exact hnf vs x6
 have k2:∀b o,b≠a->s.heap.get? b=some o->∃sl,((h₁.push {cls:=.type "traceback",dict:=none,data:=.fields ([head,.ref L,.none,bV L,.none]++(if pl.isEmpty then d9 6 c0 else pl)).toArray}).update a (Obj.mapFields (·.setIfInBounds 1 (cp h₁.objs.size)))).get? b=some {o with slots:=sl}:=fun b o n e=>by
  refine ex (hs₁.2.2 b o e) fun sl e1=>?_;exact⟨sl,keep b _ n e1⟩
 have hsz0:s.heap.get? h₁.objs.size=none:=by refine rA hs₁.1 ?_;exact bL _
 refine⟨H',F',_,c,d,r.more k1 fun b o n e=>k2 b o (noRecord b o e n) e,st.more (fun b o f e=>k1 b o (.inl f) e) fun b o o0 e0 e=>by
   refine ex (k2 b o (fun q=>by rw[q,x2]at e0;exact nS e0) e) fun sl e1=>?_
   by_cases hm:b∈(env::outer).filterMap (·.frame)
   ·refine m9 (ly r hm) fun zz zz o' ho' nf=>?_;rw[e]at ho';obtain rfl:=aj ho';exact⟨sl,e1,fun z'=>by refine ex z' fun vs q=>?_;exact absurd q (nf vs)⟩
   ·exact .of (keep b o (fun q=>by rw[q,x2]at e0;exact nS e0) ((hs₁.2.1 b hm).trans e)),?_,rfl,q⟩
 refine⟨a,_,_,dx,rfl,x2,he₃,(Obj.cls_mapFields _ _).trans x4,?_,hd₃,?_,x8,x9,x10.mono (fun zz x=>x) fun b o f e=>k1 b o (.inl f) e⟩
 ·obtain⟨oc,od,odt,os⟩:=o;cases odt <;> exact x5
 ·refine⟨h₁.objs.size,_,_,by simp[x7],hTe,?_,hT₃,rfl,?_,(r.fresh hsz0).1,(r.fresh hsz0).2⟩
  ·exact st.none_back hsz0
  ·first|(simp;done)|(rcases hpl with rfl|⟨_,_,_,_,_,_,_,rfl⟩ <;> simp)
theorem CA(r:bB G fs F' H' s)(st:bQ own H F h0 H' F' s.heap){T:ah}{oT:Obj}{ts:Array Value}{f:Obj->Obj}(h1:h0.get? T=none)(h2:s.heap.get? T=some oT)(h3:oT.data=.fields ts)(h4:¬F' T)(h5:H' T=none) :
  bB G fs F' H' {s with heap:=s.heap.update T f}/\bQ own H F h0 H' F' (s.heap.update T f)/\∀b o,(F' b∨∃x,H' b=some x)->s.heap.get? b=some o->(s.heap.update T f).get? b=some o:=by
 have k:∀b o,b≠T->s.heap.get? b=some o->(s.heap.update T f).get? b=some o:=fun b o n e=>(Heap.get?_update_other _ _ (Ne.symm n)).trans e;have k1:∀b o,(F' b∨∃x,H' b=some x)->s.heap.get? b=some o->(s.heap.update T f).get? b=some o:=fun b o hb e=>k b o (fun q=>by
  subst q;rcases hb with hb|⟨x,hb⟩
  ·exact h4 hb
  ·rw[h5]at hb;exact nS hb) e
 refine⟨r.more k1 fun b o n e=>⟨o.slots,k b o (fun q=>?_) e⟩,st.more (fun b o f e=>k1 b o (.inl f) e) fun b o o0 e0 e=>.of (k b o (fun q=>?_) e),k1⟩
 ·subst q;rw[h2]at e;obtain rfl:=aj e;exact n ts h3
 ·subst q;rw[h1]at e0;exact nS e0
theorem zU(hL:env.frame=some L)(hfr:A.frames=some (env::outer)){e:Value}{E:Value->an->Prop}(x:cK G (env::outer) own H F h0 (rc env) X e s) :
  aM (bj G.prog G.w) A (noteFrame e env) (fun zz s''=>cK G (env::outer) own H F h0 (fun fl=>fl=some (bV L)) X e s'') E s:=by
 obtain⟨H',F',fl,c,d,r,st,⟨a,o,vs,dx,rfl,x2,x3,x4,x5,x6,x7,x8,x9,x10⟩,p,q⟩:=x;unfold noteFrame;simp only[hL];cases fl with
 |none=>
  have x7:vs[1]?=some .none:=x7;refine aa (lH x3 x6 x7 ?_);refine rA (if_neg (by decide)) ?_;exact entry hL hfr r st x2 x3 x4 x5 x6 (d8.mp x7).1 x8 x9 x10 q
 |some fl=>
  obtain⟨T,oT,ts,y1,y2,y3,y4,y5,y6,y7,y8⟩:=x7;refine aa (lH x3 x6 y1 ?_);refine rA (if_pos (show(cp T !=c0)=true from by simp)) ?_;refine aa (lH y4 y5 y6 ?_);have:fl=bV L∨fl=.none:=by
   rcases p with p|p|⟨L',p1,p2⟩
   ·exact nS p.symm
   ·exact .inr (by obtain rfl:=aj p;rfl)
   ·rw[hL]at p1;obtain rfl:=aj p1;exact .inl (by obtain rfl:=aj p2;rfl)
  rcases this with rfl|rfl
  ·refine rA (if_pos (by simp)) ?_;exact af ⟨H',F',some (bV L),c,d,r,st,⟨a,o,vs,dx,rfl,x2,x3,x4,x5,x6,⟨T,oT,ts,y1,y2,y3,y4,y5,y6,y7,y8⟩,x8,x9,x10⟩,rfl,q⟩
  ·refine rA (if_neg (show ¬((c0==bV L)=true) from by simp[bV])) ?_;refine aa (dv y4 y5 (d8.mp y6).1 ?_);refine jc (CA (f:=Obj.mapFields (·.setIfInBounds 3 c0)) r st y3 y4 y5 y7 y8) fun r1 st1 k1=>?_;have x3':(s.heap.update T (Obj.mapFields (·.setIfInBounds 3 c0))).get? a=some o:=(Heap.get?_update_other _ _ y2).trans x3;exact entry hL hfr r1 st1 x2 x3' x4 x5 x6 (d8.mp y1).1 x8 x9 (x10.mono (fun zz x=>x) fun b o f e=>k1 b o (.inl f) e) q
theorem s9{e:Value}{E:Value->an->Prop}{f:Option ah}{v:Value}{P:Option Value->Prop}(hv:f.elim c0 (fun f=>bV f)=v)(hP:∀fl,P fl->∃w,fl=some w)(x:cK G fs own H F h0 P X e s) :
  aM (bj G.prog G.w) A (setFlight e f) (fun zz s''=>cK G fs own H F h0 (fun fl=>fl=some v) X e s'') E s:=by
 obtain⟨H',F',fl,c,d,r,st,⟨a,o,vs,dx,rfl,x2,x3,x4,x5,x6,x7,x8,x9,x10⟩,p,q⟩:=x;refine ex (hP _ p) fun w FW=>?_;subst FW;obtain⟨T,oT,ts,y1,y2,y3,y4,y5,y6,y7,y8⟩:=x7;unfold setFlight;refine aa (lH x3 x6 y1 ?_);refine rA (if_pos (show(cp T !=c0)=true from by simp)) ?_;have hlt:=(d8.mp y6).1;refine dv y4 y5 hlt ?_;refine rA hv ?_;refine jc (CA (f:=Obj.mapFields (·.setIfInBounds 3 v)) r st y3 y4 y5 y7 y8) fun r1 st1 k1=>?_;have x3':(s.heap.update T (Obj.mapFields (·.setIfInBounds 3 v))).get? a=some o:=(Heap.get?_update_other _ _ y2).trans x3;have hd:=Obj.data_mapFields y5 (·.setIfInBounds 3 v);refine⟨H',F',some v,c,d,r1,st1,⟨a,o,vs,dx,rfl,x2,x3',x4,x5,x6,⟨T,_,_,y1,y2,y3,Heap.get?_update_self _ y4 (Obj.isFreed_of_fields hd),hd,by simp[hlt],y7,y8⟩,x8,x9,x10.mono (fun zz x=>x) fun b o f e=>k1 b o (.inl f) e⟩,rfl,q⟩
theorem zM(hL:env.frame=some L)(hfr:A.frames=some (env::outer)){e:Value}{E:Value->an->Prop}(x:cK G (env::outer) own H F h0 (rc env) X e s) :
  aM (bj G.prog G.w) A (leaving env e) (fun zz s''=>cK G (env::outer) own H F h0 ot X e s'') E s:=by
 unfold leaving;exact aa (aK (zU (E:=E) hL hfr x) (fun zz s1 x1=>s9 (f:=none) rfl (fun fl p=>⟨_,p⟩) x1) fun zz zz x=>x)
theorem zo(hL:env.frame=some L){e:Value}{P:Option Value->Prop}(hP:∀fl,P fl->∃w,fl=some w)(x:cK G (env::outer) own H F h0 P X e s) :
  mP (bj G.prog G.w) A env (cK G (env::outer) own H F h0 (rc env) X) e s:=by
 unfold mP;have x':=x;obtain⟨H',F',fl,c,d,r,st,⟨a,o,vs,dx,rfl,x2,x3,x4,x5,x6,x7,x8,x9,x10⟩,p,q⟩:=x;refine ex (hP _ p) fun w FW=>?_;subst FW;obtain⟨T,oT,ts,y1,y2,y3,y4,y5,y6,y7,y8⟩:=x7;refine aa (lH x3 x6 y1 ?_);refine rA (if_neg (show ¬((cp T==c0)=true) from by simp)) ?_;refine aK (s9 (f:=env.frame) (v:=bV L) (by refine rA hL ?_;rfl) hP x') (fun zz s1 z'=>by obtain⟨H',F',fl,c,d,r,st,x,p,q⟩:=z';exact⟨H',F',fl,c,d,r,st,x,.inr (.inr ⟨L,hL,p⟩),q⟩) fun zz zz x=>x
theorem cK.pop{P:Option Value->Prop}{e:Value}(x:cK G (env::outer) own H F h0 P X e s)(ho:∀b∈own,h0.get? b=none):cK G outer [] H F h0 P X e s:=by
 obtain⟨H',F',fl,c,d,r,st,x,p,q⟩:=x;exact⟨H',F',fl,c,d,⟨r.base,r.bF,r.live,r.sep,r.own,fun e he=>r.frs e (.tail _ he),r.gens,r.os⟩,
  ⟨st.fz,st.keepF,fun b o e n zz=>st.keepR b o e n (fun hb=>by rw[ho b hb]at e;exact nS e),st.live,st.nf,st.fnew,st.hnew⟩,x,p,q⟩
end
noncomputable def br(lo hi:Int):List V:=(aQ (hi-lo).toNat).map fun(j:Nat)=>V.int (lo+(j:Int))
theorem fJ{lo hi:Int}(h:hi<=lo):br lo hi=[]:=by
 unfold br;refine rA (show(hi-lo).toNat=0 by exact Int.toNat_eq_zero.mpr (Lz [] [_,_] (Sa Z0 Z1 (Gz (Mz Z0 Z1) (Kz 0))) rfl h)) ?_;rfl
theorem dA{lo hi:Int}(h:lo<hi):br lo hi=.int lo::br (lo+1) hi:=by
 unfold br;refine rA (show(hi-lo).toNat=(hi-(lo+1)).toNat+1 by exact ao (Lz [_,_] [_,_] (Sb C0 (Mz Z0 Z1) (Sa (Mz Z0 (Pz Z1 (Kz 1))) C1 (Gn N0 M1))) rfl (aY (Lz [] [_,_] (Sa (Pz Z0 (Kz 1)) Z1 (Gz (Kz 0) (Mz Z1 Z0))) rfl h)) wJ) (Lz [_,_] [_,_] (Sb C0 (Mz Z0 (Pz Z1 (Kz 1))) (Sa (Mz Z0 Z1) C1 (Gn M0 N1))) rfl (aY (Lz [] [_,_] (Sa (Pz Z0 (Kz 1)) Z1 (Gz (Kz 0) (Mz Z1 (Pz Z0 (Kz 1))))) rfl h)) wJ)) (rA List.range_succ_eq_map (rA aB (rA bz ?_)))
 congr 1
 ·simp
 ·refine cy fun j zz=>?_;show V.int (lo+((j+1:Nat):Int))=V.int (lo+1+(j:Int))
  congr 1;exact bi (Lz [_] [_] (Gz (Pz Z0 (Cz M0)) (Pz (Pz Z0 (Kz 1)) C0)) rfl) (Lz [_] [_] (Gz (Pz (Pz Z0 (Kz 1)) C0) (Pz Z0 (Cz M0))) rfl)
noncomputable def vA(e:Expr):Prop:=∃a b c,e=.Tuple a b c
inductive ir(G:GC)(F:ah->Prop)(H:HH)(h:Heap)(tg:Expr):List ah->Value->List V->Prop
 |list {i l:ah}{n:Nat}{cs:List Value}{xs ys:List V}:h.IsListIter i l n->F l->h.IsList l cs.toArray->d7 G h F xs cs->¬F i->H i=none->ys=xs.drop n->ir G F H h tg [i] (.ref i) ys
 |rng {i:ah}{x hi left:Int}{ys:List V}:IsRangeIter h i x left 1->left=hi-x->¬F i->H i=none->ys=br x hi->ir G F H h tg [i] (.ref i) ys
 |enum {e i l:ah}{n:Nat}{cs:List Value}{xs ys:List V}{old:Value}:vA tg->IsEnum h e i n old->h.IsListIter i l n->F l->h.IsList l cs.toArray->d7 G h F xs cs->¬F e->H e=none->¬F i->H i=none->e≠i ->
   ys=((xs.zipIdx).map fun p=>V.tup [.int (p.2:Int),p.1]).drop n->ir G F H h tg [e,i] (.ref e) ys
section
variable {G:GC}{fs:List Env}{A:cA}{own:List ah}{H H' H1:HH}{F F' F1:ah->Prop}{s s' s1:an}{h0 h h':Heap}{X:XP}{env:Env}{outer:List Env}{L a:ah}{tg:Expr}{its:List ah}{it:Value}{ys:List V}{k:Nat}
theorem ec{i l n}(x:h.IsListIter i l n):∃o vs,h.get? i=some o/\o.data=.fields vs:=by refine cX x fun o ho zz hd=>?_;exact⟨o,_,ho,hd⟩
theorem bQ.iter{i:ah}{o:Obj}{vs}(st:bQ own H F h H' F' h')(hown:∀b∈own,∃o,h.get? b=some o/\ce o)(e:h.get? i=some o)(hd:o.data=.fields vs)(hf:¬F i)(hn:H i=none) :
  h'.get? i=some o/\¬F' i/\H' i=none:=by
 refine⟨(st.keepR i o e hn fun hm=>?_).fields hd,st.rest e hf hn⟩;refine bx (hown i hm) fun o' e' nf=>?_;rw[e]at e';obtain rfl:=aj e';exact nf vs hd
theorem ir.step(x:ir G F H h tg its it ys)(st:bQ own H F h H' F' h')(hown:∀b∈own,∃o,h.get? b=some o/\ce o):ir G F' H' h' tg its it ys:=by
 cases x with
 |list x1 x2 x3 x4 x5 x6 x7=>
  refine cX x1 fun o ho hc hd=>?_;refine bx x3 fun ol hl hlr=>?_;refine jc (st.iter hown ho hd x5 x6) fun e1 e2 e3=>?_;exact .list ⟨o,e1,hc,hd⟩ (st.fz _ x2) ⟨ol,st.keepF _ _ hl x2,hlr⟩ (st.vrs x4) e2 e3 x7
 |rng x1 x2 x5 x6 x7=>
  refine jc (st.iter hown x1 rfl x5 x6) fun e1 e2 e3=>?_;exact .rng e1 x2 e2 e3 x7
 |enum x0 x1 x2 x3 x4 x5 x6 x7 x8 x9 x10 x11=>
  refine cX x2 fun o ho hc hd=>?_;refine bx x4 fun ol hl hlr=>?_;refine jc (st.iter hown ho hd x8 x9) fun e1 e2 e3=>?_;refine jc (st.iter hown x1 rfl x6 x7) fun f1 f2 f3=>?_;exact .enum x0 f1 ⟨o,e1,hc,hd⟩ (st.fz _ x3) ⟨ol,st.keepF _ _ hl x3,hlr⟩ (st.vrs x5) f2 f3 e2 e3 x10 x11
theorem ir.rest(x:ir G F H h tg its it ys):∀b∈its,¬F b/\H b=none:=by
 cases x with
 |list x1 x2 x3 x4 x5 x6 x7=>intro b hb;cases ag.mp hb;exact⟨x5,x6⟩
 |rng x1 x2 x5 x6 x7=>intro b hb;cases ag.mp hb;exact⟨x5,x6⟩
 |enum x0 x1 x2 x3 x4 x5 x6 x7 x8 x9 x10 x11=>
  intro b hb;rcases aA.mp hb with rfl|hb
  ·exact⟨x6,x7⟩
  ·cases ag.mp hb;exact⟨x8,x9⟩
theorem qs{x:ah}{i left step:Int}{target:Expr}{v:Value}{E:Value->an->Prop}{Q:Unit->an->Prop}{M:q7}(hit:IsRangeIter s.heap x i left step)(h:Q () s):aM M A (nD target (.ref x) v) Q E s:=by
 have p:aM M A (pure ()) Q E s:=af h;have q:aM M A (nD (.Tuple [] 0 ⟨0,0,0,0⟩) (.ref x) v) Q E s:=by
  cases v with
  |ref a=>exact aa (ro hit p)
  |_=>exact p
 cases target with
 |Tuple a b c=>exact q
 |List a b=>exact q
 |_=>exact p
theorem bB.iters(r:bB G fs F H s){h':Heap}(tk:Nat)(its:List ah)(hr:∀b∈its,¬F b/\H b=none/\∃o vs,s.heap.get? b=some o/\o.data=.fields vs)(hl:∀b∈its,∃o,h'.get? b=some o)
  (k:∀b o,b∉its->s.heap.get? b=some o->h'.get? b=some o):bB G fs F H {s with heap:=h',toks:=tk}/\bQ its H F s.heap H F h':=by
 have k1:∀b o,(F b∨∃x,H b=some x)->s.heap.get? b=some o->h'.get? b=some o:=fun b o q e=>k b o (fun m=>by
  refine jc (hr b m) fun y1 y2 zz=>?_;rcases q with q|⟨x,q⟩
  ·exact y1 q
  ·rw[y2]at q;exact nS q) e
 have kn:∀b o,ce o->s.heap.get? b=some o->h'.get? b=some o:=fun b o n e=>k b o (fun m=>by
  refine jc (hr b m) fun zz zz FW=>?_;refine jx FW fun o' vs e' hd=>?_;rw[e]at e';obtain rfl:=aj e';exact n vs hd) e
 have r':bB G fs F H {s with heap:=h'}:=r.more k1 fun b o n e=>⟨o.slots,kn b o n e⟩;refine⟨r'.toks tk,fun zz x=>x,fun b o e f=>k1 b o (.inl f) e,fun b o e zz n=>.of (k b o n e),fun b o e=>?_,fun b o e n=>⟨o,kn b o n e,n⟩,fun zz x=>.inl x,fun zz x e=>.inr ⟨x,e⟩⟩
 by_cases q:b∈its
 ·exact hl b q
 ·exact⟨o,k b o q e⟩
inductive E7(G:GC)(fs:List Env)(F:ah->Prop)(H:HH)(h:Heap)(tg:Expr)(its:List ah)(it:Value)(y:V)(ys:List V)(c:Value)(s2:an):Prop
 |mk (F':ah->Prop) (r:bB G fs F' H s2) (st:bQ its H F h H F' s2.heap) (i:ir G F' H s2.heap tg its it ys) (v:VR G s2.heap F' y c)
noncomputable def FA(P:Value->Prop):Option Value->Prop
 |some c=>P c
 |none=>False
noncomputable def yH(G:GC)(fs:List Env)(A:cA)(F:ah->Prop)(H:HH)(s:an)(tg:Expr)(its:List ah)(it:Value)(y:V)(ys:List V)(E:Value->an->Prop):Prop :=
 aM (bj G.prog G.w) A (mR it) (fun rr s1=>FA (fun c=>aM (bj G.prog G.w) A (nD tg it c) (fun zz=>E7 G fs F H s.heap tg its it y ys c) E s1) rr) E s
theorem qw{P:ah->Prop}{i:ah}(h:P i):∀b∈[i],P b:=fun b hb=>ag.mp hb▸h
theorem AA{P:ah->Prop}{e i:ah}(h1:P e)(h:P i):∀b∈[e,i],P b:=fun b hb=>(aA.mp hb).elim (fun z=>z▸h1) (qw h b)
theorem kM{i l n}(x:h.IsListIter i l n):∃o,h.get? i=some o:=x.elim fun o z=>⟨o,z.1⟩
theorem w8{α:Type}{xs:List α}{n:Nat}{y:α}{ys:List α}(e:xs.drop n=y::ys):xs[n]?=some y/\ys=xs.drop (n+1) :=
 ⟨by refine rB List.head?_drop (rA e ?_);rfl,by refine rB List.tail_drop (rA e ?_);rfl⟩
theorem xQ{E:Value->an->Prop}{i l:ah}{n:Nat}{cs:List Value}{xs:List V}{y:V}(r:bB G fs F H s)(x1:s.heap.IsListIter i l n)(x2:F l)(x3:s.heap.IsList l cs.toArray)(x4:d7 G s.heap F xs cs)(x5:¬F i)(x6:H i=none)(x7:xs.drop n=y::ys) :
  yH G fs A F H s tg [i] (.ref i) y ys E:=by
 have hx:=w8 x7;refine bx (x4.get hx.1) fun c hc vc=>?_;refine wpAny_pyNext_list_item x1 x3 (x:=c) ((fR ..).trans hc) fun h1 i1 sb=>letGo_listiter i1 ?_;have rs:=r.iters (h':=h1) s.toks [i] (qw ⟨x5,x6,ec x1⟩) (qw (kM i1)) fun b o hb e=>sb.extBut b o (fun q=>hb (q▸.head _)) e;refine bx x3 fun ol hl hlr=>?_;exact⟨F,rs.1,rs.2,.list i1 x2 ⟨ol,rs.2.keepF _ _ hl x2,hlr⟩ (rs.2.vrs x4) x5 x6 hx.2,rs.2.vr r.live vc⟩
theorem zT{E:Value->an->Prop}{i:ah}{x hi left:Int}{y:V}(r:bB G fs F H s)(x1:IsRangeIter s.heap i x left 1)(x2:left=hi-x)(x5:¬F i)(x6:H i=none)(x7:br x hi=y::ys):yH G fs A F H s tg [i] (.ref i) y ys E:=by
 have hlt:x<hi:=Int.not_le.mp fun hh=>nL ((fJ hh).symm.trans x7);have e:=aV ((dA hlt).symm.trans x7);refine wpAny_pyNext_range_item x1 (by exact Lz [] [_,_,_] (Sd Z0 (Mz Z1 (Xz 2)) (Sa (Pz (Xz 2) (Kz 1)) Z1 (Gz (Pz (Kz 0) (Kz 1)) Z0))) rfl x2 hlt) fun h1 i1 sb=>qs i1 ?_;have rs:=r.iters (h':=h1) (s.toks+1) [i] (qw ⟨x5,x6,_,_,x1,rfl⟩) (qw ⟨_,i1⟩) fun b o hb e=>sb.extBut b o (fun q=>hb (q▸.head _)) e;exact⟨F,rs.1,rs.2,.rng i1 (by rw[x2,Int.sub_sub]) x5 x6 e.2.symm,e.1▸.int _ _⟩
theorem Bj{xs:List V}{n:Nat}{y:V}{ys:List V}(e:((xs.zipIdx).map fun p=>V.tup [.int (p.2:Int),p.1]).drop n=y::ys):∃x,xs[n]?=some x/\y=.tup [.int (n:Int),x]/\ys=((xs.zipIdx).map fun p=>V.tup [.int (p.2:Int),p.1]).drop (n+1):=by
 have h:=w8 e;rw[ar,eK,Nat.zero_add]at h;cases q:xs[n]? with
 |none=>rw[q]at h;exact nS h.1
 |some x=>rw[q]at h;exact⟨x,rfl,(aj h.1).symm,h.2⟩
theorem bB.froze{a:ah}{o:Obj}(r:bB G fs F H s)(n:s.heap.get? a=none)(r1:bB G fs F H s')(ho:s'.heap.get? a=some o):bB G fs (fun b=>F b∨b=a) H s' where
 base:=r1.base
 bF:=fun b o q=>.inl (r1.bF b o q)
 live:=fun b q=>q.elim (r1.live b) fun z=>z▸⟨_,ho⟩
 sep:=fun b z q f=>f.elim (r1.sep b z q) fun f=>nS (((r.fresh n).2.symm.trans (f▸q)))
 own:=fun b z q=>(r1.own b z q).mono (fun zz x=>.inl x) (fun zz zz zz e=>e) fun zz e=>e
 frs:=fun env he=>by
  obtain⟨g1,L,o,g2,g3,g4,g5,g6,g7⟩:=r1.frs env he;refine⟨g1,L,o,g2,g3,g4,g5,fun q=>q.elim g6 fun z=>?_,g7⟩;obtain⟨_,L',o',g2',_,g4',_⟩:=r.frs env he;exact nS ((z▸n).symm.trans (aj (g2.symm.trans g2')▸g4'))
 gens:=r1.gens
 os:=r1.os
theorem xP{E:Value->an->Prop}{e i l:ah}{n:Nat}{cs:List Value}{xs:List V}{old:Value}{y:V}(r:bB G fs F H s)(x0:vA tg)(x1:IsEnum s.heap e i n old)(x2:s.heap.IsListIter i l n)(x3:F l)(x4:s.heap.IsList l cs.toArray)(x5:d7 G s.heap F xs cs)(x6:¬F e)(x7:H e=none)(x8:¬F i)(x9:H i=none)(x10:e≠i)
  (x11:((xs.zipIdx).map fun p=>V.tup [.int (p.2:Int),p.1]).drop n=y::ys):yH G fs A F H s tg [e,i] (.ref e) y ys E:=by
 refine vn x0 fun elts k0 FW=>?_;clear x0;refine ex FW fun pos FY=>?_;clear FW;subst FY;refine cX (Bj x11) fun x hx hy hys=>?_;refine bx (x5.get hx) fun c hc vc=>?_;refine wpAny_pyNext_enum_item x1 x2 x4 (x:=c) ((fR ..).trans hc) x10 fun h1 e1 i1 t1 z1 k1=>wpAny_letOwnedTupleGo_enum e1 fun h2 e2 sb=>?_;have k2:∀b o,b∉[e,i]->s.heap.get? b=some o->h2.get? b=some o:=fun b o hb q=>sb.extBut b o (fun z=>hb (z▸.head _)) (k1 b o (fun z=>hb (z▸.head _)) (fun z=>hb (z▸.tail _ (.head _))) q);have fr:=bL s.heap;have he:e≠s.heap.objs.size:=fun z=>nS (fr.symm.trans (z▸x1));have t2:h2.get? s.heap.objs.size=some {cls:=.type "tuple",data:=.seq #[.int n s.toks,c]}:=sb.extBut _ _ he.symm t1;have i2:h2.IsListIter i l (n+1):=i1.extBut sb.extBut (Ne.symm x10);have rs:=r.iters (h':=h2) (s.toks+1) [e,i] (AA ⟨x6,x7,_,_,x1,rfl⟩ ⟨x8,x9,ec x2⟩) (AA ⟨_,e2⟩ (kM i2)) k2;have st1:=rs.2;have dE:bQ [e,i] H F s.heap H (fun b=>F b∨b=s.heap.objs.size) h2 :=
  ⟨fun zz x=>.inl x,st1.keepF,st1.keepR,st1.live,st1.nf,fun b q=>q.imp id fun(z:b=_)=>.inl (z▸fr),fun zz x e=>.inr ⟨x,e⟩⟩
 have hi:i≠s.heap.objs.size:=fun z=>(kM x2).elim fun zz q=>nS (fr.symm.trans (z▸q));refine bx x4 fun ol hl hlr=>?_;exact⟨_,r.froze fr rs.1 t2,dE,.enum ⟨_,_,_,rfl⟩ (n:=n+1) (old:=c) e2 i2 (.inl x3) ⟨ol,dE.keepF _ _ hl x3,hlr⟩ (dE.vrs x5) (fun q=>q.elim x6 he) x7 (fun q=>q.elim x8 hi) x9 x10 hys,
  hy▸.fz (.inr rfl) (.tup (cs:=[.int n s.toks,c]) ⟨_,t2,rfl,_,rfl⟩ (d7.two (.int _ _) (dE.vr r.live vc)))⟩
theorem ir.nextE{y:V}{ys0:List V}(r:bB G fs F H s)(x:ir G F H s.heap tg its it ys0){E:Value->an->Prop}:ys0=y::ys->yH G fs A F H s tg its it y ys E:=by
 cases x with
 |list x1 x2 x3 x4 x5 x6 x7=>exact fun q=>xQ r x1 x2 x3 x4 x5 x6 (x7▸q)
 |rng x1 x2 x5 x6 x7=>exact fun q=>zT r x1 x2 x5 x6 (x7▸q)
 |enum x0 x1 x2 x3 x4 x5 x6 x7 x8 x9 x10 x11=>exact fun q=>xP r x0 x1 x2 x3 x4 x5 x6 x7 x8 x9 x10 (x11▸q)
theorem ir.next(r:bB G fs F H s){y:V}(x:ir G F H s.heap tg its it (y::ys)){E:Value->an->Prop}:yH G fs A F H s tg its it y ys E:=x.nextE r rfl
theorem bQ.stop{H0:HH}{F0:ah->Prop}(st:bQ (its++own) H0 F0 h0 H F h)(hf:∀b∈its,h0.get? b=none)(k:∀b o,b∉its->h.get? b=some o->h'.get? b=some o):bQ own H0 F0 h0 H F h':=by
 have ni:∀b o,h0.get? b=some o->b∉its:=fun b o e m=>by rw[hf b m]at e;exact nS e
 refine⟨st.fz,fun b o e f=>k b o (ni b o e) (st.keepF b o e f),fun b o e n q=>(st.keepR b o e n fun m=>(ak.mp m).elim (ni b o e) q).trans fun o1 e1=>.of (k b o1 (ni b o e) e1),fun b o e=>?_,fun b o e n=>?_,st.fnew,st.hnew⟩
 ·refine ex (st.live b o e) fun o' e'=>?_;exact⟨o',k b o' (ni b o e) e'⟩
 ·refine bx (st.nf b o e n) fun o' e' n'=>?_;exact⟨o',k b o' (ni b o e) e',n'⟩
theorem ir.done{H0:HH}{F0:ah->Prop}(hh:A.handled=none)(r:bB G fs F H s)(x:ir G F H s.heap tg its it [])(st:bQ (its++own) H0 F0 h0 H F s.heap)(hf:∀b∈its,h0.get? b=none){E:Value->an->Prop}{Q:Option Value->an->Prop}
  (hQ:∀h',bB G fs F H {s with heap:=h'}->bQ own H0 F0 h0 H F h'->(∀b o,b∉its->s.heap.get? b=some o->h'.get? b=some o)->Q none {s with heap:=h'}):aM (bj G.prog G.w) A (mR it) Q E s:=by
 have fin:∀h' i,i∈its->Heap.ExtBut i s.heap h'->(∀b∈its,∃o vs,s.heap.get? b=some o/\o.data=.fields vs)->Q none {s with heap:=h'}:=fun h' i hi he hd=>by
  have k:∀b o,b∉its->s.heap.get? b=some o->h'.get? b=some o:=fun b o n e=>he b o (fun q=>n (q▸hi)) e;refine hQ h' (r.more (fun b o q e=>k b o (fun m=>?_) e) fun b o n e=>⟨o.slots,k b o (fun m=>?_) e⟩) (st.stop hf k) k
  ·refine ea (x.rest b m) fun y1 y2=>?_;rcases q with q|⟨x,q⟩
   ·exact y1 q
   ·rw[y2]at q;exact nS q
  ·refine jx (hd b m) fun o' vs e' d=>?_;rw[e]at e';obtain rfl:=aj e';exact n vs d
 cases x with
 |@list i l n cs xs _ x1 x2 x3 x4 x5 x6 x7=>
  have hx:xs.length<=n:=by simpa using x7.symm
  exact wpAny_pyNext_list_end hh x1 x3 (by have:=x4.length;simp;exact Dh this hx) fun h1 he=>fin h1 i (.head _) he fun b hb=>by cases ag.mp hb;exact ec x1
 |@rng i x hi left _ x1 x2 x5 x6 x7=>
  have hlt:¬x<hi:=fun hh=>by rw[dA hh]at x7;exact nL x7
  exact wpAny_pyNext_range_end hh x1 (by exact Lz [] [_,_,_] (Sb Z0 (Mz Z1 (Xz 2)) (Se (Pz (Xz 2) (Kz 1)) Z1 (Gz Z0 (Kz 0)))) rfl x2 hlt) fun h1 he=>fin h1 i (.head _) he fun b hb=>by cases ag.mp hb;exact⟨_,_,x1,rfl⟩
 |@enum e i l n cs xs _ old x0 x1 x2 x3 x4 x5 x6 x7 x8 x9 x10 x11=>
  have hx:xs.length<=n:=by simpa using x11.symm
  refine wpAny_pyNext_enum_end hh x1 x2 x4 (by have:=x5.length;simp;exact Dh this hx) fun h1 he=>fin h1 i (.tail _ (.head _)) he fun b hb=>?_;rcases aA.mp hb with rfl|hb
  ·exact⟨_,_,x1,rfl⟩
  ·cases ag.mp hb;exact ec x2
end
section
variable {G:GC}{k:Nat}{sc:Sc}{σ:St}{X:XP}{Q:SP}
theorem bB.frame1{env:Env}{outer:List Env}{F:ah->Prop}{H:HH}{s:an}(r:bB G (env::outer) F H s):∃L,env.frame=some L :=
 by obtain⟨_,L,_,e,_⟩:=r.frs _ (.head _);exact⟨L,e⟩
theorem o3.ownNf{fm:Fm}{F:ah->Prop}{H:HH}{m}{s:an}(r:o3 G fm F H m s):∀b∈fm.own,∃o,s.heap.get? b=some o/\ce o:=fun b hb=>(r.sep b hb).2.2
theorem lK.nil(h:Q .next σ):lK G k sc [] σ Q X:=fun fm A outer F s hsc ok rel=>jY (GP.here rel.hp .refl ⟨σ.m,.next,rel.fr,.next,h⟩)
noncomputable def seqQ(G:GC)(k:Nat)(sc:Sc)(rest:List jX)(Q:SP)(X:XP):SP:=fun fl σ1=>match fl with|.next=>lK G k sc rest σ1 Q X|fl=>Q fl σ1
theorem lK.cons{st rest}(h:TS G k sc st σ (seqQ G k sc rest Q X) X):lK G k sc (st::rest) σ Q X:=fun fm A outer F s hsc ok rel=>by
 refine wpAny_execs_cons ((h fm A outer F s hsc ok rel).thn .refl (fun fl s1 H1 F1 r1 st1 zz z'=>?_) subs dD);obtain⟨m1,fa,rf,hf,h1⟩:=z';cases hf with
 |next=>exact(h1 fm A outer F1 s1 hsc ok ⟨r1,rf⟩).fin st1 subs dD
 |brk=>exact GP.here r1 st1 ⟨m1,.brk,rf,.brk,h1⟩
 |ret v=>exact GP.here r1 st1 ⟨m1,.ret _,rf,.ret v,h1⟩
theorem TS.ret{e pos}(h:TE G k sc e σ (fun v H1=>Q (.ret v) ⟨σ.m,H1⟩) X):TS G k sc (.Return (some e) pos) σ Q X:=fun fm A outer F s hsc ok rel=>by
 refine wpAny_Return_some ((h fm A _ F s hsc ok rel).thnV .refl (fun c s1 H1 F1 r1 st1 st1' a va h1=>?_) fP gH);exact GP.here r1 st1 ⟨σ.m,.ret a,rel.fr.keeps st1',.ret va,h1⟩
theorem AU{pos}(h:Q (.ret .none) σ):TS G k sc (.Return none pos) σ Q X:=fun fm A outer F s hsc ok rel=>
 wpAny_Return_none (GP.here rel.hp .refl ⟨σ.m,.ret .none,rel.fr,.ret .none,h⟩)
theorem TS.brk{pos}(h:Q .brk σ):TS G k sc (.Break pos) σ Q X:=fun fm A outer F s hsc ok rel=>
 wpAny_Break (GP.here rel.hp .refl ⟨σ.m,.brk,rel.fr,.brk,h⟩)
theorem CK{t b o pos}(h:TT G k sc t σ (fun x H1=>if x then lK G k sc b ⟨σ.m,H1⟩ Q X else lK G k sc o ⟨σ.m,H1⟩ Q X) X):TS G k sc (.If t b o pos) σ Q X:=fun fm A outer F s hsc ok rel=>by
 refine wpAny_If ((h fm A _ F s hsc ok rel).thn .refl (fun c s1 H1 F1 r1 st1 st1' h1=>?_) fP gH);cases c
 ·exact(h1 fm A outer F1 s1 hsc ok (rel.keeps st1' r1)).fin st1 subs dD
 ·exact(h1 fm A outer F1 s1 hsc ok (rel.keeps st1' r1)).fin st1 subs dD
theorem we{e pos}(h:TE G k sc e σ (fun v H1=>Q .next ⟨σ.m,H1⟩) X)(hs:autoParam (∀env line,eV e none line env=pure false) aI):TS G k sc (.Expr e pos) σ Q X:=fun fm A outer F s hsc ok rel=>by
 refine wpAny_Expr_any ((h fm A _ F s hsc ok rel).thnV .refl (fun c s1 H1 F1 r1 st1 st1' a va h1=>?_) fP gH) ?_ (hs _ _)
 ·exact GP.here r1 st1 ⟨σ.m,.next,rel.fr.keeps st1',.next,h1⟩
 ·unfold interactive;refine rA rel.fr.kind ?_;rfl
theorem TS.assign{t value pos}(h:TE G k sc value σ (fun v H1=>TA G k sc t v ⟨σ.m,H1⟩ (fun σ'=>Q .next σ') NX) X)
  (hs:autoParam (∀env line,eV value (some t) line env=pure false) aI) (hw:autoParam (∀env:Env,env.scope=sc.scope->fi [t] value env=pure none) aI)
  (ht:autoParam (∀env,eF [t] env=[(false,assign t env)]) aI):TS G k sc (.Assign [t] value pos) σ Q X:=fun fm A outer F s hsc ok rel=>by
 refine pM ((h fm A _ F s hsc ok rel).thnV .refl (fun c s1 H1 F1 r1 st1 st1' a va h1=>?_) fP gH) (hs _ _) (hw _ (by refine rB hsc ?_;rfl));rw[ht];refine((h1 fm A _ F1 s1 c hsc ok (rel.keeps st1' r1) va).mono (fun zz zz zz zz zz zz x=>x) (fun zz zz zz x=>x.elim) dD subs).thn st1 (fun zz s2 H2 F2 r2 dE st2' z'=>?_) subs gH;obtain⟨m2,rf,h2⟩:=z';exact GP.here r2 dE ⟨m2,.next,rf,.next,h2⟩
theorem TA.name{x pos v}{QQ:St->Prop}(hk:sc.kindOf x=some .local)(h:QQ ⟨put x v σ.m,σ.H⟩):TA G k sc (.Name x pos) v σ QQ X:=fun fm A fs F s c hsc ok rel vr=>by
 subst hsc;refine ex rel.fr.ns fun mc hn=>?_;refine wpAny_assign_Name (nJ hk hn (fun h' hn' hs=>?_) (by refine rA rel.fr.kind ?_;rfl));refine ea (rel.storeL (s.toks+1) hk vr hn hn' hs) fun rel' st=>?_;exact GP.here rel'.hp st ⟨_,rel'.fr,h⟩
theorem TA.cell{x pos v}{QQ:St->Prop}(hk:sc.kindOf x=some .cell)(hc:x∉sc.caps)(h:QQ ⟨put x v σ.m,σ.H⟩):TA G k sc (.Name x pos) v σ QQ X:=fun fm A fs F s c hsc ok rel vr=>by
 subst hsc;refine bx (rel.fr.ocell x hk hc) fun a ha hown=>?_;refine ea (rel.fr.cells x a ha) fun FW zz=>?_;refine ex FW fun v0 hv=>?_;refine wpAny_assign_Name (wpAny_storeName_cell rel.fr.kind hk ha hv (fun h' hn' hs=>?_));refine ea (rel.storeC s.toks hk ha hown vr hn' hs) fun rel' st=>?_;exact GP.here rel'.hp st ⟨_,rel'.fr,h⟩
noncomputable def AR(G:GC)(k:Nat)(sc:Sc)(es:List Expr)(vs:List V)(σ:St)(Q:St->Prop)(X:XP):Prop :=
 ∀fm A fs F s cs,fm.sc=sc->Ok k A fs->jn G fs fm F σ s->d7 G s.heap F vs cs->Wp G fs A fm.own σ.H F s (assignInOrder ((eF es fm.env).map (·.2)) cs) (RU G fm Q) ot X
theorem AR.nil{QQ:St->Prop}(h:QQ σ):AR G k sc [] [] σ QQ X:=fun fm A fs F s cs hsc ok rel vr=>by
 refine rA vr.nil_inv ?_;exact yp (GP.here rel.hp .refl ⟨σ.m,rel.fr,h⟩)
theorem AR.cons{e es v vs}{QQ:St->Prop}(h:TA G k sc e v σ (fun σ1=>AR G k sc es vs σ1 QQ X) X)(he:autoParam (∀env,eF (e::es) env=(false,assign e env)::eF es env) aI):AR G k sc (e::es) (v::vs) σ QQ X:=fun fm A fs F s cs hsc ok rel vr=>by
 refine cq vr.cons_inv fun c cs' FW vc vcs=>?_;subst FW;rw[he];refine yo ((h fm A fs F s c hsc ok rel vc).thn .refl (fun zz s1 H1 F1 r1 st1 st1' z'=>?_) subs dD);obtain⟨m1,rf,h1⟩:=z';exact(h1 fm A fs F1 s1 cs' hsc ok ⟨r1,rf⟩ (st1'.vrs vcs)).fin st1 subs dD
theorem TA.tup{es k0 pos v vs}{QQ:St->Prop}(hv:con σ.H v=.tup vs)(hl:vs.length=es.length)(h:AR G k sc es vs σ QQ X)
  (hs:autoParam (∀env,(eF es env).length=es.length/\(eF es env).findIdx? (·.1)=none) aX) (hk3:autoParam (3<=k) aL):TA G k sc (.Tuple es k0 pos) v σ QQ X:=fun fm A fs F s c hsc ok rel vr=>by
 refine bx (vr.read rel.hp hv rfl) fun a FW o=>?_;subst FW;refine bx o.tup_inv fun cs ht vcs=>?_;refine wpAny_assign_Tuple (ok.handled hk3) ht (by refine rA ((hs _).1) (rB hl (rB vcs.length ?_));simp) (hs _).2 fun h' he=>?_;have kp:∀b o,s.heap.get? b=some o->h'.get? b=some o:=fun b o e=>he b o (cV (Heap.lt_size e)) e;refine ea (rel.hp.grow (h':=h') s.toks kp) fun r1 st1=>?_;exact(h fm A fs F _ cs hsc ok (rel.keeps (s':={s with heap:=h'}) st1 r1) (st1.vrs vcs)).fin (st1.mono fP) subs dD
theorem xc{α β:Type}:∀(l:List α) (r:List β),l.length=r.length->l.reverse.zip r.reverse=(l.zip r).reverse
 |[],[],_=>rfl
 |a::l,b::r,h=>by
  have h':l.length=r.length:=by simpa using h
  refine rA ky (rA ky (rA (List.zip_append (by simp[h'])) (rA (xc l r h') ?_)));simp
theorem TS.swap{ts kt pt vs kv pv pos}{names:List Str}(h:pq G k sc vs σ (fun xs H1=>xs.length=names.length/\xs.length<=1000/\Q .next ⟨(names.zip xs).reverse.foldl (fun m p=>put p.1 p.2 m) σ.m,H1⟩) X)
  (hw:∀env:Env,env.scope=sc.scope->fi [.Tuple ts kt pt] (.Tuple vs kv pv) env=pure (some names)) (hk:∀x∈names,sc.kindOf x=some .local)
  (hs:autoParam (∀env line,eV (.Tuple vs kv pv) (some (.Tuple ts kt pt)) line env=pure false) aI) (hk3:autoParam (3<=k) aL):TS G k sc (.Assign [.Tuple ts kt pt] (.Tuple vs kv pv) pos) σ Q X:=fun fm A outer F s hsc ok rel=>by
 have hw':=hw fm.env (by refine rB hsc ?_;rfl);unfold Wp;obtain⟨PP,eP⟩:∃PP,GP G (fm.env::outer) fm.own σ.H F s.heap (RS G fm Q)=PP:=⟨_,rfl⟩;refine rA eP ?_;obtain⟨EE,eE⟩:∃EE,cK G (fm.env::outer) fm.own σ.H F s.heap (rc fm.env) X=EE:=⟨_,rfl⟩;refine rA eE ?_;rw[arm_exec_Assign];refine aa (b7 ?_);show aM _ _ (eV (.Tuple vs kv pv) (some (.Tuple ts kt pt)) pos.line fm.env >>=_) _ _ _;rw[hs];refine aa (af ?_);refine rA (if_neg (by decide)) ?_;refine aa (aK ((TE.tup (Q:=fun v H1=>∃xs,v=.tup xs/\xs.length=names.length/\Q .next ⟨(names.zip xs).reverse.foldl (fun m p=>put p.1 p.2 m) σ.m,H1⟩) ?_ fm A _ F s hsc ok rel).thnV (own0:=fm.own) (P':=rc fm.env) (Q:=fun c s1=>aM (bj G.prog G.w) A (do
     let __do_lift ←fi [Expr.Tuple ts kt pt] (Expr.Tuple vs kv pv) fm.env
     assignStores fm.env c __do_lift (List.map (fun x=>x.snd) (eF [Expr.Tuple ts kt pt] fm.env))) PP EE s1) .refl (fun c s1 H1 F1 r1 st1 st1' a va hq__=>?_) fP gH) (fun zz zz x=>x) fun zz zz x=>eE▸x)
 ·exact fun fm A fs F s pos hsc ok rel=>(h fm A fs F s pos hsc ok rel).mono (fun zz zz zz zz zz zz z=>by obtain⟨xs,v,a,b,c⟩:=z;exact⟨xs,v,b,xs,rfl,a,c⟩) (fun zz zz zz x=>x) dD subs
 refine cX hq__ fun xs hx hl h1=>?_;subst hx;refine rA hw' ?_;refine aa (af ?_);refine bx (va.read r1 (x:=.tup xs) rfl rfl) fun a FW o=>?_;subst FW;refine bx o.tup_inv fun cs ht vcs=>?_;show aM _ _ (do rule "assign.swapped-stores";let items ←unpackItems (.ref a) names.length none;assignInOrder (names.reverse.map fun n=>bindName fm.env n) items.reverse;pure Flow.next) _ _ _;refine aa (fW ?_);have hsz:names.length=cs.toArray.size:=by exact rA eL (rA vcs.length (rA hl rfl))
 refine rA hsz ?_;refine aa (wpAny_unpackItems_tuple (ok.handled hk3) ht fun h' he=>?_);have kp:∀b o,s1.heap.get? b=some o->h'.get? b=some o:=fun b o e=>he b o (cV (Heap.lt_size e)) e;refine ea (r1.grow (h':=h') s1.toks kp) fun r2 dE=>?_;have rel2:jn G (fm.env::outer) fm F1 ⟨σ.m,H1⟩ {s1 with heap:=h'}:=(rel.keeps st1' r1).keeps (s':={s1 with heap:=h'}) dE r2;have key:∀(ns:List Str) (xs:List V) (cs:List Value) (m:List (Str×V)) (F1:ah->Prop) (s1:an),(∀x∈ns,sc.kindOf x=some .local)->xs.length=ns.length->d7 G s1.heap F1 xs cs ->
   jn G (fm.env::outer) fm F1 ⟨m,H1⟩ s1->bQ fm.own σ.H F s.heap H1 F1 s1.heap->Q .next ⟨(ns.zip xs).foldl (fun m p=>put p.1 p.2 m) m,H1⟩ ->
   aM (bj G.prog G.w) A (assignInOrder (ns.map fun n=>bindName fm.env n) cs) (fun zz s'=>PP .next s') EE s1:=by
  intro ns
  induction ns with
  |nil=>
   intro xs cs m F1 s1 hk hl vc rl st q;cases xs with
   |nil=>refine rA vc.nil_inv ?_;exact yp (eP▸GP.here rl.hp st ⟨m,.next,rl.fr,.next,q⟩)
   |cons=>cases hl
  |cons n ns ih=>
   intro xs cs m F1 s1 hk hl vc rl st q;cases xs with
   |nil=>cases hl
   |cons x xs=>
    refine cq vc.cons_inv fun c cs' FY v1 v2=>?_;subst FY;refine ex rl.fr.ns fun mc hn=>?_;refine yo (wpAny_bindName (nJ (by have:=hk n (.head _);rw[←hsc]at this;exact this) hn (fun h' hn' hs=>?_) (by refine rA rl.fr.kind ?_;rfl)));refine ea (rl.storeL (s1.toks+1) (by have:=hk n (.head _);rw[←hsc]at this;exact this) v1 hn hn' hs) fun rel' st'=>?_;exact ih xs cs' _ F1 _ (fun y hy=>hk y (.tail _ hy)) (by simpa using hl) (st'.vrs v2) rel' (st.trans st') q
 refine aa (aK (key names.reverse xs.reverse cs.reverse σ.m F1 _ (fun x hx=>hk x (by simpa using hx)) (by simp[hl]) ?_ rel2 (st1.trans (dE.mono fP)) ?_) (fun zz zz h=>af h) fun zz zz x=>x)
 ·have:∀{xs:List V}{cs:List Value},d7 G h' F1 xs cs->d7 G h' F1 xs.reverse cs.reverse:=by
   intro xs
   induction xs with
   |nil=>intro cs v;refine rA v.nil_inv ?_;exact .nil
   |cons x xs ih=>intro cs v;refine cq v.cons_inv fun c cs' FZ v1 v2=>?_;subst FZ;refine rA ky (rA ky ?_);exact(ih v2).append (.one v1)
  exact this (dE.vrs vcs)
 ·refine rA (xc _ _ (by exact Eq.symm hl)) ?_;exact h1
end
inductive J2 where
 |v (x y:V)
 |vs (xs ys:List V)
 |k (xs ys:List (Int×V))
 |sk (xs ys:List (Str×V))
inductive gZ(H H':HH):J2->Prop
 |same (v:V):gZ H H' (.v v v)
 |ref {a:ah}{x y:V}:H a=some x->H' a=none->gZ H H' (.v x y)->y.isObj=true->gZ H H' (.v (.ref a) y)
 |lst {xs ys:List V}:gZ H H' (.vs xs ys)->gZ H H' (.v (.lst xs) (.lst ys))
 |tup {xs ys:List V}:gZ H H' (.vs xs ys)->gZ H H' (.v (.tup xs) (.tup ys))
 |dct {xs ys:List (Int×V)}:gZ H H' (.k xs ys)->gZ H H' (.v (.dct xs) (.dct ys))
 |sdct {xs ys:List (Str×V)}:gZ H H' (.sk xs ys)->gZ H H' (.v (.sdct xs) (.sdct ys))
 |adict {xs ys:List (Str×V)}:gZ H H' (.sk xs ys)->gZ H H' (.v (.adict xs) (.adict ys))
 |inst {c:ah}{d d':V}:gZ H H' (.v d d')->gZ H H' (.v (.inst c d) (.inst c d'))
 |nil:gZ H H' (.vs [] [])
 |cons {x y:V}{xs ys:List V}:gZ H H' (.v x y)->gZ H H' (.vs xs ys)->gZ H H' (.vs (x::xs) (y::ys))
 |knil:gZ H H' (.k [] [])
 |kcons {k:Int}{x y:V}{xs ys}:gZ H H' (.v x y)->gZ H H' (.k xs ys)->gZ H H' (.k ((k,x)::xs) ((k,y)::ys))
 |sknil:gZ H H' (.sk [] [])
 |skcons {k:Str}{x y:V}{xs ys}:gZ H H' (.v x y)->gZ H H' (.sk xs ys)->gZ H H' (.sk ((k,x)::xs) ((k,y)::ys))
noncomputable def Sub(H' H:HH):Prop:=∀a x,H' a=some x->H a=some x
theorem Sub.refl{H:HH}:Sub H H:=fun zz zz e=>e
theorem Sub.trans{H1 H2 H3:HH}(x:Sub H1 H2)(y:Sub H2 H3):Sub H1 H3:=fun a z e=>y a z (x a z e)
theorem Sub.upd{H' H:HH}{a:ah}{x:V}(h:Sub H' H)(ha:H' a=none):Sub H' (upd H a x):=fun b y e=>by
 refine rA (bE (fun q=>by rw[q,ha]at e;exact nS e)) ?_;exact h b y e
theorem d4{H:HH}{a b:ah}{x:V}(h:upd H a x b=none):b≠a/\H b=none:=by
 by_cases q:b=a
 ·subst q;rw[aw]at h;exact nS h.symm
 ·rw[bE q]at h;exact⟨q,h⟩
section
variable {G:GC}{fs:List Env}{fm:Fm}{F F':ah->Prop}{H H':HH}{m:List (Str×V)}{s s':an}{h:Heap}{tg:Expr}{its:List ah}{it:Value}{ys:List V}
theorem ln.nf{h':Heap}{b:ah}{o:Obj}(x:ln h' b o)(n:ce o):∃o',h'.get? b=some o'/\ce o':=by refine bx x fun sl e zz=>?_;exact⟨_,e,n⟩
theorem o3.go(f:o3 G fm F H m s)(fz:∀a,F a->F' a)(kF:∀b o,F b->s.heap.get? b=some o->s'.heap.get? b=some o)
  (kn:∀b o,ce o->s.heap.get? b=some o->¬F b->H b=none->ln s'.heap b o/\¬F' b/\H' b=none):o3 G fm F' H' m s':=by
 have kl:∀mc,s.heap.Ns fm.env.locals mc->s'.heap.Ns fm.env.locals mc:=fun mc hn=>Heap.Ns.upTo hn fun o e=>
  (kn _ o (by refine hY hn fun o' es ep e' d zz=>?_;exact by rw[e]at e';obtain rfl:=aj e';exact f6 d) e (f.sep _ f.lown).1 (f.sep _ f.lown).2.1).1
 have kc:∀x a v,fm.env.cells.lookup x=some a->s.heap.IsCell a v->s'.heap.IsCell a v/\¬F' a/\H' a=none:=fun x a v e hv=>by
  refine bx (id hv) fun o e1 d=>?_;have q:=kn _ o (pB d) e1 (f.cells x a e).2.1 (f.cells x a e).2.2;exact⟨Heap.IsCell.upTo hv fun o' e2=>by rw[e1]at e2;obtain rfl:=aj e2;exact q.1,q.2⟩
 refine⟨f.kind,f.glob,f.blt,f.code,by refine ex f.ns fun mc hn=>?_;exact⟨mc,kl mc hn⟩,f.lown,fun x a e=>?_,f.ocell,f.inj,fun a ha=>?_,fun x v e=>?_⟩
 ·refine ea (f.cells x a e) fun FW q=>?_;refine ex FW fun v hv=>?_;exact⟨⟨v,(kc x a v e hv).1⟩,(kc x a v e hv).2⟩
 ·refine m9 (f.sep a ha) fun q1 q2 o e nf=>?_;have q:=kn a o nf e q1 q2;exact⟨q.2.1,q.2.2,q.1.nf nf⟩
 ·refine bx (f.vars x v e) fun c hs hv=>?_;refine⟨c,?_,hv.mono fz fun a o hf e=>kF a o hf e⟩;rcases hs with ⟨hl,mc,hn,hm⟩|⟨hl,a,hc,hcell⟩
  ·exact .inl hl mc (kl mc hn) hm
  ·exact .inr hl a hc ((kc x a _ hc hcell).1)
theorem ir.norec(hit:ir G F H h tg its it ys):∀b o,h.get? b=some o->ce o->b∉its:=fun b o e nf m=>by
 cases hit with
 |list x1=>cases ag.mp m;refine jx (ec x1) fun o' vs e' d=>?_;rw[e]at e';obtain rfl:=aj e';exact nf vs d
 |rng x1=>cases ag.mp m;unfold IsRangeIter at x1;rw[e]at x1;obtain rfl:=aj x1;exact nf _ rfl
 |enum x0 x1 x2=>
  rcases aA.mp m with rfl|m
  ·unfold IsEnum at x1;rw[e]at x1;obtain rfl:=aj x1;exact nf _ rfl
  ·cases ag.mp m;refine jx (ec x2) fun o' vs e' d=>?_;rw[e]at e';obtain rfl:=aj e';exact nf vs d
end
section
variable {G:GC}{fs:List Env}{fm:Fm}{F:ah->Prop}{H H':HH}{σ σ':St}{s:an}{k:Nat}{sc:Sc}{X:XP}{Q:SP}
noncomputable abbrev jE(F:ah->Prop)(H H':HH):ah->Prop:=fun a=>F a∨((∃x,H a=some x)/\H' a=none)
noncomputable def RfyP(G:GC)(F:ah->Prop)(H H':HH)(h:Heap):J2->Prop
 |.v x y=>(∀c,VR G h F x c->VR G h (jE F H H') y c)/\∀a,OR G h F x a->OR G h (jE F H H') y a
 |.vs xs ys=>∀cs,d7 G h F xs cs->d7 G h (jE F H H') ys cs
 |.k xs ys=>∀cs,Rl G h F (.k xs cs)->Rl G h (jE F H H') (.k ys cs)
 |.sk xs ys=>(∀cs,Rl G h F (.sk xs cs)->Rl G h (jE F H H') (.sk ys cs))/\(∀m,Rl G h F (.f xs m)->Rl G h (jE F H H') (.f ys m))/\xs.map (·.1)=ys.map (·.1)
theorem l7{α β:Type}{n:Str}{xs:List (Str×α)}:∀{ys:List (Str×β)},xs.map (·.1)=ys.map (·.1)->ys.lookup n=none->xs.lookup n=none:=by
 induction xs with
 |nil=>exact fun zz zz=>rfl
 |cons p xs ih=>
  intro ys e h;cases ys with
  |nil=>exact nL e.symm
  |cons q ys=>
   have e1:p.1=q.1:=(aV e).1;have h:(match n==q.1 with|true=>some q.2|false=>ys.lookup n)=none:=h;show(match n==p.1 with|true=>some p.2|false=>xs.lookup n)=none;refine rA e1 ?_;cases z:n==q.1 with
   |true=>rw[z]at h;exact nS h.symm
   |false=>rw[z]at h;exact ih (aV e).2 h
theorem kC(r:bB G fs F H s){j:J2}(y:gZ H H' j):RfyP G F H H' s.heap j:=by
 have mo:∀{j},Rl G s.heap F j->(∀x a,j≠.o x a)->Rl G s.heap (jE F H H') j:=fun q n=>Rl.mono (fun zz x=>.inl x) (fun zz zz zz e=>e) q fun x a e=>absurd e (n x a);have mo2:∀{j},Rl G s.heap F j->Rl G s.heap (jE F H H') j:=fun q=>Rl.mono (fun zz x=>.inl x) (fun zz zz zz e=>e) q fun zz zz zz zz e=>e
 induction y with
 |same v=>exact⟨fun c q=>mo2 q,fun a q=>mo2 q⟩
 |ref ha hn _ ho ih=>
  refine⟨fun c q=>?_,fun a q=>by cases q⟩;obtain rfl:=VR.ref_inv q;exact .fz (.inr ⟨⟨_,ha⟩,hn⟩) (ih.2 _ (r.own _ _ ha))
 |@lst xs ys _ ih=>
  have o:∀a,OR G s.heap F (.lst xs) a->OR G s.heap (jE F H H') (.lst ys) a:=fun a q=>by refine bx q.lst_inv fun zz p w=>?_;exact .lst p (ih _ w)
  exact⟨fun c q=>by obtain⟨_,rfl,f,q⟩:=VR.obj_inv q rfl;exact .fz (.inl f) (o _ q),o⟩
 |@tup xs ys _ ih=>
  have o:∀a,OR G s.heap F (.tup xs) a->OR G s.heap (jE F H H') (.tup ys) a:=fun a q=>by refine bx q.tup_inv fun zz p w=>?_;exact .tup p (ih _ w)
  exact⟨fun c q=>by obtain⟨_,rfl,f,q⟩:=VR.obj_inv q rfl;exact .fz (.inl f) (o _ q),o⟩
 |@dct xs ys _ ih=>
  have o:∀a,OR G s.heap F (.dct xs) a->OR G s.heap (jE F H H') (.dct ys) a:=fun a q=>by refine cX q.dct_inv fun zz z p w=>?_;exact .dct z p (ih _ w)
  exact⟨fun c q=>by obtain⟨_,rfl,f,q⟩:=VR.obj_inv q rfl;exact .fz (.inl f) (o _ q),o⟩
 |@sdct xs ys _ ih=>
  have o:∀a,OR G s.heap F (.sdct xs) a->OR G s.heap (jE F H H') (.sdct ys) a:=fun a q=>by refine cX q.sdct_inv fun zz z p w=>?_;exact .sdct z p (ih.1 _ w)
  exact⟨fun c q=>by obtain⟨_,rfl,f,q⟩:=VR.obj_inv q rfl;exact .fz (.inl f) (o _ q),o⟩
 |@adict xs ys _ ih=>
  have o:∀a,OR G s.heap F (.adict xs) a->OR G s.heap (jE F H H') (.adict ys) a:=fun a q=>by refine cX q.adict_inv fun zz p n w=>?_;exact .adict p (fun x e=>n x (l7 ih.2.2 e)) (ih.2.1 _ w)
  exact⟨fun c q=>by obtain⟨_,rfl,f,q⟩:=VR.obj_inv q rfl;exact .fz (.inl f) (o _ q),o⟩
 |@inst c d d' _ ih=>
  have o:∀a,OR G s.heap F (.inst c d) a->OR G s.heap (jE F H H') (.inst c d') a:=fun a q=>by refine bx q.inst_inv fun zz p w=>?_;exact .inst p (ih.1 _ w)
  exact⟨fun c q=>by obtain⟨_,rfl,f,q⟩:=VR.obj_inv q rfl;exact .fz (.inl f) (o _ q),o⟩
 |nil=>intro cs q;refine rA (d7.nil_inv q) ?_;exact .nil
 |cons _ _ i1 i2=>intro cs q;refine cq (d7.cons_inv q) fun c cs' FW a b=>?_;subst FW;exact .cons (i1.1 _ a) (i2 _ b)
 |knil=>intro cs q;obtain rfl:cs=[]:=q.inv;exact .knil
 |kcons _ _ i1 i2=>intro cs q;refine cq (Rl.kcons_inv q) fun zz zz FY a b=>?_;subst FY;exact .kcons (i1.1 _ a) (i2 _ b)
 |sknil=>exact⟨fun cs q=>by cases q;exact .sknil,fun m q=>.fnil,rfl⟩
 |skcons _ _ i1 i2=>exact⟨fun cs q=>by refine cq (Rl.skcons_inv q) fun zz zz FZ a b=>?_;subst FZ;exact .skcons (i1.1 _ a) (i2.1 _ b),fun m q=>by refine cX (Rl.fcons_inv q) fun zz e a b=>?_;exact .fcons e (i1.1 _ a) (i2.2.1 _ b),by simp[i2.2.2]⟩
structure l5(σ σ':St):Prop where
 sub:Sub σ'.H σ.H
 vars:∀x v',σ'.m.lookup x=some v'->∃v,σ.m.lookup x=some v/\gZ σ.H σ'.H (.v v v')
noncomputable def DC(H H':HH)(m:List (Str×V)):List (Str×V)->Prop
 |[]=>True
 |(x,v')::r=>(∃v,m.lookup x=some v/\gZ H H' (.v v v'))/\DC H H' m r
theorem DC.get{m:List (Str×V)}:∀{l:List (Str×V)},DC H H' m l->∀x v',l.lookup x=some v'->∃v,m.lookup x=some v/\gZ H H' (.v v v')
 |(y,u)::r,⟨a,b⟩,x,v',e=>by
  rw[aZ]at e;cases q:x==y with
  |true=>rw[q]at e;obtain rfl:=aj e;refine rA (beq_iff_eq.mp q) ?_;exact a
  |false=>rw[q]at e;exact b.get x v' e
theorem l5.of(h1:Sub σ'.H σ.H)(h2:DC σ.H σ'.H σ.m σ'.m):l5 σ σ':=⟨h1,h2.get⟩
theorem l5.refl:l5 σ σ:=⟨.refl,fun x v e=>⟨v,e,.same v⟩⟩
theorem jn.weak(r:jn G fs fm F σ s)(w:l5 σ σ'):∃F',jn G fs fm F' σ' s/\bQ [] σ.H F s.heap σ'.H F' s.heap:=by
 refine ea (r.hp.drop w.sub) fun r1 st=>?_;refine⟨_,⟨r1,?_⟩,st⟩;have rf:=r.fr.keeps (s':=s) st;refine⟨rf.kind,rf.glob,rf.blt,rf.code,rf.ns,rf.lown,rf.cells,rf.ocell,rf.inj,rf.sep,fun x v' e=>?_⟩;refine bx (w.vars x v' e) fun v e1 e2=>?_;refine bx (r.fr.vars x v e1) fun c e3 e4=>?_;exact⟨c,e3,(kC r.hp e2).1 c e4⟩
noncomputable def nk(J:St->Prop)(Q:SP):SP:=fun fl σ2=>match fl with|.next=>J σ2|.brk=>Q .next σ2|.ret v=>Q (.ret v) σ2
theorem pI{env:Env}{outer:List Env}{A:cA}{own:List ah}{h0:Heap}{L:ah}(hL:env.frame=some L)(hfr:A.frames=some (env::outer)){e:Value}{s':an}{H:HH}
  (x:cK G (env::outer) own H F h0 (rc env) X e s'):notedBy (bj G.prog G.w) A env (fun e s'=>mP (bj G.prog G.w) A env (cK G (env::outer) own H F h0 (rc env) X) e s') e s' :=
 aK (zU (E:=fun e s'=>mP (bj G.prog G.w) A env (cK G (env::outer) own H F h0 (rc env) X) e s') hL hfr x) (fun zz s1 x1=>zo hL (fun fl p=>⟨_,p⟩) x1) fun zz zz x=>x
inductive WInv(G:GC)(fs:List Env)(fm:Fm)(I:Nat->St->Prop)(H:HH)(F:ah->Prop)(h0:Heap)(n:Nat)(s':an):Prop
 |mk (σ':St) (F':ah->Prop) (i:I n σ') (r:jn G fs fm F' σ' s') (st:bQ fm.own H F h0 σ'.H F' s'.heap)
theorem yS{t body pos}(I:Nat->St->Prop)(n:Nat)(h:I n σ)
  (turn:∀n σ,I n σ->TT G k sc t σ (fun b H1=>if b then lK G k sc body ⟨σ.m,H1⟩ (nk (fun σ2=>∃m,m<n/\I m σ2) Q) X else Q .next ⟨σ.m,H1⟩) X):TS G k sc (.While t body [] pos) σ Q X:=fun fm A outer F s hsc ok rel=>by
 refine ex rel.hp.frame1 fun L hL=>?_;refine wpAny_While (codeAny_whileLoop (WInv G (fm.env::outer) fm I σ.H F s.heap) ?_ n ⟨σ,F,h,rel,.refl⟩);rintro n s1 ⟨σ1,F1,hI,rel1,st1⟩;refine aK ((turn n σ1 hI fm A _ F1 s1 hsc ok rel1).thn st1 (fun b s2 H2 F2 r2 dE st2' h2=>?_) fP (P':=rc fm.env) gH) (fun zz zz x=>x) fun e s' x=>pI hL ok.frames x;have rel2:=rel1.keeps st2' r2;cases b with
 |false=>
  exact jY (GP.here r2 dE ⟨σ1.m,.next,rel2.fr,.next,h2⟩)
 |true=>
  refine aK ((h2 fm A outer F2 s2 hsc ok rel2).thn dE (fun fl s3 H3 F3 r3 gW st3' z'=>?_) subs dD) (fun zz zz x=>x) fun e s' x=>pI hL ok.frames x;obtain⟨m3,fa,rf3,hf,h3⟩:=z';cases hf with
  |next=>refine bx h3 fun n' hn hI'=>?_;exact⟨n',hn,_,F3,hI',⟨r3,rf3⟩,gW⟩
  |brk=>exact GP.here r3 gW ⟨m3,.next,rf3,.next,h3⟩
  |ret v=>exact GP.here r3 gW ⟨m3,.ret _,rf3,.ret v,h3⟩
noncomputable def V.iters:V->Option (List V)
 |.lst xs=>some xs
 |.rng lo hi=>some (br lo hi)
 |_=>bc
noncomputable def yw(G:GC)(k:Nat)(sc:Sc)(target:Expr)(body:List jX)(Q:SP)(X:XP):List V->St->Prop
 |[],σ=>Q .next σ
 |x::xs,σ=>TA G k sc target x σ (fun σ1=>lK G k sc body σ1 (nk (yw G k sc target body Q X xs) Q) X) NX
theorem bQ.shed{own its:List ah}{F':ah->Prop}{h h':Heap}(st:bQ (its++own) H F h H' F' h')(hf:∀b∈its,h.get? b=none):bQ own H F h H' F' h' :=
 ⟨st.fz,st.keepF,fun b o e n q=>st.keepR b o e n fun m=>(ak.mp m).elim (fun m=>by rw[hf b m]at e;exact nS e) q,st.live,st.nf,st.fnew,st.hnew⟩
theorem cK.shed{own its:List ah}{h0:Heap}{P:Option Value->Prop}{e:Value}(x:cK G fs (its++own) H F h0 P X e s)(hf:∀b∈its,h0.get? b=none):cK G fs own H F h0 P X e s:=by
 obtain⟨H',F',fl,c,d,r,st,x,p,q⟩:=x;exact⟨H',F',fl,c,d,r,st.shed hf,x,p,q⟩
inductive DA(G:GC)(fs:List Env)(fm:Fm)(J:List V->St->Prop)(tg:Expr)(its:List ah)(it:Value)(H0:HH)(F0:ah->Prop)(h0:Heap)(n:Nat)(s':an):Prop
 |mk (ys:List V) (σ':St) (F':ah->Prop) (e:ys.length=n) (j:J ys σ') (i:ir G F' σ'.H s'.heap tg its it ys) (r:jn G fs fm F' σ' s') (st:bQ (its++fm.own) H0 F0 h0 σ'.H F' s'.heap)
theorem Bk{target body}{fm:Fm}{A:cA}{outer:List Env}{σ0:St}{F0:ah->Prop}{h0:Heap}{its:List ah}{it:Value}(hsc:fm.sc=sc)(hk3:3<=k)(ok:Ok k A (fm.env::outer)){L:ah}(hL:fm.env.frame=some L) :
  ∀(ys:List V) (σ1:St) (F1:ah->Prop) (s1:an),yw G k sc target body Q X ys σ1->ir G F1 σ1.H s1.heap target its it ys->jn G (fm.env::outer) fm F1 σ1 s1->bQ (its++fm.own) σ0.H F0 h0 σ1.H F1 s1.heap->(∀b∈its,h0.get? b=none) ->
  gy (bj G.prog G.w) A (.forLoop target it body [] fm.env) (fun r s'=>match r with
   |.ok f=>GP G (fm.env::outer) fm.own σ0.H F0 h0 (RS G fm Q) f s'|.error e=>mP (bj G.prog G.w) A fm.env (cK G (fm.env::outer) fm.own σ0.H F0 h0 (rc fm.env) X) e s') s1:=by
 intro ys σ1 F1 s1 hfor hit rel1 st1 hf;obtain⟨PP,eP⟩:∃PP,GP G (fm.env::outer) fm.own σ0.H F0 h0 (RS G fm Q)=PP:=⟨_,rfl⟩;refine rA eP ?_;obtain⟨EE,eE⟩:∃EE,mP (bj G.prog G.w) A fm.env (cK G (fm.env::outer) fm.own σ0.H F0 h0 (rc fm.env) X)=EE:=⟨_,rfl⟩;refine rA eE ?_;refine codeAny_forLoop_any (DA G (fm.env::outer) fm (yw G k sc target body Q X) target its it σ0.H F0 h0) ?_ ys.length ⟨ys,σ1,F1,rfl,hfor,hit,rel1,st1⟩;clear hfor hit rel1 st1;rintro n s1 ⟨ys,σ1,F1,rfl,hfor,hit,rel1,st1⟩;cases ys with
 |nil=>
  refine ir.done (ok.handled hk3) rel1.hp hit st1 hf fun h' r' st' k'=>?_;refine jY (eP▸GP.here r' st' ⟨σ1.m,.next,?_,.next,hfor⟩);exact rel1.fr.go (fun zz x=>x) (fun b o f e=>k' b o (fun m=>(hit.rest b m).1 f) e) fun b o nf e q1 q2=>⟨.of (k' b o (hit.norec b o e nf) e),q1,q2⟩
 |cons y ys=>
  refine aK (hit.next (A:=A) rel1.hp (E:=fun zz zz=>False)) (fun rr s2 z'=>?_) fun zz zz x=>x.elim;cases rr with
  |none=>exact z'.elim
  |some c=>
  refine aK z' (fun zz s3 z'=>?_) fun zz zz x=>x.elim;obtain⟨F3,r3,gW,hit3,vc⟩:=z';have st13:=st1.trans (gW.mono fun b m=>aC _ m);have rel3:jn G (fm.env::outer) fm F3 σ1 s3:=⟨r3,rel1.fr.go gW.fz (fun b o f e=>gW.keepF b o e f) fun b o nf e q1 q2=>⟨gW.keepR b o e q2 (hit.norec b o e nf),gW.rest e q1 q2⟩⟩;refine aK (((hfor fm A _ F3 s3 c hsc ok rel3 vc).mono (fun zz zz zz zz zz zz x=>x) (fun zz zz zz x=>x.elim) dD subs).thn st13 (X:=X) (P':=rc fm.env) (fun zz s4 H4 F4 r4 st4 st4' z'=>?_) (fun b m=>aO _ m) gH) (fun zz zz x=>x) fun e s' x=>eE▸pI hL ok.frames (x.shed hf);obtain⟨m4,rf4,h4⟩:=z';refine aK ((h4 fm A outer F4 s4 hsc ok ⟨r4,rf4⟩).thn st4 (fun fl s5 H5 F5 r5 st5 st5' z'=>?_) (fun b m=>aO _ m) dD) (fun zz zz x=>x) fun e s' x=>eE▸pI hL ok.frames (x.shed hf);obtain⟨m5,fa,rf5,hfl,h5⟩:=z';have hit4:=hit3.step st4' rel3.fr.ownNf;have hit5:=hit4.step st5' rf4.ownNf;cases hfl with
  |next=>exact⟨ys.length,by simp,ys,_,F5,rfl,h5,hit5,⟨r5,rf5⟩,st5⟩
  |brk=>exact eP▸GP.here r5 (st5.shed hf) ⟨m5,.next,rf5,.next,h5⟩
  |ret v=>exact eP▸GP.here r5 (st5.shed hf) ⟨m5,.ret _,rf5,.ret v,h5⟩
theorem BM{A:cA}{tg:Expr}{own:List ah}{H0:HH}{F0:ah->Prop}{h0:Heap}{v:V}{c:Value}{xs:List V}{E:Value->an->Prop}{QQ:Value->an->Prop}(r:bB G fs F H s)(st:bQ own H0 F0 h0 H F s.heap)(vr:VR G s.heap F v c)(hx:v.iters=some xs)
  (hq:∀it its h',bB G fs F H {s with heap:=h'}->bQ own H0 F0 h0 H F h'->bQ [] H F s.heap H F h'->ir G F H h' tg its it xs->(∀b∈its,h0.get? b=none)->QQ it {s with heap:=h'}):aM (bj G.prog G.w) A (tE c) QQ E s:=by
 have fr:s.heap.get? s.heap.objs.size=none:=bL _;cases v with
 |lst ys=>
  obtain rfl:=aj hx;refine cX (vr.obj_inv rfl) fun l FW hf o=>?_;subst FW;refine bx o.lst_inv fun cs hl vs=>?_
  replace hl:=hl.isList
  refine sH hl ?_;refine ea (r.grow (h':=s.heap.push {cls:=.type "list_iterator",data:=.fields #[.ref l,.int 0 0]}) s.toks fun b o e=>Heap.get?_push_of_some _ e) fun r1 st1=>?_;refine bx hl fun ol hol hlr=>?_;refine hq _ [s.heap.objs.size] _ r1 (st.trans (st1.mono fP)) st1 (.list (n:=0) ⟨_,Heap.get?_push_size _ rfl,rfl,rfl⟩ hf ⟨ol,st1.keepF _ _ hol hf,hlr⟩ (st1.vrs vs) (r.fresh fr).1 (r.fresh fr).2 rfl) fun b hb=>?_;cases ag.mp hb;exact st.none_back fr
 |rng lo hi=>
  obtain rfl:=aj hx;refine cX (vr.obj_inv rfl) fun l FY hf o=>?_;subst FY;refine hY o.rng_inv fun t u w hr h1 h2=>?_;refine wpAny_pyIter_range hr (small_one (by exact BE h1) (by exact BF h1) (by exact BE h2) (by exact BF h2)) ?_;refine ea (r.grow (h':=s.heap.push {cls:=.type "range_iterator",data:=.fields #[bV lo,bV (gh lo hi 1),bV 1]}) s.toks fun b o e=>Heap.get?_push_of_some _ e) fun r1 st1=>?_
  by_cases hlt:lo<hi
  ·have e:gh lo hi 1=hi-lo:=by rw[rangeSize_one,if_pos hlt]
   refine hq _ [s.heap.objs.size] _ r1 (st.trans (st1.mono fP)) st1 (.rng (Heap.get?_push_size _ rfl) e (r.fresh fr).1 (r.fresh fr).2 rfl) fun b hb=>?_;cases ag.mp hb;exact st.none_back fr
  ·have e:gh lo hi 1=lo-lo:=by rw[rangeSize_one,if_neg hlt];exact bi (Lz [] [_] (Gz (Kz 0) (Mz Z0 Z0)) rfl) (Lz [] [_] (Gz (Mz Z0 Z0) (Kz 0)) rfl)
   refine hq _ [s.heap.objs.size] _ r1 (st.trans (st1.mono fP)) st1 (.rng (hi:=lo) (Heap.get?_push_size _ rfl) e (r.fresh fr).1 (r.fresh fr).2 (by exact rA (fJ (by exact Di hlt)) (rA (fJ (by exact cJ _)) rfl))) fun b hb=>?_;cases ag.mp hb;exact st.none_back fr
 |_=>exact nS hx
end
section
variable {G:GC}{k:Nat}{sc:Sc}{σ:St}{X:XP}{Q:VP}
theorem bB.kin{fs F H s}(r:bB G fs F H s):G.K.In s.heap:=G.kin.keeps r.base
noncomputable def gD(K:kB):Value->Prop
 |.type _=>True
 |.builtin _=>True
 |f=>keepIn K f=true
theorem gD.looks{M:q7}{f:Value}(hc:gD G.K f):∀h,G.K.In h->∃k,(k=Keeper.frame∨k=Keeper.machine∨k=Keeper.boundFrame)/\Looks M h (keeperOf f) k:=fun h X=>by
 cases f with
 |type n=>exact⟨.machine,.inr (.inl rfl),nC rfl⟩
 |builtin n=>exact⟨.machine,.inr (.inl rfl),nC rfl⟩
 |_=>refine bx (looks_keep (M:=M) hc X) fun k a b=>?_;exact⟨k,a.elim .inl fun x=>.inr (.inl x),b⟩
theorem n7{env:Env}{pos:Pos}{args:List Expr}(h:(cL args env).any (·.1)=false):(jr pos (cL args env)).any (·.1)=false:=by
 unfold jr;refine rA lE ?_;exact h
theorem xD{M:q7}{A:cA}{E:Value->an->Prop}{s:an}{f:Value}{env:Env}{pos:Pos}{args:List Expr}{QQ:Args->an->Prop}(hp:(cL args env).any (·.1)=false)
  (h:aM M A (spliced (jr pos (cL args env))) (fun vs s'=>QQ ⟨vs,[]⟩ s') E s):aM M A (evalArgs f true (jr pos (cL args env)) []) QQ E s:=by
 cases e:cL args env with
 |nil=>
  rw[e]at h;unfold evalArgs;show aM M A (spliced (jr pos []) >>=_) QQ E s;refine aa (aK h (fun vs s' h'=>?_) fun zz zz x=>x);refine a9 ?_;exact aa (af (aa (af (af h'))))
 |cons p r=>
  obtain⟨b,t⟩:=p;rw[e]at h hp;rw[kS,Bool.or_eq_false_iff]at hp;refine ea hp fun FW zz=>?_;clear hp;subst FW;exact evalArgs_plain h
theorem lM{A:cA}{E:Value->an->Prop}{s:an}{f:Value}{first:List Value}{env:Env}{pos:Pos}{args:List Expr}{QQ:Value->an->Prop}(hc:gD G.K f)(hp:(cL args env).any (·.1)=false)
  (h:aM (bj G.prog G.w) A (spliced (jr pos (cL args env))) (fun vs s1=>G.K.In s1.heap/\aM (bj G.prog G.w) A (call f (first++vs)) QQ E s1) E s):aM (bj G.prog G.w) A (callWith pos f first (jr pos (cL args env)) []) QQ E s :=
 callWith_of (P:=G.K.In) (by refine rA (n7 hp) ?_;rfl) hc.looks (xD hp h)
theorem TE.call{func args pos}(h:TE G k sc func σ (fun fv H1=>∃f,fv=.glob f/\gD G.K f/\pq G k sc args ⟨σ.m,H1⟩ (fun vs H2=>VT G k (dm f) vs H2 Q X) X) X)
  (he:autoParam (∀env,fu (.Call func args [] pos) env=(do callWith pos (←fu func env) [] (jr pos (cL args env)) (oN pos (jM [] env)))) aI)
  (hp:autoParam (∀env,(cL args env).any (·.1)=false) aI):TE G k sc (.Call func args [] pos) σ Q X:=fun fm A fs F s hsc ok rel=>by
 unfold Wp;rw[he];refine aa ((h fm A fs F s hsc ok rel).thnV .refl (fun c s1 H1 F1 r1 st1 st1' fv va hq__=>?_) subs dD);refine cX hq__ fun f hf hc h1=>?_;subst hf;obtain rfl:=va.glob_inv;refine lM hc (hp _) ?_;refine(h1 fm A fs F1 s1 pos hsc ok (rel.keeps st1 r1)).thnVs st1 (fun cs s2 H2 F2 r2 dE st2' vs vv h2=>?_) subs dD;exact⟨r2.kin,(h2 A fs F2 s2 cs ok r2 vv).fin dE subs dD⟩
noncomputable def MT(G:GC)(name:Str)(v:V)(H:HH)(f:Value):Prop :=
 ∀A fs F s c (pl:Sem Bool) (E:Value->an->Prop) (QQ:Value×List Value->an->Prop),bB G fs F H s->VR G s.heap F v c->QQ (f,[c]) s->aM (bj G.prog G.w) A (pi c name pl) QQ E s
theorem wc{o name apos args pos}(h:TE G k sc o σ (fun ov H1=>∃f,MT G name ov H1 f/\gD G.K f/\pq G k sc args ⟨σ.m,H1⟩ (fun vs H2=>VT G k (dm f) (ov::vs) H2 Q X) X) X)
  (hl:autoParam (apos.endLine=pos.line) aR) (hn:autoParam (args.length<29) aD) (ha:autoParam (∀env whole,q8 o name env whole=whole) aI)
  (hp:autoParam (∀env,(cL args env).any (·.1)=false) aI):TE G k sc (.Call (.Attribute o name apos) args [] pos) σ Q X:=fun fm A fs F s hsc ok rel=>by
 unfold Wp;rw[arm_eval_Call,ha];refine aa ((h fm A fs F s hsc ok rel).thnV .refl (fun c s1 H1 F1 r1 st1 st1' ov va hq__=>?_) subs dD);refine cX hq__ fun f hf hc h1=>?_;refine aa (b7 ?_);have hform:oP (args.length+([]:List Keyword).length) (jr pos (cL args fm.env)) (oN pos (jM [] fm.env))=true:=by
  unfold oP;rw[show(jr pos (cL args fm.env)).all (!·.1)=true from by
   refine rA List.all_eq_not_any_not ?_;simp only[Bool.not_not];refine rA (n7 (hp fm.env)) ?_;rfl]
  refine rA (show jM [] fm.env=[] from rfl) ?_;simp only[oN,gw,List.all_nil,List.isEmpty_nil,if_true,cG,Nat.add_zero,gN];exact decide_eq_true (by exact kT (bn hn))
 unfold methodCall;refine rA hform ?_;refine aa (a9 ?_);show aM _ _ (pi c name _) _ _ _;refine hf A fs F1 s1 c _ _ _ r1 va ?_;refine aa ?_;unfold methodCallPos;refine rA (if_pos (by simp[hl])) ?_;refine af ?_;refine lM hc (hp _) ?_;refine(h1 fm A fs F1 s1 pos hsc ok (rel.keeps st1 r1)).thnVs st1 (fun cs s2 H2 F2 r2 dE st2' vs vv h2=>?_) subs dD;exact⟨r2.kin,(h2 A fs F2 s2 (c::cs) ok r2 (.cons (st2'.vr r1.live va) vv)).fin dE subs dD⟩
theorem lP{h:Heap}{a:ah}{m:Str->Option Value}(x:h.Ns1 a m):∃o,h.get? a=some o/\∀name,lookIn name o=some (m name):=by
 refine eN x fun o es ep ho hd hk FW=>?_;refine ea FW fun zz hf=>?_;refine⟨o,ho,fun name=>?_⟩;unfold lookIn;refine rA hd ?_;dsimp only;have hf:=hf name;unfold nsFind findBy at hf;rw[←Array.find?_toList]at hf;cases q:es.toList.find? fun x=>x.key.isStr name with
 |some e=>rw[q]at hf;refine rB hf ?_;rfl
 |none=>
  rw[q]at hf;have:(es.toList.any fun x=>x.refKey)=false:=by
   rw[List.any_eq_false];intro e he;refine vn (hk e (Array.mem_toList_iff.mp he)) fun n t z=>?_;simp[DictEntry.refKey,z]
  dsimp only;refine rA this (rB hf ?_);rfl
theorem Rl.f_get{h:Heap}{F:ah->Prop}{xs:List (Str×V)}{m:Str->Option Value}(r:Rl G h F (.f xs m)):∀{n v},xs.lookup n=some v->∃c,m n=some c/\VR G h F v c:=by
 induction xs with
 |nil=>intro n v e;exact nS e
 |cons p xs ih=>
  intro n v e;obtain⟨q,u⟩:=p;refine cX r.fcons_inv fun zz e1 e2 e3=>?_;rw[aZ]at e;cases z:n==q with
  |true=>rw[z]at e;obtain rfl:=aj e;refine rA (beq_iff_eq.mp z) ?_;exact⟨_,e1,e2⟩
  |false=>rw[z]at e;exact ih e3 e
noncomputable def xz(H:HH)(v:V):Option (ah×List (Str×V)):=match con H v with
 |.inst c d=>(match con H d with|.adict xs=>some (c,xs)|_=>none)
 |.exc c d=>(match con H d with|.adict xs=>some (c,xs)|_=>none)
 |_=>none
inductive CE(G:GC)(h:Heap)(F:ah->Prop)(c:ah)(xs:List (Str×V))(cv:Value):Prop
 |mk (a dx:ah) (ox:Obj) (m:Str->Option Value) (od:Obj) (e:cv=.ref a) (i:InstAt h a ox c (some od)) (d:ox.dict=some dx) (n:h.Ns1 dx m) (z:∀n,xs.lookup n=none->m n=none) (r:Rl G h F (.f xs m)) (l:∀name,lookIn name od=some (m name)) (g:h.get? dx=some od)
set_option tactic.hygienic true in
theorem lO{fs F H s}{v:V}{cv:Value}{c:ah}{xs:List (Str×V)}(r:bB G fs F H s)(vr:VR G s.heap F v cv)(e:xz H v=some (c,xs)) :
  CE G s.heap F c xs cv:=by
 unfold xz at e;split at e
 ·rename_i c' d hc;split at e
  ·rename_i ys hd;cases e;refine bx (vr.read r hc rfl) fun a FW o=>?_;subst FW;refine bx o.inst_inv fun dx ho vd=>?_;refine bx (vd.read r hd rfl) fun dx' e' o2=>?_;obtain rfl:=gm e';refine cX o2.adict_inv fun m hn hm rf=>?_;refine bx (lP hn) fun od hod hl=>?_;exact⟨a,dx,_,m,od,rfl,⟨ho,rfl,rfl,hod⟩,rfl,hn,hm,rf,hl,hod⟩
  ·exact nS e
 ·rename_i c' d hc;split at e
  ·rename_i ys hd;cases e;refine bx (vr.read r hc rfl) fun a FY o=>?_;subst FY;refine bx o.exc_inv fun dx FZ vd=>?_;refine kZ FZ fun ox ho hcl hdd F7=>?_;obtain⟨vs,hda⟩:=F7;refine bx (vd.read r hd rfl) fun dx' e' o2=>?_;obtain rfl:=gm e';refine cX o2.adict_inv fun m hn hm rf=>?_;refine bx (lP hn) fun od hod hl=>?_;refine⟨a,dx,ox,m,od,rfl,⟨ho,hcl,by unfold notCls;exact rA hda rfl,?_⟩,hdd,hn,hm,rf,hl,hod⟩;refine rA hdd ?_;exact hod
  ·exact nS e
 ·exact nS e
noncomputable def V.noGlob:V->Bool
 |.glob _=>false
 |_=>true
theorem sf{h:Heap}{F:ah->Prop}{v:V}{c:Value}(r:VR G h F v c)(hg:v.noGlob=true):handedIn c=true:=by
 have q:=r.inv;cases v with
 |glob v=>exact nB hg
 |none=>refine rA (show c=.none from q) ?_;rfl
 |bool b=>refine rA (show c=.bool b from q) ?_;rfl
 |ref a=>refine rA (show c=.ref a from q) ?_;rfl
 |_=>obtain⟨_,rfl⟩:∃t,c=_:=(by first|exact q|exact let ⟨a,e,_⟩:=q;⟨a,e⟩);rfl
structure pP(K:kB)(C:ah):Prop where
 get:plainGet K C "x"=true
 dict:mB K C=true
theorem MT.inst{name v c xs f}{H:HH}(e:xz H v=some (c,xs))(hc:pP G.K c)(hf:fj G.K (.ref c) name=some (some (.ref f)))(ht:isFn G.K (.ref f)=true)(hx:xs.lookup name=none):MT G name v H (.ref f):=fun A fs F s cv pl E QQ r vr h=>by
 obtain⟨a,dx,ox,m,od,rfl,I,hd,hn,hm,rf,hl,_⟩:=lO r vr e;refine method_fn r.kin I (plainGet_of hc.get).1 (plainGet_of hc.get).2 hf (beq_iff_eq.mp ht) ?_ h;show(lookIn name od).map _=_;rw[hl,hm name hx];rfl
noncomputable def nA(name:Str):List Value->Sem Value|[a]=>getAttr a name true|_=>pure .none
theorem VT.attr{name v c xs x}{H:HH}(e:xz H v=some (c,xs))(hc:pP G.K c)(hf:fj G.K (.ref c) name=some none)(hx:xs.lookup name=some x)(hg:x.noGlob=true)(h:Q x H):VT G k (nA name) [v] H Q X:=fun A fs F s cs ok r vs=>by
 apply vs.elim1;intro cv vr;obtain⟨a,dx,ox,m,od,rfl,I,hd,hn,hm,rf,hl,_⟩:=lO r vr e;refine bx (rf.f_get hx) fun c' hc1 vc=>?_;exact get_value r.kin I (plainGet_of hc.get).1 (findObj_own hc.dict hf rfl (by rw[hl,hc1])) (sf vc hg) (GP.v (r.toks _) .refl vc h)
theorem TE.attr{o attr pos}(h:TE G k sc o σ (fun ov H1=>VT G k (nA attr) [ov] H1 Q X) X)(ha:autoParam (∀env whole,q8 o attr env whole=whole) aI):TE G k sc (.Attribute o attr pos) σ Q X:=fun fm A fs F s hsc ok rel=>by
 unfold Wp;rw[arm_eval_Attribute,ha];refine aa ((h fm A fs F s hsc ok rel).thnV .refl (fun c s1 H1 F1 r1 st1 st1' ov va h1=>?_) subs dD);refine aa (b7 (aa (a9 ((h1 A fs F1 s1 [c] ok r1 (.one va)).thnV st1 (fun d s2 H2 F2 r2 dE st2' x vx h2=>?_) subs dD))));exact aa (wpAny_letTemporaryGo (af (GP.v r2 dE vx h2)))
end
inductive Frz(Q:VP)(v:V)(H1:HH):Prop
 |mk (v':V) (H2:HH) (s:Sub H2 H1) (r:gZ H1 H2 (.v v v')) (q:Q v' H2)
inductive FrN(Q:VP)(H1:HH):Prop
 |mk (H2:HH) (s:Sub H2 H1) (q:Q .none H2)
noncomputable def rp(Q:VP):SP:=fun fl σ=>match fl with
 |.ret v=>Frz Q v σ.H
 |_=>FrN Q σ.H
inductive AO(Q:VP)(a:ah)(v:V)(H1:HH):Prop
 |mk (e:v=.none) (z:Frz Q (.ref a) H1)
section
variable {G:GC}{k:Nat}{sc:Sc}{σ:St}{X:XP}{Q:VP}
theorem zn{kd:Str->Option NameKind}{x:Str}{bs:List (Str×Value)}:∀{m:Str->Option Value},x∉bs.map (·.1)->bindL kd bs m x=m x:=by
 induction bs with
 |nil=>exact fun zz=>rfl
 |cons p r ih=>
  intro m h;refine(ih fun z=>h (.tail _ z)).trans ?_;show(if kd p.1=some .local then fun y=>if y=p.1 then some p.2 else m y else m) x=m x;split
  ·exact if_neg fun z:x=p.1=>h (z▸.head _)
  ·rfl
theorem zm{kd:Str->Option NameKind}{x:Str}{bs:List (Str×Value)}:∀{m:Str->Option Value},x∉bs.map (·.1)->bindC kd bs m x=m x:=by
 induction bs with
 |nil=>exact fun zz=>rfl
 |cons p r ih=>
  intro m h;refine(ih fun z=>h (.tail _ z)).trans ?_;show(if kd p.1=some .local then m else fun y=>if y=p.1 then some p.2 else m y) x=m x;split
  ·rfl
  ·exact if_neg fun z:x=p.1=>h (z▸.head _)
theorem xv{kd:Str->Option NameKind}{x:Str}{c:Value}{bs:List (Str×Value)}:∀{m:Str->Option Value},(bs.map (·.1)).Nodup->bs.lookup x=some c->kd x=some .local->bindL kd bs m x=some c:=by
 induction bs with
 |nil=>exact fun zz e=>nS e
 |cons p r ih=>
  intro m hn e hk;have hn:=ba.mp hn;have e:(match x==p.1 with|true=>some p.2|false=>r.lookup x)=some c:=e;cases q:x==p.1 with
  |true=>
   rw[q]at e;have z:=eq_of_beq q;refine(zn (bs:=r) (z▸hn.1)).trans ?_;show(if kd p.1=some .local then fun y=>if y=p.1 then some p.2 else m y else m) x=_;rw[if_pos (z▸hk),if_pos z];exact e
  |false=>rw[q]at e;exact ih hn.2 e hk
theorem xu{kd:Str->Option NameKind}{x:Str}{c:Value}{bs:List (Str×Value)}:∀{m:Str->Option Value},(bs.map (·.1)).Nodup->bs.lookup x=some c->kd x≠some .local->bindC kd bs m x=some c:=by
 induction bs with
 |nil=>exact fun zz e=>nS e
 |cons p r ih=>
  intro m hn e hk;have hn:=ba.mp hn;have e:(match x==p.1 with|true=>some p.2|false=>r.lookup x)=some c:=e;cases q:x==p.1 with
  |true=>
   rw[q]at e;have z:=eq_of_beq q;refine(zm (bs:=r) (z▸hn.1)).trans ?_;show(if kd p.1=some .local then m else fun y=>if y=p.1 then some p.2 else m y) x=_;rw[if_neg (z▸hk),if_pos z];exact e
  |false=>rw[q]at e;exact ih hn.2 e hk
theorem xb{h:Heap}{F:ah->Prop}:∀{ns:List Str}{vs:List V}{cs:List Value}{x:Str}{v:V},d7 G h F vs cs->(ns.zip vs).lookup x=some v->∃c,(ns.zip cs).lookup x=some c/\VR G h F v c
 |[],vs,cs,x,v,r,e=>by exact nS e
 |n::ns,[],cs,x,v,r,e=>by exact nS e
 |n::ns,u::vs,cs,x,v,r,e=>by
  refine cq r.cons_inv fun c cs' FW a b=>?_;subst FW;simp only[List.zip_cons_cons,aZ]at e ⊢;cases q:x==n with
  |true=>rw[q]at e;obtain rfl:=aj e;exact⟨c,rfl,a⟩
  |false=>rw[q]at e;exact xb b e
structure CD(K:kB)(fd:iO)(body:List jX)(names:List Str):Prop where
 body:fd.body=.stmts body
 clo:fd.closure=[]
 glob:fd.globals=dW
 blt:fd.builtins=builtinsNs
 code:codeIn K fd.code fd.qualname=true
 co:fd.scope.isCoroutine=false
 gen:fd.scope.isGenerator=false
 kind:fd.scope.kind=.function
 nd:names.Nodup
 kinds:(names.all fun y=>fd.scope.names.lookup y==some .local||fd.scope.names.lookup y==some .cell)=true
theorem qt{α:Type}:∀{l:List (Str×α)}{n:Str}{c:α},l.lookup n=some c->(n,c)∈l:=c7
theorem si{h:Heap}{F:ah->Prop}:∀ds:List Value,d7 G h F (ds.map nZ) ds
 |[]=>.nil
 |d::ds=>.cons (ud d) (si ds)
noncomputable def CT(G:GC)(k:Nat)(f:Value)(args:List V)(H:HH)(Q:VP)(X:XP):Prop :=
 ∀A fs F s cs,Ok k A fs->bB G fs F H s->d7 G s.heap F args cs->gy (bj G.prog G.w) A (.call f ⟨cs,[]⟩) (fun r s'=>match r with
  |.ok (.ret v)=>GP G fs [] H F s.heap (RV G Q) v s'|.ok _=>False|.error e=>cK G fs [] H F s.heap ot X e s') s
theorem aE{f:Value}{vs:List V}{H:HH}(h:CT G k f vs H Q X):VT G k (dm f) vs H Q X:=fun A fs F s cs ok r vr=>mS (h A fs F s cs ok r vr)
theorem B7{f:ah}{oc:Value}{od:Option ah}{sl:Array (Option Value)}{fd:iO}{body:List jX}{names:List Str}{vs:List V}{dcs:List Value}{H:HH}
  (ho:G.K.lookup f=some ⟨oc,od,.func fd,sl⟩) (hok:CD G.K fd body names)
  (hbind:∀s cs,G.K.In s.heap->cs.length=vs.length->BindsTo s fd ⟨cs,[]⟩ (names.zip (cs++dcs)))
  (hlen:names.length=vs.length+dcs.length)
  (h:lK G k ⟨fd.scope,[]⟩ body ⟨names.zip (vs++dcs.map nZ),H⟩ (rp Q) X):CT G (k+1) (.ref f) vs H Q X:=fun A fs F s cs ok r vr=>by
 refine codeAny_call_function ok.room (r.kin _ _ ho) rfl hok.co hok.gen hok.body (codeRec_of r.kin hok.code) (hbind s cs r.kin vr.length _ _ _ _ ?_);refine rA hok.clo ?_;have hl:(cs++dcs).length=names.length:=by simp[vr.length,hlen]
 have hmap:(names.zip (cs++dcs)).map (·.1)=names:=by rw[List.map_fst_zip];exact jK (Eq.symm hl)
 have hkinds:∀x∈names,fd.scope.names.lookup x=some .local∨fd.scope.names.lookup x=some .cell:=fun x hx=>by
  have:=bJ.mp hok.kinds x hx;simpa using this
 have hcl:∀n x,fd.scope.names.lookup x=some .cell->((js n fd.scope.names []).lookup x).isSome=true:=fun n x e=>cellsFrom_some _ _ _ (.inl e);refine wpAny_newFunctionEnv_cells hok.kind (fun x hx=>?_) fun env he s1 x=>?_
 ·have hm:x.1∈names:=by refine rB hmap ?_;exact List.mem_map_of_mem hx
  rcases hkinds _ hm with q|q
  ·exact .inl q
  ·exact .inr ⟨q,hcl _ _ q⟩
 have hlim:s1.heap.NoLimit:=by
  refine jx x.done fun h' tk e kk=>?_;refine rA e ?_;exact(G.top.nolimit.keeps r.base).keeps kk
 refine⟨hlim,?_⟩;refine codeAny_func ?_;refine jx x.done fun h1 tk e1 kp=>?_;subst e1;have hsc:env.scope=fd.scope:=by refine rA he ?_;rfl
 have hlo:env.locals=s.heap.objs.size:=by refine rA he ?_;rfl
 have hfrm:env.frame=some env.locals:=by refine rA he ?_;rfl
 have hce:env.cells=js (s.heap.objs.size+1) fd.scope.names []:=by refine rA he ?_;rfl
 have hgl:env.globals=fd.globals:=by refine rA he ?_;rfl
 have hbu:env.builtins=fd.builtins:=by refine rA he ?_;rfl
 have hco:env.code=fd.code:=by refine rA he ?_;rfl
 have hk0:∀y,env.kindOf y=fd.scope.names.lookup y:=fun y=>by refine rB hsc ?_;rfl
 replace hkinds:∀x∈names,env.kindOf x=some .local∨env.kindOf x=some .cell:=fun x hx=>by rw[hk0];exact hkinds x hx
 replace hcl:∀x,env.kindOf x=some .cell->(env.cells.lookup x).isSome=true:=fun x e=>by refine rA hce ?_;exact hcl _ x (hk0 x▸e)
 clear he hce
 let fm:Fm:=⟨env,env.locals::fd.scope.names.filterMap (fun p=>env.cells.lookup p.1),[]⟩
 have fresh:∀a,s.heap.objs.size<=a->s.heap.get? a=none:=fun a ha=>by
  cases q:s.heap.get? a with
  |none=>rfl
  |some o=>exact absurd (Heap.lt_size q) (Nat.not_lt.mpr ha)
 refine ea (r.grow (h':=h1) tk kp) fun r1 st1=>?_;have hLn:s.heap.get? env.locals=none:=hlo▸bL _;have hf:=r.fresh hLn;refine eN (id x.toInCall.ns) fun oL esL epL hL hLd hLk hLf=>?_;have frok:xf G.base F H h1 env:=by
  refine⟨?_,env.locals,oL,hfrm,?_,hL,f6 hLd,hf.1,hf.2⟩
  ·refine rA hsc (rA hok.kind ?_);decide
  ·cases q:G.base.get? env.locals with
   |none=>rfl
   |some o=>rw[r.base _ _ q]at hLn;exact nS hLn.symm
 have rH:bB G (env::fs) F H {s with heap:=h1,toks:=tk}:=⟨r1.base,r1.bF,r1.live,r1.sep,r1.own,fun e he=>by
  rcases aA.mp he with rfl|he
  ·exact frok
  ·exact r1.frs e he,r1.gens,r1.os⟩
 have cellOk:∀x a,env.cells.lookup x=some a->s.heap.objs.size<a:=fun y a e=>hlo▸x.above y a (c7 e);have rF:o3 G fm F H (names.zip (vs++dcs.map nZ)) {s with heap:=h1,toks:=tk}:=by
  refine⟨(congrArg _ hsc).trans hok.kind,hgl.trans hok.glob,hbu.trans hok.blt,(by refine vn (codeRec_of G.kin hok.code) fun c o FW=>?_;refine cq FW fun vs zz e1 e2 FY=>?_;obtain⟨e3,_⟩:=FY;exact .inr ⟨c,o,vs,hco.trans e1,e2,e3⟩),⟨_,x.toInCall.ns⟩,.head _,fun y a e=>?_,fun y e zz=>?_,fun y z a e1 e2=>?_,fun a ha=>?_,fun y v e=>?_⟩
  ·have hlt:=cellOk y a e;exact⟨⟨_,x.cell y a e⟩,r.fresh (fresh a (bn hlt))⟩
  ·refine ex (b5.mp (hcl y e)) fun a ha=>?_;exact⟨a,ha,.tail _ (jU.mpr ⟨(y,.cell),qt ((hk0 y).symm.trans e),ha⟩)⟩
  ·exact name_of_addr x.apart (c7 e1) (c7 e2)
  ·rcases aA.mp ha with rfl|ha
   ·exact⟨hf.1,hf.2,oL,hL,f6 hLd⟩
   ·refine bx (jU.mp ha) fun FZ hm e=>?_;obtain⟨y,kd⟩:=FZ;have hlt:=cellOk y a e;refine ea (r.fresh (fresh a (bn hlt))) fun q1 q2=>?_;refine bx (x.cell y a e) fun o e1 d=>?_;exact⟨q1,q2,o,e1,pB d⟩
  ·have vr1:d7 G h1 F (vs++dcs.map nZ) (cs++dcs):=by
    exact(st1.vrs vr).append (si dcs)
   refine bx (xb vr1 e) fun c e2 vc=>?_;refine⟨c,?_,vc⟩;have hnd:((names.zip (cs++dcs)).map (·.1)).Nodup:=by refine rA hmap ?_;exact hok.nd
   have hm:y∈names:=by refine rB hmap ?_;exact aJ.mpr ⟨(y,c),c7 e2,rfl⟩
   rcases hkinds y hm with q|q
   ·exact .inl q _ x.toInCall.ns (xv hnd e2 q)
   ·refine ex (b5.mp (hcl y q)) fun a ha=>?_;refine .inr (.inl q) a ha ?_;have:=x.cell y a ha;rw[xu hnd e2 (by refine rA q ?_;decide)]at this;exact this
 have own0:∀b∈fm.own,s.heap.get? b=none:=fun b hb=>by
  rcases aA.mp hb with rfl|hb
  ·exact hLn
  ·refine bx (jU.mp hb) fun F7 hm e=>?_;obtain⟨y,kd⟩:=F7;exact fresh _ (bn (cellOk y b e))
 have hrun:=h fm (A.deeper env) fs F {s with heap:=h1,toks:=tk} (congrArg (Sc.mk · []) hsc) (ok.deeper env) ⟨rH,rF⟩;have pop:∀{H':HH}{F':ah->Prop}{s':an},bB G (env::fs) F' H' s'->bB G fs F' H' s':=fun q=>⟨q.base,q.bF,q.live,q.sep,q.own,fun e he=>q.frs e (.tail _ he),q.gens,q.os⟩;have popst:∀{H':HH}{F':ah->Prop}{h':Heap},bQ fm.own H F s.heap H' F' h'->bQ [] H F s.heap H' F' h':=fun q=>
  ⟨q.fz,q.keepF,fun b o e n zz=>q.keepR b o e n (fun hb=>by rw[own0 b hb]at e;exact nS e),q.live,q.nf,q.fnew,q.hnew⟩
 refine aK hrun (fun fl s2 ⟨H2,F2,r2,dE,m2,fa,rf2,hfl,q⟩=>?_) fun e s2 xp=>?_
 ·have st02:bQ [] H F s.heap H2 F2 s2.heap:=popst ((st1.mono fP).trans dE);cases hfl with
  |next=>
   obtain⟨H',hs,q⟩:=q;refine ea ((pop r2).drop hs) fun r3 gW=>?_;exact⟨H',_,r3,st02.trans gW,.none,.none,q⟩
  |brk=>
   obtain⟨H',hs,q⟩:=q;refine ea ((pop r2).drop hs) fun r3 gW=>?_;exact⟨H',_,r3,st02.trans gW,.none,.none,q⟩
  |ret vv=>
   obtain⟨v',H',hs,hr,q⟩:=q;refine ea ((pop r2).drop hs) fun r3 gW=>?_;exact⟨H',_,r3,st02.trans gW,v',(kC (pop r2) hr).1 _ vv,q⟩
 ·refine aK (zM (E:=fun e' s''=>cK G fs [] H F s.heap ot X e' s'') (L:=env.locals) hfrm (ok.deeper env).frames (xp.from (st1.mono fP) subs dD)) (fun zz s3 x3=>x3.pop own0) fun zz zz x=>x
end
section
variable {G:GC}{k:Nat}{sc:Sc}{σ:St}{X:XP}{Q:VP}
theorem Ok.make{A:cA}{fs:List Env}(ok:Ok (k+1) A fs)(C:ah)(vals:List Value):Ok k (A.under (.builtin "type.__call__" ⟨.ref C::vals,[]⟩)) fs:=by
 refine⟨?_,?_,?_,?_,fun h3=>ok.handled (pK h3)⟩
 ·have:=ok.depth;show A.depth+1+k<=_;exact L2 (Ra (Pn N0 M1) (Kn 1000) (Gn (Pn M0 N1) (Kn 1000))) rfl this
 ·have:=ok.units;show A.units+1+_+_<=_;exact L2 (Ra (Pn (Pn N0 (Tn 8 M1)) (Kn 100)) (Kn 9900) (Gn (Pn (Pn M0 (Tn 8 N1)) (Kn 100)) (Kn 9900))) rfl this
 ·show pushGuards (Code.builtin "type.__call__" ⟨.ref C::vals,[]⟩).guards A.guards=_;rw[show(Code.builtin "type.__call__" ⟨.ref C::vals,[]⟩).guards=[] from by unfold Code.guards;rw[show(Code.builtin "type.__call__" ⟨.ref C::vals,[]⟩).isGuard=false from by show guardIds.contains "type.__call__"=false;decide +kernel];rfl];exact ok.guards
 ·exact ok.frames
theorem CT.new{C fI:ah}{vs:List V}{H:HH}(hm:makesIn G.K C=true)(hi:fj G.K (.ref C) "__init__"=some (some (.ref fI)))(hf:typeIn G.K (.ref fI)=some (.type "function"))
  (h:∀a d,H a=none->H d=none->a≠d->CT G k (.ref fI) (.ref a::vs) (upd (upd H d (.adict [])) a (.inst C (.ref d))) (AO Q a) X) :
  CT G (k+1) (.ref C) vs H Q X:=fun A fs F s cs ok r vr=>by
 obtain⟨hh,g,dr,t,os⟩:=s;refine make_core (makes_of r.kin hm) (fX r.kin hi) (fun self=>bind_fn r.kin self hf) (.inl rfl) ?_;have n1:hh.get? hh.objs.size=none:=bL _;obtain⟨r1,st1⟩:=r.mine (h':=hh.push mA) t (.adict []) n1 (fun b o e=>Heap.get?_push_of_some _ e)
  (.adict (m:=fun zz=>none) (Heap.Ns1.of_empty (Heap.Ns.new hh (.type "dict"))) (fun zz zz=>rfl) .fnil)
 have n2:(hh.push mA).get? (hh.objs.size+1)=none:=by have:=bL (hh.push mA);rwa [Heap.size_push]at this
 have g2:((hh.push mA).push (po C hh.objs.size)).get? (hh.objs.size+1)=some (po C hh.objs.size):=by
  have:=Heap.get?_push_size (hh.push mA) (o:=po C hh.objs.size) rfl;rwa [Heap.size_push]at this
 refine ea (r1.mine (h':=(hh.push mA).push (po C hh.objs.size)) t (.inst C (.ref hh.objs.size)) n2 (fun b o e=>Heap.get?_push_of_some _ e) (.inst g2 (.ref _))) fun r2 dE=>?_;have hd:=(r.fresh n1).2;have ha:H (hh.objs.size+1)=none:=(d4 (r1.fresh n2).2).2;have st:=st1.trans dE;have hrun:=h (hh.objs.size+1) hh.objs.size ha hd (Nat.succ_ne_self _) (A.under (.builtin "type.__call__" ⟨.ref C::cs,[]⟩)) fs F _ (.ref (hh.objs.size+1)::cs) (ok.make C cs) r2 (.cons (.ref _) (st.vrs vr));refine eW hrun fun rr s' z=>?_;rcases rr with e|(_|_|_|v)
 ·exact z.from st subs dD
 ·exact z
 ·exact z
 ·exact z
 ·obtain⟨H2,F2,r3,gW,v2,vv,rfl,v',H3,hs,hr,q⟩:=z;obtain rfl:=vv.none_inv;refine ea (r3.drop hs) fun r4 st4=>?_;exact⟨rfl,H3,_,r4,(st.trans gW).trans st4,v',(kC r3 hr).1 _ (.ref _),q⟩
noncomputable def UT(G:GC)(k:Nat)(t:List Value->Sem Unit)(args:List V)(H:HH)(Q:HH->Prop)(X:XP):Prop :=
 ∀A fs F s cs,Ok k A fs->bB G fs F H s->d7 G s.heap F args cs->Wp G fs A [] H F s (t cs) (fun zz H' zz zz=>Q H') ot X
noncomputable def qU(name:Str):List Value->Sem Unit|[v,ov]=>setAttr ov name v|_=>pure ()
noncomputable def sx:List Value->Sem Unit|[v,ov,iv]=>setItem ov iv v|_=>pure ()
theorem TA.attr{o attr pos v}{QQ:St->Prop}(h:TE G k sc o σ (fun ov H1=>UT G k (qU attr) [v,ov] H1 (fun H2=>QQ ⟨σ.m,H2⟩) X) X):TA G k sc (.Attribute o attr pos) v σ QQ X:=fun fm A fs F s c hsc ok rel vr=>by
 unfold Wp;rw[arm_assign_Attribute];refine aa (a9 ((h fm A fs F s hsc ok rel).thnV .refl (fun oc s1 H1 F1 r1 st1 st1' ov va h1=>?_) fP dD));refine aa (b7 (aa (a9 ((h1 A fs F1 s1 [c,oc] ok r1 (.two (st1'.vr rel.hp.live vr) va)).thn st1 (fun zz s2 H2 F2 r2 dE st2' h2=>?_) fP dD))));exact nG (GP.here r2 dE ⟨σ.m,(rel.fr.keeps st1').keeps (s':=s2) st2',h2⟩)
theorem TA.sub{o i pos v}{QQ:St->Prop}(h:TE G k sc o σ (fun ov H1=>TE G k sc i ⟨σ.m,H1⟩ (fun iv H2=>UT G k sx [v,ov,iv] H2 (fun H3=>QQ ⟨σ.m,H3⟩) X) X) X):TA G k sc (.Subscript o i pos) v σ QQ X:=fun fm A fs F s c hsc ok rel vr=>by
 unfold Wp;rw[arm_assign_Subscript];refine aa (a9 ((h fm A fs F s hsc ok rel).thnV .refl (fun oc s1 H1 F1 r1 st1 st1' ov va h1=>?_) fP dD));refine aa (a9 ((h1 fm A fs F1 s1 hsc ok (rel.keeps st1' r1)).thnV st1 (fun ic s2 H2 F2 r2 dE st2' iv vi h2=>?_) fP dD));refine aa (b7 (aa (a9 ((h2 A fs F2 s2 [c,oc,ic] ok r2 (.cons (st2'.vr r1.live (st1'.vr rel.hp.live vr)) (d7.two (st2'.vr r1.live va) vi))).thn dE (fun zz s3 H3 F3 r3 gW st3' h3=>?_) fP dD))));exact nG (GP.here r3 gW ⟨σ.m,((rel.fr.keeps st1').keeps (s':=s2) st2').keeps (s':=s3) st3',h3⟩)
theorem pU{h:Heap}{F:ah->Prop}{name:Str}{x:V}{c:Value}(vc:VR G h F x c):∀{xs:List (Str×V)}{m:Str->Option Value},(xs.map (·.1)).Nodup->Rl G h F (.f xs m)->Rl G h F (.f (put name x xs) fun y=>if y=name then some c else m y)
 |[],m,_,_=>.fcons (by simp) vc .fnil
 |(y,u)::r,m,hn,q=>by
  simp only[aB,ba]at hn;refine cX q.fcons_inv fun zz e1 e2 e3=>?_
  ·show Rl G h F (.f (if y=name then(y,x)::r else(y,u)::put name x r) fun z=>if z=name then some c else m z)
   by_cases hy:y=name
   ·subst hy;refine rA (if_pos rfl) ?_;refine .fcons (by simp) vc ?_;have:∀{xs:List (Str×V)} ,y∉xs.map (·.1)->Rl G h F (.f xs m)->Rl G h F (.f xs fun z=>if z=y then some c else m z):=by
     intro xs
     induction xs with
     |nil=>intro _ _;exact .fnil
     |cons p xs ih=>
      intro h1 h2;obtain⟨z,w⟩:=p;simp only[aB,aA,not_or]at h1;refine cX h2.fcons_inv fun zz a b d=>?_;exact .fcons (by refine rA (if_neg (Ne.symm h1.1)) ?_;exact a) b (ih h1.2 d)
    exact this hn.1 e3
   ·refine rA (if_neg hy) ?_;exact .fcons (by refine rA (if_neg hy) ?_;exact e1) e2 (pU vc hn.2 e3)
theorem nt{name n:Str}{x:V}{xs:List (Str×V)}(h:(put name x xs).lookup n=none):n≠name/\xs.lookup n=none:=by
 rw[jh]at h
 by_cases q:n=name
 ·rw[if_pos q]at h;exact nS h.symm
 ·rw[if_neg q]at h;exact⟨q,h⟩
theorem sB{xs:List (Str×V)}{m:Str->Option Value}(h:∀n,xs.lookup n=none->m n=none):Within m (xs.map (·.1)):=fun y hy=>by
 apply aG;intro hm;refine hy (h y ?_);cases q:xs.lookup y with
 |none=>rfl
 |some v=>exact absurd (aJ.mpr ⟨(y,v),c7 q,rfl⟩) hm
theorem pY{name:Str}{a d c:ah}{x:V}{xs:List (Str×V)}{H:HH}{QH:HH->Prop}(hp:plainOver G.K c=true)(ht:takerIn G.K c name=some none)(hs:fj G.K (.ref c) "__setattr__"=some (some (.builtin "object.__setattr__")))(hh:mB G.K c=true)
  (ha:H a=some (.inst c (.ref d))) (hd:H d=some (.adict xs)) (hn:(xs.map (·.1)).Nodup) (hl:xs.length<=100) (h:QH (upd H d (.adict (put name x xs)))):UT G k (qU name) [x,.ref a] H QH X:=fun A fs F s cs ok r vr=>by
 apply vr.elim2;intro cv oc vx vo;obtain rfl:=vo.ref_inv;refine bx ((r.own a _ ha).inst_inv) fun dx hx vd=>?_;obtain rfl:=gm (vd.ref_inv);refine cX ((r.own dx _ hd).adict_inv) fun m hns hm rf=>?_;refine bx (lP hns) fun od hod hlk=>?_;have I:InstAt s.heap a (po c dx) c (some od):=⟨hx,rfl,rfl,hod⟩;refine set_plain r.kin I hs ?_;refine osa_open (s:={s with toks:=s.toks+1}) r.kin I hp ht fun b=>?_;refine bx (oY hh) fun cd hc hd'=>?_;refine aa (af (aa (aa (k9 hx (aa (looks_clsIn (h:=s.heap) r.kin hc _ _ _ _ (fun zz zz e=>e) ?_))))));refine rA hd' ?_;refine af (a:=some dx) (aa (af (aa ?_)));refine wpAny_nsSet1 hns fun h' hn' hsb=>?_;refine hY (hn'.count (Within.cons name cv (sB hm))) fun oD esD epD hoD hdD hcD=>?_;refine aa (tF hoD (by refine rA hdD ?_;exact tD (by simp only[aF,ae]at hcD;refine rA cr ?_;exact L2 (Ra N0 (Kn 100) (Ra N1 M0 (Gn N1 (Pn (Kn 16777216) (Kn 1))))) rfl hl hcD)) (af ?_));obtain⟨r1,st1⟩:=r.turn (h':=h') (a:=dx) (x:=.adict xs) (y:=.adict (put name x xs)) (s.toks+1+1) hd (fun b o n e=>hsb.extBut b o n e) (fun o zz zz=>⟨oD,hoD,f6 hdD⟩) fun k1 k2=>
  .adict hn' (fun n e=>by refine rA (if_neg (nt e).1) ?_;exact hm n (nt e).2) (pU (k1 _ _ vx) hn (Rl.mono (fun zz x=>x) (fun b o f e=>hsb.extBut b o (fun q=>r.sep _ _ hd (q▸f)) e) rf fun zz zz e=>by cases e))
 exact GP.here r1 st1 h
end
section
variable {G:GC}{k:Nat}{X:XP}{Q:VP}{H:HH}{fs:List Env}{F:ah->Prop}{s:an}
theorem ek{t:List Value->Sem Value}{a b v:V}(h:Q v H)(ht:∀{A fs F s c d},Ok k A fs->bB G fs F H s->VR G s.heap F a c->VR G s.heap F b d->∀E QQ,(∀e tk,VR G s.heap F v e->QQ e {s with toks:=tk})->aM (bj G.prog G.w) A (t [c,d]) QQ E s):VT G k t [a,b] H Q X:=fun A fs F s cs ok r vs=>by
 apply vs.elim2;intro c d v1 v2;exact ht ok r v1 v2 _ _ fun e tk ve=>GP.v (r.toks tk) .refl ve h
theorem wh{t:List Value->Sem Value}{a v:V}(h:Q v H)(ht:∀{A fs F s c},Ok k A fs->bB G fs F H s->VR G s.heap F a c->∀E QQ,(∀e tk,VR G s.heap F v e->QQ e {s with toks:=tk})->aM (bj G.prog G.w) A (t [c]) QQ E s):VT G k t [a] H Q X:=fun A fs F s cs ok r vs=>by
 apply vs.elim1;intro c v1;exact ht ok r v1 _ _ fun e tk ve=>GP.v (r.toks tk) .refl ve h
noncomputable def iop:oM->Int->Int->Option Int
 |.Add,a,b=>some (a+b)
 |.Sub,a,b=>some (a-b)
 |.Mult,a,b=>some (a*b)
 |.FloorDiv,a,b=>some (a.fdiv b)
 |.Mod,a,b=>some (a.fmod b)
 |.Pow,a,b=>some (a^b.toNat)
 |.LShift,a,b=>some (a*2^b.toNat)
 |.RShift,a,b=>some (a.fdiv (2^b.toNat))
 |.BitAnd,a,b=>some (d6 a b)
 |_,_,_=>none
noncomputable def iok:oM->Int->Int->Prop
 |.Add,_,_=>True
 |.Sub,_,_=>True
 |.Mult,a,b=>IntMulOk a b
 |.FloorDiv,_,b=>b≠0/\b.natAbs<1073741824
 |.Mod,_,b=>b≠0
 |.Pow,a,b=>0<=b/\b<=1000000/\a.natAbs<2^64
 |.LShift,a,b=>0<=b/\b<=1000000/\a.natAbs<2^64
 |.RShift,_,b=>0<=b
 |.BitAnd,_,_=>True
 |_,_,_=>False
theorem mX{op:oM}{a b c:Int}(e:iop op a b=some c)(ho:iok op a b)(h:Q (.int c) H):VT G k (yi op) [.int a,.int b] H Q X:=by
 refine ek h fun{A fs F s zz zz} ok r v1 v2 E QQ hq=>?_;apply v1.intE;intro t;apply v2.intE;intro u;have q:∀tk tk',QQ (.int c tk) {s with toks:=tk'}:=fun tk tk'=>hq _ tk' (.int c tk);cases op <;> first|exact ho.elim|skip
 ·obtain rfl:=aj e;exact PyProof.Rows.add_int (q _ _)
 ·obtain rfl:=aj e;exact PyProof.Rows.sub_int (q _ _)
 ·obtain rfl:=aj e;exact PyProof.Rows.mul_int (q _ _) ho
 ·obtain rfl:=aj e;exact PyProof.Rows.mod_int ho (q _ _)
 ·obtain rfl:=aj e;exact PyProof.Rows.pow_int_small ho.1 ho.2.1 ho.2.2 (q _ _)
 ·obtain rfl:=aj e;exact PyProof.Rows.lshift_int_small ho.1 ho.2.1 ho.2.2 (q _ _)
 ·obtain rfl:=aj e;exact PyProof.Rows.rshift_int ho (q _ _)
 ·obtain rfl:=aj e;exact PyProof.Rows.and_int (q _ _)
 ·obtain rfl:=aj e;exact PyProof.Rows.floordiv_int ho.1 (q _ _) (.inl (PyProof.noPylong_small ho.2))
noncomputable def icmp:CmpOp->Int->Int->Option Bool
 |.Eq,a,b=>some (decide (a=b))
 |.NotEq,a,b=>some (decide (a≠b))
 |.Lt,a,b=>some (decide (a<b))
 |.LtE,a,b=>some (decide (a<=b))
 |.Gt,a,b=>some (decide (b<a))
 |.GtE,a,b=>some (decide (b<=a))
 |_,_,_=>none
theorem ou{op:CmpOp}{a b:Int}{c:Bool}(e:icmp op a b=some c)(h:Q (.bool c) H):VT G k (gu op) [.int a,.int b] H Q X:=by
 refine ek h fun{A fs F s zz zz} ok r v1 v2 E QQ hq=>?_;apply v1.intE;intro t;apply v2.intE;intro u;have q:QQ (.bool c) s:=hq _ s.toks (.bool c);cases op <;> cases e
 ·exact PyProof.Rows.eq_int (by refine rA (show(a==b)=decide (a=b) from rfl) ?_;exact q)
 ·exact PyProof.Rows.ne_int (by refine rA (show(a !=b)=decide (a≠b) from by simp[bne,decide_not];rfl) ?_;exact q)
 ·exact PyProof.Rows.lt_int q
 ·exact PyProof.Rows.le_int q
 ·exact PyProof.Rows.gt_int q
 ·exact PyProof.Rows.ge_int q
theorem CQ{a:Int}(h:Q (.int (-a)) H):VT G k (FQ .USub) [.int a] H Q X:=by
 refine wh h fun{A fs F s zz} ok r v1 E QQ hq=>?_;apply v1.intE;intro t;exact PyProof.Rows.neg_int (hq _ _ (.int _ _))
theorem AZ{a:Bool}(h:Q (.bool (!a)) H):VT G k (FQ .Not) [.bool a] H Q X:=by
 refine wh h fun{A fs F s zz} ok r v1 E QQ hq=>?_;obtain rfl:=v1.bool_inv;exact not_value (wpAny_truthy_bool (hq _ _ (.bool _)))
theorem yZ{a b:Str}(h:Q (.bool (decide (a=b))) H):VT G k (gu .Eq) [.str a,.str b] H Q X:=by
 refine ek h fun{A fs F s zz zz} ok r v1 v2 E QQ hq=>?_;apply v1.strE;intro t;apply v2.strE;intro u;exact PyProof.Rows.eq_str (by refine rA (show(a==b)=decide (a=b) from by by_cases h:a=b <;> simp[h]) ?_;exact hq _ _ (.bool _))
noncomputable def V.isNone:V->Bool
 |.none=>true
 |_=>false
theorem VR.none_iff{h:Heap}{v:V}{c:Value}(r:VR G h F v c)(hg:v.noGlob=true):(c==.none)=v.isNone:=by
 have q:=r.inv;cases v with
 |glob v=>exact nB hg
 |none=>refine rA (show c=.none from q) ?_;rfl
 |bool b=>refine rA (show c=.bool b from q) ?_;rfl
 |ref a=>refine rA (show c=.ref a from q) ?_;rfl
 |_=>obtain⟨_,rfl⟩:∃t,c=_:=(by first|exact q|exact let ⟨a,e,_⟩:=q;⟨a,e⟩);rfl
theorem kG{a:V}(hg:a.noGlob=true)(h:Q (.bool (!a.isNone)) H):VT G k (gu .IsNot) [a,.none] H Q X:=by
 refine ek h fun{A fs F s zz zz} ok r v1 v2 E QQ hq=>?_;obtain rfl:=v2.none_inv;exact isNot_none (by refine rA (v1.none_iff hg) ?_;exact hq _ _ (.bool _))
theorem BT.bool{b:Bool}{QB:Bool->HH->Prop}(h:QB b H):BT G k jk [.bool b] H QB X:=fun A fs F s cs ok r vs=>by
 apply vs.elim1;intro c v1;obtain rfl:=v1.bool_inv;exact wpAny_truthy_bool (GP.b r .refl h)
theorem BT.list{v:V}{xs:List V}{QB:Bool->HH->Prop}(e:con H v=.lst xs)(hl:xs.length<1000000)(h:QB (!xs.isEmpty) H):BT G k jk [v] H QB X:=fun A fs F s cs ok r vs=>by
 apply vs.elim1;intro c v1;refine bx (v1.read r e rfl) fun a FW o=>?_;subst FW;refine bx o.lst_inv fun ds hL vds=>?_;have hlen:=vds.length;refine wpAny_truthy_list hL.isList (by simp;exact L2 (Ra M0 (Kn 1000000) (Rb N1 N0 (Gz (Pz C1 (Kz 1)) (Kz 9223372036854775808)))) rfl hl hlen) ?_;refine GP.b (r.toks _) .refl ?_;have:ds.toArray.isEmpty=xs.isEmpty:=by cases vds <;> rfl
 refine rA this ?_;exact h
inductive J3 where
 |v (x:V) (d:PyData)
 |vs (xs:List V) (ds:List PyData)
inductive jv(H:HH):J3->Prop
 |none:jv H (.v .none .none)
 |bool (b:Bool):jv H (.v (.bool b) (.bool b))
 |int (i:Int):jv H (.v (.int i) (.int i))
 |str (x:Str):jv H (.v (.str x) (.str x))
 |lst {xs ds}:jv H (.vs xs ds)->jv H (.v (.lst xs) (.list ds))
 |tup {xs ds}:jv H (.vs xs ds)->jv H (.v (.tup xs) (.tuple ds))
 |ref {a x d}:H a=some x->jv H (.v x d)->jv H (.v (.ref a) d)
 |nil:jv H (.vs [] [])
 |cons {x xs d ds}:jv H (.v x d)->jv H (.vs xs ds)->jv H (.vs (x::xs) (d::ds))
noncomputable def PyRP(G:GC)(F:ah->Prop)(h:Heap):J3->Prop
 |.v x d=>(∀c,VR G h F x c->∃as,Reads h c d as)/\∀a,OR G h F x a->∃as,Reads h (.ref a) d as
 |.vs xs ds=>∀cs,d7 G h F xs cs->∃as,ReadsAll h cs ds as
theorem ft(r:bB G fs F H s){j:J3}(p:jv H j):PyRP G F s.heap j:=by
 induction p with
 |none=>exact⟨fun c q=>by obtain rfl:=q.none_inv;exact⟨_,.none⟩,fun a q=>by cases q⟩
 |bool b=>exact⟨fun c q=>by obtain rfl:=q.bool_inv;exact⟨_,.bool b⟩,fun a q=>by cases q⟩
 |int i=>exact⟨fun c q=>by refine ex q.int_inv fun t FW=>?_;subst FW;exact⟨_,.int i t⟩,fun a q=>by cases q⟩
 |str x=>exact⟨fun c q=>by refine ex q.str_inv fun t FY=>?_;subst FY;exact⟨_,.str x t⟩,fun a q=>by cases q⟩
 |@lst xs ds _ ih=>
  have o:∀a,OR G s.heap F (.lst xs) a->∃as,Reads s.heap (.ref a) (.list ds) as:=fun a q=>by
   refine bx q.lst_inv fun cs FZ vs=>?_;refine ex FZ fun n hl=>?_;refine ex (ih cs vs) fun as ra=>?_;exact⟨_,.list hl rfl rfl ra⟩
  exact⟨fun c q=>by obtain⟨a,rfl,_,q⟩:=q.obj_inv rfl;exact o a q,o⟩
 |@tup xs ds _ ih=>
  have o:∀a,OR G s.heap F (.tup xs) a->∃as,Reads s.heap (.ref a) (.tuple ds) as:=fun a q=>by
   refine bx q.tup_inv fun cs F7 vs=>?_;refine cX F7 fun ob ho hc F8=>?_;obtain⟨n,hd⟩:=F8;refine ex (ih cs vs) fun as ra=>?_;exact⟨_,.tuple ho hc hd ra⟩
  exact⟨fun c q=>by obtain⟨a,rfl,_,q⟩:=q.obj_inv rfl;exact o a q,o⟩
 |@ref a x d ha _ ih=>exact⟨fun c q=>by obtain rfl:=q.ref_inv;exact ih.2 a (r.own a x ha),fun b q=>by cases q⟩
 |nil=>intro cs q;refine rA q.nil_inv ?_;exact⟨_,.nil⟩
 |cons _ _ i1 i2=>
  intro cs q;refine cq q.cons_inv fun c cs' F9 v1 v2=>?_;subst F9;refine ex (i1.1 c v1) fun a1 r1=>?_;refine ex (i2 cs' v2) fun a2 r2=>?_;exact⟨_,.cons r1 r2⟩
theorem jv.ints(ns:List Int):jv H (.vs (ns.map V.int) (ns.map PyData.int)):=by
 induction ns with
 |nil=>exact .nil
 |cons n ns ih=>exact .cons (.int n) ih
theorem jv.bools(ns:List Bool):jv H (.vs (ns.map V.bool) (ns.map mh)):=by
 induction ns with
 |nil=>exact .nil
 |cons n ns ih=>exact .cons (.bool n) ih
theorem jv.of_con{v x:V}{d:PyData}(e:con H v=x)(p:jv H (.v x d))(ho:x.isObj=true):jv H (.v v d):=by
 cases v with
 |ref a=>
  have e:(H a).getD (.ref a)=x:=e;cases q:H a with
  |none=>rw[q]at e;cases e;exact nB ho
  |some y=>rw[q]at e;cases e;exact .ref q p
 |_=>cases e;exact p
open PySem.SeqAt in
theorem pA{a b:V}{da db:PyData}(pa:jv H (.v a da))(pb:jv H (.v b db))(ha:shaped da=true)(hb:shaped db=true)(h:Q (.bool (cj da db)) H):VT G k (gu .Eq) [a,b] H Q X:=by
 refine ek h fun{A fs F s zz zz} ok r v1 v2 E QQ hq=>?_;refine ex ((ft r pa).1 _ v1) fun as ra=>?_;refine ex ((ft r pb).1 _ v2) fun bs rb=>?_;exact compareEq_shaped ra rb ha hb ok.cline (hq _ _ (.bool _))
open PySem.SeqAt in
theorem wf{a b:V}{da db:PyData}(pa:jv H (.v a da))(pb:jv H (.v b db))(ha:shaped da=true)(hb:shaped db=true)(h:Q (.bool (!cj da db)) H):VT G k (gu .NotEq) [a,b] H Q X:=by
 refine ek h fun{A fs F s zz zz} ok r v1 v2 E QQ hq=>?_;refine ex ((ft r pa).1 _ v1) fun as ra=>?_;refine ex ((ft r pb).1 _ v2) fun bs rb=>?_;exact compareNe_shaped ra rb ha hb ok.cline (hq _ _ (.bool _))
set_option tactic.hygienic true in
open PySem.SeqAt in
theorem CO{x l:V}{d:PyData}{ds:List PyData}(px:jv H (.v x d))(pl:jv H (.v l (.list ds)))(hd:d.canLay0=true)(hs:bf ds=true)(hz:d.depth<=60)(h:Q (.bool (ds.any fun y=>cj y d)) H):VT G k (gu .In) [x,l] H Q X:=by
 refine ek h fun{A fs F s zz zz} ok r v1 v2 E QQ hq=>?_;refine ex ((ft r px).1 _ v1) fun as ra=>?_;refine ex ((ft r pl).1 _ v2) fun bs rb=>?_;refine in_list_reads rb ra hs hd ?_ (hq _ _ (.bool _));have:=ok.cline;have:=bP (cg ds) d.depth
 (rename_i FW;exact L4 (Ra N0 (Kn 60) (Ra (Pn (Pn N1 (Kn 64)) (Kn 1)) N2 (Ra N3 N0 (Gn (Pn (Pn M1 N3) (Kn 1)) N2)))) rfl hz FW this)
set_option tactic.hygienic true in
open PySem.SeqAt in
theorem r9{x l:V}{d:PyData}{ds:List PyData}(px:jv H (.v x d))(pl:jv H (.v l (.list ds)))(hd:d.canLay0=true)(hs:bf ds=true)(hz:d.depth<=60)(h:Q (.bool (!ds.any fun y=>cj y d)) H):VT G k (gu .NotIn) [x,l] H Q X:=by
 refine ek h fun{A fs F s zz zz} ok r v1 v2 E QQ hq=>?_;refine ex ((ft r px).1 _ v1) fun as ra=>?_;refine ex ((ft r pl).1 _ v2) fun bs rb=>?_;refine notIn_list_reads rb ra hs hd ?_ (hq _ _ (.bool _));have:=ok.cline;have:=bP (cg ds) d.depth
 (rename_i FW;exact L4 (Ra N0 (Kn 60) (Ra (Pn (Pn N1 (Kn 64)) (Kn 1)) N2 (Ra N3 N0 (Gn (Pn (Pn M1 N3) (Kn 1)) N2)))) rfl hz FW this)
set_option tactic.hygienic true in
open PySem.SeqAt in
theorem u5{x l:V}{d:PyData}{ds:List PyData}(px:jv H (.v x d))(pl:jv H (.v l (.tuple ds)))(hd:d.canLay0=true)(hs:bf ds=true)(hz:d.depth<=60)(h:Q (.bool (ds.any fun y=>cj y d)) H):VT G k (gu .In) [x,l] H Q X:=by
 refine ek h fun{A fs F s zz zz} ok r v1 v2 E QQ hq=>?_;refine ex ((ft r px).1 _ v1) fun as ra=>?_;refine ex ((ft r pl).1 _ v2) fun bs rb=>?_;refine in_tuple_reads rb ra hs hd ?_ (hq _ _ (.bool _));have:=ok.cline;have:=bP (cg ds) d.depth
 (rename_i FW;exact L4 (Ra N0 (Kn 60) (Ra (Pn (Pn N1 (Kn 64)) (Kn 1)) N2 (Ra N3 N0 (Gn (Pn (Pn M1 N3) (Kn 1)) N2)))) rfl hz FW this)
theorem tN(ns:List Int)(n:Int):((ns.map PyData.int).any fun y=>cj y (.int n))=decide (n∈ns):=by
 induction ns with
 |nil=>simp
 |cons m ns ih=>
  refine rA aB (rA kS (rA ih ?_));simp only[cj,aA]
  by_cases h:m=n
  ·subst h;simp
  ·have h2:¬n=m:=fun e=>h e.symm;simp[h,h2]
theorem nh(ns:List Int):bf (ns.map PyData.int)=true:=by
 induction ns with
 |nil=>simp[bf]
 |cons n ns ih=>simp[bf,bX,ih]
theorem i6{n:Int}{l:V}{ns:List Int}(e:con H l=.lst (ns.map V.int))(h:Q (.bool (decide (n∈ns))) H):VT G k (gu .In) [.int n,l] H Q X :=
 CO (.int n) (.of_con e (.lst (.ints ns)) rfl) (by simp[bX]) (nh ns) (by simp[cu]) (by rw[tN];exact h)
theorem iQ{n:Int}{l:V}{ns:List Int}(e:con H l=.lst (ns.map V.int))(h:Q (.bool (!decide (n∈ns))) H):VT G k (gu .NotIn) [.int n,l] H Q X :=
 r9 (.int n) (.of_con e (.lst (.ints ns)) rfl) (by simp[bX]) (nh ns) (by simp[cu]) (by rw[tN];exact h)
theorem qi(ns:List Int):cg (ns.map PyData.int)=0:=by
 induction ns with
 |nil=>simp[cg]
 |cons n ns ih=>simp[cg,cu,ih]
theorem jH(ns:List Int):eG (.list (ns.map PyData.int))=true:=by
 simp[eG,bX,nh,cu,qi]
theorem j5{a b:V}{ns ms:List Int}(ea:con H a=.lst (ns.map V.int))(eb:con H b=.lst (ms.map V.int))(h:Q (.bool (decide (ns=ms))) H):VT G k (gu .Eq) [a,b] H Q X :=
 pA (.of_con ea (.lst (.ints ns)) rfl) (.of_con eb (.lst (.ints ms)) rfl) (jH ns) (jH ms) (by rw[cj,ked_eqvAll];exact h)
theorem fY{a b:V}{ns ms:List Int}(ea:con H a=.lst (ns.map V.int))(eb:con H b=.lst (ms.map V.int))(h:Q (.bool (!decide (ns=ms))) H):VT G k (gu .NotEq) [a,b] H Q X :=
 wf (.of_con ea (.lst (.ints ns)) rfl) (.of_con eb (.lst (.ints ms)) rfl) (jH ns) (jH ms) (by rw[cj,ked_eqvAll];exact h)
end
section
variable {G:GC}{k:Nat}{sc:Sc}{σ:St}{X:XP}{Q:VP}{H:HH}{fs:List Env}{F:ah->Prop}{s:an}
theorem bB.big(r:bB G fs F H s):3<s.heap.objs.size:=by
 refine iM G.top.g fun o es ep ho zz=>?_;exact Heap.lt_size (r.base _ _ ho)
theorem bB.notSys(r:bB G fs F H s){a:ah}(h:s.heap.objs.size<=a):(a==ip)=false:=by
 have:=r.big;exact beq_eq_false_iff_ne.mpr (Nat.ne_of_gt (be (dG (show ip<3 by decide) this) h))
noncomputable def qT(value slice:Expr):List Value->Sem Value|[o,i]=>subscriptTail value slice o i|_=>pure .none
theorem TE.item{value slice pos}(h:TE G k sc value σ (fun ov H1=>TE G k sc slice ⟨σ.m,H1⟩ (fun iv H2=>VT G k (qT value slice) [ov,iv] H2 Q X) X) X):TE G k sc (.Subscript value slice pos) σ Q X:=fun fm A fs F s hsc ok rel=>by
 refine Subscript_ ((h fm A fs F s hsc ok rel).thnV .refl (fun c s1 H1 F1 r1 st1 st1' a va h1=>?_) subs dD);refine(h1 fm A fs F1 s1 hsc ok (rel.keeps st1 r1)).thnV st1 (fun d s2 H2 F2 r2 dE st2' b vb h2=>?_) subs dD;exact(h2 A fs F2 s2 [c,d] ok r2 (.two (st2'.vr r1.live va) vb)).fin dE subs dD
theorem i9{value slice:Expr}{o x:V}{xs:List V}{i:Int}(e:con H o=.lst xs)(h0:0<=i)(hx:xs[i.toNat]?=some x)(hb:i<2^62)(h:Q x H)
  (hs:autoParam (∀o i,oR slice false o i=operate [o,i] (getItem o i)) aU):VT G k (qT value slice) [o,.int i] H Q X:=by
 refine ek h fun{A fs F s zz zz} ok r v1 v2 E QQ hq=>?_;apply v2.intE;intro t;refine bx (v1.read r e rfl) fun a FW oo=>?_;subst FW;refine bx oo.lst_inv fun cs hl vs=>?_;refine bx (vs.get hx) fun c hc vc=>?_;exact tail_any hl.isList.typeIs slot_list_getitem.lookup (wpAny_getItem_list hl.isList h0 (by exact Lz [] [_] (Sa (Pz Z0 (Kz 1)) (Kz (2^62)) (Gz (Pz Z0 (Kz 1)) (Kz (2^63)))) rfl hb) (by simpa using hc) (hq _ s.toks vc)) (hs _ _)
theorem pZ{value slice:Expr}{o x:V}{xs:List V}{i:Int}(e:con H o=.lst xs)(h0:i<0)(hi:-(xs.length:Int)<=i)(hx:xs[(i+xs.length).toNat]?=some x)(hb:-2^62<i)(h:Q x H)
  (hs:autoParam (∀o i,oR slice false o i=operate [o,i] (getItem o i)) aU):VT G k (qT value slice) [o,.int i] H Q X:=by
 refine ek h fun{A fs F s zz zz} ok r v1 v2 E QQ hq=>?_;apply v2.intE;intro t;refine bx (v1.read r e rfl) fun a FW oo=>?_;subst FW;refine bx oo.lst_inv fun cs hl vs=>?_;refine bx (vs.get hx) fun c hc vc=>?_;have hlen:=vs.length;exact tail_any hl.isList.typeIs slot_list_getitem.lookup (wpAny_getItem_list_neg hl.isList h0 (by simp;lia) (by lia) (by refine rA eL (rA hlen ?_);simpa using hc) (hq _ s.toks vc)) (hs _ _)
noncomputable def TO(G:GC)(k:Nat)(sc:Sc)(e:Option Expr)(σ:St)(Q:VP)(X:XP):Prop :=
 ∀fm A fs F s,fm.sc=sc->Ok k A fs->jn G fs fm F σ s->Wp G fs A [] σ.H F s (evalPart e fm.env) (RV G Q) ot X
theorem TO.none(h:Q .none σ.H):TO G k sc none σ Q X:=fun fm A fs F s hsc ok rel=>by
 rw[evalPart_none];exact af (GP.v rel.hp .refl .none h)
theorem TO.some{e}(h:TE G k sc e σ Q X):TO G k sc (some e) σ Q X:=fun fm A fs F s hsc ok rel=>by
 rw[evalPart_some];exact h fm A fs F s hsc ok rel
noncomputable def V.part:V->Option Int
 |.int i=>some i
 |_=>bc
noncomputable def V.isPart:V->Bool
 |.int _=>true
 |.none=>true
 |_=>false
theorem VR.part{h:Heap}{v:V}{c:Value}(r:VR G h F v c)(hp:v.isPart=true):IsPart c v.part:=by
 cases v with
 |none=>refine rA r.none_inv ?_;exact .none
 |int i=>refine ex r.int_inv fun t FW=>?_;subst FW;exact .int i t
 |_=>exact nB hp
noncomputable def iA(xs:List V)(lo hi:Option Int):List V :=
 (sliceRange (sliceBounds lo hi none xs.length).1 (sliceBounds lo hi none xs.length).2.1 (sliceBounds lo hi none xs.length).2.2).filterMap (xs[·]?)
theorem qX{h:Heap}{xs:List V}{cs:List Value}(r:d7 G h F xs cs):∀l:List Nat,d7 G h F (l.filterMap (xs[·]?)) (l.filterMap (cs.toArray[·]?))
 |[]=>.nil
 |i::l=>by
  refine rA gI (rA gI ?_);cases e:xs[i]? with
  |none=>
   have:cs[i]?=none:=by
    rw[List.getElem?_eq_none_iff]at e ⊢;refine rA r.length ?_;exact e
   have ih:=qX r l;simp only[fR,this]at ih ⊢;exact ih
  |some x=>
   refine bx (r.get e) fun c hc vc=>?_;have ih:=qX r l;simp only[fR,hc]at ih ⊢;exact .cons vc ih
inductive SlL(Q:VP)(o l u:V)(H3:HH):Prop
 |mk (xs:List V) (a:l.isPart=true) (b:u.isPart=true) (c:con H3 o=.lst xs) (d:xs.length<1000000) (h:∀b,H3 b=none->Q (.ref b) (upd H3 b (.lst (iA xs l.part u.part))))
theorem yQ{x p0 lo up p pos}(h:TE G k sc (.Name x p0) σ (fun o H1=>TO G k sc lo ⟨σ.m,H1⟩ (fun l H2=>TO G k sc up ⟨σ.m,H2⟩ (SlL Q o l) X) X) X):TE G k sc (.Subscript (.Name x p0) (.Slice lo up none p) pos) σ Q X:=fun fm A fs F s hsc ok rel=>by
 refine wpAny_Subscript_list_slice ((h fm A fs F s hsc ok rel).thnV .refl (fun c s1 H1 F1 r1 st1 st1' a va h1=>?_) subs dD);refine(h1 fm A fs F1 s1 hsc ok (rel.keeps st1 r1)).thnV st1 (fun d s2 H2 F2 r2 dE st2' b vb h2=>?_) subs dD;refine(h2 fm A fs F2 s2 hsc ok ((rel.keeps st1 r1).keeps st2' r2)).thnV dE (fun d s3 H3 F3 r3 gW st3' u vu hq__=>?_) subs dD;obtain⟨xs,p1,p2,e,hx,h3⟩:=hq__;refine bx ((st3'.vr r2.live (st2'.vr r1.live va)).read r3 e rfl) fun l FW oo=>?_;subst FW;refine bx oo.lst_inv fun cs hl vs=>?_;have hlen:=vs.length;refine⟨l,_,_,_,rfl,hl.isList,(by refine rA cr ?_;simp;exact vG hlen hx),(st3'.vr r2.live vb).part p1,vu.part p2,?_⟩;generalize hsl:s3.heap.push {cls:=.type "slice",data:=_}=hp;have hk:∀b o,s3.heap.get? b=some o->hp.get? b=some o:=fun b o e=>by refine rB hsl ?_;exact Heap.get?_push_of_some _ e
 have hz:hp.objs.size=s3.heap.objs.size+1:=by refine rB hsl ?_;exact Heap.size_push ..
 refine ea (r3.grow (h':=hp) s3.toks hk) fun r4 st4=>?_;have fr:=bL hp;obtain⟨r5,st5⟩:=r4.mine (h':=hp.push {cls:=.type "list",data:=.seq (slicePick cs.toArray b.part u.part none)}) s3.toks (.lst (iA xs b.part u.part)) fr (fun b o e=>Heap.get?_push_of_some _ e) (by
  refine .lst (cs:=(slicePick cs.toArray b.part u.part none).toList) ⟨0,?_⟩ ?_
  ·exact rA (Heap.get?_push_size _ rfl) rfl
  ·have:d7 G hp F3 (iA xs b.part u.part) (slicePick cs.toArray b.part u.part none).toList:=by
    unfold iA slicePick;refine rB hlen (rA eL ?_);exact qX (st4.vrs vs) _
   exact this.mono (fun zz x=>x) fun b o zz e=>Heap.get?_push_of_some _ e)
 rw[hz]at r5 st5;exact GP.v r5 ((gW.trans st4).trans st5) (.ref _) (h3 _ (by have:=(r4.fresh fr).2;rwa [hz]at this))
theorem jZ(f:Array Value->Array Value)(its:Array Value)(n:Nat) :
  Obj.mapSeq f {cls:=.type "list",dict:=none,data:=.seq its n,slots:=#[]}={cls:=.type "list",dict:=none,data:=.seq (f its) (if(f its).size==its.size then n else n+1),slots:=#[]}:=rfl
theorem bB.seqTurn(r:bB G fs F H s){a:ah}{xs ys:List V}{its jts:Array Value}{n:Nat}(ha:H a=some (.lst xs))(ho:s.heap.get? a=some {cls:=.type "list",dict:=none,data:=.seq its n,slots:=#[]})(f:Array Value->Array Value)(tk:Nat)(hj:f its=jts)
  (hv:d7 G s.heap F ys jts.toList) :
  bB G fs F (upd H a (.lst ys)) {s with heap:=s.heap.update a (Obj.mapSeq f),toks:=tk}/\bQ [] H F s.heap (upd H a (.lst ys)) F (s.heap.update a (Obj.mapSeq f)):=by
 have e:(s.heap.update a (Obj.mapSeq f)).get? a=some {cls:=.type "list",dict:=none,data:=.seq jts (if jts.size==its.size then n else n+1),slots:=#[]}:=by
  rw[Heap.get?_update_self _ ho (by rw[jZ];rfl),jZ,hj]
 exact r.turn tk ha (fun b o n e=>(Heap.SameBut.update s.heap a _).extBut b o n e) (fun o zz zz=>⟨_,e,fun vs q=>by cases q⟩) fun k1 k2=>.lst ⟨_,e⟩ (k2 _ _ hv)
theorem ma{prog:ei}{w:iC}{A:cA}{E:Value->an->Prop}{l:ah}{its:Array Value}{m:Nat}{i:Int}{t:Tok}{v:Value}{j:Nat}{Q:Unit->an->Prop}(ho:s.heap.get? l=some {cls:=.type "list",dict:=none,data:=.seq its m,slots:=#[]})
  (hfit:dQ i=true) (hj:kY i its.size=some j) (hjs:j<its.size)
  (hQ:Q () {s with heap:=s.heap.update l (Obj.mapSeq (·.setIfInBounds j v))}):aM (bj prog w) A (setItem (.ref l) (.int i t) v) Q E s:=by
 have hl:s.heap.IsList l its:=⟨_,ho,rfl,m,rfl⟩;unfold setItem
 try with_reducible refine a9 ?_
 first|refine aa (af ?_)|skip
 refine aa (wpAny_sequenceKey hl.typeIs (by decide) ?_);refine aa (mz (name:=Str.ofString "__setitem__") hl.typeIs slot_list_setitem
  (fC slot_list_setitem hl.typeIs entry_list_setitem ?_ (args_list_setitem _ _ _)))
 show aM _ _ (Builtin.List.listSubscript? (.int i t) >>=_) _ _ s;refine aa (wpAny_listSubscript_int hfit ?_);have hx:its[j]?=some its[j]:=cC hjs;have fin:aM (bj prog w) A.in1 (setSeqItemAt l j v) (fun zz s1=>Q () s1) E s:=wpAny_setSeqItemAt ho rfl hQ;cases i with
 |ofNat n=>
  have:j=n:=by
   have hlt:n<its.size:=by
    rcases gC n its.size with q|q
    ·exact q
    ·rw[MeetsSeq.seqIndex_none_hi (by simp;exact q)]at hj;exact nS hj
   rw[PySem.seqIndex_of (k:=Int.ofNat n) (fA n) (by simp;exact hlt)]at hj;obtain rfl:=aj hj;rfl
  subst this;show aM _ _ ((seqItemAt l j >>=fun r=>pure (r.map (j,·))) >>=_) _ _ s;refine aa (aa (wpAny_seqItemAt ho rfl (af ?_)));refine rA hx ?_;show aM _ _ (setSeqItemAt l j v >>=_) _ _ s;refine aa (aK fin (fun zz s1 hq=>?_) fun zz zz x=>x)
  first
   |exact aa (af (af ⟨.none,rfl,af hq⟩))
   |exact af ⟨.none,rfl,af hq⟩
 |negSucc n=>
  show aM _ _ ((Builtin.List.listItems (.ref l) >>=fun xs=>pure ((kY (Int.negSucc n) xs.size).bind fun i=>xs[i]?.map (i,·))) >>=_) _ _ s;refine aa (aa ?_);show aM _ _ (seqItems? (.ref l) >>=_) _ _ s;refine aa (oW ho rfl (af (af ?_)));refine rA hj ?_;simp only[kW,hx,lh];show aM _ _ (setSeqItemAt l j v >>=_) _ _ s;refine aa (aK fin (fun zz s1 hq=>?_) fun zz zz x=>x)
  first
   |exact aa (af (af ⟨.none,rfl,af hq⟩))
   |exact af ⟨.none,rfl,af hq⟩
theorem lL{a:ah}{v:V}{xs:List V}{i:Int}{j:Nat}{QH:HH->Prop}(ha:H a=some (.lst xs))(hj:kY i xs.length=some j)(hl:j<xs.length)(hb:i.natAbs<2^62)(h:QH (upd H a (.lst (xs.set j v)))):UT G k sx [v,.ref a,.int i] H QH X:=fun A fs F s cs ok r vr=>by
 apply vr.elim3;intro cv oc ic vx vo vi;obtain rfl:=vo.ref_inv;apply vi.intE;intro t;refine bx ((r.own a _ ha).lst_inv) fun ds FW vs=>?_;refine ex FW fun n ho=>?_;have hlen:=vs.length;have hfit:dQ i=true:=by
  unfold dQ;simp only[bI,decide_eq_true_eq];lia
 refine ea (r.seqTurn ha ho (·.setIfInBounds j cv) s.toks (jts:=(ds.set j cv).toArray) (by simp) (vs.set j vx)) fun r1 st1=>?_;exact ma ho hfit (j:=j) (by refine rA eL (rA hlen ?_);exact hj) (by simp;exact mI hl hlen) (GP.here r1 st1 h)
theorem MT.list{name:Str}{id:String}{v:V}{xs:List V}(slot:PySem.Slot "list" name id)(hty:typeOf (.builtin id)=pure (.type "method_descriptor"))(e:con H v=.lst xs):MT G name v H (.builtin id):=fun A fs F s c pl E QQ r vr h=>by
 revert h;apply vr.lstE r e;intro a cs n ho vs h;exact sG ⟨_,ho,rfl⟩ PySem.F.plainAttrs_list slot hty (fun b e=>by obtain rfl:=gm e;exact⟨_,ho,rfl⟩) h
theorem MT.append{v:V}{xs:List V}(e:con H v=.lst xs):MT G "append" v H (.builtin "list.append"):=MT.list sJ PySem.F.type_list_append e
theorem MT.pop{v:V}{xs:List V}(e:con H v=.lst xs):MT G "pop" v H (.builtin "list.pop"):=MT.list li PySem.F.type_list_pop e
theorem MT.extend{v:V}{xs:List V}(e:con H v=.lst xs):MT G "extend" v H (.builtin "list.extend"):=MT.list sK PySem.F.type_list_extend e
theorem VT.append{a:ah}{x:V}{xs:List V}(ha:H a=some (.lst xs))(hl:xs.length<1000000)(h:Q .none (upd H a (.lst (xs++[x])))):VT G k (dm (.builtin "list.append")) [.ref a,x] H Q X:=fun A fs F s cs ok r vr=>by
 apply vr.elim2;intro oc cv vo vx;obtain rfl:=vo.ref_inv;refine bx ((r.own a _ ha).lst_inv) fun ds FW vs=>?_;refine ex FW fun n ho=>?_;have hlen:=vs.length;refine ea (r.seqTurn ha ho (·.push cv) s.toks (jts:=(ds++[cv]).toArray) (by simp) (vs.append (.one vx))) fun r1 st1=>?_;refine re sJ ⟨_,ho,rfl⟩ PySem.F.entry_list_append (PySem.F.args_list_append_2 _ _) (PySem.list_append a ds.toArray n cv (by refine rA cr ?_;simp;exact vG hlen hl)) ⟨ho,?_⟩;exact GP.v r1 st1 .none h
theorem u7{a:ah}{x:V}{xs:List V}(ha:H a=some (.lst (xs++[x])))(hl:xs.length<1000000)(h:Q x (upd H a (.lst xs))):VT G k (dm (.builtin "list.pop")) [.ref a] H Q X:=fun A fs F s cs ok r vr=>by
 apply vr.elim1;intro oc vo;obtain rfl:=vo.ref_inv;refine bx ((r.own a _ ha).lst_inv) fun ds FW vs=>?_;refine ex FW fun n ho=>?_;have hlen:=vs.length;refine bx (vs.get (i:=xs.length) (x:=x) (by simp)) fun c hc vc=>?_;have hsz:ds.length=xs.length+1:=by refine rA hlen ?_;simp
 obtain⟨r1,st1⟩:=r.seqTurn ha ho (·.eraseIdxIfInBounds (ds.toArray.size-1)) s.toks (jts:=(ds.eraseIdx xs.length).toArray) (by simp[hsz]) (by
  have:=vs.eraseIdx xs.length
  rwa [List.eraseIdx_append_of_length_le (ax _),Nat.sub_self,List.eraseIdx_cons_zero,bt]at this)
 refine re li ⟨_,ho,rfl⟩ PySem.F.entry_list_pop (PySem.F.args_list_pop_1 _) (PySem.MeetsSeq.list_pop_last a ds.toArray n c (by rw[eL,hsz,Nat.add_sub_cancel,fR];exact hc) (by refine rA cr ?_;simp;exact L2 (Ra M0 (Kn 1000000) (Rb N1 M0 (Gn N1 (Kn 16777216)))) rfl hl hsz)) ⟨ho,?_⟩;exact GP.v r1 st1 (st1.vr r.live vc) h
theorem yY{a:ah}{x:V}{xs:List V}{i:Int}(ha:H a=some (.lst xs))(h0:0<=i)(hx:xs[i.toNat]?=some x)(hl:xs.length<1000000)(h:Q x (upd H a (.lst (xs.eraseIdx i.toNat)))):VT G k (dm (.builtin "list.pop")) [.ref a,.int i] H Q X:=fun A fs F s cs ok r vr=>by
 apply vr.elim2;intro oc ic vo vi;obtain rfl:=vo.ref_inv;apply vi.intE;intro t;refine bx ((r.own a _ ha).lst_inv) fun ds FW vs=>?_;refine ex FW fun n ho=>?_;have hlen:=vs.length;refine bx (vs.get hx) fun c hc vc=>?_;have hlt:i.toNat<ds.length:=by
  rcases gC i.toNat ds.length with q|q
  ·exact q
  ·rw[b8 q]at hc;exact nS hc
 refine ea (r.seqTurn ha ho (·.eraseIdxIfInBounds i.toNat) s.toks (jts:=(ds.eraseIdx i.toNat).toArray) (by simp[hlt]) (vs.eraseIdx i.toNat)) fun r1 st1=>?_;have hfit:dQ i=true:=by
  unfold dQ;simp only[bI,decide_eq_true_eq];lia
 refine re li ⟨_,ho,rfl⟩ PySem.F.entry_list_pop (PySem.F.args_list_pop_2 _ _) (PySem.MeetsSeq.list_pop_at a ds.toArray n i t i.toNat c hfit (PySem.seqIndex_of h0 (by simp;exact Lz [_,_] [_] (Ra M0 N1 (Sa Z0 C0 (Gz (Pz Z0 (Kz 1)) C1))) rfl hlt wJ)) (by simpa using hc) (by refine rA cr ?_;simp;exact vG hlen hl)) ⟨ho,?_⟩;exact GP.v r1 st1 (st1.vr r.live vc) h
theorem VT.extend{a:ah}{y:V}{xs ys:List V}(ha:H a=some (.lst xs))(hy:con H y=.lst ys)(hl:xs.length+ys.length<1000000)(h:Q .none (upd H a (.lst (xs++ys)))):VT G k (dm (.builtin "list.extend")) [.ref a,y] H Q X:=fun A fs F s cs ok r vr=>by
 apply vr.elim2;intro oc cv vo vx;obtain rfl:=vo.ref_inv;refine bx ((r.own a _ ha).lst_inv) fun ds FW vs=>?_;refine ex FW fun n ho=>?_;refine bx (vx.read r hy rfl) fun b FY o2=>?_;subst FY;refine bx o2.lst_inv fun es FZ vs2=>?_;refine ex FZ fun n2 ho2=>?_;have hlen:=vs.length;have hlen2:=vs2.length;refine ea (r.seqTurn ha ho (·++es.toArray) s.toks (jts:=(ds++es).toArray) (by simp) (vs.append vs2)) fun r1 st1=>?_;refine re sK ⟨_,ho,rfl⟩ PySem.F.entry_list_extend (PySem.F.args_list_extend_2 _ _) (PySem.AutoSeq1.list_extend_list_list_0 a ds.toArray n b es.toArray n2 ?_ (by refine rA cr ?_;simp;exact L3 (Ra (Pn (Pn N0 N1) (Kn 1)) (Kn 1000000) (Rb N2 N0 (Gn N2 (Kn 16777216)))) rfl hl hlen) (by refine rA cr ?_;simp;exact L4 (Ra (Pn (Pn N0 N1) (Kn 1)) (Kn 1000000) (Rb N2 N0 (Rb N3 N1 (Gn (Pn N2 N3) (Kn 16777217))))) rfl hl hlen hlen2)) ⟨ho,ho2,?_⟩
 ·simp only[eL,bI,not_and];intro _;unfold Builtin.List.listTooLong;refine rA cr ?_;simp;exact L4 (Ra (Pn (Pn N0 N1) (Kn 1)) (Kn 1000000) (Rb N2 N0 (Rb N3 N1 (Gn (Pn N2 N3) (Kn 16777216))))) rfl hl hlen hlen2
 ·exact GP.v r1 st1 .none h
theorem pz{a b:V}{xs ys:List V}(ea:con H a=.lst xs)(eb:con H b=.lst ys)(hl:xs.length+ys.length<1000000)(h:∀c,H c=none->Q (.ref c) (upd H c (.lst (xs++ys)))):VT G k (yi .Add) [a,b] H Q X:=fun A fs F s cs ok r vr=>by
 apply vr.elim2;intro oc cv vo vx;refine bx (vo.read r ea rfl) fun a FW o1=>?_;subst FW;refine bx (vx.read r eb rfl) fun b FY o2=>?_;subst FY;refine bx o1.lst_inv fun ds FZ vs=>?_;refine ex FZ fun n ho=>?_;refine bx o2.lst_inv fun es F7 vs2=>?_;refine ex F7 fun n2 ho2=>?_;have hlen:=vs.length;have hlen2:=vs2.length;have fr:=bL s.heap;obtain⟨r1,st1⟩:=r.mine (h':=s.heap.push {cls:=.type "list",data:=.seq (ds.toArray++es.toArray)}) s.toks (.lst (xs++ys)) fr (fun b o e=>Heap.get?_push_of_some _ e) (by
  refine .lst (cs:=ds++es) ⟨0,?_⟩ ((vs.append vs2).mono (fun zz x=>x) fun b o zz e=>Heap.get?_push_of_some _ e);refine rA (Heap.get?_push_size _ rfl) ?_;simp)
 exact PySem.P.add_list ho ho2 (GP.v r1 st1 (.ref _) (h _ (r.fresh fr).2)) (by refine rA cr ?_;simp;exact L4 (Ra (Pn (Pn N0 N1) (Kn 1)) (Kn 1000000) (Rb N2 N0 (Rb N3 N1 (Gn (Pn N2 N3) (Kn 16777216))))) rfl hl hlen hlen2)
end
noncomputable def dF{κ:Type} [DecidableEq κ](xs:List (κ×V))(k:κ):Option V:=(xs.find? fun kv=>kv.1=k).map (·.2)
noncomputable def ix{κ:Type} [DecidableEq κ](xs:List (κ×V))(k:κ)(v:V):List (κ×V):=if xs.any (fun kv=>kv.1=k)then xs.map (fun kv=>if kv.1=k then(kv.1,v)else kv)else xs++[(k,v)]
section
variable {G:GC}{k:Nat}{sc:Sc}{σ:St}{X:XP}{Q:VP}{H:HH}{fs:List Env}{F:ah->Prop}{s:an}{h:Heap}
theorem Rl.k_look{xs:List (Int×V)}:∀{cs:List (Int×Value)}{n:Int}{v:V},Rl G h F (.k xs cs)->dF xs n=some v->∃c,pn cs n=some c/\VR G h F v c:=by
 induction xs with
 |nil=>intro cs n v r e;simp[dF]at e
 |cons p xs ih=>
  intro cs n v r e;obtain⟨k,x⟩:=p;refine cq r.kcons_inv fun c cs' FW a b=>?_;subst FW
  by_cases q:k=n
  ·subst q;simp[dF]at e;subst e;exact⟨c,by simp[pn],a⟩
  ·have e':dF xs n=some v:=by simpa [dF,q]using e
   refine bx (ih b e') fun d e1 e2=>?_;exact⟨d,by simpa [pn,q]using e1,e2⟩
theorem Rl.k_keys{xs:List (Int×V)}:∀{cs:List (Int×Value)},Rl G h F (.k xs cs)->cs.map (·.1)=xs.map (·.1):=by
 induction xs with
 |nil=>intro cs r;refine rA (show cs=[] from r.inv) ?_;rfl
 |cons p xs ih=>intro cs r;refine cq (Rl.kcons_inv r) fun zz zz FW a b=>?_;subst FW;simp[ih b]
theorem Rl.k_any{xs:List (Int×V)}{cs:List (Int×Value)}(r:Rl G h F (.k xs cs))(n:Int):cs.any (fun kv=>kv.1=n)=xs.any (fun kv=>kv.1=n):=by
 have:=r.k_keys;have e1:cs.any (fun kv=>kv.1=n)=(cs.map (·.1)).any (fun m=>m=n):=by refine rA lE ?_;rfl
 have e2:xs.any (fun kv=>kv.1=n)=(xs.map (·.1)).any (fun m=>m=n):=by refine rA lE ?_;rfl
 exact rA e1 (rA e2 (rA this rfl))
theorem vB{κ:Type} [DecidableEq κ](xs:List (κ×V))(n:κ):(dF xs n).isSome=xs.any (fun kv=>kv.1=n):=by
 induction xs with
 |nil=>rfl
 |cons p xs ih=>
  by_cases q:p.1=n
  ·simp[dF,q]
  ·have:dF (p::xs) n=dF xs n:=by simp[dF,q]
   refine rA this (rA ih ?_);simp[q]
theorem Rl.k_some{xs:List (Int×V)}{cs:List (Int×Value)}(r:Rl G h F (.k xs cs))(n:Int):(pn cs n).isSome=(dF xs n).isSome:=by
 rw[valueAt_isSome_eq_any,vB,r.k_any]
theorem yI{v:V}{c:Value}{n:Int}(vc:VR G h F v c){xs:List (Int×V)}:∀{cs:List (Int×Value)},Rl G h F (.k xs cs)->Rl G h F (.k (xs.map (fun kv=>if kv.1=n then(kv.1,v)else kv)) (cs.map (fun kv=>if kv.1=n then(kv.1,c)else kv))):=by
 induction xs with
 |nil=>intro cs r;refine rA (show cs=[] from r.inv) ?_;exact .knil
 |cons p xs ih=>
  intro cs r;obtain⟨k,x⟩:=p;refine cq r.kcons_inv fun c' cs' FW a b=>?_;subst FW;simp only[aB]
  by_cases q:k=n
  ·refine rA (if_pos q) (rA (if_pos q) ?_);exact .kcons vc (ih b)
  ·refine rA (if_neg q) (rA (if_neg q) ?_);exact .kcons a (ih b)
theorem Rl.k_append{xs ys:List (Int×V)}:∀{cs ds:List (Int×Value)},Rl G h F (.k xs cs)->Rl G h F (.k ys ds)->Rl G h F (.k (xs++ys) (cs++ds)):=by
 induction xs with
 |nil=>intro cs ds r q;refine rA (show cs=[] from r.inv) ?_;exact q
 |cons p xs ih=>intro cs ds r q;refine cq (Rl.kcons_inv r) fun zz zz FW a b=>?_;subst FW;exact .kcons a (ih b q)
theorem pV{v:V}{c:Value}{n:Int}{xs:List (Int×V)}{cs:List (Int×Value)}(vc:VR G h F v c)(r:Rl G h F (.k xs cs)):Rl G h F (.k (ix xs n v) (ri cs n c)):=by
 unfold ix ri;refine rA (r.k_any n) ?_;split
 ·exact yI vc r
 ·exact r.k_append (.kcons vc .knil)
theorem Rl.k_length{xs:List (Int×V)}{cs:List (Int×Value)}(r:Rl G h F (.k xs cs)):cs.length=xs.length:=by
 have:=congrArg bG r.k_keys;simpa using this
theorem Rl.sk_look{xs:List (Str×V)}:∀{cs:List (Str×Value)}{n:Str}{v:V},Rl G h F (.sk xs cs)->dF xs n=some v->∃c,pn cs n=some c/\VR G h F v c:=by
 induction xs with
 |nil=>intro cs n v r e;simp[dF]at e
 |cons p xs ih=>
  intro cs n v r e;obtain⟨k,x⟩:=p;refine cq r.skcons_inv fun c cs' FW a b=>?_;subst FW
  by_cases q:k=n
  ·subst q;simp[dF]at e;subst e;exact⟨c,by simp[pn],a⟩
  ·have e':dF xs n=some v:=by simpa [dF,q]using e
   refine bx (ih b e') fun d e1 e2=>?_;exact⟨d,by simpa [pn,q]using e1,e2⟩
theorem dK{value slice:Expr}{o x:V}{xs:List (Int×V)}{i:Int}(e:con H o=.dct xs)(hx:dF xs i=some x)(h:Q x H)
  (hs:autoParam (∀o i,oR slice false o i=operate [o,i] (getItem o i)) aU):VT G k (qT value slice) [o,.int i] H Q X:=by
 refine ek h fun{A fs F s zz zz} ok r v1 v2 E QQ hq=>?_;apply v2.intE;intro t;refine bx (v1.read r e rfl) fun a FW oo=>?_;subst FW;refine cX oo.dct_inv fun cs hz hl vs=>?_;refine bx (vs.k_look hx) fun c hc vc=>?_;exact tail_any hl.typeIs slot_dict_getitem.lookup (wpAny_getItem_of (dJ _ _ i t) hl.mapOf hc (hq _ _ vc)) (hs _ _)
theorem yX{value slice:Expr}{o x:V}{xs:List (Str×V)}{i:Str}(e:con H o=.sdct xs)(hx:dF xs i=some x)(h:Q x H)
  (hs:autoParam (∀o i,oR slice false o i=operate [o,i] (getItem o i)) aU):VT G k (qT value slice) [o,.str i] H Q X:=by
 refine ek h fun{A fs F s zz zz} ok r v1 v2 E QQ hq=>?_;apply v2.strE;intro t;refine bx (v1.read r e rfl) fun a FW oo=>?_;subst FW;refine cX oo.sdct_inv fun cs hz hl vs=>?_;refine bx (vs.sk_look hx) fun c hc vc=>?_;exact tail_any hl.typeIs slot_dict_getitem.lookup (wpAny_getItem_of (strKind_is _ _ i t) hl.mapOf hc (hq _ _ vc)) (hs _ _)
theorem CN{o:V}{xs:List (Int×V)}{i:Int}(e:con H o=.dct xs)(h:Q (.bool (dF xs i).isSome) H):VT G k (gu .In) [.int i,o] H Q X:=by
 refine ek h fun{A fs F s zz zz} ok r v1 v2 E QQ hq=>?_;apply v1.intE;intro t;refine bx (v2.read r e rfl) fun a FW oo=>?_;subst FW;refine cX oo.dct_inv fun cs hz hl vs=>?_;exact wpAny_in_of (dJ _ _ i t) hz hl.mapOf (by rw[vs.k_some];exact hq _ _ (.bool _))
theorem xn{o:V}{xs:List (Int×V)}{i:Int}(e:con H o=.dct xs)(h:Q (.bool (!(dF xs i).isSome)) H):VT G k (gu .NotIn) [.int i,o] H Q X:=by
 refine ek h fun{A fs F s zz zz} ok r v1 v2 E QQ hq=>?_;apply v1.intE;intro t;refine bx (v2.read r e rfl) fun a FW oo=>?_;subst FW;refine cX oo.dct_inv fun cs hz hl vs=>?_;exact wpAny_notIn_of (dJ _ _ i t) hz hl.mapOf (by rw[vs.k_some];exact hq _ _ (.bool _))
theorem MT.dget{v:V}{xs:List (Int×V)}(e:con H v=.dct xs):MT G "get" v H (.builtin "dict.get"):=fun A fs F s c pl E QQ r vr h=>by
 refine bx (vr.read r e rfl) fun a FW o=>?_;subst FW;refine cX o.dct_inv fun cs hz hl vs=>?_;exact sG hl.typeIs PySem.F.plainAttrs_dict PySem.F.slot_dict_get PySem.F.type_dict_get hl.mapOf.noDict h
theorem VT.dget{o d:V}{xs:List (Int×V)}{i:Int}(e:con H o=.dct xs)(h:Q ((dF xs i).getD d) H):VT G k (dm (.builtin "dict.get")) [o,.int i,d] H Q X:=fun A fs F s cs ok r vr=>by
 apply vr.elim3;intro oc ic dc vo vi vd;apply vi.intE;intro t;refine bx (vo.read r e rfl) fun a FW oo=>?_;subst FW;refine cX oo.dct_inv fun cs hz hl vs=>?_;refine call_meetsIn PySem.F.slot_dict_get hl.typeIs PySem.F.entry_dict_get (PySem.F.args_dict_get_3 _ _ _) (meets_dict_get_default (ca G.prog G.w) a (dJ _ _ i t) hz dc) ⟨_,hl.mapOf,?_⟩;refine GP.v (r.toks _) .refl (?_) h;cases q:dF xs i with
 |none=>
  have:=vs.k_some i;rw[q]at this;cases q2:pn cs i with
  |none=>exact vd
  |some c=>rw[q2]at this;exact nB this.symm
 |some x=>refine bx (vs.k_look q) fun c hc vc=>?_;refine rA hc ?_;exact vc
theorem sM{a:ah}{v:V}{xs:List (Int×V)}{i:Int}{QH:HH->Prop}(ha:H a=some (.dct xs))(hb:xs.length<1000000)(h:QH (upd H a (.dct (ix xs i v)))):UT G k sx [v,.ref a,.int i] H QH X:=fun A fs F s cs ok r vr=>by
 apply vr.elim3;intro cv oc ic vx vo vi;obtain rfl:=vo.ref_inv;apply vi.intE;intro t;refine cX ((r.own a _ ha).dct_inv) fun ds hz hl vs=>?_;have hlen:=vs.k_length;refine wpAny_setItem_pairs (dJ _ _ i t) hl (fun h' hd hsb=>?_) (by refine rA cr ?_;exact vG hlen hb);obtain⟨r1,st1⟩:=r.turn (h':=h') (a:=a) (x:=.dct xs) (y:=.dct (ix xs i v)) (s.toks+1) ha (fun b o n e=>hsb.extBut b o n e) (fun o zz zz=>by
  refine eN hd fun o' es ep ho zz hd' zz=>?_;exact⟨o',ho,f6 hd'⟩) fun k1 k2=>.dct hz hd (pV (k1 _ _ vx) (Rl.mono (fun zz x=>x) (fun b o f e=>hsb.extBut b o (fun q=>r.sep _ _ ha (q▸f)) e) vs fun zz zz e=>by cases e))
 exact GP.here r1 st1 h
theorem pX{pos}(h:∀a,σ.H a=none->Q (.ref a) (upd σ.H a (.dct []))):TE G k sc (.Dict [] [] pos) σ Q X:=fun fm A fs F s hsc ok rel=>by
 have fr:=bL s.heap;refine ea (rel.hp.mine (h':=s.heap.push {cls:=.type "dict",data:=.dict #[]}) s.toks (.dct []) fr (fun b o e=>Heap.get?_push_of_some _ e) (.dct (rel.hp.notSys (ax _)) (Heap.DictOf.new _) .knil)) fun r1 st1=>?_;exact wpAny_Dict_empty (GP.v r1 st1 (.ref _) (h _ (rel.hp.fresh fr).2))
inductive JK where
 |i (xs:List (Int×V))
 |s (xs:List (Str×V))
noncomputable def JK.vs:JK->List (V×V)
 |.i xs=>xs.map fun p=>(.int p.1,p.2)
 |.s xs=>xs.map fun p=>(.str p.1,p.2)
noncomputable def uU(G:GC)(h:Heap)(F:ah->Prop)(ps:List (V×V))(cs:List (Value×Value)):Prop:=d7 G h F (ps.map (·.1)) (cs.map (·.1))/\d7 G h F (ps.map (·.2)) (cs.map (·.2))
noncomputable def xl(G:GC)(k:Nat)(sc:Sc)(keys:List (Option Expr))(vals:List Expr)(σ:St)(Q:List (V×V)->HH->Prop)(X:XP):Prop :=
 ∀fm A fs F s pos,fm.sc=sc->Ok k A fs->jn G fs fm F σ s->Wp G fs A [] σ.H F s (evalPairs (pairTrees keys vals fm.env pos)) (fun c H' F' s'=>∃ps,uU G s'.heap F' ps c/\Q ps H') ot X
theorem xl.nil{Q:List (V×V)->HH->Prop}(h:Q [] σ.H):xl G k sc [] [] σ Q X:=fun fm A fs F s pos hsc ok rel=>pairTrees_nil_walk (GP.here rel.hp .refl ⟨[],⟨.nil,.nil⟩,h⟩)
theorem xl.cons{key val keys vals}{Q:List (V×V)->HH->Prop}(h:TE G k sc key σ (fun a H1=>TE G k sc val ⟨σ.m,H1⟩ (fun b H2=>xl G k sc keys vals ⟨σ.m,H2⟩ (fun ps H3=>Q ((a,b)::ps) H3) X) X) X):xl G k sc (some key::keys) (val::vals) σ Q X:=fun fm A fs F s pos hsc ok rel=>by
 refine pairTrees_cons_walk ((h fm A fs F s hsc ok rel).thnV .refl (fun c s1 H1 F1 r1 st1 st1' a va h1=>?_) subs dD);refine(h1 fm A fs F1 s1 hsc ok (rel.keeps st1 r1)).thnV st1 (fun d s2 H2 F2 r2 dE st2' b vb h2=>?_) subs dD;refine(h2 fm A fs F2 s2 pos hsc ok ((rel.keeps st1 r1).keeps st2' r2)).thn dE (fun cs s3 H3 F3 r3 gW st3' z=>?_) subs dD;refine bx z fun ps vps h3=>?_;exact GP.here r3 gW ⟨(a,b)::ps,⟨.cons (st3'.vr r2.live (st2'.vr r1.live va)) vps.1,.cons (st3'.vr r2.live vb) vps.2⟩,h3⟩
theorem xV{F:ah->Prop}{xs:List (Int×V)}:∀{cs:List (Value×Value)},uU G h F (JK.i xs).vs cs->∃kvs:List (Int×Value),Carries (ca G.prog G.w) cs kvs/\Rl G h F (.k xs kvs):=by
 induction xs with
 |nil=>
  intro cs p;have:cs=[]:=by have:=d7.nil_inv p.1;simpa using this
  subst this;exact⟨[],True.intro,.knil⟩
 |cons q xs ih=>
  intro cs p;cases cs with
  |nil=>have:=d7.length p.1;simp[JK.vs]at this
  |cons c cs=>
   refine cq (d7.cons_inv p.1) fun c1 cs1 e1 v1 w1=>?_;refine cq (d7.cons_inv p.2) fun c2 cs2 e2 v2 w2=>?_;cases e1;cases e2;refine bx (ih ⟨w1,w2⟩) fun kvs a b=>?_;refine ex (VR.int_inv v1) fun t e=>?_;obtain⟨c1,c2⟩:=c;cases e;exact⟨(q.1,c2)::kvs,.intro (dJ _ _ _ _) ⟨rfl,a⟩,.kcons v2 b⟩
theorem xW{F:ah->Prop}{xs:List (Str×V)}:∀{cs:List (Value×Value)},uU G h F (JK.s xs).vs cs->∃kvs:List (Str×Value),Carries (strKind G.prog G.w) cs kvs/\Rl G h F (.sk xs kvs):=by
 induction xs with
 |nil=>
  intro cs p;have:cs=[]:=by have:=d7.nil_inv p.1;simpa using this
  subst this;exact⟨[],True.intro,.sknil⟩
 |cons q xs ih=>
  intro cs p;cases cs with
  |nil=>have:=d7.length p.1;simp[JK.vs]at this
  |cons c cs=>
   refine cq (d7.cons_inv p.1) fun c1 cs1 e1 v1 w1=>?_;refine cq (d7.cons_inv p.2) fun c2 cs2 e2 v2 w2=>?_;cases e1;cases e2;refine bx (ih ⟨w1,w2⟩) fun kvs a b=>?_;refine ex (VR.str_inv v1) fun t e=>?_;obtain⟨c1,c2⟩:=c;cases e;exact⟨(q.1,c2)::kvs,.intro (strKind_is _ _ _ _) ⟨rfl,a⟩,.skcons v2 b⟩
theorem Rl.sk_keys{F:ah->Prop}{xs:List (Str×V)}:∀{cs:List (Str×Value)},Rl G h F (.sk xs cs)->cs.map (·.1)=xs.map (·.1):=by
 induction xs with
 |nil=>intro cs r;refine rA (show cs=[] from r.inv) ?_;rfl
 |cons p xs ih=>intro cs r;refine cq (Rl.skcons_inv r) fun zz zz FW a b=>?_;subst FW;simp[ih b]
theorem Heap.DictOf.nil_of{K:Type} [DecidableEq K]{p:ei}{w:iC}{knd:KeyKind p w K}{h:Heap}{a:ah}(x:h.DictOf (ca p w) a []):h.DictOf knd a []:=by
 refine eN x fun o es ep ho hx hd FW=>?_;refine jc FW fun hk hp hn=>?_;have:es.toList=[]:=by have:=hp.length;simpa using this
 refine⟨o,es,ep,ho,hx,hd,fun e he=>?_,?_,List.nodup_nil⟩
 ·have:=Array.mem_toList_iff.mpr he;simp_all
 ·refine rA this ?_;exact .nil
theorem yL{keys vals pos}(h:∀a,σ.H a=none->xl G k sc keys vals ⟨σ.m,upd σ.H a (.dct [])⟩ (fun ps H1=>∃xs,ps=(JK.i xs).vs/\(xs.map (·.1)).Nodup/\H1 a=some (.dct [])/\Q (.ref a) (upd H1 a (.dct xs))) X)
  (hall:autoParam (keys.all (·.isSome)=true) aR) (hl:autoParam (keys.length=vals.length) aR) (h0:autoParam (keys≠[]) aN) (hlen:autoParam (keys.length<=15) aD):TE G k sc (.Dict keys vals pos) σ Q X:=fun fm A fs F s hsc ok rel=>by
 have fr:=bL s.heap;refine ea (rel.hp.mine (h':=s.heap.push {cls:=.type "dict",data:=.dict #[]}) s.toks (.dct []) fr (fun b o e=>Heap.get?_push_of_some _ e) (.dct (rel.hp.notSys (ax _)) (Heap.DictOf.new _) .knil)) fun r1 st1=>?_;refine wpAny_Dict_walk (knd:=ca G.prog G.w) hall hl h0 hlen ?_;refine(h _ (rel.hp.fresh fr).2 fm A fs F {s with heap:=s.heap.push {cls:=.type "dict",data:=.dict #[]} } pos hsc ok ⟨r1,rel.fr.keeps (s':={s with heap:=s.heap.push {cls:=.type "dict",data:=.dict #[]} }) st1⟩).thn st1 (fun cs s2 H2 F2 r2 dE st2' z=>?_) subs dD;refine bx z fun ps vps FW=>?_;refine kZ FW fun xs e hn ha hq=>?_;subst e;refine bx (xV vps) fun kvs hc rk=>?_;refine cX ((r2.own _ _ ha).dct_inv) fun es hz hd rn=>?_;cases rn;refine⟨kvs,hc,hd,fun h' hd' hsb=>?_⟩;rw[merged_nil_of_nodup _ (by refine rA rk.k_keys ?_;exact hn)]at hd';obtain⟨r3,gW⟩:=r2.turn (h':=h') (y:=.dct xs) (s2.toks+cs.length) ha (fun b o n e=>hsb.extBut b o n e) (fun o zz zz=>by
  refine eN hd' fun o' es ep ho zz hd2 zz=>?_;exact⟨o',ho,f6 hd2⟩) fun k1 k2=>.dct hz hd' (Rl.mono (fun zz x=>x) (fun b o f e=>hsb.extBut b o (fun q=>r2.sep _ _ ha (q▸f)) e) rk fun zz zz e=>by cases e)
 exact GP.v r3 (dE.trans gW) (.ref _) hq
theorem yM{keys vals pos}(h:∀a,σ.H a=none->xl G k sc keys vals ⟨σ.m,upd σ.H a (.dct [])⟩ (fun ps H1=>∃xs,ps=(JK.s xs).vs/\(xs.map (·.1)).Nodup/\H1 a=some (.dct [])/\Q (.ref a) (upd H1 a (.sdct xs))) X)
  (hall:autoParam (keys.all (·.isSome)=true) aR) (hl:autoParam (keys.length=vals.length) aR) (h0:autoParam (keys≠[]) aN) (hlen:autoParam (keys.length<=15) aD):TE G k sc (.Dict keys vals pos) σ Q X:=fun fm A fs F s hsc ok rel=>by
 have fr:=bL s.heap;refine ea (rel.hp.mine (h':=s.heap.push {cls:=.type "dict",data:=.dict #[]}) s.toks (.dct []) fr (fun b o e=>Heap.get?_push_of_some _ e) (.dct (rel.hp.notSys (ax _)) (Heap.DictOf.new _) .knil)) fun r1 st1=>?_;refine wpAny_Dict_walk (knd:=strKind G.prog G.w) hall hl h0 hlen ?_;refine(h _ (rel.hp.fresh fr).2 fm A fs F {s with heap:=s.heap.push {cls:=.type "dict",data:=.dict #[]} } pos hsc ok ⟨r1,rel.fr.keeps (s':={s with heap:=s.heap.push {cls:=.type "dict",data:=.dict #[]} }) st1⟩).thn st1 (fun cs s2 H2 F2 r2 dE st2' z=>?_) subs dD;refine bx z fun ps vps FW=>?_;refine kZ FW fun xs e hn ha hq=>?_;subst e;refine bx (xW vps) fun kvs hc rk=>?_;refine cX ((r2.own _ _ ha).dct_inv) fun es hz hd rn=>?_;cases rn;refine⟨kvs,hc,Heap.DictOf.nil_of hd,fun h' hd' hsb=>?_⟩;rw[merged_nil_of_nodup _ (by refine rA rk.sk_keys ?_;exact hn)]at hd';obtain⟨r3,gW⟩:=r2.turn (h':=h') (y:=.sdct xs) (s2.toks+cs.length) ha (fun b o n e=>hsb.extBut b o n e) (fun o zz zz=>by
  refine eN hd' fun o' es ep ho zz hd2 zz=>?_;exact⟨o',ho,f6 hd2⟩) fun k1 k2=>.sdct hz hd' (Rl.mono (fun zz x=>x) (fun b o f e=>hsb.extBut b o (fun q=>r2.sep _ _ ha (q▸f)) e) rk fun zz zz e=>by cases e)
 exact GP.v r3 (dE.trans gW) (.ref _) hq
end
noncomputable def eT(ns:List Int):List Int:=ns.mergeSort (fun a b=>decide (a<=b))
theorem fq(ns:List Int):(eT ns).Perm ns:=List.mergeSort_perm ns _
theorem ib(ns:List Int):(eT ns).Pairwise (·<=·):=by
 have:=List.pairwise_mergeSort (le:=fun a b:Int=>decide (a<=b)) (by intro a b c h1 h2;simp only[decide_eq_true_eq]at *;exact oz22 h1 h2) (by intro a b;simp only[lT,decide_eq_true_eq];lia) ns;exact this.imp fun h=>by simpa using h
theorem uF{ms ns:List Int}(hp:ms.Perm ns)(hs:ms.Pairwise (·<=·)):ms=eT ns :=
 List.Perm.eq_of_pairwise (le:=(·<=·)) (fun a b zz zz h1 h2=>bi h1 h2) hs (ib ns) (hp.trans (fq ns).symm)
theorem fN(ns:List Int):(eT ns).length=ns.length:=(fq ns).length_eq
section
variable {G:GC}{k:Nat}{sc:Sc}{σ:St}{X:XP}{Q:VP}{H:HH}{fs:List Env}{F:ah->Prop}{s:an}
theorem bB.drawn(r:bB G fs F H s)(dr:Drawn):bB G fs F H {s with drawn:=dr}:=⟨r.base,r.bF,r.live,r.sep,r.own,r.frs,r.gens,r.os⟩
theorem bB.mineL(r:bB G fs F H s){h':Heap}{tk:Nat}{dr:Drawn}{D:ah}{cs:List Value}{xs:List V}{n:Nat}(hD:s.heap.get? D=none)(k:∀b o,s.heap.get? b=some o->h'.get? b=some o)
  (ho:h'.get? D=some {cls:=.type "list",dict:=none,data:=.seq cs.toArray n,slots:=#[]}) (hv:d7 G h' F xs cs) :
  bB G fs F (upd H D (.lst xs)) {s with heap:=h',toks:=tk,drawn:=dr}/\bQ [] H F s.heap (upd H D (.lst xs)) F h' :=
 by refine ea (r.mine tk (.lst xs) hD k (.lst ⟨n,ho⟩ hv)) fun r1 st=>?_;exact⟨r1.drawn dr,st⟩
theorem mD{v:V}{ns:List Int}(hc:∀{fs F s c},bB G fs F H s->VR G s.heap F v c->pQ G.prog G.w c s ns)(h64:ns.length<64)(h:∀D,H D=none->Q (.ref D) (upd H D (.lst ((eT ns).map .int))))(hk3:autoParam (3<=k) aL) :
  VT G k (dm (.builtin "sorted")) [v] H Q X:=fun A fs F s cs ok r vr=>by
 apply vr.elim1;intro c vc;refine yc (ok.handled hk3) (hc r vc) h64 fun h' tk dr D vs ms n k hD ho hi hp hs=>?_;refine ea (r.mineL (tk:=tk) (dr:=dr) (xs:=(eT ns).map .int) hD k ho (by refine rB (uF hp hs) ?_;exact tK hi)) fun r1 st1=>?_;exact GP.v r1 st1 (.ref _) (h D (r.fresh hD).2)
theorem ja{v:V}{ns:List Int}(e:con H v=.lst (ns.map .int))(h64:ns.length<64)(h:∀D,H D=none->Q (.ref D) (upd H D (.lst ((eT ns).map .int))))(hk3:autoParam (3<=k) aL):VT G k (dm (.builtin "sorted")) [v] H Q X :=
 mD (fun r vc=>by
  refine bx (vc.read r e rfl) fun a FW o=>?_;subst FW;refine bx o.lst_inv fun cs hl vs=>?_;have:=vs.length;exact pQ.list hl.isList vs.ints (by refine rA this ?_;simp;exact rC h64)) h64 h
theorem jb{v:V}{ns:List Int}(e:con H v=.set ns)(h64:ns.length<64)(h:∀D,H D=none->Q (.ref D) (upd H D (.lst ((eT ns).map .int))))(hk3:autoParam (3<=k) aL):VT G k (dm (.builtin "sorted")) [v] H Q X :=
 mD (fun r vc=>by
  refine bx (vc.read r e rfl) fun a FW o=>?_;subst FW;exact pQ.set o.set_inv.1) h64 h
theorem qb{v:V}{xs:List (Int×V)}(e:con H v=.dct xs)(h64:xs.length<64)(h:∀D,H D=none->Q (.ref D) (upd H D (.lst ((eT (xs.map (·.1))).map .int))))(hk3:autoParam (3<=k) aL):VT G k (dm (.builtin "sorted")) [v] H Q X :=
 mD (fun r vc=>by
  refine bx (vc.read r e rfl) fun a FW o=>?_;subst FW;refine cX o.dct_inv fun cs hz hd rk=>?_;refine rB rk.k_keys ?_;exact pQ.dict hz hd (by refine rA rk.k_length ?_;exact rC h64)) (by simpa using h64) h
theorem nO(h:∀D,H D=none->Q (.ref D) (upd H D (.set []))):VT G k (dm (.type "set")) [] H Q X:=fun A fs F s cs ok r vr=>by
 refine rA vr.nil_inv ?_;refine tV fun led hl=>?_;have fr:=bL s.heap;refine ea (r.mine s.toks (.set []) fr (fun b o e=>Heap.get?_push_of_some _ e) (.set (gp.fresh s.heap hl) .nil)) fun r1 st1=>?_;exact GP.v r1 st1 (.ref _) (h _ (r.fresh fr).2)
set_option tactic.hygienic true in
theorem qQ{xs:List Int}{i:Int}(h:xs.Nodup):(cO xs i).Nodup:=by
 unfold cO;split
 ·exact h
 ·rename_i hn;rw[cB];exact⟨h,by simp,fun a ha b hb=>by refine rA (ag.mp hb) ?_;exact fun e=>hn (e▸ha)⟩
theorem uE(ns:List Int):∀{xs:List Int},xs.Nodup->(ns.foldl cO xs).Nodup:=by
 induction ns with
 |nil=>intro xs h;exact h
 |cons n ns ih=>intro xs h;exact ih (qQ h)
theorem xq{v:V}{ns:List Int}(e:con H v=.lst (ns.map .int))(hb:ns.length<4000)(h:∀D,H D=none->Q (.ref D) (upd H D (.set (ns.foldl cO []))))(hk3:autoParam (3<=k) aL):VT G k (dm (.type "set")) [v] H Q X:=fun A fs F s cs ok r vr=>by
 apply vr.elim1;intro c vc;refine bx (vc.read r e rfl) fun a FW o=>?_;subst FW;refine bx o.lst_inv fun cs hl vs=>?_;have fr:=bL s.heap;refine qg (ok.handled hk3) hl.isList (by simpa using vs.ints) (by unfold scanBound;exact L1 (Ra M0 (Kn 4000) (Gn (Pn M0 (Kn 1)) (Kn 4096))) rfl hb) fun h' tk hS hk=>?_;refine ea (r.mine tk (.set (ns.foldl cO [])) fr hk (.set hS (uE ns .nil))) fun r1 st1=>?_;exact GP.v r1 st1 (.ref _) (h _ (r.fresh fr).2)
theorem MT.sadd{v:V}{xs:List Int}(e:con H v=.set xs):MT G "add" v H (.builtin "set.add"):=fun A fs F s c pl E QQ r vr h=>by
 refine bx (vr.read r e rfl) fun a FW o=>?_;subst FW;exact getMethod_set_add o.set_inv.1.setOf h
theorem VT.sadd{a:ah}{i:Int}{xs:List Int}(ha:H a=some (.set xs))(hl:xs.length<4000)(h:Q .none (upd H a (.set (cO xs i)))):VT G k (dm (.builtin "set.add")) [.ref a,.int i] H Q X:=fun A fs F s cs ok r vr=>by
 apply vr.elim2;intro oc cv vo vx;obtain rfl:=vo.ref_inv;apply vx.intE;intro t;refine ea ((r.own a _ ha).set_inv) fun hS hn=>?_;refine qf hS (by unfold scanBound;exact L1 (Ra M0 (Kn 4000) (Gn (Pn M0 (Kn 1)) (Kn 4096))) rfl hl) fun h' hsb hS'=>?_;obtain⟨r1,st1⟩:=r.turn (h':=h') (y:=.set (cO xs i)) (s.toks+1) ha (fun b o n e=>hsb.extBut b o n e) (fun o zz zz=>by
  refine iM hS' fun es ep t ho zz=>?_;exact⟨_,ho,fun vs q=>by cases q⟩) fun k1 k2=>.set hS' (qQ hn)
 exact GP.v r1 st1 .none h
theorem CP{o:V}{xs:List Int}{i:Int}(e:con H o=.set xs)(h:Q (.bool (decide (i∈xs))) H):VT G k (gu .In) [.int i,o] H Q X:=by
 refine ek h fun{A fs F s zz zz} ok r v1 v2 E QQ hq=>?_;apply v1.intE;intro t;refine bx (v2.read r e rfl) fun a FW oo=>?_;subst FW;exact wpAny_inSet_of (dJ _ _ i t) rfl oo.set_inv.1.setOf (hq _ _ (.bool _))
theorem xo{o:V}{xs:List Int}{i:Int}(e:con H o=.set xs)(h:Q (.bool (!decide (i∈xs))) H):VT G k (gu .NotIn) [.int i,o] H Q X:=by
 refine ek h fun{A fs F s zz zz} ok r v1 v2 E QQ hq=>?_;apply v1.intE;intro t;refine bx (v2.read r e rfl) fun a FW oo=>?_;subst FW;exact wpAny_notInSet_of (dJ _ _ i t) rfl oo.set_inv.1.setOf (hq _ _ (.bool _))
theorem zO{M:q7}{A:cA}{E:Value->an->Prop}{env:Env}{Q:Bool->an->Prop}(hc:env.code=.none∨∃c o vs,env.code=.ref c/\s.heap.get? c=some o/\o.data=.fields vs)(h:∀b,Q b s):aM M A (inMainModule env) Q E s:=by
 unfold inMainModule
 try dsimp only
 rcases hc with e|⟨c,o,vs,e,ho,hd⟩
 ·refine rA e ?_;exact af (h _)
 ·refine rA e ?_;split
  ·exact af (h _)
  ·refine aa (wpAny_fieldsOf ho hd ?_);split
   ·exact aa (cm (af (h _)))
   ·exact af (h _)
theorem AS{i k1 k0 p0 pos}(h:∀D,σ.H D=none->Q (.ref D) (upd σ.H D (.set [i])))(hr:autoParam (displayRoad k1 [.Constant (.int i) k0 p0]=.oneByOne) aR):TE G k sc (.Set [.Constant (.int i) k0 p0] k1 pos) σ Q X:=fun fm A fs F s hsc ok rel=>by
 unfold Wp;rw[arm_eval_Set];refine aa (b7 ?_);refine aa (zO (rel.fr.code.imp id fun z'=>by refine hY z' fun c o vs e1 e2 e3=>?_;exact⟨c,o,vs,e1,rel.hp.base _ _ e2,e3⟩) fun b=>?_);refine rA hr ?_;show aM _ _ (setDisplay .oneByOne b [(false,do let v ←fu (.Constant (.int i) k0 p0) fm.env;fV pos;pure v)]) _ _ _;unfold setDisplay
 try dsimp only
 refine rA (if_neg (by decide)) ?_;refine aa (qY fun led hS=>?_);have fr:=bL s.heap;refine ea (rel.hp.mine s.toks (.set []) fr (fun b o e=>Heap.get?_push_of_some _ e) (.set hS .nil)) fun r1 st1=>?_;dsimp only;refine aa (a9 ?_);refine rA (show(if([(false,(do let v ←fu (.Constant (.int i) k0 p0) fm.env;fV pos;pure v:Sem Value))]:List (Bool×Sem Value)).length > 30 then 0 else(([(false,(do let v ←fu (.Constant (.int i) k0 p0) fm.env;fV pos;pure v:Sem Value))]:List (Bool×Sem Value)).findIdx? (·.1)).getD ([(false,(do let v ←fu (.Constant (.int i) k0 p0) fm.env;fV pos;pure v:Sem Value))]:List (Bool×Sem Value)).length)=1 from rfl) ?_;show aM _ _ (evalAll [(do let v ←fu (.Constant (.int i) k0 p0) fm.env;fV pos;pure v:Sem Value)] >>=_) _ _ _;refine aa ?_;show aM _ _ ((fu (.Constant (.int i) k0 p0) fm.env >>=fun v=>fV pos >>=fun zz=>pure v) >>=fun v=>kA [v] (evalAll []) >>=fun r=>pure (v::r)) _ _ _;refine aa (aa (wpAny_Constant_int (aa (b7 (af ?_)))));refine aa (a9 (af (af ?_)));refine aa (a9 ?_);rw[lX];refine aa (aa (aa ?_));unfold setAdd;refine a9 ?_;refine aa ((ca G.prog G.w).pyHash (dJ _ _ i _) ?_);refine jl (xs:=[]) hS (by decide) fun h' hsb hS'=>?_;have e1:cO [] i=[i]:=by unfold cO;refine rA (if_neg (by simp)) ?_;rfl
 rw[e1]at hS';obtain⟨r2,dE⟩:=r1.turn (h':=h') (a:=s.heap.objs.size) (x:=.set []) (y:=.set [i]) (s.toks+1+1) aw (fun b o n e=>hsb.extBut b o n e) (fun o zz zz=>by
  refine iM hS' fun es ep t ho zz=>?_;exact⟨_,ho,fun vs q=>by cases q⟩) fun k1 k2=>.set hS' (by simp)
 have e2:upd (upd σ.H s.heap.objs.size (.set [])) s.heap.objs.size (.set [i])=upd σ.H s.heap.objs.size (.set [i]):=by
  funext b;unfold upd;split <;> rfl
 rw[e2]at r2 dE;refine af ?_;dsimp only;rw[List.forIn_nil];refine af ?_;refine rA (if_neg (by decide)) ?_;refine af ?_;simp only[List.drop_succ_cons,mK,List.forIn_nil];have fin:GP G fs [] σ.H F s.heap (RV G Q) (cp s.heap.objs.size) {s with heap:=h',toks:=s.toks+1+1}:=GP.v r2 (st1.trans dE) (.ref _) (h _ (rel.hp.fresh fr).2)
 first
  |exact aa (af (af (af fin)))
  |exact aa (af (af fin))
  |exact af (af (af fin))
  |exact af (af fin)
  |exact af fin
end
section
variable {G:GC}{k:Nat}{sc:Sc}{σ:St}{X:XP}{Q:VP}{H:HH}{fs:List Env}{F:ah->Prop}{s:an}
theorem VT.len{v:V}{xs:List V}(e:con H v=.lst xs)(hl:xs.length<1000000)(h:Q (.int xs.length) H):VT G k (dm (.builtin "len")) [v] H Q X:=fun A fs F s cs ok r vr=>by
 apply vr.elim1;intro c vc;refine bx (vc.read r e rfl) fun a FW o=>?_;subst FW;refine bx o.lst_inv fun ds hL vs=>?_;have hlen:=vs.length;refine call_len_list hL.isList (by simp;exact L2 (Ra M0 (Kn 1000000) (Rb N1 N0 (Gz (Pz C1 (Kz 1)) (Kz 9223372036854775808)))) rfl hl hlen) ?_;refine rA eL (rA hlen ?_);exact GP.v (r.toks _) .refl (.int _ _) h
theorem ct{n:Int}(hn:n.natAbs<2^62)(h:Q (.rng 0 n) H):VT G k (dm (.type "range")) [.int n] H Q X:=fun A fs F s cs ok r vr=>by
 apply vr.elim1;intro c vc;apply vc.intE;intro t;have fr:=bL s.heap;refine call_range_1 ?_;have g:=IsRange.new s.heap 0 n 1 s.toks t (s.toks+1);refine ea (r.cold (s.toks+1+1) fr g (fun b o e=>Heap.get?_push_of_some _ e)) fun r1 st1=>?_;exact GP.here r1 st1 ⟨_,.fz (.inr rfl) (.rng g (by decide) hn),h⟩
theorem j6{m n:Int}(hm:m.natAbs<2^62)(hn:n.natAbs<2^62)(h:Q (.rng m n) H):VT G k (dm (.type "range")) [.int m,.int n] H Q X:=fun A fs F s cs ok r vr=>by
 apply vr.elim2;intro c d vc vd;apply vc.intE;intro t;apply vd.intE;intro u;have fr:=bL s.heap;refine call_range_2 ?_;have g:=IsRange.new s.heap m n 1 t u s.toks;refine ea (r.cold (s.toks+1) fr g (fun b o e=>Heap.get?_push_of_some _ e)) fun r1 st1=>?_;exact GP.here r1 st1 ⟨_,.fz (.inr rfl) (.rng g hm hn),h⟩
theorem lp{v:V}{xs:List V}(e:con H v=.lst xs)(hl:xs.length<1000000)(h:∀D,H D=none->Q (.ref D) (upd H D (.lst xs))):VT G k (dm (.type "list")) [v] H Q X:=fun A fs F s cs ok r vr=>by
 apply vr.elim1;intro c vc;apply vc.lstE r e;intro a ds n ho vs;have hlen:=vs.length;have fr:=bL s.heap;refine call_list_seq a (.inl rfl) ho rfl rfl (fun h' c' hk hD=>?_) (by refine rA cr ?_;simp;exact vG hlen hl);refine ea (r.mine (h':=h') s.toks (.lst xs) fr hk (.lst ⟨c',hD⟩ (vs.mono (fun zz x=>x) fun b o zz e=>hk b o e))) fun r1 st1=>?_;exact GP.v r1 st1 (.ref _) (h _ (r.fresh fr).2)
theorem tL{v:V}{lo hi:Int}(e:con H v=.rng lo hi)(hl:hi-lo<1000000)(h:∀D,H D=none->Q (.ref D) (upd H D (.lst (br lo hi))))(hk3:autoParam (3<=k) aL):VT G k (dm (.type "list")) [v] H Q X:=fun A fs F s cs ok r vr=>by
 apply vr.elim1;intro c vc;refine bx (vc.read r e rfl) fun a FW o=>?_;subst FW;refine hY o.rng_inv fun t u w hr h1 h2=>?_;have fr:=bL s.heap;have hsz:gh lo hi 1=((hi-lo).toNat:Nat):=by
  rw[rangeSize_one];split <;> lia
 refine call_list_range (ok.handled hk3) hr (small_one (by exact BE h1) (by exact BF h1) (by exact BE h2) (by exact BF h2)) hsz (by exact Int.toNat_le.mpr (Lz [] [_,_] (Sa (Pz (Mz Z0 Z1) (Kz 1)) (Kz 1000000) (Gz (Mz Z0 Z1) (Cz (Kn (2^24))))) rfl hl)) fun h' tk acc c' hk hD hacc=>?_;have key:∀(n:Nat) (lo:Int) (vs:List Value),vs.length=n->(∀(i:Nat) (v:Value),vs[i]?=some v->∃t,v=.int (lo+i) t)->d7 G h' F (br lo (lo+n)) vs:=by
  intro n
  induction n with
  |zero=>
   intro lo vs hl _;refine rA (cP.mp hl) (rA (fJ (by simp)) ?_);exact .nil
  |succ n ih=>
   intro lo vs hl hv;cases vs with
   |nil=>cases hl
   |cons v vs=>
    refine rA (dA (by push_cast;exact Lz [_] [_] (Gz (Pz Z0 (Kz 1)) (Pz Z0 (Pz C0 (Kz 1)))) rfl)) ?_;refine ex (hv 0 v rfl) fun t e=>?_;refine rA e ?_;have e2:(lo+((n+1:Nat):Int))=lo+1+n:=by push_cast;exact bi (Lz [_] [_] (Gz (Pz Z0 (Pz C0 (Kz 1))) (Pz (Pz Z0 (Kz 1)) C0)) rfl) (Lz [_] [_] (Gz (Pz (Pz Z0 (Kz 1)) C0) (Pz Z0 (Pz C0 (Kz 1)))) rfl)
    refine rA e2 ?_;refine .cons ?_ (ih (lo+1) vs (by simpa using hl) fun i v hi'=>?_)
    ·have:lo+((0:Nat):Int)=lo:=by simp
     refine rA this ?_;exact .int _ _
    ·refine ex (hv (i+1) v hi') fun t e=>?_;exact⟨t,by refine rA e ?_;congr 1;push_cast;exact bi (Lz [_] [_] (Gz (Pz Z0 (Pz C0 (Kz 1))) (Pz (Pz Z0 (Kz 1)) C0)) rfl) (Lz [_] [_] (Gz (Pz (Pz Z0 (Kz 1)) C0) (Pz Z0 (Pz C0 (Kz 1)))) rfl)⟩
 have hvs:d7 G h' F (br lo hi) acc.toList:=by
  by_cases hlt:lo<hi
  ·have:=key (hi-lo).toNat lo acc.toList (by refine rA cx ?_;exact hacc.1) fun i v hi'=>by
    refine ex (hacc.2 i v (by refine rB dp ?_;exact hi')) fun t e=>?_;exact⟨t,by rw[e,Int.mul_one]⟩
   have e3:lo+((hi-lo).toNat:Int)=hi:=by exact bi (Lz [_] [_,_] (Sb C0 (Mz Z0 Z1) (Gz (Pz Z1 C0) Z0)) rfl (aY (Lz [] [_,_] (Sa (Pz Z0 (Kz 1)) Z1 (Gz (Kz 0) (Mz Z1 Z0))) rfl hlt))) (Lz [_] [_,_] (Sa (Mz Z0 Z1) C0 (Gz Z0 (Pz Z1 C0))) rfl wJ)
   rwa [e3]at this
  ·have:acc.toList=[]:=by
    have:=hacc.1;rw[←cP,cx,this];exact Int.toNat_eq_zero.mpr (Lz [] [_,_] (Se (Pz Z0 (Kz 1)) Z1 (Gz (Mz Z1 Z0) (Kz 0))) rfl hlt)
   refine rA this (rA (fJ (by exact Di hlt)) ?_);exact .nil
 refine ea (r.mine (h':=h') tk (.lst (br lo hi)) fr hk (.lst (cs:=acc.toList) ⟨c',by simpa using hD⟩ hvs)) fun r1 st1=>?_;exact GP.v r1 st1 (.ref _) (h _ (r.fresh fr).2)
theorem sN{a:Int}(h:Q (.int (if a<0 then -a else a)) H):VT G k (dm (.builtin "abs")) [.int a] H Q X:=fun A fs F s cs ok r vr=>by
 apply vr.elim1;intro c vc;apply vc.intE;intro t;exact call_abs_int fun u tk=>GP.v (r.toks tk) .refl (.int _ _) h
theorem c8{a:Int}(h:Q (.int a) H):VT G k (dm (.type "int")) [.int a] H Q X:=fun A fs F s cs ok r vr=>by
 apply vr.elim1;intro c vc;apply vc.intE;intro t;exact call_int_int (GP.v r .refl (.int _ _) h)
theorem VT.max{v:V}{ns:List Int}(e:con H v=.lst (ns.map .int))(hne:ns≠[])(h:∀M,M∈ns->(∀a∈ns,a<=M)->Q (.int M) H)(hk3:autoParam (3<=k) aL):VT G k (dm (.builtin "max")) [v] H Q X:=fun A fs F s cs ok r vr=>by
 apply vr.elim1;intro c vc;refine bx (vc.read r e rfl) fun a FW o=>?_;subst FW;refine bx o.lst_inv fun ds hL vs=>?_;have hi:=vs.ints;have hl:=hL.isList;refine ex hi.allInts.items fun xs e=>?_;have hns:ns=xs.toList.map (·.1):=by
  rw[←hi.numsOf,←nums_intItems,←e]
 have hsz:0<xs.size:=by
  have h3:0<ns.length:=List.length_pos_iff.mpr hne;rw[hns,ae,cx]at h3;exact h3
 rw[e]at hl;refine max_intList (ok.handled hk3) hl hsz fun v h' tk hv hk=>?_;refine ex (intItems_at hv) fun t FY=>?_;subst FY;refine ea (argBest_gt (numAt xs) (xs.size-1)) fun h1 h2=>?_;refine ea (r.grow (h':=h') tk hk) fun r1 st1=>?_;refine GP.v r1 st1 (.int _ t) (h _ ?_ fun a ha=>?_)
 ·rw[hns,numAt_eq];exact getD_mem (by rw[ae,cx];exact L3 (Ra N0 N1 (Rb M1 N2 (Gn M0 N2))) rfl h1 (iE (L1 (Ra (Pn (Kn 0) (Kn 1)) N0 (Gn (Kn 1) N0)) rfl hsz)))
 ·rw[hns]at ha;refine bx (mem_getD ha) fun j hj FZ=>?_;subst FZ;rw[ae,cx]at hj;rw[←numAt_eq];exact h2 j (by exact L3 (Ra M0 N1 (Ra N1 M2 (Gn N0 N2))) rfl hj jF)
theorem VT.strip{x:Str}(hl:x.length<1000000)(h:Q (.str (Txt.strip x)) H):VT G k (dm (.builtin "str.strip")) [.str x] H Q X:=fun A fs F s cs ok r vr=>by
 apply vr.elim1;intro c vc;apply vc.strE;intro t;exact PySem.SC.strip (fun t' k=>GP.v (r.toks k) .refl (.str _ _) h) (by refine rA cr ?_;exact BC hl)
theorem MT.strip{x:Str}:MT G "strip" (.str x) H (.builtin "str.strip"):=fun A fs F s c pl E QQ r vr h=>by
 revert h;apply vr.strE;intro t h;exact sG (typeIs_str _ _ _) PySem.F.plainAttrs_str PySem.F.slot_str_strip PySem.F.type_str_strip (fun a e=>by cases e) h
theorem xm{v:V}{c:ah}{d:V}(e:con H v=.inst c d)(h:Q (.bool true) H):VT G k (dm (.builtin "isinstance")) [v,.glob (.ref c)] H Q X:=fun A fs F s cs ok r vr=>by
 apply vr.elim2;intro vc cc v1 v2;obtain rfl:=v2.glob_inv;refine bx (v1.read r e rfl) fun a FW o=>?_;subst FW;refine bx o.inst_inv fun dx ho vd=>?_;refine call_isinstance_of ?_ (fun e=>by cases e);unfold Builtin.«isinstance.nested»;have ht:∀(QQ:Value->an->Prop) (EE:Value->an->Prop),QQ (.ref c) s->aM (bj G.prog G.w) A.in1 (typeOf (.ref a)) QQ EE s:=fun QQ EE hq=>by
  unfold typeOf
  first
   |exact aa (ro ho (af hq))
   |(refine aa (ro ho ?_);exact af hq)
 refine aa (m:=typeOf (.ref a)) (ht _ _ ?_);show aM _ _ (if(cp c==cp c)=true then _ else _) _ _ s;refine rA (if_pos (by simp)) ?_;have fin:GP G fs [] H F s.heap (RV G Q) (Value.bool true) s:=GP.v r .refl (.bool _) h
 repeat (first|exact fin|refine af ?_|refine fW ?_|refine aa ?_)
noncomputable def oG(x:Str)(l u:Option Int):Str :=
 let l':=l.map fun i=>(i,(0:Tok));let u':=u.map fun i=>(i,(0:Tok))
 if(eX x l' u' none).length==x.length then x else⟨((eX x l' u' none).filterMap (x.cps[·]?)).toArray⟩
theorem VR.part2{h:Heap}{v:V}{c:Value}(r:VR G h F v c)(hp:v.isPart=true):∃p:Option (Int×Tok),c=partValue p/\p.map (·.1)=v.part:=by
 cases v with
 |none=>exact⟨none,r.none_inv,rfl⟩
 |int i=>refine ex r.int_inv fun t e=>?_;exact⟨some (i,t),e,rfl⟩
 |_=>exact nB hp
inductive SlS(Q:VP)(o l u:V)(H3:HH):Prop
 |mk (x:Str) (a:l.isPart=true) (b:u.isPart=true) (c:o=.str x) (d:(oG x l.part u.part).length<=1000000) (h:Q (.str (oG x l.part u.part)) H3)
set_option tactic.hygienic true in
theorem xk{n p0 lo up p pos}(h:TE G k sc (.Name n p0) σ (fun o H1=>TO G k sc lo ⟨σ.m,H1⟩ (fun l H2=>TO G k sc up ⟨σ.m,H2⟩ (SlS Q o l) X) X) X):TE G k sc (.Subscript (.Name n p0) (.Slice lo up none p) pos) σ Q X:=fun fm A fs F s hsc ok rel=>by
 refine wpAny_Subscript_str_slice ((h fm A fs F s hsc ok rel).thnV .refl (fun c s1 H1 F1 r1 st1 st1' a va h1=>?_) subs dD);refine(h1 fm A fs F1 s1 hsc ok (rel.keeps st1 r1)).thnV st1 (fun d s2 H2 F2 r2 dE st2' b vb h2=>?_) subs dD;refine(h2 fm A fs F2 s2 hsc ok ((rel.keeps st1 r1).keeps st2' r2)).thnV dE (fun d s3 H3 F3 r3 gW st3' u vu hq__=>?_) subs dD;obtain⟨x,p1,p2,e,hx,h3⟩:=hq__;subst e;apply va.strE;intro t;refine bx (vb.part2 p1) fun pl FW el=>?_;subst FW;refine bx (vu.part2 p2) fun pu FY eu=>?_;subst FY;have epick:eX x (b.part.map fun i=>(i,(0:Tok))) (u.part.map fun i=>(i,(0:Tok))) none=eX x pl pu none:=by
  unfold eX;refine rB el (rB eu ?_);simp[Option.map_map,jJ]
 refine⟨x,t,pl,pu,rfl,rfl,rfl,?_⟩;refine ea (r3.grow (h':=s3.heap.push {cls:=.type "slice",data:=.fields #[partValue pl,partValue pu,.none]}) s3.toks (fun b o e=>Heap.get?_push_of_some _ e)) fun r4 st4=>?_;have hQ:Q (.str (if(eX x pl pu none).length==x.length then x else⟨((eX x pl pu none).filterMap (x.cps[·]?)).toArray⟩)) H3:=by
  have:=h3;unfold oG at this;dsimp only at this;rw[epick]at this;exact this
 have hsz:(if(eX x pl pu none).length==x.length then x else(⟨((eX x pl pu none).filterMap (x.cps[·]?)).toArray⟩:Str)).length<=1000000:=by
  have:=hx;unfold oG at this;dsimp only at this;rw[epick]at this;exact this
 unfold sliceMade;split
 ·rename_i hc;have hc':((eX x pl pu none).length==x.length)=true:=by simpa using hc
  rw[if_pos hc']at hQ;exact GP.v r4 (gW.trans st4) (.str _ _) hQ
 ·rename_i hc;have hc':¬((eX x pl pu none).length==x.length)=true:=by simpa using hc
  rw[if_neg hc']at hQ hsz;refine⟨by refine rA cr ?_;exact a8 hsz (by decide),?_⟩;exact GP.v (r4.toks _) (gW.trans st4) (.str _ _) hQ
end
inductive DD(G:GC)(fs:List Env)(H:HH)(F:ah->Prop)(h:Heap)(tg:Expr)(Q:List V->HH->Prop)(it:Value)(s2:an):Prop
 |mk (H':HH) (F':ah->Prop) (its:List ah) (xs:List V) (r:bB G fs F' H' s2) (st:bQ [] H F h H' F' s2.heap) (i:ir G F' H' s2.heap tg its it xs) (n:∀b∈its,h.get? b=none) (q:Q xs H')
noncomputable def TI(G:GC)(k:Nat)(sc:Sc)(tg iter:Expr)(σ:St)(Q:List V->HH->Prop)(X:XP):Prop :=
 ∀fm A fs F s,fm.sc=sc->Ok k A fs->jn G fs fm F σ s ->
  aM (bj G.prog G.w) A (fu iter fm.env) (fun x s1=>aM (bj G.prog G.w) A (tE x) (DD G fs σ.H F s.heap tg Q) (cK G fs [] σ.H F s.heap ot X) s1) (cK G fs [] σ.H F s.heap ot X) s
section
variable {G:GC}{k:Nat}{sc:Sc}{σ:St}{X:XP}{Q:VP}{H:HH}{fs:List Env}{F:ah->Prop}{s:an}{fm:Fm}
theorem TI.of{tg iter}{QI:List V->HH->Prop}(h:TE G k sc iter σ (fun v H1=>∃xs,v.iters=some xs/\QI xs H1) X):TI G k sc tg iter σ QI X:=fun fm A fs F s hsc ok rel=>by
 refine(h fm A fs F s hsc ok rel).thnV .refl (fun c s1 H1 F1 r1 st1 st1' v vr hq__=>?_) subs dD;refine bx hq__ fun xs hx h1=>?_;exact BM (tg:=tg) r1 st1 vr hx fun it its h' r2 dE st2' hit hf=>⟨H1,F1,its,xs,r2,dE,hit,hf,h1⟩
theorem TI.enum{func arg pos tg}{QI:List V->HH->Prop}(ht:vA tg)(h:TE G k sc func σ (fun fv H1=>fv=.glob (.type "enumerate")/\TE G k sc arg ⟨σ.m,H1⟩ (fun v H2=>∃xs,v=.lst xs/\QI (xs.zipIdx.map fun p=>V.tup [.int (p.2:Int),p.1]) H2) X) X)
  (he:autoParam (∀env,fu (.Call func [arg] [] pos) env=(do callWith pos (←fu func env) [] (jr pos (cL [arg] env)) (oN pos (jM [] env)))) aI)
  (hp:autoParam (∀env,cL [arg] env=[(false,fu arg env)]) aI):TI G k sc tg (.Call func [arg] [] pos) σ QI X:=fun fm A fs F s hsc ok rel=>by
 rw[he];refine aa ((h fm A fs F s hsc ok rel).thnV .refl (fun c s1 H1 F1 r1 st1 st1' fv va hq__=>?_) subs dD);refine ea hq__ fun hf h1=>?_;subst hf;obtain rfl:=va.glob_inv;refine lM (G:=G) (first:=[]) (f:=.type "enumerate") trivial (by rw[hp];rfl) ?_;rw[hp];show aM _ _ (spliced [(false,_)]) _ _ _;refine Calls.spliced_cons ?_;refine rA (if_neg (by decide)) ?_;refine(h1 fm A fs F1 s1 hsc ok (rel.keeps st1 r1)).thnV st1 (fun c s2 H2 F2 r2 dE st2' v va hq__=>?_) subs dD;refine bx hq__ fun xs e h2=>?_;refine Calls.spliced_nil ?_;subst e;refine cX (va.obj_inv rfl) fun l FW hf o=>?_;subst FW;refine bx o.lst_inv fun cs hl vs=>?_;refine⟨r2.kin,?_⟩;show aM _ _ (call (.type "enumerate") [.ref l]) _ _ _;refine call_enumerate_list hl.isList fun h' hE hI hz hk=>?_;refine wpAny_pyIter_enum hE ?_;refine ea (r2.grow (h':=h') s2.toks hk) fun r3 gW=>?_;have n1:s2.heap.get? s2.heap.objs.size=none:=bL _;have n2:s2.heap.get? (s2.heap.objs.size+1)=none:=by
  cases q:s2.heap.get? (s2.heap.objs.size+1)with
  |none=>rfl
  |some o=>exact absurd (Heap.lt_size q) (Nat.not_lt.mpr (Nat.le_succ _))
 refine bx hl.isList fun ol hol hlr=>?_;refine⟨H2,F2,_,_,r3,dE.trans gW,.enum (n:=0) (old:=.none) ht hE hI hf ⟨ol,hk _ _ hol,hlr⟩ (gW.vrs vs) (r2.fresh n2).1 (r2.fresh n2).2 (r2.fresh n1).1 (r2.fresh n1).2 (Nat.succ_ne_self _) rfl,fun b hb=>?_,by refine rA mK ?_;exact h2⟩;rcases aA.mp hb with rfl|hb
 ·exact dE.none_back n2
 ·cases ag.mp hb;exact dE.none_back n1
theorem AT{Q:SP}{target iter body pos}(h:TI G k sc target iter σ (fun xs H1=>yw G k sc target body Q X xs ⟨σ.m,H1⟩) X)(hs:autoParam (∀env x,cY iter env x=pure x) aI)(hk3:autoParam (3<=k) aL):TS G k sc (.For target iter body [] pos) σ Q X:=fun fm A outer F s hsc ok rel=>by
 refine ex rel.hp.frame1 fun L hL=>?_;have up:∀e s',cK G (fm.env::outer) [] σ.H F s.heap ot X e s'->cK G (fm.env::outer) fm.own σ.H F s.heap (rc fm.env) X e s':=fun e s' x=>x.from .refl fP gH;refine wpAny_For (aK (h fm A _ F s hsc ok rel) (fun c s1 h1=>aK h1 (fun it s2 h2=>?_) up) up) (hs _);obtain⟨H1,F1,its,xs,r1,st1,hit,hf,h2⟩:=h2;exact Bk hsc hk3 ok hL xs ⟨σ.m,H1⟩ F1 s2 h2 hit ⟨r1,rel.fr.keeps (s':=s2) st1⟩ (st1.mono fP) hf
theorem ir.self{tg it its ys}{A:cA}{E:Value->an->Prop}{QQ:Value->an->Prop}(x:ir G F H s.heap tg its it ys)(hq:QQ it s):aM (bj G.prog G.w) A (tE it) QQ E s:=by
 cases x with
 |list x1 _ _ _ _ _ _=>exact wpAny_pyIter_listiter x1 hq
 |rng x1 _ _ _ _=>exact wpAny_pyIter_rangeiter x1 hq
 |enum _ x1 _ _ _ _ _ _ _ _ _ _=>exact wpAny_pyIter_enum x1 hq
noncomputable def eC(scope:Scope):List Str:=(scope.names.filter fun p=>p.2==.free).map (·.1)
noncomputable def gT(scope outer:Scope):Scope :=
 {scope with names:=scope.names.map fun(n,k)=>if(k==.free&&outer.kind==.function&&outer.names.lookup n==some .cell)then(n,.cell)else(n,k)}
noncomputable def eQ(sc:Sc)(scope:Scope):Sc:=⟨gT scope sc.scope,eC scope⟩
noncomputable def rq(scope:Scope)(m:List (Str×V)):List (Str×V):=m.filter fun p=>(eC scope).contains p.1
theorem jQ{α:Type}{p:Str->Bool}:∀{l:List (Str×α)}{x:Str}{v:α},(l.filter fun q=>p q.1).lookup x=some v->p x=true/\l.lookup x=some v
 |[],_,_,h=>by exact nS h
 |(y,u)::r,x,v,h=>by
  rw[bO]at h
  by_cases hp:p y=true
  ·rw[if_pos hp,aZ]at h;refine rA aZ ?_;cases q:x==y with
   |true=>rw[q]at h;exact⟨by refine rA (beq_iff_eq.mp q) ?_;exact hp,h⟩
   |false=>rw[q]at h;exact jQ h
  ·rw[if_neg hp]at h;refine ea (jQ h) fun h1 h2=>?_;refine⟨h1,?_⟩;refine rA aZ ?_;cases q:x==y with
   |true=>rw[beq_iff_eq.mp q]at h1;exact absurd h1 hp
   |false=>exact h2
noncomputable def dL(env:Env):List (Str×NameKind)->List (Str×ah)->List (Str×ah)
 |[],acc=>acc
 |(n,k)::r,acc=>if k==.free then dL env r ((n,(env.cells.lookup n).getD 0)::acc)else dL env r acc
theorem o5{env:Env}{scope:Scope}(h:∀x∈eC scope,∃a,env.cells.lookup x=some a):closureFor scope env=pure (dL env scope.names []):=by
 have key:∀(names:List (Str×NameKind)) (acc:List (Str×ah)),(∀p∈names,p.2=.free->∃a,env.cells.lookup p.1=some a) ->
   (forIn names acc fun(p:Str×NameKind) (cs:List (Str×ah))=>(if p.2==NameKind.free then(do let a ←cellOf env p.1;pure (gv ((p.1,a)::cs)))else pure (gv cs):Sem _))=pure (dL env names acc):=by
  intro names
  induction names with
  |nil=>intro acc _;rfl
  |cons p r ih=>
   intro acc hp;obtain⟨n,kd⟩:=p;rw[lX];show _=pure (if kd==.free then dL env r ((n,(env.cells.lookup n).getD 0)::acc)else dL env r acc);have hr:∀q∈r,q.2=.free->∃a,env.cells.lookup q.1=some a:=fun q hq=>hp q (.tail _ hq)
   by_cases hk:kd=.free
   ·subst hk;refine ex (hp (n,.free) (.head _) rfl) fun a ha=>?_;refine rA (if_pos (by rfl)) (rA (if_pos (by rfl)) ?_);have:cellOf env n=pure a:=by unfold cellOf;exact rA ha rfl
    refine rA this (rA ha ?_);exact ih _ hr
   ·have hb:(kd==NameKind.free)=false:=by cases kd <;> first|rfl|exact absurd rfl hk
    dsimp only;refine rA hb (rA (if_neg (by decide)) (rA (if_neg (by decide)) ?_));exact ih _ hr
 have hp:∀p∈scope.names,p.2=.free->∃a,env.cells.lookup p.1=some a:=fun p hp hk=>h p.1 (aJ.mpr ⟨p,bh.mpr ⟨hp,by refine rA hk ?_;rfl⟩,rfl⟩);have e:=key scope.names [] hp;unfold closureFor;simp only[bind_pure];exact rB e rfl
set_option tactic.hygienic true in
theorem kJ{env:Env}:∀{names:List (Str×NameKind)}{acc:List (Str×ah)}{x:Str}{a:ah},(x,a)∈dL env names acc->(x,a)∈acc∨((x,.free)∈names/\a=(env.cells.lookup x).getD 0)
 |[],acc,x,a,h=>.inl h
 |(n,kd)::r,acc,x,a,h=>by
  replace h:(x,a)∈if kd==.free then dL env r ((n,(env.cells.lookup n).getD 0)::acc)else dL env r acc:=h
  split at h
  ·rename_i hk;rcases kJ h with q|⟨q1,q2⟩
   ·rcases aA.mp q with q|q
    ·cases q;refine .inr ⟨?_,rfl⟩;cases kd <;> first|exact .head _|exact nB hk
    ·exact .inl q
   ·exact .inr ⟨.tail _ q1,q2⟩
  ·rcases kJ h with q|⟨q1,q2⟩
   ·exact .inl q
   ·exact .inr ⟨.tail _ q1,q2⟩
set_option tactic.hygienic true in
theorem kI{env:Env}:∀{names:List (Str×NameKind)}{acc:List (Str×ah)}{x:Str},((x,.free)∈names∨(acc.lookup x).isSome=true)->((dL env names acc).lookup x).isSome=true
 |[],acc,x,h=>by
  rcases h with h|h
  ·cases h
  ·exact h
 |(n,kd)::r,acc,x,h=>by
  show((if kd==.free then dL env r ((n,(env.cells.lookup n).getD 0)::acc)else dL env r acc).lookup x).isSome=true;split
  ·refine kI ?_;rcases h with h|h
   ·rcases aA.mp h with h|h
    ·cases h;right;simp[aZ]
    ·exact .inl h
   ·right;refine rA aZ ?_;cases x==n <;> first|exact h|rfl
  ·rename_i hk;refine kI ?_;rcases h with h|h
   ·rcases aA.mp h with h|h
    ·cases h;exact absurd rfl hk
    ·exact .inl h
   ·exact .inr h
theorem fZ:∀(names:List (Str×NameKind)) (n:Nat) (acc:List (Str×ah)),js n names acc=js n names []++acc
 |[],n,acc=>rfl
 |(x,kd)::r,n,acc=>by
  unfold js;split
  ·refine rA (fZ r (n+1) ((x,n)::acc)) (rA (fZ r (n+1) [(x,n)]) ?_);simp
  ·exact fZ r n acc
set_option tactic.hygienic true in
theorem iH:∀{names:List (Str×NameKind)}{n:Nat}{acc:List (Str×ah)}{x:Str}{a:ah},(x,a)∈js n names acc->(x,a)∈acc∨(x,.cell)∈names
 |[],n,acc,x,a,h=>.inl h
 |(y,kd)::r,n,acc,x,a,h=>by
  unfold js at h;split at h
  ·rename_i hk;rcases iH h with q|q
   ·rcases aA.mp q with q|q
    ·cases q;right;cases kd <;> first|exact .head _|exact nB hk
    ·exact .inl q
   ·exact .inr (.tail _ q)
  ·rcases iH h with q|q
   ·exact .inl q
   ·exact .inr (.tail _ q)
theorem jP{α:Type}:∀{l r:List (Str×α)}{x:Str},(l++r).lookup x=(l.lookup x).or (r.lookup x)
 |[],r,x=>by simp
 |(y,u)::l,r,x=>by
  refine rA List.cons_append (rA aZ (rA aZ ?_));cases x==y with
  |true=>rfl
  |false=>exact jP
noncomputable def lr(sc:Sc)(scope:Scope):Bool :=
 scope.kind==.function&&(eC scope).all (fun x=>(sc.kindOf x==some .cell||sc.kindOf x==some .free)&&((gT scope sc.scope).names.lookup x==some .cell||(gT scope sc.scope).names.lookup x==some .free)&&x !=("__classdict__":Str)) &&
  scope.names.all (fun p=>p.2 !=.cell||!(eC scope).contains p.1)&&scope.names.all (fun p=>p.2 !=.local||scope.names.lookup p.1==some .local) &&
  scope.names.all (fun p=>(gT scope sc.scope).names.lookup p.1 !=some .cell||(eC scope).contains p.1||scope.names.lookup p.1==some .cell)
structure lj(sc:Sc)(scope:Scope):Prop where
 kind:scope.kind=.function
 cap:∀x∈eC scope,(sc.kindOf x=some .cell∨sc.kindOf x=some .free)/\((gT scope sc.scope).names.lookup x=some .cell∨(gT scope sc.scope).names.lookup x=some .free)/\(x==("__classdict__":Str))=false
 own:∀p∈scope.names,p.2=.cell->p.1∉eC scope
 loc:∀p∈scope.names,p.2=.local->scope.names.lookup p.1=some .local
 cell:∀p∈scope.names,(gT scope sc.scope).names.lookup p.1=some .cell->p.1∉eC scope->scope.names.lookup p.1=some .cell
theorem lj.of{scope:Scope}(h:lr sc scope=true):lj sc scope:=by
 unfold lr at h;simp only[bI]at h;refine ea h fun FW h5=>?_;refine ea FW fun FY h4=>?_;obtain⟨⟨h1,h2⟩,h3⟩:=FY;refine⟨beq_iff_eq.mp h1,fun x hx=>?_,fun p hp hk=>?_,fun p hp hk=>?_,fun p hp hk hn=>?_⟩
 ·have:=bJ.mp h2 x hx;simp only[bI,lT,beq_iff_eq,bne_iff_ne,ne_eq]at this;refine⟨this.1.1,this.1.2,?_⟩;cases q:(x==("__classdict__":Str))with
  |false=>rfl
  |true=>exact absurd (beq_iff_eq.mp q) this.2
 ·have:=bJ.mp h3 p hp;rw[hk]at this;simpa using this
 ·have:=bJ.mp h4 p hp;rw[hk]at this;simpa using this
 ·have:=bJ.mp h5 p hp;rw[hk]at this;simp only[bne_self_eq_false,Bool.false_or,lT,beq_iff_eq]at this;rcases this with q|q
  ·exact absurd (by simpa using q) hn
  ·exact q
theorem uq{scope outer:Scope}{x:Str}{kd:NameKind}(h:(gT scope outer).names.lookup x=some kd):∃p∈scope.names,p.1=x:=by
 have hm:=c7 h;unfold gT at hm;dsimp only at hm;refine bx (aJ.mp hm) fun FW hp e=>?_;obtain⟨n,k⟩:=FW;refine⟨(n,k),hp,?_⟩;dsimp only at e ⊢;split at e <;> (cases e;rfl)
theorem vE{M:q7}{A:cA}{E:Value->an->Prop}{outer:Env}{scope:Scope}{cl:List (Str×ah)}{QQ:Env->an->Prop}
  (h:QQ {scope,locals:=s.heap.objs.size,globals:=outer.globals,cells:=js (s.heap.objs.size+1) scope.names cl,qual:=outer.qual,func:=none,code:=outer.code,frame:=outer.frame,builtins:=outer.builtins}
   {s with heap:=pushCells (s.heap.push {cls:=.type "dict",data:=.dict #[]}) scope.names}) :
  aM M A (newFunctionEnv scope outer.globals cl [] outer.qual none .none (some outer)) QQ E s:=by
 simp only[newFunctionEnv,Option.isSome_some,if_true];refine aa (oU ?_);refine aa (wpAny_layCells _ (fun name kind cells=>by cases hkc:kind==NameKind.cell <;> simp[hkc]) _ _ _ _ ?_);refine rA (show({s with heap:=s.heap.push {cls:=.type "dict",data:=.dict #[]} }:an).heap.objs.size=s.heap.objs.size+1 from Heap.size_push ..) ?_;exact af h
theorem xy{A:cA}{E:Value->an->Prop}{scope:Scope}{QQ:Env->an->Prop}(rel:jn G fs fm F σ s)(co:lj fm.sc scope)(hm:∀x∈eC scope,∃v,σ.m.lookup x=some v)
  (h:∀(fc:Fm) (cenv:Env) (h':Heap),fc.sc=eQ fm.sc scope->fc.env={cenv with scope:=relabel scope fm.env}->s.heap.get? cenv.locals=none->cenv.locals∈fc.own->(∀b∈fc.own,s.heap.get? b=none)->fc.env.frame=fm.env.frame ->
   jn G fs fc F ⟨rq scope σ.m,σ.H⟩ {s with heap:=h'}->bQ [] σ.H F s.heap σ.H F h'->(∀b o,s.heap.get? b=some o->h'.get? b=some o)->QQ cenv {s with heap:=h'}) :
  aM (bj G.prog G.w) A (newFunctionEnv scope fm.env.globals (dL fm.env scope.names []) [] fm.env.qual none .none (some fm.env)) QQ E s:=by
 refine vE ?_;have keeps:∀b o,s.heap.get? b=some o->(pushCells (s.heap.push {cls:=.type "dict",data:=.dict #[]}) scope.names).get? b=some o:=fun b o e=>pushCells_keeps _ _ b o (Heap.get?_push_of_some _ e);refine ea (rel.hp.grow (h':=pushCells (s.heap.push {cls:=.type "dict",data:=.dict #[]}) scope.names) s.toks keeps) fun r1 st1=>?_;have hfree:∀{x},x∈eC scope↔(x,.free)∈scope.names:=fun{x}=>by
  unfold eC;constructor
  ·intro hx;refine bx (aJ.mp hx) fun FW hp FY=>?_;obtain⟨n,kd⟩:=FW;subst FY;refine ea (bh.mp hp) fun h1 h2=>?_;cases kd <;> first|exact h1|exact nB h2
  ·intro hx;exact aJ.mpr ⟨_,bh.mpr ⟨hx,rfl⟩,rfl⟩
 have outc:∀x∈eC scope,∃a v c,fm.env.cells.lookup x=some a/\σ.m.lookup x=some v/\s.heap.IsCell a (some c)/\VR G s.heap F v c:=fun x hx=>by
  refine ex (hm x hx) fun v hv=>?_;refine bx (rel.fr.vars x v hv) fun c hs hv'=>?_;have hk:=(co.cap x hx).1;rcases hs with ⟨hl,_⟩|⟨_,a,ha,hc⟩
  ·have:fm.sc.kindOf x=some .local:=hl;rcases hk with q|q <;> (rw[this]at q;cases q)
  ·exact⟨a,v,c,ha,hv,hc,hv'⟩
 have capmem:∀{x a},(x,a)∈dL fm.env scope.names []->x∈eC scope/\fm.env.cells.lookup x=some a:=fun{x a} hx=>by
  rcases kJ hx with q|⟨q1,q2⟩
  ·cases q
  ·have hx':=hfree.mpr q1;refine iM (outc x hx') fun a' zz zz ha zz=>?_;rw[ha]at q2;cases q2;exact⟨hx',ha⟩
 generalize hcl:dL fm.env scope.names []=cl at capmem ⊢;have hsz:(s.heap.push {cls:=.type "dict",data:=.dict #[]}).objs.size=s.heap.objs.size+1:=Heap.size_push ..;have okc:=cellsFrom_ok scope.names (s.heap.push {cls:=.type "dict",data:=.dict #[]}) (s.heap.objs.size+1) [] ⟨fun zz zz hm=>(nomatch hm),List.Pairwise.nil⟩ (by refine rA hsz ?_;exact ax _);rw[hsz]at okc;rw[fZ];generalize hown:js (s.heap.objs.size+1) scope.names []=own at okc ⊢;have ownName:∀{x a},(x,a)∈own->(x,.cell)∈scope.names:=fun{x a} hx=>by
  rw[←hown]at hx;rcases iH hx with q|q
  ·cases q
  ·exact q
 have fr:∀a,s.heap.objs.size<=a->s.heap.get? a=none:=fun a ha=>by
  cases q:s.heap.get? a with
  |none=>rfl
  |some o=>exact absurd (Heap.lt_size q) (Nat.not_lt.mpr ha)
 have ownFresh:∀{x a},(x,a)∈own->s.heap.get? a=none:=fun{x a} hx=>fr a (Nat.le_of_succ_le (okc.empty _ _ hx).2);have capLook:∀x∈eC scope,∀a,fm.env.cells.lookup x=some a->(own++cl).lookup x=some a:=fun x hx a ha=>by
  refine rA jP ?_;cases q:own.lookup x with
  |some b=>exact absurd hx (co.own _ (ownName (c7 q)) rfl)
  |none=>
   have:(cl.lookup x).isSome=true:=by refine rB hcl ?_;exact kI (.inl (hfree.mp hx))
   refine ex (b5.mp this) fun b hb=>?_;have:=(capmem (c7 hb)).2;rw[ha]at this;obtain rfl:=aj this;refine rA hb ?_;rfl
 refine h ⟨{scope:=relabel scope fm.env,locals:=s.heap.objs.size,globals:=fm.env.globals,cells:=own++cl,qual:=fm.env.qual,func:=none,code:=fm.env.code,frame:=fm.env.frame,builtins:=fm.env.builtins},
  s.heap.objs.size::own.map (·.2),eC scope⟩ _ _ rfl rfl (fr _ (ax _)) (.head _) (fun b hb=>?_) rfl ⟨r1,?_⟩ st1 keeps
 ·rcases aA.mp hb with rfl|hb
  ·exact fr _ (ax _)
  ·refine bx (aJ.mp hb) fun FZ hx F7=>?_;obtain⟨x,a⟩:=FZ;subst F7;exact ownFresh hx
 ·have hns:(pushCells (s.heap.push {cls:=.type "dict",data:=.dict #[]}) scope.names).Ns s.heap.objs.size (fun zz=>none):=(Heap.Ns.new s.heap (.type "dict")).keeps (pushCells_keeps _ _);refine⟨co.kind,rel.fr.glob,rel.fr.blt,rel.fr.code,⟨_,hns⟩,.head _,fun x a e=>?_,fun x e hn=>?_,fun x y a e1 e2=>?_,fun a ha=>?_,fun x v e=>?_⟩
  ·have hm:=c7 e;rcases ak.mp hm with q|q
   ·exact⟨⟨_,(okc.empty _ _ q).1⟩,rel.hp.fresh (ownFresh q)⟩
   ·refine ea (capmem q) fun q1 q2=>?_;refine ea (rel.fr.cells x a q2) fun F8 hr=>?_;refine ex F8 fun v hv=>?_;exact⟨⟨v,hv.keeps keeps⟩,hr⟩
  ·refine bx (uq e) fun p hp F9=>?_;subst F9;have hc:=co.cell p hp e hn;have:(own.lookup p.1).isSome=true:=by refine rB hown ?_;exact cellsFrom_some _ _ _ (.inl hc)
   refine ex (b5.mp this) fun a ha=>?_;refine⟨a,?_,.tail _ (aJ.mpr ⟨(p.1,a),c7 ha,rfl⟩)⟩;show(own++cl).lookup p.1=some a;refine rA jP (rA ha ?_);rfl
  ·rcases ak.mp (c7 e1)with q1|q1 <;> rcases ak.mp (c7 e2)with q2|q2
   ·exact name_of_addr okc.apart q1 q2
   ·refine ea (capmem q2) fun zz q3=>?_;refine ea (rel.fr.cells y a q3) fun Ga zz=>?_;refine jx Ga fun v o ho zz=>?_;rw[ownFresh q1]at ho;exact nS ho
   ·refine ea (capmem q1) fun zz q3=>?_;refine ea (rel.fr.cells x a q3) fun Gb zz=>?_;refine jx Gb fun v o ho zz=>?_;rw[ownFresh q2]at ho;exact nS ho
   ·exact rel.fr.inj x y a (capmem q1).2 (capmem q2).2
  ·rcases aA.mp ha with rfl|ha
   ·refine ea (rel.hp.fresh (fr s.heap.objs.size (ax _))) fun h1 h2=>?_;refine hY hns fun o es ep ho hd zz=>?_;exact⟨h1,h2,o,ho,f6 hd⟩
   ·refine bx (aJ.mp ha) fun Gc hx Gd=>?_;obtain⟨x,b⟩:=Gc;subst Gd;refine ea (rel.hp.fresh (ownFresh hx)) fun h1 h2=>?_;refine bx ((okc.empty _ _ hx).1) fun o ho hd=>?_;exact⟨h1,h2,o,ho,pB hd⟩
  ·refine ea (jQ (p:=fun x=>(eC scope).contains x) e) fun h1 h2=>?_;have hx:x∈eC scope:=by simpa using h1
   refine eN (outc x hx) fun a v' c ha hv' hc hr=>?_;rw[h2]at hv';obtain rfl:=aj hv';refine⟨c,.inr ?_ a (capLook x hx a ha) (hc.keeps keeps),st1.vr rel.hp.live hr⟩;exact(co.cap x hx).2.1.imp id fun q=>⟨q,(co.cap x hx).2.2⟩
end
noncomputable def v4(ifs:List Expr)(env:Env):Sem Bool:=forIn ifs true fun c r=>if r=true then do let ok ←isTrue c env (fu c env);pure (gv ok)else pure (gv r)
noncomputable def kD(G:GC)(k:Nat)(sc:Sc)(cs:List Expr)(σ:St)(Q:Bool->HH->Prop)(X:XP):Prop :=
 ∀fm A fs F s,fm.sc=sc->Ok k A fs->jn G fs fm F σ s->Wp G fs A [] σ.H F s (v4 cs fm.env) (RB Q) ot X
structure iq(e:Expr)(d:Nat)(target iter:Expr)(ifs:List Expr)(emit:Env->Value->Sem Unit):Prop where
 clause:(clausesOf e)[d]?=some ⟨target,iter,ifs,0⟩
 turn:∀it acc env,compTurn e d it acc env=(fV iter.pos >>=fun zz=>mR it >>=fun r=>match r with
  |none=>pure (.done .next)
  |some v=>nD target it v >>=fun zz=>assign target env v >>=fun zz=>v4 ifs env >>=fun ok=>if ok=true then emit env acc >>=fun zz=>again (.compLoop e d it acc env)else again (.compLoop e d it acc env))
 quietS:∀it acc env,(Code.compStart e d it acc env).quiet=true
 quietL:∀it acc env,(Code.compLoop e d it acc env).quiet=true
 denS:∀(M:q7) it acc env,M.den=denote table->M.den (.compStart e d it acc env)=(compStart e d it acc env).onRaise (fun x=>do noteFrame x env;fV theWindowsPlace)
 denL:∀(M:q7) it acc env,M.den=denote table->M.den (.compLoop e d it acc env)=(compTurn e d it acc env).onRaise (fun x=>do noteFrame x env;theTreesLotGoes x)
 underS:∀(A:cA) it acc env,A.under (.compStart e d it acc env)=A
 underL:∀(A:cA) it acc env,A.under (.compLoop e d it acc env)=A
theorem ml(elt target iter:Expr)(ifs:List Expr)(scope:Scope)(pos:Pos) :
  iq (.ListComp elt [⟨target,iter,ifs,0⟩] scope pos) 0 target iter ifs (fun env acc=>do let _ ←call (.builtin "list.append") [acc,←fu elt env]) where
 clause:=rfl
 turn:=fun it acc env=>rfl
 quietS:=fun zz zz zz=>rfl
 quietL:=fun zz zz zz=>rfl
 denS:=fun M it acc env h=>by refine rA h ?_;rfl
 denL:=fun M it acc env h=>by refine rA h ?_;rfl
 underS:=fun A zz zz zz=>rfl
 underL:=fun A zz zz zz=>rfl
theorem ru(kx vx target iter:Expr)(ifs:List Expr)(scope:Scope)(pos:Pos) :
  iq (.DictComp kx vx [⟨target,iter,ifs,0⟩] scope pos) 0 target iter ifs (fun env acc=>do
    let kv ←fu kx env
    let vv ←kA [kv] (fu vx env)
    match acc with
    |.ref d=>do
     fV {kx.pos with endLine:=vx.pos.endLine,endCol:=vx.pos.endCol}
     kA [kv,vv] (dictSet d kv vv)
    |_=>oS "internal:dictcomp") where
 clause:=rfl
 turn:=fun it acc env=>rfl
 quietS:=fun zz zz zz=>rfl
 quietL:=fun zz zz zz=>rfl
 denS:=fun M it acc env h=>by refine rA h ?_;rfl
 denL:=fun M it acc env h=>by refine rA h ?_;rfl
 underS:=fun A zz zz zz=>rfl
 underL:=fun A zz zz zz=>rfl
noncomputable def f9(G:GC)(k:Nat)(sc:Sc)(target:Expr)(ifs:List Expr)(em:St->(St->Prop)->Prop)(J:St->Prop):List V->St->Prop
 |[],σ=>J σ
 |x::xs,σ=>TA G k sc target x σ (fun σ1=>kD G k sc ifs σ1 (fun b H2=>if b=true then em ⟨σ1.m,H2⟩ (fun σ3=>f9 G k sc target ifs em J xs σ3)else ∃H',Sub H' H2/\f9 G k sc target ifs em J xs ⟨σ1.m,H'⟩) NX) NX
noncomputable def yt(G:GC)(k:Nat)(sc:Sc)(emit:Env->Value->Sem Unit)(acc:Value)(em:St->(St->Prop)->Prop):Prop :=
 ∀fm A fs F s σ K,fm.sc=sc->Ok k A fs->jn G fs fm F σ s->em σ K->Wp G fs A fm.own σ.H F s (emit fm.env acc) (RU G fm K) ot NX
section
variable {G:GC}{k:Nat}{sc:Sc}{σ:St}{X:XP}{Q:VP}{H:HH}{fs:List Env}{F:ah->Prop}{s:an}{fm:Fm}
theorem kD.nil{QB:Bool->HH->Prop}(h:QB true σ.H):kD G k sc [] σ QB X:=fun fm A fs F s hsc ok rel=>af (GP.here rel.hp .refl h)
theorem kD.cons{c cs}{QB:Bool->HH->Prop}(h:TT G k sc c σ (fun b H1=>if b then kD G k sc cs ⟨σ.m,H1⟩ QB X else QB false H1) X):kD G k sc (c::cs) σ QB X:=fun fm A fs F s hsc ok rel=>by
 unfold Wp v4;rw[lX,if_pos rfl];refine aa (aa ((h fm A fs F s hsc ok rel).thn .refl (fun b s1 H1 F1 r1 st1 st1' h1=>?_) subs dD));refine af ?_;cases b with
 |true=>exact(h1 fm A fs F1 s1 hsc ok (rel.keeps st1 r1)).fin st1 subs dD
 |false=>
  have:∀cs:List Expr,(forIn cs false fun c r=>if r=true then do let ok ←isTrue c fm.env (fu c fm.env);pure (gv ok)else pure (gv r):Sem Bool)=pure false:=by
   intro cs
   induction cs with
   |nil=>rfl
   |cons c cs ih=>rw[lX,if_neg (by decide)];exact ih
  dsimp only;rw[this];exact af (GP.here r1 st1 h1)
theorem cK.nx{own:List ah}{h0:Heap}{P:Option Value->Prop}{e:Value}(x:cK G fs own H F h0 P NX e s):False:=by
 obtain⟨_,_,_,_,_,_,_,_,_,q⟩:=x;exact q
inductive CEnd(G:GC)(fs:List Env)(fm:Fm)(J:St->Prop)(H0:HH)(F0:ah->Prop)(h0:Heap)(r:rd)(s':an):Prop
 |mk (σ':St) (F':ah->Prop) (e:r=.ok .next) (j:J σ') (q:jn G fs fm F' σ' s') (st:bQ fm.own H0 F0 h0 σ'.H F' s'.heap)
theorem t7{d:Nat}{A:cA}{e target iter:Expr}{ifs:List Expr}{emit:Env->Value->Sem Unit}{em:St->(St->Prop)->Prop}{J:St->Prop}{acc:Value}{H0:HH}{F0:ah->Prop}{h0:Heap}{its:List ah}{it:Value}
  (cf:iq e d target iter ifs emit) (he:yt G k sc emit acc em) (hsc:fm.sc=sc) (hk3:3<=k) (ok:Ok k A fs) :
  ∀(ys:List V) (σ1:St) (F1:ah->Prop) (s1:an),f9 G k sc target ifs em J ys σ1->ir G F1 σ1.H s1.heap target its it ys->jn G fs fm F1 σ1 s1->bQ (its++fm.own) H0 F0 h0 σ1.H F1 s1.heap->(∀b∈its,h0.get? b=none) ->
  gy (bj G.prog G.w) A (.compLoop e d it acc fm.env) (CEnd G fs fm J H0 F0 h0) s1:=by
 intro ys σ1 F1 s1 hfor hit rel1 st1 hf;refine codeAny_loop (cf.quietL _ _ _) (DA G fs fm (f9 G k sc target ifs em J) target its it H0 F0 h0) ?_ ys.length ⟨ys,σ1,F1,rfl,hfor,hit,rel1,st1⟩;clear hfor hit rel1 st1;rintro n s1 ⟨ys,σ1,F1,rfl,hfor,hit,rel1,st1⟩;rw[cf.underL,cf.denL _ _ _ _ rfl,cf.turn];refine wpAny_noted (aK (E:=fun zz zz=>False) ?_ (fun zz zz x=>x) fun zz zz x=>x.elim);refine aa (b7 (aa ?_));have no:∀{own':List ah}{HH':HH}{FF:ah->Prop}{hh:Heap}{P:Option Value->Prop} e s',cK G fs own' HH' FF hh P NX e s'->False:=fun e s' x=>x.nx;cases ys with
 |nil=>
  refine ir.done (ok.handled hk3) rel1.hp hit st1 hf fun h' r' st' k'=>?_;refine af ⟨σ1,F1,rfl,hfor,⟨r',?_⟩,st'⟩;exact rel1.fr.go (fun zz x=>x) (fun b o f e=>k' b o (fun m=>(hit.rest b m).1 f) e) fun b o nf e q1 q2=>⟨.of (k' b o (hit.norec b o e nf) e),q1,q2⟩
 |cons y ys=>
  refine aK (hit.next (A:=A) rel1.hp (E:=fun zz zz=>False)) (fun rr s2 z'=>?_) fun zz zz x=>x;cases rr with
  |none=>exact z'.elim
  |some c=>
  refine aa (aK z' (fun zz s3 z'=>?_) fun zz zz x=>x);obtain⟨F3,r3,gW,hit3,vc⟩:=z';have st13:=st1.trans (gW.mono fun b m=>aC _ m);have rel3:jn G fs fm F3 σ1 s3:=⟨r3,rel1.fr.go gW.fz (fun b o f e=>gW.keepF b o e f) fun b o nf e q1 q2=>⟨gW.keepR b o e q2 (hit.norec b o e nf),gW.rest e q1 q2⟩⟩;refine aa (aK (hfor fm A _ F3 s3 c hsc ok rel3 vc) (fun zz s4 z'=>?_) no);obtain⟨H4,F4,r4,st4',m4,rf4,h4⟩:=z';have st4:=st13.trans (st4'.mono fun b m=>aO _ m);refine aa (aK (h4 fm A fs F4 s4 hsc ok ⟨r4,rf4⟩) (fun okb s5 z'=>?_) no);obtain⟨H5,F5,r5,st5',h5⟩:=z';have st5:=st4.trans (st5'.mono fP);have rf5:=rf4.keeps (s':=s5) st5';have hit4:=hit3.step st4' rel3.fr.ownNf;have hit5:=hit4.step st5' (fun b hb=>nomatch hb);cases okb with
  |false=>
   refine rA (if_neg (by decide)) ?_;refine bx h5 fun H6 hs6 h6=>?_;refine ea (r5.drop hs6) fun r6 st6'=>?_;exact af ⟨rfl,ys.length,by simp,ys,⟨m4,H6⟩,_,rfl,h6,hit5.step st6' (fun b hb=>nomatch hb),⟨r6,rf5.keeps (s':=s5) st6'⟩,st5.trans (st6'.mono fP)⟩
  |true=>
   refine rA (if_pos rfl) ?_;refine aa (aK (he fm A fs F5 s5 ⟨m4,H5⟩ _ hsc ok ⟨r5,rf5⟩ h5) (fun zz s6 z'=>?_) no);obtain⟨H6,F6,r6,st6',m6,rf6,h6⟩:=z';exact af ⟨rfl,ys.length,by simp,ys,⟨m6,H6⟩,F6,rfl,h6,hit5.step st6' rf5.ownNf,⟨r6,rf6⟩,st5.trans (st6'.mono fun b m=>aO _ m)⟩
theorem mq{d:Nat}{A:cA}{e target iter:Expr}{ifs:List Expr}{emit:Env->Value->Sem Unit}{env:Env}{it acc:Value}{R:rd->an->Prop}(cf:iq e d target iter ifs emit)
  (h0:gy (bj G.prog G.w) A (.compLoop e d it acc env) R s) (h:∀(QQ:Value->an->Prop) (EE:Value->an->Prop),QQ it s->aM (bj G.prog G.w) A (tE it) QQ EE s) :
  gy (bj G.prog G.w) A (.compStart e d it acc env) R s:=by
 refine ig ?_;rw[cf.underS,cf.denS _ _ _ _ rfl];refine wpAny_notedAt (aK (E:=fun zz zz=>False) ?_ (fun zz zz x=>x) fun zz zz x=>x.elim);unfold compStart;refine rA cf.clause ?_;show aM _ _ (ask >>=_) _ _ s;refine aa (cm (wpAny_ite ?_));split
 ·first
   |exact aa (af (af (And.intro (cf.quietL _ _ _) h0)))
   |exact af (And.intro (cf.quietL _ _ _) h0)
 ·refine aa (fW ?_)
  first
   |exact aa (b7 (aa (h _ _ (af (And.intro (cf.quietL _ _ _) h0)))))
   |(show aM _ _ (fV iter.pos >>=_) _ _ s;exact aa (b7 (aa (h _ _ (af (And.intro (cf.quietL _ _ _) h0))))))
theorem bB.but(r:bB G fs F H s){C:ah}{h':Heap}(hF:¬F C)(hH:H C=none)(hfr:∀env∈fs,env.frame≠some C)(k:∀b o,b≠C->s.heap.get? b=some o->h'.get? b=some o):bB G fs F H {s with heap:=h'}:=by
 have kF:∀b o,F b->s.heap.get? b=some o->h'.get? b=some o:=fun b o f e=>k b o (fun q=>hF (q▸f)) e;refine⟨fun b o e=>kF b o (r.bF b o e) (r.base b o e),r.bF,fun b f=>by refine ex (r.live b f) fun o e=>?_;exact⟨o,kF b o f e⟩,r.sep,fun b x e=>?_,fun env he=>?_,r.gens,r.os⟩
 ·exact(r.own b x e).mono (fun zz x=>x) kF fun o e'=>k b o (fun q=>by rw[q,hH]at e;exact nS e) e'
 ·obtain⟨k1,L,o,e1,e2,e3,e4,e5,e6⟩:=r.frs env he;exact⟨k1,L,o,e1,e2,k L o (fun q=>hfr env he (by refine rB q ?_;exact e1)) e3,e4,e5,e6⟩
theorem pC{A:cA}{e target iter:Expr}{ifs:List Expr}{emit:Env->Value->Sem Unit}{scope:Scope}{pos:Pos}{newAcc:Sem Value}{acc0:V}{em:ah->St->(St->Prop)->Prop}{use:Option (Value->Sem Unit)}{QQ:Value->an->Prop}{EE:Value->an->Prop}
  {J:ah->St->Prop} (cf:iq e 0 target iter ifs emit) (hs:∀x,cY iter fm.env x=pure x) (co:lj fm.sc scope) (hm:∀x∈eC scope,∃v,σ.m.lookup x=some v) (hk3:3<=k) (ok:Ok k A fs) (rel:jn G fs fm F σ s)
  (hacc:∀(fs:List Env) (F:ah->Prop) (H:HH) (s:an) (EE:Value->an->Prop) (RR:Value->an->Prop),bB G fs F H s->(∀D h',H D=none->s.heap.get? D=none->bB G fs F (upd H D acc0) {s with heap:=h'}->bQ [] H F s.heap (upd H D acc0) F h'->(∀b o,s.heap.get? b=some o->h'.get? b=some o)->RR (.ref D) {s with heap:=h'})->aM (bj G.prog G.w) A newAcc RR EE s)
  (heo:∀D,yt G k (eQ fm.sc scope) emit (.ref D) (em D))
  (hEE:∀e s',cK G fs [] σ.H F s.heap ot X e s'->EE e s')
  (h:TI G k fm.sc target iter σ (fun xs H1=>∀D,H1 D=none->f9 G k (eQ fm.sc scope) target ifs (em D) (J D) xs ⟨rq scope σ.m,upd H1 D acc0⟩) X)
  (hQ:∀(C D:ah) (m':List (Str×V)) (H':HH) (F':ah->Prop) (s':an),J D ⟨m',H'⟩->bB G fs F' H' s'->bQ [] σ.H F s.heap H' F' s'.heap->s.heap.get? C=none->¬F' C->H' C=none->(∃m,s'.heap.Ns C m) ->
   match use with
   |none=>∀h',Heap.SameBut C s'.heap h'->QQ (.ref D) {s' with heap:=h'}
   |some u=>aM (bj G.prog G.w) A (u (.ref D)) (fun zz s''=>(∃m,s''.heap.Ns C m)/\∀h',Heap.SameBut C s''.heap h'->QQ .none {s'' with heap:=h'}) EE s') :
  aM (bj G.prog G.w) A (jB e scope fm.env pos newAcc false (fu iter fm.env) use) QQ EE s:=by
 obtain⟨rest,hcl⟩:∃rest,clausesOf e=⟨target,iter,ifs,0⟩::rest:=by
  have q:=cf.clause;cases hc:clausesOf e with
  |nil=>rw[hc]at q;exact nS q
  |cons g gs=>rw[hc]at q;simp only[List.getElem?_cons_zero,my]at q;exact⟨gs,by exact rA q rfl⟩
 have hclo:closureFor scope fm.env=pure (dL fm.env scope.names []):=o5 fun x hx=>by
  refine ex (hm x hx) fun v hv=>?_;refine bx (rel.fr.vars x v hv) fun c hsl zz=>?_;have hk:=(co.cap x hx).1;rcases hsl with ⟨hl,_⟩|⟨_,a,ha,_⟩
  ·have:fm.sc.kindOf x=some .local:=hl;rcases hk with q|q <;> (rw[this]at q;cases q)
  ·exact⟨a,ha⟩
 refine wpAny_comprehension_free hcl hs hclo co.kind co.loc (aK (h fm A fs F s rfl ok rel) (fun x s1 h1=>aK h1 (fun it s2 h2=>?_) hEE) hEE);obtain⟨H2,F2,its,xs,r2,dE,hit,hf,h2⟩:=h2;refine hacc fs F2 H2 s2 _ _ r2 fun D h3 hD hD0 r3 gW k3=>?_;have st23:=dE.trans gW;have rel3:jn G fs fm F2 ⟨σ.m,upd H2 D acc0⟩ {s2 with heap:=h3}:=rel.keeps (s':={s2 with heap:=h3}) st23 r3;have hit3:=hit.step gW (fun b hb=>nomatch hb);refine xy rel3 co hm fun fc cenv h4 hsc henv hC hCo hown hfr rel4 st4 k4=>?_;have hit4:=hit3.step st4 (fun b hb=>nomatch hb);have back:∀b,h3.get? b=none->s.heap.get? b=none:=fun b e=>st23.none_back e;have hC0:s.heap.get? cenv.locals=none:=back _ hC;refine rB henv ?_;have run:=t7 (acc:=.ref D) (J:=J D) cf (heo D) hsc hk3 ok xs _ _ _ (h2 D hD) hit4 rel4 ((st23.trans st4).mono fP) hf;refine eW (mq cf run fun QQ EE hq=>hit4.self hq) fun r s5 hr=>?_;obtain⟨⟨m5,H5⟩,F5,rfl,hJ,rel5,st5⟩:=hr;have st05:bQ [] σ.H F s.heap H5 F5 s5.heap:=⟨st5.fz,st5.keepF,fun b o e n zz=>st5.keepR b o e n (fun hb=>by rw[back b (hown b hb)]at e;exact nS e),st5.live,st5.nf,st5.fnew,st5.hnew⟩;have hlc:fc.env.locals=cenv.locals:=by exact rA henv rfl
 refine jc (rel5.fr.sep _ hCo) fun q1 q2 zz=>?_;have hns:∃m,s5.heap.Ns cenv.locals m:=by refine rB hlc ?_;exact rel5.fr.ns
 have hfin:=hQ cenv.locals D m5 H5 F5 s5 hJ rel5.hp st05 hC0 q1 q2 hns;unfold compPost;cases use with
 |none=>
  refine ex hns fun m hn=>?_;exact⟨m,hn,fun h' hsb=>hfin h' hsb⟩
 |some u=>exact aK hfin (fun zz s6 z'=>by refine ea z' fun FW q=>?_;obtain⟨m,hn⟩:=FW;exact⟨m,hn,q⟩) fun zz zz x=>x
end
noncomputable def iP(m m':List (Str×V)):Prop:=∀y v,m.lookup y=some v->m'.lookup y=some v
theorem iP.refl{m:List (Str×V)}:iP m m:=fun zz zz e=>e
theorem iP.trans{a b c:List (Str×V)}(x:iP a b)(y:iP b c):iP a c:=fun n v e=>y n v (x n v e)
theorem iP.put{m m':List (Str×V)}{x:Str}{v:V}(h:iP m m')(hn:m.lookup x=none):iP m (put x v m'):=fun y u e=>by
 refine rA jh ?_
 by_cases q:y=x
 ·subst q;rw[hn]at e;exact nS e
 ·refine rA (if_neg q) ?_;exact h y u e
section
variable {G:GC}{k:Nat}{sc:Sc}{σ σ':St}{X:XP}{Q:VP}{H:HH}{fs:List Env}{F:ah->Prop}{s:an}{fm:Fm}
theorem kD.mono{e}{QB QB':Bool->HH->Prop}(h:kD G k sc e σ QB X)(hQ:∀b H,QB b H->QB' b H):kD G k sc e σ QB' X:=fun fm A fs F s hs ok r=>(h fm A fs F s hs ok r).mono (fun zz zz zz zz zz zz b=>hQ _ _ b) (fun zz zz zz x=>x) dD subs
theorem TA.weakM{e v}{QQ:St->Prop}{m:List (Str×V)}(hm:iP m σ.m)(h:TA G k sc e v ⟨m,σ.H⟩ QQ X):TA G k sc e v σ QQ X:=fun fm A fs F s c hsc ok rel vr=>
 h fm A fs F s c hsc ok ⟨rel.hp,rel.fr.kind,rel.fr.glob,rel.fr.blt,rel.fr.code,rel.fr.ns,rel.fr.lown,rel.fr.cells,rel.fr.ocell,rel.fr.inj,rel.fr.sep,fun x v e=>rel.fr.vars x v (hm x v e)⟩ vr
theorem f9.weakM{target ifs em}{J:St->Prop}(hJ:∀m m' H,J ⟨m,H⟩->J ⟨m',H⟩){m:List (Str×V)}:∀{xs:List V}{σ:St},iP m σ.m->f9 G k sc target ifs em J xs ⟨m,σ.H⟩->f9 G k sc target ifs em J xs σ
 |[],σ,hm,h=>hJ _ _ _ h
 |x::xs,σ,hm,h=>TA.weakM hm h
theorem Fh{α:Type}{A:cA}{t:Sem α}{K:St->Prop}(rel:jn G fs fm F σ s)(h:Wp G fs A [] σ.H F s t (fun zz H' zz zz=>K ⟨σ.m,H'⟩) ot NX):Wp G fs A fm.own σ.H F s t (fun zz=>RU G fm K ()) ot NX :=
 aK h (fun zz s' z'=>by obtain⟨H',F',r,st,q⟩:=z';exact⟨H',F',r,st.mono fP,σ.m,rel.fr.keeps (s':=s') st,q⟩) fun zz zz x=>x.nx.elim
inductive PutL(D:ah)(K:List V->V->HH->Prop)(v:V)(H3:HH):Prop
 |mk (ys:List V) (v':V) (H4:HH) (s:Sub H4 H3) (f:gZ H3 H4 (.v v v')) (d:H4 D=some (.lst ys)) (l:ys.length<1000000) (k:K ys v' H4)
inductive PutD(D:ah)(K:Int->List (Int×V)->V->HH->Prop)(a v:V)(H3:HH):Prop
 |mk (i:Int) (ys:List (Int×V)) (v':V) (H4:HH) (e:a=.int i) (s:Sub H4 H3) (f:gZ H3 H4 (.v v v')) (d:H4 D=some (.dct ys)) (l:ys.length<1000000) (k:K i ys v' H4)
inductive rX(J:List V->List V->HH->Prop)(D:ah)(r acc:List V)(v:V)(H3:HH):Prop
 |mk (v':V) (H4:HH) (s:Sub H4 H3) (f:gZ H3 H4 (.v v v')) (d:H4 D=some (.lst acc)) (l:acc.length<1000000) (j:J r (acc++[v']) (upd H4 D (.lst (acc++[v']))))
inductive uR(J:List V->List V->HH->Prop)(r acc:List V)(H2:HH):Prop
 |mk (H4:HH) (s:Sub H4 H2) (j:J r acc H4)
noncomputable def AI(G:GC)(k:Nat)(sc:Sc)(elt:Expr)(D:ah):St->(St->Prop)->Prop:=fun σ K=>
 TE G k sc elt σ (PutL D fun ys v' H4=>K ⟨σ.m,upd H4 D (.lst (ys++[v']))⟩) NX
theorem vk{elt:Expr}{D:ah}:yt G k sc (fun env acc=>do let _ ←call (.builtin "list.append") [acc,←fu elt env]) (.ref D) (AI G k sc elt D):=fun fm A fs F s σ K hsc ok rel h=>Fh rel (by
 refine aa ((h fm A fs F s hsc ok rel).thnV .refl (fun c s1 H1 F1 r1 st1 st1' v va hq__=>?_) subs dD);obtain⟨ys,v',H4,hs,hr,hD,hl,hK⟩:=hq__;have va':=(kC r1 hr).1 _ va;refine ea (r1.drop hs) fun r2 dE=>?_;have ha:=VT.append (k:=k) (Q:=fun v H=>K ⟨σ.m,H⟩) (X:=NX) (x:=v') hD hl hK A fs _ s1 [.ref D,c] ok r2 (.two (.ref D) va');refine aa (ha.thn (st1.trans dE) (fun zz s3 H3 F3 r3 gW st3' z'=>?_) subs dD);obtain⟨_,_,h3⟩:=z';exact af (GP.here r3 gW h3))
noncomputable def emD(G:GC)(k:Nat)(sc:Sc)(kx vx:Expr)(D:ah):St->(St->Prop)->Prop:=fun σ K=>
 TE G k sc kx σ (fun a H2=>TE G k sc vx ⟨σ.m,H2⟩ (PutD D (fun i ys v' H4=>K ⟨σ.m,upd H4 D (.dct (ix ys i v'))⟩) a) NX) NX
theorem C4{kx vx:Expr}{D:ah}:yt G k sc (fun env acc=>do
    let kv ←fu kx env
    let vv ←kA [kv] (fu vx env)
    match acc with
    |.ref d=>do
     fV {kx.pos with endLine:=vx.pos.endLine,endCol:=vx.pos.endCol}
     kA [kv,vv] (dictSet d kv vv)
    |_=>oS "internal:dictcomp") (.ref D) (emD G k sc kx vx D):=fun fm A fs F s σ K hsc ok rel h=>Fh rel (by
 refine aa ((h fm A fs F s hsc ok rel).thnV .refl (fun ic s1 H1 F1 r1 st1 st1' a va h1=>?_) subs dD);refine aa (a9 ((h1 fm A fs F1 s1 hsc ok (rel.keeps st1 r1)).thnV st1 (fun c s2 H2 F2 r2 dE st2' v vv hq__=>?_) subs dD));obtain⟨i,ys,v',H4,ea,hs,hr,hD,hl,hK⟩:=hq__;subst ea;apply va.intE;intro t;have va':=(kC r2 hr).1 _ vv;refine ea (r2.drop hs) fun r3 gW=>?_;dsimp only;refine aa (b7 (a9 ?_));refine cX ((r3.own D _ hD).dct_inv) fun ds hz hl2 vs=>?_;have hlen:=vs.k_length;refine wpAny_dictSet_pairs (dJ _ _ i t) hl2 (fun h' hd hsb=>?_) (by refine rA cr ?_;exact vG hlen hl);obtain⟨r4,st4⟩:=r3.turn (h':=h') (a:=D) (x:=.dct ys) (y:=.dct (ix ys i v')) (s2.toks+1) hD (fun b o n e=>hsb.extBut b o n e) (fun o zz zz=>by
  refine eN hd fun o' es ep ho zz hd' zz=>?_;exact⟨o',ho,f6 hd'⟩) fun k1 k2=>.dct hz hd (pV (k1 _ _ va') (Rl.mono (fun zz x=>x) (fun b o f e=>hsb.extBut b o (fun q=>r3.sep _ _ hD (q▸f)) e) vs fun zz zz e=>by cases e))
 exact GP.here r4 ((dE.trans gW).trans st4) hK)
theorem CR{A:cA}(fs:List Env)(F:ah->Prop)(H:HH)(s:an)(EE:Value->an->Prop)(RR:Value->an->Prop)(r:bB G fs F H s)
  (h:∀D h',H D=none->s.heap.get? D=none->bB G fs F (upd H D (.lst [])) {s with heap:=h'}->bQ [] H F s.heap (upd H D (.lst [])) F h'->(∀b o,s.heap.get? b=some o->h'.get? b=some o)->RR (.ref D) {s with heap:=h'}):aM (bj G.prog G.w) A (newList []) RR EE s:=by
 refine gz ?_;have fr:=bL s.heap;refine ea (r.mine (h':=s.heap.push {cls:=.type "list",data:=.seq ([]:List Value).toArray}) s.toks (.lst []) fr (fun b o e=>Heap.get?_push_of_some _ e) (.lst (cs:=[]) ⟨0,Heap.get?_push_size _ rfl⟩ .nil)) fun r1 st1=>?_;exact h _ _ (r.fresh fr).2 fr r1 st1 fun b o e=>Heap.get?_push_of_some _ e
theorem accD{A:cA}(fs:List Env)(F:ah->Prop)(H:HH)(s:an)(EE:Value->an->Prop)(RR:Value->an->Prop)(r:bB G fs F H s)
  (h:∀D h',H D=none->s.heap.get? D=none->bB G fs F (upd H D (.dct [])) {s with heap:=h'}->bQ [] H F s.heap (upd H D (.dct [])) F h'->(∀b o,s.heap.get? b=some o->h'.get? b=some o)->RR (.ref D) {s with heap:=h'}):aM (bj G.prog G.w) A newDict RR EE s:=by
 simp only[newDict,newObj];refine aa (oU (af ?_));have fr:=bL s.heap;refine ea (r.mine (h':=s.heap.push {cls:=.type "dict",data:=.dict #[]}) s.toks (.dct []) fr (fun b o e=>Heap.get?_push_of_some _ e) (.dct (r.notSys (ax _)) (Heap.DictOf.new _) .knil)) fun r1 st1=>?_;exact h _ _ (r.fresh fr).2 fr r1 st1 fun b o e=>Heap.get?_push_of_some _ e
theorem bQ.freshFrame{C:ah}{H':HH}{F':ah->Prop}{own:List ah}{h0 h1 h2:Heap}(st:bQ own H F h0 H' F' h1)(hC:h0.get? C=none)(hsb:Heap.SameBut C h1 h2):bQ own H F h0 H' F' h2:=by
 have ne:∀b o,h0.get? b=some o->b≠C:=fun b o e q=>by rw[q,hC]at e;exact nS e
 refine⟨st.fz,fun b o e f=>hsb.extBut b o (ne b o e) (st.keepF b o e f),fun b o e n q=>(st.keepR b o e n q).trans fun o1 e1=>.of (hsb.extBut b o1 (ne b o e) e1),fun b o e=>?_,fun b o e n=>?_,st.fnew,st.hnew⟩
 ·refine ex (st.live b o e) fun o' e'=>?_;exact⟨o',hsb.extBut b o' (ne b o e) e'⟩
 ·refine bx (st.nf b o e n) fun o' e' n'=>?_;exact⟨o',hsb.extBut b o' (ne b o e) e',n'⟩
theorem vq{C:ah}(r:bB G fs F H s)(hC:s.heap.get? C=none):∀env∈fs,env.frame≠some C:=fun env he q=>by
 obtain⟨_,L,o,e1,_,e3,_⟩:=r.frs env he;rw[e1]at q;obtain rfl:=aj q;rw[hC]at e3;exact nS e3
theorem yN{elt target iter ifs scope pos}(h:TI G k sc target iter σ (fun xs H1=>∀D,H1 D=none->f9 G k (eQ sc scope) target ifs (AI G k (eQ sc scope) elt D) (fun σc=>Q (.ref D) σc.H) xs ⟨rq scope σ.m,upd H1 D (.lst [])⟩) X)
  (co:autoParam (lr sc scope=true) aR) (hm:autoParam ((eC scope).all (fun x=>(σ.m.lookup x).isSome)=true) aR) (hs:autoParam (∀env x,cY iter env x=pure x) aI)
  (he:autoParam (∀env,fu (.ListComp elt [⟨target,iter,ifs,0⟩] scope pos) env=jB (.ListComp elt [⟨target,iter,ifs,0⟩] scope pos) scope env (mQ [⟨target,iter,ifs,0⟩] pos) (newList []) false (fu iter env) none) aI) (hk3:autoParam (3<=k) aL) :
  TE G k sc (.ListComp elt [⟨target,iter,ifs,0⟩] scope pos) σ Q X:=fun fm A fs F s hsc ok rel=>by
 subst hsc;unfold Wp;rw[he];refine pC (J:=fun D σc=>Q (.ref D) σc.H) (em:=fun D=>AI G k (eQ fm.sc scope) elt D) (ml elt target iter ifs scope pos) (hs _) (lj.of co) (fun x hx=>b5.mp (bJ.mp hm x hx)) hk3 ok rel CR (fun D=>vk) (fun zz zz x=>x) h ?_;intro C D m' H' F' s' hJ r' st' hC hF hH hn h' hsb;exact GP.v (r'.but hF hH (vq rel.hp hC) fun b o n e=>hsb.extBut b o n e) (st'.freshFrame hC hsb) (.ref _) hJ
theorem AB{A:cA}{outer:List Env}{Q:SP}{y:Str}{py:Pos}{C D:ah}{m:List (Str×V)}{H0 H':HH}{F0 F':ah->Prop}{s0 s':an}(ok:Ok k A (fm.env::outer))(rel:jn G (fm.env::outer) fm F0 ⟨m,H0⟩ s0)
  (hJ:TA G k fm.sc (.Name y py) (.ref D) ⟨m,H'⟩ (fun σ'=>Q .next σ') NX) (r':bB G (fm.env::outer) F' H' s') (st':bQ [] H0 F0 s0.heap H' F' s'.heap) (hC:s0.heap.get? C=none) (hF:¬F' C) (hH:H' C=none) (hn:∃m,s'.heap.Ns C m) :
  aM (bj G.prog G.w) A (jq (.Name y py) fm.env (.ref D)) (fun zz s''=>(∃m,s''.heap.Ns C m)/\∀h',Heap.SameBut C s''.heap h'->GP G (fm.env::outer) fm.own H0 F0 s0.heap (RS G fm Q) .next {s'' with heap:=h'})
   (cK G (fm.env::outer) fm.own H0 F0 s0.heap (rc fm.env) X) s':=by
 have rf:=rel.fr.keeps (s':=s') st';refine aK (hJ fm A _ F' s' (.ref D) rfl ok ⟨r',rf⟩ (.ref D)) (fun zz s2 z'=>?_) fun e s2 x=>x.nx.elim;obtain⟨H2,F2,r2,dE,m2,rf2,hq⟩:=z';have hCo:C∉fm.own:=fun hm=>by refine m9 (rel.fr.sep C hm) fun zz zz o e zz=>?_;rw[hC]at e;exact nS e
 refine ex hn fun mn hn=>?_;have hn':=id hn;refine hY hn' fun oC es ep hoC hd zz=>?_;refine ea (dE.rest hoC hF hH) fun q1 q2=>?_;refine⟨⟨mn,Heap.Ns.upTo hn fun o e=>dE.keepR C o e hH hCo⟩,fun h' hsb=>?_⟩;have st02:bQ fm.own H0 F0 s0.heap H2 F2 s2.heap:=(st'.mono fP).trans dE;refine GP.here (r2.but q1 q2 (vq rel.hp hC) fun b o n e=>hsb.extBut b o n e) (st02.freshFrame hC hsb) ⟨m2,.next,?_,.next,hq⟩;have neC:∀b o,b≠C->s2.heap.get? b=some o->h'.get? b=some o:=fun b o n e=>hsb.extBut b o n e;have hlc:fm.env.locals≠C:=fun q=>hCo (q▸rel.fr.lown);have hcc:∀x a,fm.env.cells.lookup x=some a->a≠C:=fun x a e q=>by
  refine ea (rel.fr.cells x a e) fun FW zz=>?_;refine jx FW fun v o ho zz=>?_;rw[q,hC]at ho;exact nS ho
 refine⟨rf2.kind,rf2.glob,rf2.blt,rf2.code,?_,rf2.lown,fun x a e=>?_,rf2.ocell,rf2.inj,fun a ha=>?_,fun x v e=>?_⟩
 ·refine ex rf2.ns fun mc hn=>?_;exact⟨mc,hn.sameBut hsb hlc⟩
 ·refine ea (rf2.cells x a e) fun FY hr=>?_;refine ex FY fun v hv=>?_;exact⟨⟨v,hv.sameBut hsb (hcc x a e)⟩,hr⟩
 ·refine m9 (rf2.sep a ha) fun h1 h2 o ho nf=>?_;exact⟨h1,h2,o,neC a o (fun q=>hCo (q▸ha)) ho,nf⟩
 ·refine bx (rf2.vars x v e) fun c hs hv=>?_;refine⟨c,?_,hv.mono (fun zz x=>x) fun b o f e=>neC b o (fun q=>q1 (q▸f)) e⟩;rcases hs with ⟨hl,mc,hn,hm⟩|⟨hl,a,hc,hcell⟩
  ·exact .inl hl mc (hn.sameBut hsb hlc) hm
  ·exact .inr hl a hc (hcell.sameBut hsb (hcc x a hc))
theorem uZ{Q:SP}{y py elt target iter ifs scope pos spos}(h:TI G k sc target iter σ (fun xs H1=>∀D,H1 D=none->f9 G k (eQ sc scope) target ifs (AI G k (eQ sc scope) elt D) (fun σc=>TA G k sc (.Name y py) (.ref D) ⟨σ.m,σc.H⟩ (fun σ'=>Q .next σ') NX) xs ⟨rq scope σ.m,upd H1 D (.lst [])⟩) X)
  (hsw:∀env:Env,env.scope=sc.scope->eV (.ListComp elt [⟨target,iter,ifs,0⟩] scope pos) (some (.Name y py)) spos.line env=pure true)
  (co:autoParam (lr sc scope=true) aR) (hm:autoParam ((eC scope).all (fun x=>(σ.m.lookup x).isSome)=true) aR) (hs:autoParam (∀env x,cY iter env x=pure x) aI)
  (he:autoParam (∀env use,evalThenUse (.ListComp elt [⟨target,iter,ifs,0⟩] scope pos) env use=(do let _ ←jB (.ListComp elt [⟨target,iter,ifs,0⟩] scope pos) scope env (mQ [⟨target,iter,ifs,0⟩] pos) (newList []) false (fu iter env) (some use))) aI) (hk3:autoParam (3<=k) aL) :
  TS G k sc (.Assign [.Name y py] (.ListComp elt [⟨target,iter,ifs,0⟩] scope pos) spos) σ Q X:=fun fm A outer F s hsc ok rel=>by
 subst hsc;unfold Wp;rw[exec_Assign_Name_used _ _ _ _ (hsw fm.env rfl),he];refine aa (b7 (aa (aa ?_)));refine aK (pC (use:=some (jq (.Name y py) fm.env)) (QQ:=fun zz s'=>GP G (fm.env::outer) fm.own σ.H F s.heap (RS G fm Q) .next s') (EE:=cK G (fm.env::outer) fm.own σ.H F s.heap (rc fm.env) X)
  (J:=fun D σc=>TA G k fm.sc (.Name y py) (.ref D) ⟨σ.m,σc.H⟩ (fun σ'=>Q .next σ') NX) (em:=fun D=>AI G k (eQ fm.sc scope) elt D) (ml elt target iter ifs scope pos) (hs _) (lj.of co) (fun x hx=>b5.mp (bJ.mp hm x hx)) hk3 ok rel CR (fun D=>vk) (fun zz zz x=>x.from .refl fP gH) h ?_) (fun zz s' q=>af (af q)) fun zz zz x=>x
 intro C D m' H' F' s' hJ r' st' hC hF hH hn;exact AB ok rel hJ r' st' hC hF hH hn
theorem uY{Q:SP}{y py kx vx target iter ifs scope pos spos}(h:TI G k sc target iter σ (fun xs H1=>∀D,H1 D=none->f9 G k (eQ sc scope) target ifs (emD G k (eQ sc scope) kx vx D) (fun σc=>TA G k sc (.Name y py) (.ref D) ⟨σ.m,σc.H⟩ (fun σ'=>Q .next σ') NX) xs ⟨rq scope σ.m,upd H1 D (.dct [])⟩) X)
  (hsw:∀env:Env,env.scope=sc.scope->eV (.DictComp kx vx [⟨target,iter,ifs,0⟩] scope pos) (some (.Name y py)) spos.line env=pure true)
  (co:autoParam (lr sc scope=true) aR) (hm:autoParam ((eC scope).all (fun x=>(σ.m.lookup x).isSome)=true) aR) (hs:autoParam (∀env x,cY iter env x=pure x) aI)
  (he:autoParam (∀env use,evalThenUse (.DictComp kx vx [⟨target,iter,ifs,0⟩] scope pos) env use=(do let _ ←jB (.DictComp kx vx [⟨target,iter,ifs,0⟩] scope pos) scope env (mQ [⟨target,iter,ifs,0⟩] pos) newDict false (fu iter env) (some use))) aI) (hk3:autoParam (3<=k) aL) :
  TS G k sc (.Assign [.Name y py] (.DictComp kx vx [⟨target,iter,ifs,0⟩] scope pos) spos) σ Q X:=fun fm A outer F s hsc ok rel=>by
 subst hsc;have hex:exec (.Assign [.Name y py] (.DictComp kx vx [⟨target,iter,ifs,0⟩] scope pos) spos) fm.env=(do
   fV spos
   evalThenUse (.DictComp kx vx [⟨target,iter,ifs,0⟩] scope pos) fm.env (jq (.Name y py) fm.env)
   return .next):=exec_Assign_Name_used _ _ _ _ (hsw fm.env rfl)
 unfold Wp;rw[hex,he];refine aa (b7 (aa (aa ?_)));refine aK (pC (use:=some (jq (.Name y py) fm.env)) (QQ:=fun zz s'=>GP G (fm.env::outer) fm.own σ.H F s.heap (RS G fm Q) .next s') (EE:=cK G (fm.env::outer) fm.own σ.H F s.heap (rc fm.env) X)
  (J:=fun D σc=>TA G k fm.sc (.Name y py) (.ref D) ⟨σ.m,σc.H⟩ (fun σ'=>Q .next σ') NX) (em:=fun D=>emD G k (eQ fm.sc scope) kx vx D) (ru kx vx target iter ifs scope pos) (hs _) (lj.of co) (fun x hx=>b5.mp (bJ.mp hm x hx)) hk3 ok rel accD (fun D=>C4) (fun zz zz x=>x.from .refl fP gH) h ?_) (fun zz s' q=>af (af q)) fun zz zz x=>x
 intro C D m' H' F' s' hJ r' st' hC hF hH hn;exact AB ok rel hJ r' st' hC hF hH hn
end
section
open PySem PySem.W PySem.Calls PyProof.Rows Builtin Builtin.ObjectAttr
noncomputable def Fj:Value->Bool
 |.ref _=>true
 |_=>false
noncomputable def kO(l:List Value):Bool:=l.dropWhile Fj==[.type "Exception",.type "BaseException",.type "object"]
theorem Bs{v:Value}(h:Fj v=true):∃a,v=.ref a:=by
 cases v with
 |ref a=>exact⟨a,rfl⟩
 |_=>exact absurd h cD
theorem jG{P:List Value->Prop}(h0:P [.type "Exception",.type "BaseException",.type "object"])(h1:∀a r,P r->P (.ref a::r)):∀l,kO l=true->P l
 |[],e=>absurd e cD
 |v::r,e=>by
  cases q:Fj v with
  |true=>exact(Bs q).elim fun a z=>z▸h1 a r (jG h0 h1 r ((congrArg (fun b=>(match b with|true=>r.dropWhile Fj|false=>v::r)==_) q).symm.trans e))
  |false=>
   have z:v::r=_:=eq_of_beq ((congrArg (fun b=>(match b with|true=>r.dropWhile Fj|false=>v::r)==_) q).symm.trans e);exact z▸h0
theorem vO(self:Value):∀{l:List Value},kO l=true->refuseLoop self "__setattr__" l=pure ():=fun{l} e=>
 jG (P:=fun l=>refuseLoop self "__setattr__" l=pure ()) (PySem.F.store_Exception.passes self) (fun a r h=>(refuseLoop_ref ..).trans h) l e
theorem en{l:List Value}(e:kO l=true){T:String}{b:Bool}(h:[iF "Exception",.type "BaseException",.type "object"].contains (.type T)=b):l.contains (.type T)=b :=
 jG (P:=fun l=>l.contains (.type T)=b) h (fun zz zz h=>h) l e
theorem qx{l:List Value}(e:kO l=true):l.isEmpty=false:=jG (P:=fun l=>l.isEmpty=false) rfl (fun zz zz zz=>rfl) l e
noncomputable def lN(K:kB)(C:ah):Bool:=(clsIn K C).any fun cd=>kO cd.mro
section
variable {prog:ei}{w:iC}{A:cA}{K:kB}{C x:ah}{s:an}{R:rd->an->Prop}
theorem so{ox:Obj}{od:Option Obj}{name:Str}{tk:Tok}{v:Value}(X:K.In s.heap)(I:InstAt s.heap x ox C od)(hp:lN K C=true)(ht:takerIn K C name=some none)
  (h:∀b,aM (bj prog w) A.in1 (storeInOwnDict (.ref x) (.ref C) (.str name tk) name v b)
   (fun fin s'=>match fin with|.done f=>R (.ok f) s'|.again c'=>c'.quiet=true/\gy (bj prog w) A c' R s') (fun e s'=>R (.error e) s') s) :
  gy (bj prog w) A (.call (.builtin "object.__setattr__") ⟨[.ref x,.str name tk,v],[]⟩) R s:=by
 have SF:=PySem.F.store_object;refine bx (oY hp) fun cd hc ho=>?_;have ne:cd.mro.isEmpty=false:=qx ho;have sub:Looks (bj prog w) s.heap (isInstance (.ref x) (.type "object")) true:=I.type.andThen (looks_mroIn X (by unfold mroIn;rw[hc,kW,if_neg (by refine rA ne ?_;decide),en ho (T:="object") (b:=true) (by decide)]));refine gM SF.slot.plain SF.entry (@check_slot (bj prog w) _ _ s "object.__setattr__" "object" "__setattr__" (.ref x) [.str name tk,v] [] _ SF.kind SF.split sub (SF.args (.ref x) (.str name tk) v) ?_);refine bx (gO.mp ht) fun attr ha hr=>?_;have hm:Looks (bj prog w) s.heap (mroOf (.ref C)) cd.mro:=(looks_clsIn X hc).andThen .now;have L3:Looks (bj prog w) s.heap (storeTaker? attr) none:=by
  cases attr with
  |none=>exact .now
  |some a=>
   refine bx (dg.mp hr) fun b hb e=>?_;refine(looks_takesIn X hb).andThen ?_;cases b <;> first|exact .now|exact nS e.symm
 rw[osa_eq,refuse_eq];refine aa (aa (I.type.here (aa (hm.here ?_))));refine rA (vO _ ho) ?_;refine af (aa (I.type.here (aa ((fX X ha).here (aa (L3.here ?_))))));exact h _
end
section
variable {G:GC}{k:Nat}{sc:Sc}{σ:St}{X:XP}{Q:VP}{H:HH}{fs:List Env}{F:ah->Prop}{s:an}
theorem yV{name:Str}{a d c:ah}{x:V}{xs:List (Str×V)}{QH:HH->Prop}(hp:lN G.K c=true)(ht:takerIn G.K c name=some none)(hs:fj G.K (.ref c) "__setattr__"=some (some (.builtin "object.__setattr__")))(hh:mB G.K c=true)
  (ha:H a=some (.exn c (some d))) (hd:H d=some (.adict xs)) (hn:(xs.map (·.1)).Nodup) (hl:xs.length<=100) (h:QH (upd H d (.adict (put name x xs)))):UT G k (qU name) [x,.ref a] H QH X:=fun A fs F s cs ok r vr=>by
 apply vr.elim2;intro cv oc vx vo;obtain rfl:=vo.ref_inv;refine cX ((r.own a _ ha).exn_inv) fun vs hx hsz h1=>?_;refine cX ((r.own d _ hd).adict_inv) fun m hns hm rf=>?_;refine bx (lP hns) fun od hod hlk=>?_;have I:InstAt s.heap a {cls:=.ref c,dict:=some d,data:=.fields vs,slots:=#[]} c (some od):=⟨hx,rfl,rfl,hod⟩;refine set_plain r.kin I hs ?_;refine so (s:={s with toks:=s.toks+1}) r.kin I hp ht fun b=>?_;refine bx (oY hh) fun cd hc hd'=>?_;refine aa (af (aa (aa (k9 hx (aa (looks_clsIn (h:=s.heap) r.kin hc _ _ _ _ (fun zz zz e=>e) ?_))))));refine rA hd' ?_;refine af (a:=some d) (aa (af (aa ?_)));refine wpAny_nsSet1 hns fun h' hn' hsb=>?_;refine hY (hn'.count (Within.cons name cv (sB hm))) fun oD esD epD hoD hdD hcD=>?_;refine aa (tF hoD (by refine rA hdD ?_;exact tD (by simp only[aF,ae]at hcD;refine rA cr ?_;exact L2 (Ra N0 (Kn 100) (Ra N1 M0 (Gn N1 (Pn (Kn 16777216) (Kn 1))))) rfl hl hcD)) (af ?_));obtain⟨r1,st1⟩:=r.turn (h':=h') (a:=d) (x:=.adict xs) (y:=.adict (put name x xs)) (s.toks+1+1) hd (fun b o n e=>hsb.extBut b o n e) (fun o zz zz=>⟨oD,hoD,f6 hdD⟩) fun k1 k2=>
  .adict hn' (fun n e=>by refine rA (if_neg (nt e).1) ?_;exact hm n (nt e).2) (pU (k1 _ _ vx) hn (Rl.mono (fun zz x=>x) (fun b o f e=>hsb.extBut b o (fun q=>r.sep _ _ hd (q▸f)) e) rf fun zz zz e=>by cases e))
 exact GP.here r1 st1 h
theorem yU{name:Str}{a c:ah}{x:V}{QH:HH->Prop}(hp:lN G.K c=true)(ht:takerIn G.K c name=some none)(hs:fj G.K (.ref c) "__setattr__"=some (some (.builtin "object.__setattr__")))(hh:mB G.K c=true)
  (ha:H a=some (.exn c none)) (h:∀d,H d=none->d≠a->QH (upd (upd H d (.adict [(name,x)])) a (.exn c (some d)))):UT G k (qU name) [x,.ref a] H QH X:=fun A fs F s cs ok r vr=>by
 apply vr.elim2;intro cv oc vx vo;obtain rfl:=vo.ref_inv;refine cX ((r.own a _ ha).exn_inv) fun vs hx hsz h1=>?_;have I:InstAt s.heap a {cls:=.ref c,dict:=none,data:=.fields vs,slots:=#[]} c none:=⟨hx,rfl,rfl,trivial⟩;refine set_plain r.kin I hs ?_;refine so (s:={s with toks:=s.toks+1}) r.kin I hp ht fun b=>?_;refine bx (oY hh) fun cd hc hd'=>?_;refine aa (af (aa (aa (k9 hx (aa (looks_clsIn (h:=s.heap) r.kin hc _ _ _ _ (fun zz zz e=>e) ?_))))));refine rA hd' ?_;have hxs:a≠s.heap.objs.size:=cV (Heap.lt_size hx);refine rA (if_neg (by decide)) ?_;dsimp only;refine rA (if_neg (by simp[typeHasDict])) ?_;have hx₁:(s.heap.push {cls:=.type "dict",data:=.dict #[]}).get? a=some {cls:=.ref c,dict:=none,data:=.fields vs,slots:=#[]}:=Heap.get?_push_of_some _ hx;refine aa (wpAny_alloc' ?_);refine aa (wpAny_update' hx₁ ?_);refine af ?_;have fr:=bL s.heap;have g2:((s.heap.push {cls:=.type "dict",data:=.dict #[]}).update a fun o=>{cls:=o.cls,dict:=some s.heap.objs.size,data:=o.data,slots:=o.slots}).get? a=some {cls:=.ref c,dict:=some s.heap.objs.size,data:=.fields vs,slots:=#[]} :=
  Heap.get?_update_self _ hx₁ rfl
 have hgd:((s.heap.push {cls:=.type "dict",data:=.dict #[]}).update a fun o=>{cls:=o.cls,dict:=some s.heap.objs.size,data:=o.data,slots:=o.slots}).get? s.heap.objs.size
   =some {cls:=.type "dict",data:=.dict #[]}:=(Heap.get?_update_ne _ _ _ _ hxs.symm).trans (Heap.get?_push_at rfl rfl)
 have hnd:((s.heap.push {cls:=.type "dict",data:=.dict #[]}).update a fun o=>{cls:=o.cls,dict:=some s.heap.objs.size,data:=o.data,slots:=o.slots}).Ns s.heap.objs.size (fun zz=>none) :=
  ⟨_,#[],_,hgd,rfl,fun e he=>absurd he (by simp),fun zz=>rfl⟩
 refine ea (r.mine (h':=s.heap.push mA) (s.toks+1) (.adict []) fr (fun b o e=>Heap.get?_push_of_some _ e) (.adict (m:=fun zz=>none) (Heap.Ns1.of_empty (Heap.Ns.new s.heap (.type "dict"))) (fun zz zz=>rfl) .fnil)) fun r1 st1=>?_;have ha1:upd H s.heap.objs.size (.adict []) a=some (.exn c none):=by refine rA (bE hxs) ?_;exact ha
 obtain⟨r2,dE⟩:=r1.turn (h':=(s.heap.push {cls:=.type "dict",data:=.dict #[]}).update a fun o=>{cls:=o.cls,dict:=some s.heap.objs.size,data:=o.data,slots:=o.slots}) (y:=.exn c (some s.heap.objs.size)) (s.toks+1) ha1
  (fun b o n e=>(Heap.get?_update_ne _ _ _ _ n).trans e) (fun o e n=>by have e:(s.heap.push {cls:=.type "dict",data:=.dict #[]}).get? a=some o:=e;rw[hx₁]at e;obtain rfl:=aj e;exact absurd rfl (n vs)) fun zz zz=>.exn ⟨vs,g2,hsz,h1⟩
 unfold storeInDict newKeyGuard;refine aa (af (aa (wpAny_nsSet1 (Heap.Ns1.of_empty hnd) fun h' hn' hs=>?_)));refine hY (hn'.count (Within.cons name cv Within.nil)) fun oD esD epD hoD hdD hcD=>?_;refine aa (tF hoD (by refine rA hdD ?_;exact tD (a8 hcD (by refine rA aF (rA cG (rA cr ?_));exact dU _ _))) (af ?_));have hd2:upd (upd H s.heap.objs.size (.adict [])) a (.exn c (some s.heap.objs.size)) s.heap.objs.size=some (.adict []):=by exact rA (bE hxs.symm) (rA aw rfl)
 obtain⟨r3,gW⟩:=r2.turn (h':=h') (y:=.adict [(name,x)]) (s.toks+1+1) hd2 (fun b o n e=>hs.extBut b o n e) (fun o zz zz=>⟨oD,hoD,f6 hdD⟩) fun k1 k2=>
  .adict hn' (fun n e=>by
   by_cases q:n=name
   ·subst q;simp[aZ]at e
   ·exact rA (if_neg q) rfl) (.fcons (by simp) (k1 _ _ (dE.vr r1.live (st1.vr r.live vx))) .fnil)
 have e4:upd (upd (upd H s.heap.objs.size (.adict [])) a (.exn c (some s.heap.objs.size))) s.heap.objs.size (.adict [(name,x)])=upd (upd H s.heap.objs.size (.adict [(name,x)])) a (.exn c (some s.heap.objs.size)):=by
  funext b
  unfold upd
  by_cases q:b=s.heap.objs.size
  ·subst q;exact rA (if_pos rfl) (rA (if_neg hxs.symm) (rA (if_pos rfl) rfl))
  ·refine rA (if_neg q) ?_
   by_cases q2:b=a
   ·exact rA (if_pos q2) (rA (if_pos q2) rfl)
   ·exact rA (if_neg q2) (rA (if_neg q2) (rA (if_neg q) (rA (if_neg q) rfl)))
 rw[e4]at r3 gW;exact GP.here r3 ((st1.trans dE).trans gW) (h _ (r.fresh fr).2 hxs.symm)
inductive yu(f:ah->Option Obj)(C:ah):Prop
 |mk (nm q:Str) (N:ah) (bs bm:List Value) (hdct:Bool) (sn:List Str) (sub:List Value) (ab:Bool) (col:Option Bool) (dd:Option ah) (k0 k1 k2 k3 k5:Option Value) (h:f C=some (oO nm q C N bs bm hdct sn sub ab col dd k0 k1 k2 k3 k5 "Exception.__new__")) (hb:kO bm=true)
theorem yu.up{f g:ah->Option Obj}{C:ah}(k:∀b o,f b=some o->g b=some o)(x:yu f C):yu g C:=by
 obtain⟨nm,q,N,bs,bm,hdct,sn,sub,ab,col,dd,k0,k1,k2,k3,k5,h,hb⟩:=x;exact⟨nm,q,N,bs,bm,hdct,sn,sub,ab,col,dd,k0,k1,k2,k3,k5,k _ _ h,hb⟩
noncomputable def Ci:Data->Option ClassData
 |.cls cd=>some cd
 |_=>none
theorem zd{d:Data}{cd:ClassData}(h:Ci d=some cd):d=.cls cd:=by
 cases d with
 |cls c=>exact congrArg _ (aj h)
 |_=>exact nS h
noncomputable def nW(K:kB)(C:ah):Bool:=(K.lookup C).any fun o=>(Ci o.data).any fun cd=>
 o.cls==.type "type"&&(!cd.hasDel&&(cd.mro==.ref C::cd.mro.tail&&(kO cd.mro.tail&&o.slots== #[o.slots.getD 0 none,o.slots.getD 1 none,o.slots.getD 2 none,o.slots.getD 3 none,some (.builtin "Exception.__new__"),o.slots.getD 5 none])))
theorem xE{o:Obj}{cd:ClassData}{C:ah}{bm:List Value}{k0 k1 k2 k3 k5:Option Value}(h1:o.cls=.type "type")(h2:o.data=.cls cd)(h3:cd.hasDel=false)(h4:cd.mro=.ref C::bm)(h5:o.slots=#[k0,k1,k2,k3,some (.builtin "Exception.__new__"),k5]) :
  o=oO cd.name cd.qualname C cd.ns cd.bases bm cd.hasDict cd.slotNames cd.subclasses cd.abstract cd.collection o.dict k0 k1 k2 k3 k5 "Exception.__new__":=by
 cases o;cases cd;cases h1;cases h2;cases h3;cases h4;cases h5;rfl
theorem ExcCls.of{K:kB}{C:ah}(h:nW K C=true):yu (fun b=>K.lookup b) C:=by
 refine bx (oY h) fun o ho h=>?_;refine bx (oY h) fun cd hd h=>?_;have h:=aP.mp h;have h2:=aP.mp h.2;have h3:=aP.mp h2.2;have h4:=aP.mp h3.2;exact⟨cd.name,cd.qualname,cd.ns,cd.bases,cd.mro.tail,cd.hasDict,cd.slotNames,cd.subclasses,cd.abstract,cd.collection,o.dict,_,_,_,_,_,ho.trans (congrArg some (xE (eq_of_beq h.1) (zd hd) (ku _▸h2.1) (eq_of_beq h3.1) (eq_of_beq h4.2))),h4.1⟩
theorem xd{C fI:ah}{vs:List V}{H:HH}(hC:nW G.K C=true)(hi:fj G.K (.ref C) "__init__"=some (some (.ref fI)))(hf:typeIn G.K (.ref fI)=some (.type "function"))(hl:vs.length<=1000)
  (h:∀a,H a=none->CT G k (.ref fI) (.ref a::vs) (upd H a (.exn C none)) (fun v H'=>v=.none/\Q (.ref a) H') X) :
  CT G (k+1) (.ref C) vs H Q X:=fun A fs F s cs ok r vr=>by
 obtain⟨hh,g,dr,t,os⟩:=s;obtain⟨nm,q,N,bs,bm,hdct,sn,sub,ab,col,dd,k0,k1,k2,k3,k5,ho,hb⟩:=ExcCls.of hC;have hlen:=vr.length;refine xw rV ⟨en hb (by decide),en hb (by decide),en hb (by decide),en hb (by decide)⟩ (r.kin _ _ ho) (fX r.kin hi) (fun self=>bind_fn r.kin self hf) (fun h' e hm=>?_) (by refine rA hlen (rA cr ?_);exact z8 hl);refine cX hm.there fun tt g1 g2 g3=>?_;refine ea (r.mine (h':=h') t (.exn C none) hm.new hm.keeps (.exn ⟨_,g1,rfl,rfl⟩)) fun r1 st1=>?_;have hrun:=h e (r.fresh hm.new).2 (A.under (.builtin "type.__call__" ⟨.ref C::cs,[]⟩)) fs F ⟨h',g,dr,t,os⟩ (.ref e::cs) (ok.make C cs) r1 (.cons (.ref _) (st1.vrs vr));refine eW hrun fun rr s' z=>?_;rcases rr with e|(_|_|_|v)
 ·exact z.from st1 subs dD
 ·exact z
 ·exact z
 ·exact z
 ·obtain⟨H2,F2,r3,gW,v2,vv,rfl,q⟩:=z;obtain rfl:=vv.none_inv;exact⟨rfl,H2,F2,r3,st1.trans gW,_,.ref _,q⟩
theorem yO{o name apos args pos T m}(h:TE G k sc o σ (fun ov H1=>ov=.glob (.type T)/\pq G k sc args ⟨σ.m,H1⟩ (fun vs H2=>VT G k (dm m) vs H2 Q X) X) X)
  (ht:typeOf (.type T)=pure (.type "type")) (hst:Manifest.isStub T=false) (e:findCls G.K (.type T) (.type "type") name=some (.val m)) (hh:handedIn m=true) (hc:gD G.K m)
  (hl:autoParam (apos.endLine=pos.line) aR) (hn:autoParam (args.length<29) aD) (ha:autoParam (∀env whole,q8 o name env whole=whole) aI)
  (hp:autoParam (∀env,(cL args env).any (·.1)=false) aI):TE G k sc (.Call (.Attribute o name apos) args [] pos) σ Q X:=fun fm A fs F s hsc ok rel=>by
 unfold Wp;rw[arm_eval_Call,ha];refine aa ((h fm A fs F s hsc ok rel).thnV .refl (fun c s1 H1 F1 r1 st1 st1' ov va hq__=>?_) subs dD);refine ea hq__ fun hf h1=>?_;subst hf;obtain rfl:=va.glob_inv;refine aa (b7 ?_);have hform:oP (args.length+([]:List Keyword).length) (jr pos (cL args fm.env)) (oN pos (jM [] fm.env))=true:=by
  unfold oP;rw[show(jr pos (cL args fm.env)).all (!·.1)=true from by
   refine rA List.all_eq_not_any_not ?_;simp only[Bool.not_not];refine rA (n7 (hp fm.env)) ?_;rfl]
  refine rA (show jM [] fm.env=[] from rfl) ?_;simp only[oN,gw,List.all_nil,List.isEmpty_nil,if_true,cG,Nat.add_zero,gN];exact decide_eq_true (by exact rC hn)
 unfold methodCall;refine rA hform ?_;refine aa (a9 ?_);show aM _ _ (pi (.type T) name _) _ _ _;have hstub:tC (.type T)=pure none:=by unfold tC;dsimp only;refine rA hst ?_;rfl
 have L0:Looks (bj G.prog G.w) s1.heap (typeOf (.type T)) (.type "type"):=nC ht;have hg:fj G.K (.type "type") "__getattribute__"=some (some (.builtin "type.__getattribute__")):=type_tga;unfold pi specialOf;refine aa (aa (L0.here ((fX r1.kin hg).here ?_)));dsimp only;refine rA (if_pos canon_tga) ?_;have LO:Looks (bj G.prog G.w) s1.heap (tC (.type T)) none:=nC hstub;refine aa (aK (Q:=fun v s'=>v=m/\s'={s1 with toks:=s1.toks+1}) (E:=fun zz zz=>False) ?_ (fun v s' hv=>?_) fun zz zz x=>x.elim)
 ·exact cls_open r1.kin LO L0 hg (looks_hook r1.kin (r:=none) (by rfl)) (by show subIn G.K _ _=_;rfl) e (af (by show aM _ _ (handedOut m) _ _ _;refine rA (handedOut_of hh) ?_;exact af ⟨rfl,rfl⟩))
 refine ea hv fun FW FY=>?_;clear hv;subst FW;subst FY;refine af ?_;refine aa ?_;unfold methodCallPos;refine rA (if_pos (by simp[hl])) ?_;refine af ?_;have r1':=r1.toks (s1.toks+1);have st1'':bQ [] σ.H F s.heap H1 F1 ({s1 with toks:=s1.toks+1}:an).heap:=st1;refine lM (first:=[]) hc (hp _) ?_;refine(h1 fm A fs F1 {s1 with toks:=s1.toks+1} pos hsc ok ⟨r1',rel.fr.keeps (s':={s1 with toks:=s1.toks+1}) st1''⟩).thnVs st1'' (fun cs s2 H2 F2 r2 dE st2' vs vv h2=>?_) subs dD;exact⟨r2.kin,(h2 A fs F2 s2 cs ok r2 vv).fin dE subs dD⟩
set_option tactic.hygienic true in
theorem u1{a c:ah}{d:Option ah}{x:V}{H:HH}(hC:nW G.K c=true)(ha:H a=some (.exn c d))(h:Q .none H):VT G k (dm (.builtin "Exception.__init__")) [.ref a,x] H Q X:=fun A fs F s cs ok r vr=>by
 apply vr.elim2;intro oc cv vo vx;obtain rfl:=vo.ref_inv;refine cX ((r.own a _ ha).exn_inv) fun vs hx hsz h1=>?_;obtain⟨nm,q,N,bs,bm,hdct,sn,sub,ab,col,dd,k0,k1,k2,k3,k5,ho,hb⟩:=ExcCls.of hC;have hCh:=r.kin _ _ ho;have FX:=rV;obtain⟨hh,g,dr,t,os⟩:=s;have hcB:(cp c::bm).contains (.type "Exception")=true:=by rw[gV,en hb (T:="Exception") (b:=true) (by decide),Bool.or_true]
 have hshort:=FX.noStar;have check:∀{M:q7}{A:cA}{E:Value->an->Prop}{Q:Unit->an->Prop},Q () ⟨hh,g,dr,t,os⟩->aM M A (jt "Exception.__init__" ⟨[.ref a,cv],[]⟩) Q E ⟨hh,g,dr,t,os⟩:=fun{M A E Q} hq=>by
  simp only[jt,FX.initKind,FX.initSplit,FX.initRow]
  repeat (first|(with_reducible refine d5 hx ?_)|with_reducible refine d5 hCh ?_|(with_reducible refine km hCh ?_;refine rA hcB ?_)|wp_step)
  exact hq
 obtain⟨v0,hv0⟩:∃v0,vs[0]?=some v0:=⟨vs[0]'(by lia),by simp[hsz]⟩;refine mS (gM FX.init.plain FX.initEntry (check ?_));unfold Builtin.«BaseException.__init__»;dsimp only;refine rA (if_neg (by simp)) ?_;refine aa (wpAny_newTuple ?_);have fr:=bL hh;refine ea (r.grow (h':=hh.push {cls:=.type "tuple",data:=.seq [cv].toArray}) t (fun b o e=>Heap.get?_push_of_some _ e)) fun r1 st1=>?_;have hx1:(hh.push {cls:=.type "tuple",data:=.seq [cv].toArray}).get? a=some {cls:=.ref c,dict:=d,data:=.fields vs,slots:=#[]}:=Heap.get?_push_of_some _ hx;refine aa ?_;unfold PySem.Builtin.BaseException.bexcPut;refine aa (lH hx1 rfl (x:=v0) hv0 ?_);refine aa (dv hx1 rfl (by exact L1 (Rc N0 (Kn 6) (Gn (Pn (Kn 0) (Kn 1)) N0)) rfl hsz) ?_);have g2:((hh.push {cls:=.type "tuple",data:=.seq [cv].toArray}).update a (Obj.mapFields (·.setIfInBounds 0 (.ref hh.objs.size)))).get? a=some {cls:=.ref c,dict:=d,data:=.fields (vs.setIfInBounds 0 (.ref hh.objs.size)),slots:=#[]} :=
  Heap.get?_update_self _ hx1 rfl
 obtain⟨r2,dE⟩:=r1.turn (h':=(hh.push {cls:=.type "tuple",data:=.seq [cv].toArray}).update a (Obj.mapFields (·.setIfInBounds 0 (.ref hh.objs.size)))) (y:=.exn c d) t ha
  (fun b o n e=>(Heap.get?_update_other _ _ (Ne.symm n)).trans e) (fun o e n=>by rw[hx1]at e;obtain rfl:=aj e;exact absurd rfl (n vs)) fun zz zz=>.exn ⟨_,g2,by simp[hsz],by simp[h1]⟩
 have e3:upd H a (.exn c d)=H:=by
  funext b;unfold upd;split
  ·rename_i q;exact rA q (rA ha rfl)
  ·rfl
 rw[e3]at r2 dE;have fin:∀s',s'=({heap:=(hh.push {cls:=.type "tuple",data:=.seq [cv].toArray}).update a (Obj.mapFields (·.setIfInBounds 0 (.ref hh.objs.size))),gens:=g,drawn:=dr,toks:=t,os:=os}:an)->GP G fs [] H F hh (RV G Q) c0 s':=fun s' e=>by subst e;exact GP.v r2 (st1.trans dE) .none h
 split
 ·exact wpAny_letGo (af (fin _ rfl))
 ·exact af (af (fin _ rfl))
end
end
section
variable {G:GC}{k:Nat}{sc:Sc}{σ:St}{X:XP}{H H':HH}{fs:List Env}{F:ah->Prop}{s:an}
noncomputable def rm(H:HH)(a:ah):HH:=fun b=>if b=a then none else H b
theorem vP{H:HH}{a:ah}:Sub (rm H a) H:=fun b x e=>by
 unfold rm at e;split at e
 ·exact nS e
 ·exact e
theorem bB.unown(r:bB G fs F H s)(a:ah):bB G fs F (rm H a) s/\bQ [] H F s.heap (rm H a) F s.heap :=
 ⟨⟨r.base,r.bF,r.live,fun b x e=>r.sep b x (vP b x e),fun b x e=>r.own b x (vP b x e),fun env he=>by obtain⟨k1,L,o,e1,e2,e3,e4,e5,e6⟩:=r.frs env he;exact⟨k1,L,o,e1,e2,e3,e4,e5,by unfold rm;split <;> first|rfl|exact e6⟩,r.gens,r.os⟩,
  ⟨fun zz x=>x,fun zz zz e zz=>e,fun zz o e zz zz=>.of e,fun zz o e=>⟨o,e⟩,fun zz o e n=>⟨o,e,n⟩,fun zz x=>.inl x,fun b x e=>.inr ⟨x,vP b x e⟩⟩⟩
inductive Ch(E:Value->an->Prop)(v:Value)(s₁:an):Prop
 |mk (e C:ah) (dct:Option ah) (vs:Array Value) (ev:v=.ref e) (he:s₁.heap.get? e=some {cls:=.ref C,dict:=dct,data:=.fields vs,slots:=#[]}) (h1:vs[1]?=some .none) (k:yu s₁.heap.get? C) (x:E (.ref e) s₁)
theorem vM{M:q7}{A:cA}{E:Value->an->Prop}{env:Env}{x:Sem Value}{Q:Flow->an->Prop}{s:an}
  (hh:A.handled=none) (h:aM M A x (Ch E) E s):aM M A (raiseStmt env (some x) none) Q E s:=by
 unfold raiseStmt;refine aa (aK h (fun v s₁ h₁=>?_) fun zz zz x=>x);obtain⟨e,C,dct,vs,rfl,he,hv1,k,hE⟩:=h₁;obtain⟨nm,q,N,bs,bm,hdct,sn,sub,ab,col,dd,k0,k1,k2,k3,k5,hC,hb⟩:=k;have hcB:(cp C::bm).contains (.type "BaseException")=true:=(gV ..).trans ((congrArg _ (en hb rfl)).trans (Bool.or_true _))
 repeat (first|with_reducible refine d5 he ?_|with_reducible refine d5 hC ?_|(with_reducible refine km hC ?_;refine rA hcB ?_)|wp_step)
 refine rA hv1 ?_;exact af (af (wpAny_raiseNew_none hh hE))
inductive CF(K:kB)(H:HH)(X:XP)(v:V)(H1:HH):Prop
 |mk (a c d:ah) (xs:List (Str×V)) (H2:HH) (e1:v=.ref a) (h0:H a=none) (hda:d≠a) (ha:H1 a=some (.exn c (some d))) (hd:H1 d=some (.adict xs)) (hC:nW K c=true) (hs:Sub H2 (rm H1 a)) (hd2:H2 d=none) (hX:X c (.adict xs) H2)
theorem wU{H:HH}{a:ah}:rm H a a=none:=if_pos rfl
theorem yR{e pos}{Q:SP}(h:TE G k sc e σ (CF G.K σ.H X) X)(hk3:autoParam (3<=k) aL) :
  TS G k sc (.Raise (some e) none pos) σ Q X:=fun fm A outer F s hsc ok rel=>by
 have key:aM (bj G.prog G.w) A (fu e fm.env) (Ch (cK G (fm.env::outer) fm.own σ.H F s.heap (rc fm.env) X)) (cK G (fm.env::outer) fm.own σ.H F s.heap (rc fm.env) X) s:=by
  refine(h fm A _ F s hsc ok rel).thnV .refl (fun cv s1 H1 F1 r1 st1 st1' v va hq__=>?_) fP gH;obtain⟨a,c,d,xs,H2,rfl,ha0,hda,ha,hd,hC,hs,hd2,hX⟩:=hq__;refine cX ((r1.own a _ ha).exn_inv) fun vs hx hsz h1=>?_;have r2:=r1.unown a;have r3:=r2.1.drop hs;have hfr:s.heap.get? a=none:=(st1'.hnew a _ ha).elim id fun q=>q.elim fun y q=>nS (ha0.symm.trans q);have hH2a:H2 a=none:=by
   cases q:H2 a with
   |none=>rfl
   |some y=>exact nS (wU.symm.trans (hs a y q))
  have vd:=(kC r2.1 (gZ.ref ((if_neg hda).trans hd) hd2 (.same _) rfl)).1 _ (.ref d);exact⟨a,c,_,vs,va.ref_inv,hx,h1,(ExcCls.of hC).up r1.kin,H2,_,none,c,.adict xs,r3.1,(st1'.trans (r2.2.trans r3.2)).mono fP,⟨a,_,vs,d,rfl,hfr,hx,rfl,rfl,rfl,h1,fun q=>q.elim (r1.sep a _ ha) fun q=>q.1.elim fun y q=>nS (wU.symm.trans q),hH2a,vd⟩,.inl rfl,hX⟩
 exact aa (b7 (vM (ok.handled hk3) (aa (aK key (fun v s₁ h₁=>aa (b7 (af h₁))) fun zz zz x=>x))))
end
section
variable {G:GC}{k:Nat}{sc:Sc}{σ:St}{X:XP}{H H' H0:HH}{fs:List Env}{F F0:ah->Prop}{s:an}{fm:Fm}
theorem bB.adopt(r:bB G fs F H s){a:ah}{o:Obj}{vs:Array Value}(ho:s.heap.get? a=some o)(hd:o.data=.fields vs)(hH:H a=none){h0:Heap}{own:List ah}(st:bQ own H0 F0 h0 H F s.heap)(h0a:h0.get? a=none) :
  bB G fs (fun b=>F b∨b=a) H s/\bQ own H0 F0 h0 H (fun b=>F b∨b=a) s.heap:=by
 refine⟨⟨r.base,fun b o e=>.inl (r.bF b o e),fun b f=>?_,fun b x e=>?_,fun b x e=>(r.own b x e).mono (fun zz x=>.inl x) (fun zz zz zz e=>e) (fun zz e=>e),fun env he=>?_,r.gens,r.os⟩,
  ⟨fun b f=>.inl (st.fz b f),st.keepF,st.keepR,st.live,st.nf,fun b f=>?_,st.hnew⟩⟩
 ·rcases f with f|rfl
  ·exact r.live b f
  ·exact⟨o,ho⟩
 ·rintro(f|rfl)
  ·exact r.sep b x e f
  ·rw[hH]at e;exact nS e
 ·obtain⟨k1,L,oL,e1,e2,e3,e4,e5,e6⟩:=r.frs env he;refine⟨k1,L,oL,e1,e2,e3,e4,?_,e6⟩;rintro(f|rfl)
  ·exact e5 f
  ·rw[ho]at e3;obtain rfl:=aj e3;exact e4 vs hd
 ·rcases f with f|rfl
  ·exact st.fnew b f
  ·exact .inr (.inl h0a)
noncomputable def del(n:Str)(m:List (Str×V)):List (Str×V):=m.filter fun p=>decide (p.1≠n)
theorem mG{n:Str}:∀{m:List (Str×V)}{y:Str}{u:V},(del n m).lookup y=some u->y≠n/\m.lookup y=some u
 |[],y,u,e=>by exact nS e
 |(z,w)::r,y,u,e=>by
  unfold del at e;rw[bO]at e
  by_cases q:z=n
  ·rw[if_neg (by simpa using q)]at e;refine ea (mG (m:=r) e) fun h1 h2=>?_;refine⟨h1,?_⟩;have:(y==z)=false:=by rw[beq_eq_false_iff_ne];intro q2;exact h1 (q2.trans q)
   refine rA aZ (rA this ?_);exact h2
  ·rw[if_pos (by simpa using q),aZ]at e;refine rA aZ ?_;cases hy:y==z with
   |true=>rw[hy]at e;exact⟨by rw[beq_iff_eq]at hy;refine rA hy ?_;exact q,e⟩
   |false=>rw[hy]at e;exact mG (m:=r) e
theorem xg(r:jn G fs fm F σ s){x:Str}{v:Option Value}{h':Heap}{mc:Str->Option Value}(tk:Nat)(hk:fm.env.kindOf x=some .local)
  (hn:s.heap.Ns fm.env.locals mc) (hn':h'.Ns fm.env.locals (fun y=>if y=x then v else mc y)) (hs:Heap.SameBut fm.env.locals s.heap h') :
  jn G fs fm F ⟨del x σ.m,σ.H⟩ {s with heap:=h',toks:=tk}/\bQ fm.own σ.H F s.heap σ.H F h'/\∀b o,F b->s.heap.get? b=some o->h'.get? b=some o:=by
 have Ls:=r.fr.sep _ r.fr.lown;have hk':∀b o,b≠fm.env.locals->s.heap.get? b=some o->h'.get? b=some o:=fun b o n e=>(hs.2 b n).trans e;have hf:∀b o,F b->s.heap.get? b=some o->h'.get? b=some o:=fun b o q e=>hk' b o (fun z=>Ls.1 (z▸q)) e;have hl:∃o',h'.get? fm.env.locals=some o'/\ce o':=by refine hY hn' fun o es ep ho hd zz=>?_;exact⟨o,ho,f6 hd⟩
 have hl':∀b o,s.heap.get? b=some o->ce o->∃o',h'.get? b=some o'/\ce o':=fun b o e n=>by
  by_cases q:b=fm.env.locals
  ·subst q;exact hl
  ·exact⟨o,hk' b o q e,n⟩
 have cne:∀y a,fm.env.cells.lookup y=some a->a≠fm.env.locals:=fun y a e q=>by
  refine ea (r.fr.cells y a e) fun FW zz=>?_;obtain⟨v,o,ho,hd⟩:=FW;refine hY hn fun o' es ep ho' hd' zz=>?_;rw[q,ho']at ho;obtain rfl:=aj ho;rw[hd']at hd;cases hd
 have ck:∀y a v,fm.env.cells.lookup y=some a->s.heap.IsCell a v->h'.IsCell a v:=fun y a v e hv=>hv.sameBut hs (cne y a e);refine ea (r.hp.frame tk hk' fm.own r.fr.lown Ls.1 Ls.2.1 hl) fun rh st=>?_;refine⟨⟨rh,?_⟩,st,hf⟩;refine⟨r.fr.kind,r.fr.glob,r.fr.blt,r.fr.code,⟨_,hn'⟩,r.fr.lown,fun y a e=>?_,r.fr.ocell,r.fr.inj,fun b hb=>?_,fun y u hu=>?_⟩
 ·refine ea (r.fr.cells y a e) fun FY q=>?_;obtain⟨v,hv⟩:=FY;exact⟨⟨v,ck y a v e hv⟩,q⟩
 ·refine m9 (r.fr.sep b hb) fun q1 q2 o ho nf=>?_;exact⟨q1,q2,hl' b o ho nf⟩
 ·dsimp only at hu;refine ea (mG hu) fun q hu=>?_;refine bx (r.fr.vars y u hu) fun c' hs' hv'=>?_;refine⟨c',?_,hv'.mono (fun zz x=>x) hf⟩;rcases hs' with ⟨hl',mc',hn2,hm⟩|⟨hl',b,hc',hcell⟩
  ·refine .inl hl' _ hn' ?_;show(if y=x then v else mc y)=_;refine rA (if_neg q) ?_;refine eN hn fun o es ep ho hd zz hfn=>?_;refine eN hn2 fun o2 es2 ep2 ho2 hd2 zz hfn2=>?_;rw[ho]at ho2;obtain rfl:=aj ho2;rw[hd]at hd2;cases hd2;exact rB (hfn y) (rA (hfn2 y) (rA hm rfl))
  ·exact .inr hl' b hc' (ck y b _ hc' hcell)
theorem pf{M:q7}{A:cA}{E:Value->an->Prop}{e C:ah}{oe:Obj}{Q:Bool->an->Prop}{K:kB}{s:an}(hE:nW K C=true)(hk:K.In s.heap)(he:s.heap.get? e=some oe)(hcls:oe.cls=.ref C)(hq:Q true s) :
  aM M A (excMatches (.ref e) (.ref C)) Q E s:=by
 obtain⟨nm,q,N,bs,bm,hdct,sn,sub,ab,col,dd,k0,k1,k2,k3,k5,ho,hb⟩:=ExcCls.of hE;obtain⟨h,g,d,t,os⟩:=s;exact wpAny_excMatches_sub_self (hk _ _ ho) he hcls (en hb (by decide)) hq
theorem AV{x px value apos Cn pc n b0 hb hpos tpos}{C:ah}{X1:XP}{Q:SP}
  (h:TE G k sc value σ (fun v H1=>TA G k sc (.Name x px) v ⟨σ.m,H1⟩ (fun σ'=>Q .next σ') NX) X1)
  (hkC:sc.kindOf Cn=some .globalImplicit) (hgC:nsIn G.K dW Cn=some (some (.ref C))) (hexc:nW G.K C=true) (hkn:sc.kindOf n=some .local)
  (hX:∀c d H1,X1 c d H1->c=C/\lK G 2 sc (b0::hb) ⟨put n (.exc C d) σ.m,H1⟩ (fun f σ'=>Q f ⟨del n σ'.m,σ'.H⟩) NX)
  (hd:autoParam ((Cn==("__debug__":Str))=false) aD)
  (hs:autoParam (∀env line,eV value (some (.Name x px)) line env=pure false) aI) (hw:autoParam (∀env:Env,env.scope=sc.scope->fi [.Name x px] value env=pure none) aI)
  (ht:autoParam (∀env,eF [.Name x px] env=[(false,jq (.Name x px) env)]) aI) (hk2:autoParam (2<=k) aL) :
  TS G k sc (.Try [.Assign [.Name x px] value apos] [.ExceptHandler (some (.Name Cn pc)) (some n) (b0::hb) hpos] [] [] tpos) σ Q X:=fun fm A outer F s hsc ok rel=>by
 obtain⟨L,hL⟩:∃L,fm.env.frame=some L:=by obtain⟨_,L,_,e,_⟩:=rel.hp.frs fm.env (.head _);exact⟨L,e⟩
 unfold Wp;obtain⟨PP,eP⟩:∃PP,GP G (fm.env::outer) fm.own σ.H F s.heap (RS G fm Q)=PP:=⟨_,rfl⟩;refine rA eP ?_;obtain⟨EE,eE⟩:∃EE,cK G (fm.env::outer) fm.own σ.H F s.heap (rc fm.env) X=EE:=⟨_,rfl⟩;refine rA eE ?_;refine wpAny_Try_except (wpAny_execs_cons (pM ?_ (hs _ apos.line) (hw _ (by refine rB hsc ?_;rfl))));refine aK (h fm A _ F s hsc ok rel) (fun c s1 ⟨H1,F1,r1,st1,a,va,h1⟩=>?_) (fun e s1 x=>?_)
 ·rw[ht];have hA:aM (bj G.prog G.w) A (assignAll c (([(false,jq (.Name x px) fm.env)]:List (Bool×(Value->Sem Unit))).map (·.2))) (fun zz=>PP .next) (fun zz zz=>False) s1:=by
   refine aK (h1 fm A _ F1 s1 c hsc ok (rel.keeps st1 r1) va) (fun zz s2 z'=>?_) fun zz zz x=>x.nx;obtain⟨H2,F2,r2,dE,m2,rf,h2⟩:=z';exact eP▸GP.here r2 ((st1.mono fP).trans dE) ⟨m2,.next,rf,.next,h2⟩
  exact aK hA (fun zz s2 g=>jY (jY g)) fun zz zz x=>x.elim
 ·refine aK (zU (E:=fun zz zz=>False) hL ok.frames (cK.from .refl x (fun zz b=>b) gH)) (fun zz s2 x2=>?_) fun zz zz x=>x.elim;refine aK (s9 (E:=fun zz zz=>False) (f:=none) rfl (fun fl p=>⟨_,p⟩) x2) (fun zz s3 x3=>?_) fun zz zz x=>x.elim;obtain⟨a,ha⟩:∃a,e=.ref a:=by obtain⟨_,_,_,_,_,_,_,⟨a,_,_,_,q,_⟩,_⟩:=x3;exact⟨a,q⟩
  subst ha;refine wpAny_handleBy_cons (codeAny_handlers_test ?_) (by intro q;cases q);have x3k:=x3;obtain⟨H',F',fl,c,d,r,st,⟨a',o,vs,dx,q,y2,y3,y4,y5,y6,y7,y8,y9,y10⟩,p,hx1⟩:=x3k;obtain rfl:=gm q;obtain⟨rfl,-⟩:=hX _ _ _ hx1;have hb:G.base.Ns dW G.mg:=G.top.g;subst hsc;refine oX rel.fr.kind hkC (loadGlobal_global (mg:=G.mg) ?_ (mg_of G.kin hb hgC) ?_) hd
  ·refine rA rel.fr.glob ?_;exact hb.keeps r.base
  refine pf hexc r.kin y3 y4 ?_;refine codeAny_handlers_suite_as ?_;refine aK (s9 (E:=fun zz zz=>False) (f:=none) rfl (fun fl p=>⟨_,p⟩) x3) (fun zz s4 x4=>?_) fun zz zz x=>x.elim;clear hx1 p y2 y3 y4 y5 y6 y7 y8 y9 y10 st r;obtain⟨H',F',fl,c',d,r,st,⟨a',o,vs,dx,q,y2,y3,y4,y5,y6,y7,y8,y9,y10⟩,p,hx1⟩:=x4;obtain rfl:=gm q;refine ea (hX _ _ _ hx1) fun e1 hbody=>?_;subst e1;refine ea (r.adopt y3 y6 y9 st y2) fun r1 st1=>?_;have rel1:=rel.keeps st1 r1;have va:VR G s4.heap (fun b=>F' b∨b=a) (.exc c' d) (.ref a):=.fz (.inr rfl) (.exc ⟨o,y3,y4,y5,vs,y6⟩ (y10.mono (fun zz x=>.inl x) fun zz zz zz e=>e));refine ex rel1.fr.ns fun mc hn=>?_;have hnm:(fm.env.scope.kind==.class||(fm.env.scope.kind==.module&&fm.env.locals !=fm.env.globals))=false:=by refine rA rel1.fr.kind ?_;rfl
  refine nJ hkn hn (fun h' hn' hs'=>?_) hnm;refine ea (rel1.storeL (s4.toks+1) hkn va hn hn' hs') fun rel2 dE=>?_;have ok2:Ok 2 (A.mark (some (.ref a))) (fm.env::outer):=⟨by have:=ok.depth;show A.depth+2<=1000;exact L2 (Ra (Kn 2) N0 (Ra (Pn N1 N0) (Kn 1000) (Gn (Pn N1 (Kn 2)) (Kn 1000)))) rfl hk2 this,by have:=ok.units;show A.units+8*2+100<=9900;lia,ok.guards,ok.frames,fun q=>absurd q (by exact fun z'=>Lz [] [] (Ra (Kn 3) (Kn 2) Fa) rfl q)⟩;refine aK (hbody fm _ outer _ _ rfl ok2 rel2) (fun f s5 z'=>?_) fun zz zz x=>(x.nx).elim;obtain⟨H5,F5,r5,st5,m5,fa,rf5,hf5,h5⟩:=z';refine ex rf5.ns fun mc5 hn5=>?_;refine wpAny_nameGoes_keeps hkn hn5 hnm fun h6 v hn6 hs6=>?_;refine jc (xg (σ:=⟨m5,H5⟩) ⟨r5,rf5⟩ (s5.toks+1) hkn hn5 hn6 hs6) fun rel6 st6 k6=>?_;refine eP▸GP.here rel6.hp ((((st1.mono fP).trans dE).trans st5).trans st6) ⟨_,fa,rel6.fr,?_,h5⟩;cases hf5 with
  |next=>exact .next
  |brk=>exact .brk
  |ret v=>exact .ret (v.mono (fun zz x=>x) k6)
end
section
variable {G:GC}{k:Nat}{sc:Sc}{σ:St}{X:XP}{Q:VP}{H:HH}{fs:List Env}{F:ah->Prop}{s:an}{fm:Fm}
noncomputable def wt(e:Expr)(iter:Expr):Env->Value->Sem Unit:=fun env acc=>do
 let x ←fu iter env
 fV iter.pos
 let x ←cY iter env x
 let _ ←runOwn (.compStart e 1 (←kA [x] (tE x)) acc env) env
theorem rv(elt t1 i1 t2 i2:Expr)(f1 f2:List Expr)(scope:Scope)(pos:Pos) :
  iq (.ListComp elt [⟨t1,i1,f1,0⟩,⟨t2,i2,f2,0⟩] scope pos) 0 t1 i1 f1 (wt (.ListComp elt [⟨t1,i1,f1,0⟩,⟨t2,i2,f2,0⟩] scope pos) i2) where
 clause:=rfl
 turn:=fun it acc env=>by
  unfold compTurn wt;simp only[List.getElem?_cons_zero,bind_assoc]
  rfl
 quietS:=fun zz zz zz=>rfl
 quietL:=fun zz zz zz=>rfl
 denS:=fun M it acc env h=>by refine rA h ?_;rfl
 denL:=fun M it acc env h=>by refine rA h ?_;rfl
 underS:=fun A zz zz zz=>rfl
 underL:=fun A zz zz zz=>rfl
theorem rx(elt t1 i1 t2 i2:Expr)(f1 f2:List Expr)(scope:Scope)(pos:Pos) :
  iq (.ListComp elt [⟨t1,i1,f1,0⟩,⟨t2,i2,f2,0⟩] scope pos) 1 t2 i2 f2 (fun env acc=>do let _ ←call (.builtin "list.append") [acc,←fu elt env]) where
 clause:=rfl
 turn:=fun it acc env=>rfl
 quietS:=fun zz zz zz=>rfl
 quietL:=fun zz zz zz=>rfl
 denS:=fun M it acc env h=>by refine rA h ?_;rfl
 denL:=fun M it acc env h=>by refine rA h ?_;rfl
 underS:=fun A zz zz zz=>rfl
 underL:=fun A zz zz zz=>rfl
noncomputable def em2(G:GC)(k:Nat)(sc:Sc)(t2 i2:Expr)(f2:List Expr)(elt:Expr)(D:ah):St->(St->Prop)->Prop:=fun σ K=>
 TI G k sc t2 i2 σ (fun xs H1=>f9 G k sc t2 f2 (AI G k sc elt D) K xs ⟨σ.m,H1⟩) NX
theorem C3{e elt t2 i2:Expr}{f2:List Expr}{D:ah}(cf:iq e 1 t2 i2 f2 (fun env acc=>do let _ ←call (.builtin "list.append") [acc,←fu elt env]))(hs:∀env x,cY i2 env x=pure x)(hk3:3<=k) :
  yt G k sc (wt e i2) (.ref D) (em2 G k sc t2 i2 f2 elt D):=fun fm A fs F s σ K hsc ok rel h=>by
 unfold Wp wt;have no:∀e s',cK G fs [] σ.H F s.heap ot NX e s'->cK G fs fm.own σ.H F s.heap ot NX e s':=fun e s' x=>x.nx.elim;refine aa (aK (h fm A fs F s hsc ok rel) (fun x s1 h1=>aa (b7 (aa (oV (hs _ x) ?_)))) no);refine aa (a9 (aK h1 (fun it s2 h2=>?_) no));obtain⟨H2,F2,its,xs,r2,dE,hit,hf,h2⟩:=h2;subst hsc;have run:=t7 (acc:=.ref D) (d:=1) cf (vk (k:=k) (sc:=fm.sc)) rfl hk3 ok xs ⟨σ.m,H2⟩ F2 s2 h2 hit ⟨r2,rel.fr.keeps (s':=s2) dE⟩ (dE.mono fP) hf;refine aa (wpAny_runOwn ?_);have am:A.mark none=A:=by cases A;rfl
 refine rA am ?_;refine eW (mq cf run fun QQ EE hq=>hit.self hq) fun r s5 hr=>?_;obtain⟨⟨m5,H5⟩,F5,rfl,hJ,rel5,st5⟩:=hr;exact af (GP.here rel5.hp st5 ⟨m5,rel5.fr,hJ⟩)
theorem xj{elt t1 i1 f1 t2 i2 f2 scope pos}(h:TI G k sc t1 i1 σ (fun xs H1=>∀D,H1 D=none->f9 G k (eQ sc scope) t1 f1 (em2 G k (eQ sc scope) t2 i2 f2 elt D) (fun σc=>Q (.ref D) σc.H) xs ⟨rq scope σ.m,upd H1 D (.lst [])⟩) X)
  (co:autoParam (lr sc scope=true) aR) (hm:autoParam ((eC scope).all (fun x=>(σ.m.lookup x).isSome)=true) aR) (hs:autoParam (∀env x,cY i1 env x=pure x) aI) (hs2:autoParam (∀env x,cY i2 env x=pure x) aI)
  (he:autoParam (∀env,fu (.ListComp elt [⟨t1,i1,f1,0⟩,⟨t2,i2,f2,0⟩] scope pos) env=jB (.ListComp elt [⟨t1,i1,f1,0⟩,⟨t2,i2,f2,0⟩] scope pos) scope env (mQ [⟨t1,i1,f1,0⟩,⟨t2,i2,f2,0⟩] pos) (newList []) false (fu i1 env) none) aI) (hk3:autoParam (3<=k) aL) :
  TE G k sc (.ListComp elt [⟨t1,i1,f1,0⟩,⟨t2,i2,f2,0⟩] scope pos) σ Q X:=fun fm A fs F s hsc ok rel=>by
 subst hsc;unfold Wp;rw[he];refine pC (J:=fun D σc=>Q (.ref D) σc.H) (em:=fun D=>em2 G k (eQ fm.sc scope) t2 i2 f2 elt D) (rv elt t1 i1 t2 i2 f1 f2 scope pos) (hs _) (lj.of co) (fun x hx=>b5.mp (bJ.mp hm x hx)) hk3 ok rel CR (fun D=>C3 (rx elt t1 i1 t2 i2 f1 f2 scope pos) hs2 hk3) (fun zz zz x=>x) h ?_;intro C D m' H' F' s' hJ r' st' hC hF hH hn h' hsb;exact GP.v (r'.but hF hH (vq rel.hp hC) fun b o n e=>hsb.extBut b o n e) (st'.freshFrame hC hsb) (.ref _) hJ
end
section
variable {G:GC}{k:Nat}{sc:Sc}{σ:St}{X:XP}{Q:VP}{H:HH}{fs:List Env}{F:ah->Prop}{s:an}{fm:Fm}{h:Heap}
noncomputable def iJ(kvs:List (Int×V)):List V:=kvs.map fun p=>.tup [.int p.1,p.2]
theorem uo:∀{kvs:List (Int×V)}{cs:List Value},d7 G h F (iJ kvs) cs->∃ps:List (Int×Value),Rl G h F (.k kvs ps)/\ps.length=cs.length /\
  ∀(i:Nat) (v:Value) (p:Int×Value),cs[i]?=some v->ps[i]?=some p->∃(ti:ah) (t:Tok) (o:Obj) (n:Nat),v=cp ti/\h.get? ti=some o/\o.cls=.type "tuple"/\o.data=.seq #[.int p.1 t,p.2] n
 |[],cs,r=>by
  have:cs=[]:=r.nil_inv;subst this;exact⟨[],.knil,rfl,fun i v p e=>by simp at e⟩
 |(n,x)::kvs,cs,r=>by
  refine cq r.cons_inv fun c cs' FW vc r'=>?_;subst FW;refine cX (uo r') fun ps h1 h2 h3=>?_;refine cX (vc.obj_inv rfl) fun ti FY hf o=>?_;subst FY;refine bx o.tup_inv fun ds FZ vs=>?_;refine cX FZ fun ob ho hc F7=>?_;obtain⟨nn,hd⟩:=F7;refine cq vs.cons_inv fun d1 ds' F8 v1 q=>?_;subst F8;obtain⟨d2,ds'',rfl,v2,q⟩:=q.cons_inv;rw[q.nil_inv]at hd;refine ex v1.int_inv fun t F9=>?_;subst F9;refine⟨(n,d2)::ps,.kcons v2 h1,by simp[h2],fun i v p e1 e2=>?_⟩;cases i with
  |zero=>obtain rfl:=aj e1;obtain rfl:=aj e2;exact⟨ti,t,ob,nn,rfl,ho,hc,hd⟩
  |succ i=>exact h3 i v p e1 e2
theorem qR:∀{kvs:List (Int×V)}{ps:List (Int×Value)}{xs:List (Int×V)}{cs:List (Int×Value)},Rl G h F (.k kvs ps)->Rl G h F (.k xs cs) ->
  Rl G h F (.k (kvs.foldl (fun a p=>ix a p.1 p.2) xs) (ps.foldl (fun a p=>ri a p.1 p.2) cs))
 |[],ps,xs,cs,r,q=>by refine rA (show ps=[] from r.inv) ?_;exact q
 |(n,x)::kvs,ps,xs,cs,r,q=>by
   refine cq r.kcons_inv fun zz zz FW v r1=>?_;subst FW;have:=qR r1 (pV (n:=n) v q);exact this
theorem yW{v:V}{kvs:List (Int×V)}(e:con H v=.lst (iJ kvs))(hb:kvs.length<1000000)(h:∀D,H D=none->Q (.ref D) (upd H D (.dct (kvs.foldl (fun a p=>ix a p.1 p.2) []))))(hk3:autoParam (3<=k) aL):VT G k (dm (.type "dict")) [v] H Q X:=fun A fs F s cs ok r vr=>by
 refine cq vr.cons_inv fun c cs' FW vc q=>?_;subst FW;refine rA q.nil_inv ?_;refine bx (vc.read r e rfl) fun a FY o=>?_;subst FY;refine bx o.lst_inv fun cs FZ vs=>?_;refine ex FZ fun n hl=>?_;refine cX (uo vs) fun ps h1 h2 h3=>?_;have hlen:=h1.k_length;have fr:=bL s.heap;refine o4 (kvs:=ps) (by simp[h2]) (fun i v p e1 e2=>h3 i v p (by simpa using e1) e2) hl (ok.handled hk3) (by refine rA cr ?_;exact vG hlen hb) fun h' tk hS hk=>?_;refine ea (r.mine (h':=h') tk (.dct (kvs.foldl (fun a p=>ix a p.1 p.2) [])) fr hk (.dct (r.notSys (ax _)) hS (qR (Rl.mono (fun zz x=>x) (fun b o zz e=>hk b o e) h1 fun zz zz e=>by cases e) .knil))) fun r1 st1=>?_;exact GP.v r1 st1 (.ref _) (h _ (r.fresh fr).2)
end
structure GX where
 prog:ei
 w:iC
 base:Heap
 p:ei
 loose:List Str
 mg:Str->Option Value
 mb:Str->Option Value
 os:OsState
 kin:(ho.heap_1 w.params).In base
 top:TopRead p loose mg mb base
noncomputable def GX.gc(g:GX):GC:=⟨g.prog,g.w,ho.heap_1 g.w.params,g.base,g.p,g.loose,g.mg,g.mb,g.os,g.kin,g.top⟩
inductive X1{α:Type}(P:α->Prop):Prop
 |mk (a:α) (h:P a)
inductive X2{α β:Type}(P:α->β->Prop):Prop
 |mk (a:α) (b:β) (h:P a b)
inductive X3{α β γ:Type}(P:α->β->γ->Prop):Prop
 |mk (a:α) (b:β) (c:γ) (h:P a b c)
inductive X4{α β γ δ:Type}(P:α->β->γ->δ->Prop):Prop
 |mk (a:α) (b:β) (c:γ) (d:δ) (h:P a b c d)
inductive X5{α β γ δ ε:Type}(P:α->β->γ->δ->ε->Prop):Prop
 |mk (a:α) (b:β) (c:γ) (d:δ) (e:ε) (h:P a b c d e)
inductive A3(p1 p2 p3:Prop):Prop
 |mk (h1:p1) (h2:p2) (h3:p3)
inductive A4(p1 p2 p3 p4:Prop):Prop
 |mk (h1:p1) (h2:p2) (h3:p3) (h4:p4)
inductive A5(p1 p2 p3 p4 p5:Prop):Prop
 |mk (h1:p1) (h2:p2) (h3:p3) (h4:p4) (h5:p5)
inductive A6(p1 p2 p3 p4 p5 p6:Prop):Prop
 |mk (h1:p1) (h2:p2) (h3:p3) (h4:p4) (h5:p5) (h6:p6)
inductive A7(p1 p2 p3 p4 p5 p6 p7:Prop):Prop
 |mk (h1:p1) (h2:p2) (h3:p3) (h4:p4) (h5:p5) (h6:p6) (h7:p7)
inductive A8(p1 p2 p3 p4 p5 p6 p7 p8:Prop):Prop
 |mk (h1:p1) (h2:p2) (h3:p3) (h4:p4) (h5:p5) (h6:p6) (h7:p7) (h8:p8)
inductive A9(p1 p2 p3 p4 p5 p6 p7 p8 p9:Prop):Prop
 |mk (h1:p1) (h2:p2) (h3:p3) (h4:p4) (h5:p5) (h6:p6) (h7:p7) (h8:p8) (h9:p9)
inductive A10(p1 p2 p3 p4 p5 p6 p7 p8 p9 p10:Prop):Prop
 |mk (h1:p1) (h2:p2) (h3:p3) (h4:p4) (h5:p5) (h6:p6) (h7:p7) (h8:p8) (h9:p9) (h10:p10)
set_option genCtorIdx false in
inductive Tk
 |E (sc:Sc) (X:XP) (e:Expr) (σ:St) (Q:VP)
 |Es (sc:Sc) (X:XP) (es:List Expr) (σ:St) (Q:List V->HH->Prop)
 |T (sc:Sc) (X:XP) (e:Expr) (σ:St) (Q:Bool->HH->Prop)
 |A (sc:Sc) (t:Expr) (v:V) (σ:St) (Q:St->Prop)
 |As (sc:Sc) (ts:List Expr) (vs:List V) (σ:St) (Q:St->Prop)
 |S (sc:Sc) (X:XP) (s:jX) (σ:St) (Q:SP)
 |Ss (sc:Sc) (X:XP) (ss:List jX) (σ:St) (Q:SP)
 |Bo (sc:Sc) (X:XP) (op:BoolOp) (es:List Expr) (σ:St) (Q:VP)
 |Al (sc:Sc) (X:XP) (op:BoolOp) (es:List Expr) (σ:St) (Q:Bool->HH->Prop)
 |I (sc:Sc) (X:XP) (tg iter:Expr) (σ:St) (Q:List V->HH->Prop)
 |F (sc:Sc) (ifs:List Expr) (σ:St) (Q:Bool->HH->Prop)
noncomputable def Tk.Sound(G:GC)(k:Nat):Tk->Prop
 |.E sc X e σ Q=>TE G k sc e σ Q X
 |.Es sc X es σ Q=>pq G k sc es σ Q X
 |.T sc X e σ Q=>TT G k sc e σ Q X
 |.A sc t v σ Q=>TA G k sc t v σ Q NX
 |.As sc ts vs σ Q=>AR G k sc ts vs σ Q NX
 |.S sc X s σ Q=>TS G k sc s σ Q X
 |.Ss sc X ss σ Q=>lK G k sc ss σ Q X
 |.Bo sc X op es σ Q=>xi G k sc op es σ Q X
 |.Al sc X op es σ Q=>l4 G k sc op es σ Q X
 |.I sc X tg iter σ Q=>TI G k sc tg iter σ Q X
 |.F sc ifs σ Q=>kD G k sc ifs σ Q NX
structure Dr(G:GC) where
 nm:Str->Option V
 at_:ah->Str->Bool
 nok:∀x v,nm x=some v->(x==("__debug__":Str))=false/\((∃c,nsIn G.K dW x=some (some c)/\v=nZ c)∨(nsIn G.K dW x=some bc/\x≠"__name__"/\∃c,sF x=some c/\v=.glob c))
 aok:∀c n,at_ c n=true->pP G.K c/\fj G.K (.ref c) n=some bc
 cok:∀x f,nm x=some (.glob f)->gD G.K f
 mt:ah->Str->Option ah
 mok:∀c n f,mt c n=some f->pP G.K c/\fj G.K (.ref c) n=some (some (.ref f))/\isFn G.K (.ref f)=true/\gD G.K (.ref f)
noncomputable def kE:Expr->Nat
 |.Starred ..=>1
 |.Set ..=>2
 |.Call _ args _ _=>match args with|[]=>3|_=>0
 |.ListComp ..=>4
 |.SetComp ..=>4
 |.DictComp ..=>4
 |.Tuple ..=>5
 |.List ..=>6
 |.UnaryOp op ..=>match op with|.Not=>7|_=>0
 |.BoolOp ..=>7
 |.IfExp ..=>7
 |.Compare ..=>7
 |_=>0
noncomputable def xt(G:GC)(k:Nat)(X:XP)(op:oM)(Q:VP)(a b:V)(H:HH):Prop:=match a,b with
 |.int a,.int b=>(match op with
  |.Add=>Q (.int (a+b)) H
  |.Sub=>Q (.int (a-b)) H
  |.BitAnd=>Q (.int (d6 a b)) H
  |.Mult=>IntMulOk a b/\Q (.int (a*b)) H
  |.FloorDiv=>(b≠0/\b.natAbs<1073741824)/\Q (.int (a.fdiv b)) H
  |.Mod=>b≠0/\Q (.int (a.fmod b)) H
  |.Pow=>(0<=b/\b<=1000000/\a.natAbs<2^64)/\Q (.int (a^b.toNat)) H
  |.LShift=>(0<=b/\b<=1000000/\a.natAbs<2^64)/\Q (.int (a*2^b.toNat)) H
  |.RShift=>0<=b/\Q (.int (a.fdiv (2^b.toNat))) H
  |op=>VT G k (yi op) [.int a,.int b] H Q X)
 |a,b=>VT G k (yi op) [a,b] H Q X
noncomputable def zr(G:GC)(k:Nat)(X:XP)(op:CmpOp)(Q:VP)(a b:V)(H:HH):Prop:=match a,b with
 |.int a,.int b=>(match op with
  |.Eq=>Q (.bool (decide (a=b))) H
  |.NotEq=>Q (.bool (decide (a≠b))) H
  |.Lt=>Q (.bool (decide (a<b))) H
  |.LtE=>Q (.bool (decide (a<=b))) H
  |.Gt=>Q (.bool (decide (b<a))) H
  |.GtE=>Q (.bool (decide (b<=a))) H
  |op=>VT G k (gu op) [.int a,.int b] H Q X)
 |.str a,.str b=>(match op with
  |.Eq=>Q (.bool (decide (a=b))) H
  |op=>VT G k (gu op) [.str a,.str b] H Q X)
 |a,b=>VT G k (gu op) [a,b] H Q X
noncomputable def unQ(G:GC)(k:Nat)(X:XP)(op:UnaryOp)(Q:VP)(a:V)(H:HH):Prop:=match op,a with
 |.Not,.bool b=>Q (.bool (!b)) H
 |.USub,.int a=>Q (.int (-a)) H
 |op,a=>VT G k (FQ op) [a] H Q X
noncomputable def qW(G:GC)(k:Nat)(X:XP)(Q:Bool->HH->Prop)(a:V)(H:HH):Prop:=match a with
 |.bool b=>Q b H
 |a=>BT G k jk [a] H Q X
noncomputable def ze(G:GC)(k:Nat)(X:XP)(at_:ah->Str->Bool)(n:Str)(Q:VP)(a:V)(H:HH):Prop:=match a with
 |.inst c (.adict xs)=>(match xs.lookup n with
  |some x=>cond (at_ c n&&x.noGlob) (Q x H) (VT G k (nA n) [.inst c (.adict xs)] H Q X)
  |bc=>VT G k (nA n) [.inst c (.adict xs)] H Q X)
 |a=>VT G k (nA n) [a] H Q X
noncomputable def rz(Q:List V->HH->Prop)(v:V)(H:HH):Prop:=match v with
 |.lst xs=>Q xs H
 |.rng lo hi=>Q (br lo hi) H
 |v=>∃xs,v.iters=some xs/\Q xs H
noncomputable def gf(b:Bool)(P P':Prop):Prop:=match b with
 |true=>P
 |false=>P'
section
variable {G:GC}{k:Nat}{X:XP}{Q:VP}{H:HH}
theorem xt.ok{op a b}(h:xt G k X op Q a b H):VT G k (yi op) [a,b] H Q X:=by
 cases a with
 |int a=>cases b with
  |int b=>cases op with
   |Add=>exact mX rfl trivial h
   |Sub=>exact mX rfl trivial h
   |BitAnd=>exact mX rfl trivial h
   |Mult=>exact mX rfl h.1 h.2
   |FloorDiv=>exact mX rfl h.1 h.2
   |Mod=>exact mX rfl h.1 h.2
   |Pow=>exact mX rfl h.1 h.2
   |LShift=>exact mX rfl h.1 h.2
   |RShift=>exact mX rfl h.1 h.2
   |_=>exact h
  |_=>exact h
 |_=>exact h
theorem zr.ok{op a b}(h:zr G k X op Q a b H):VT G k (gu op) [a,b] H Q X:=by
 cases a with
 |int a=>cases b with
  |int b=>cases op with
   |Eq=>exact ou rfl h
   |NotEq=>exact ou rfl h
   |Lt=>exact ou rfl h
   |LtE=>exact ou rfl h
   |Gt=>exact ou rfl h
   |GtE=>exact ou rfl h
   |_=>exact h
  |_=>exact h
 |str a=>cases b with
  |str b=>cases op with
   |Eq=>exact yZ h
   |_=>exact h
  |_=>exact h
 |_=>exact h
theorem unQ.ok{op a}(h:unQ G k X op Q a H):VT G k (FQ op) [a] H Q X:=by
 cases op with
 |Not=>cases a with
  |bool b=>exact AZ h
  |_=>exact h
 |USub=>cases a with
  |int b=>exact CQ h
  |_=>exact h
 |_=>exact h
theorem qW.ok{a}{Q:Bool->HH->Prop}(h:qW G k X Q a H):BT G k jk [a] H Q X:=by
 cases a with
 |bool b=>exact BT.bool h
 |_=>exact h
theorem ze.ok{T:Dr G}{n a}(h:ze G k X T.at_ n Q a H):VT G k (nA n) [a] H Q X:=by
 cases a with
 |inst c d=>cases d with
  |adict xs=>
   unfold ze at h;dsimp only at h;cases hx:xs.lookup n with
   |none=>rw[hx]at h;exact h
   |some x=>
    rw[hx]at h;dsimp only at h;cases q:T.at_ c n&&x.noGlob with
    |false=>rw[q]at h;exact h
    |true=>
     rw[q]at h;refine ea (aP.mp q) fun q1 q2=>?_;refine ea (T.aok _ _ q1) fun a1 a2=>?_;exact VT.attr rfl a1 a2 hx q2 h
  |_=>exact h
 |_=>exact h
theorem rz.ok{v}{Q:List V->HH->Prop}(h:rz Q v H):∃xs,v.iters=some xs/\Q xs H:=by
 cases v with
 |lst xs=>exact⟨_,rfl,h⟩
 |rng lo hi=>exact⟨_,rfl,h⟩
 |_=>exact h
theorem gf.ok{b:Bool}{P P':Prop}(h:gf b P P'):if b=true then P else P':=by
 cases b
 ·exact h
 ·exact h
theorem BX{es:List Expr}(h:es.all (fun e=>kE e !=1)=true)(env:Env):cL es env=es.map fun e=>(false,fu e env):=by
 induction es with
 |nil=>rfl
 |cons e es ih=>
  rw[List.all_cons,bI]at h;refine rA aB (rB (ih h.2) ?_);cases e <;> first|rfl|exact absurd (show false=true from h.1) cD
theorem Cx{e:Expr}{es:List Expr}(h:(kE e !=1)=true)(env:Env):cL (e::es) env=(false,fu e env)::cL es env:=by
 cases e <;> first|rfl|exact absurd (show false=true from h) cD
theorem CS{e:Expr}{es:List Expr}(h:(kE e !=1)=true)(env:Env):eF (e::es) env=(false,assign e env)::eF es env:=by
 cases e <;> first|rfl|exact absurd (show false=true from h) cD
theorem Cy{e:Expr}{t:Option Expr}(h:(kE e !=4)=true)(line:Nat)(env:Env):eV e t line env=pure false:=by
 cases e <;> first|rfl|exact absurd (show false=true from h) cD
theorem BY{t e:Expr}(h:(kE t !=5&&kE t !=6||kE e !=5)=true)(env:Env):fi [t] e env=pure none:=by
 unfold fi;cases t <;> first|rfl|(cases e <;> first|rfl|exact absurd (show false=true from h) cD)
set_option tactic.hygienic true in
theorem Cj{o:Expr}{n:Str}(h:(kE o !=3)=true)(env:Env)(w:Sem Value):q8 o n env w=w:=by
 cases o <;> first|rfl|(rename_i func args _ _;cases args <;> first|exact absurd (show false=true from h) cD|(cases func <;> rfl))
set_option tactic.hygienic true in
theorem FS{e:Expr}(h:(kE e !=7)=true)(env:Env)(w:Sem Value):isTrue e env w=(do let v ←w;fV e.pos;kA [v] (truthy v)):=by
 cases e <;> first|rfl|exact absurd (show false=true from h) cD|(rename_i op _ _;cases op <;> first|rfl|exact absurd (show false=true from h) cD)
theorem se{e:Expr}(h:(kE e !=2)=true)(env:Env)(x:Value):cY e env x=pure x:=by
 cases e <;> first|rfl|exact absurd (show false=true from h) cD
noncomputable section
noncomputable abbrev Mm:=List (Str×V)
variable (G:GC) (T:Dr G) (k:Nat)
noncomputable def ki(sc:Sc)(x:Str)(m:Mm)(H:HH)(Q:VP):Prop:=match m.lookup x with
 |some v=>cond (x==("__debug__":Str)) False (Q v H)
 |bc=>match sc.kindOf x with
  |some .globalImplicit=>(match T.nm x with|some v=>Q v H|bc=>False)
  |_=>False
noncomputable def tU(sc:Sc)(x:Str)(m:Mm)(K:Value->Prop):Prop:=match m.lookup x with
 |some _=>False
 |bc=>match sc.kindOf x with
  |some .globalImplicit=>(match T.nm x with|some v=>(match v with|.glob f=>K f|_=>False)|bc=>False)
  |_=>False
inductive uT(n:Str)(ov:V)(H:HH)(K:Value->Prop):Prop
 |mk (f:Value) (a:MT G n ov H f) (b:gD G.K f) (c:K f)
noncomputable def uh(ov:V)(n:Str)(H:HH)(K:Value->Prop):Prop:=match ov with
 |.inst c (.adict xs)=>(match T.mt c n with
  |some f=>cond (xs.lookup n).isNone (K (.ref f)) False
  |bc=>uT G n (.inst c (.adict xs)) H K)
 |ov=>uT G n ov H K
noncomputable def uk(ih:Tk->Prop)(sc:Sc)(X:XP)(e:Option Expr)(m:Mm)(H:HH)(Q:VP):Prop:=match e with
 |some e=>ih (.E sc X e ⟨m,H⟩ Q)
 |bc=>Q .none H
noncomputable def kLcB(ih:Tk->Prop)(cs:Sc)(elt:Expr)(J:List V->List V->HH->Prop)(D:ah)(r acc:List V)(m1:Mm)(b:Bool)(H2:HH):Prop :=
 gf b (ih (.E cs NX elt ⟨m1,H2⟩ (rX J D r acc))) (uR J r acc H2)
inductive LcA(ih:Tk->Prop)(cs:Sc)(ifs:List Expr)(elt:Expr)(m0:Mm)(J:List V->List V->HH->Prop)(D:ah)(r acc:List V)(m1:Mm)(H1:HH):Prop
 |mk (s:iP m0 m1) (h:ih (.F cs ifs ⟨m1,H1⟩ (kLcB ih cs elt J D r acc m1)))
noncomputable def Fs(ih:Tk->Prop)(cs:Sc)(ifs:List Expr)(elt:Expr)(m0:Mm)(J:List V->List V->HH->Prop)(D:ah)(r acc:List V)(σ1:St):Prop:=match σ1 with
 | ⟨m1,H1⟩=>LcA ih cs ifs elt m0 J D r acc m1 H1
inductive LcD(ih:Tk->Prop)(cs:Sc)(tg:Expr)(ifs:List Expr)(elt:Expr)(m0:Mm)(K:ah->HH->Prop)(J:List V->List V->HH->Prop)(D:ah)(xs:List V)(H1:HH):Prop
 |mk (h0:J xs [] (upd H1 D (.lst []))) (h1:∀acc H,J [] acc H->K D H) (h2:∀x r acc H,J (x::r) acc H->ih (.A cs tg x ⟨m0,H⟩ (Fs ih cs ifs elt m0 J D r acc)))
inductive LcC(ih:Tk->Prop)(cs:Sc)(tg:Expr)(ifs:List Expr)(elt:Expr)(m0:Mm)(K:ah->HH->Prop)(xs:List V)(H1:HH):Prop
 |mk (J:ah->List V->List V->HH->Prop) (h:∀D,H1 D=bc->LcD ih cs tg ifs elt m0 K (J D) D xs H1)
noncomputable def Bu(ih:Tk->Prop)(sc:Sc)(X:XP)(elt tg iter:Expr)(ifs:List Expr)(scope:Scope)(m:Mm)(H:HH)(K:ah->HH->Prop):Prop :=
 ih (.I sc X tg iter ⟨m,H⟩ (LcC ih (eQ sc scope) tg ifs elt (rq scope m) K))
noncomputable def BO(Q:VP)(D:ah)(H:HH):Prop:=Q (.ref D) H
noncomputable def Fk(ih:Tk->Prop)(sc:Sc)(X:XP)(op:oM)(r:Expr)(m:Mm)(Q:VP)(a:V)(H1:HH):Prop:=ih (.E sc X r ⟨m,H1⟩ (xt G k X op Q a))
noncomputable def Fp(ih:Tk->Prop)(sc:Sc)(X:XP)(op:CmpOp)(r:Expr)(m:Mm)(Q:VP)(a:V)(H1:HH):Prop:=ih (.E sc X r ⟨m,H1⟩ (zr G k X op Q a))
noncomputable def kIf(ih:Tk->Prop)(sc:Sc)(X:XP)(b o:Expr)(m:Mm)(Q:VP)(x:Bool)(H1:HH):Prop:=gf x (ih (.E sc X b ⟨m,H1⟩ Q)) (ih (.E sc X o ⟨m,H1⟩ Q))
noncomputable def kTup(Q:VP)(vs:List V)(H1:HH):Prop:=cond (cU vs.length 1000) (Q (.tup vs) H1) False
noncomputable def kLst(Q:VP)(vs:List V)(H1:HH):Prop:=cond (cU vs.length 1000) (∀a,H1 a=bc->Q (.ref a) (upd H1 a (.lst vs))) False
noncomputable def kIt2(X:XP)(v i:Expr)(Q:VP)(ov iv:V)(H2:HH):Prop:=VT G k (qT v i) [ov,iv] H2 Q X
noncomputable def kIt(ih:Tk->Prop)(sc:Sc)(X:XP)(v i:Expr)(m:Mm)(Q:VP)(ov:V)(H1:HH):Prop:=ih (.E sc X i ⟨m,H1⟩ (kIt2 G k X v i Q ov))
noncomputable def Fo(X:XP)(f:Value)(Q:VP)(vs:List V)(H2:HH):Prop:=VT G k (dm f) vs H2 Q X
noncomputable def kFn(ih:Tk->Prop)(sc:Sc)(X:XP)(args:List Expr)(m:Mm)(H:HH)(Q:VP)(f:Value):Prop:=ih (.Es sc X args ⟨m,H⟩ (Fo G k X f Q))
noncomputable def Da(X:XP)(f:Value)(ov:V)(Q:VP)(vs:List V)(H2:HH):Prop:=VT G k (dm f) (ov::vs) H2 Q X
noncomputable def kMt(ih:Tk->Prop)(sc:Sc)(X:XP)(args:List Expr)(m:Mm)(Q:VP)(ov:V)(H1:HH)(f:Value):Prop:=ih (.Es sc X args ⟨m,H1⟩ (Da G k X f ov Q))
noncomputable def Ft(ih:Tk->Prop)(sc:Sc)(X:XP)(n:Str)(args:List Expr)(m:Mm)(Q:VP)(ov:V)(H1:HH):Prop:=uh G T ov n H1 (kMt G k ih sc X args m Q ov H1)
noncomputable def kSl2(ih:Tk->Prop)(sc:Sc)(X:XP)(up:Option Expr)(m:Mm)(S:V->V->V->HH->Prop)(o l:V)(H2:HH):Prop:=uk ih sc X up m H2 (S o l)
noncomputable def kSl(ih:Tk->Prop)(sc:Sc)(X:XP)(lo up:Option Expr)(m:Mm)(S:V->V->V->HH->Prop)(o:V)(H1:HH):Prop:=uk ih sc X lo m H1 (kSl2 ih sc X up m S o)
noncomputable def wZ(ih:Tk->Prop)(sc:Sc)(X:XP)(e:Expr)(m:Mm)(H:HH)(Q:VP):Prop:=match e with
 |.Constant c a b=>(match c with
  |.int i=>Q (.int i) H
  |.str x=>Q (.str x) H
  |.bool b=>Q (.bool b) H
  |.none=>Q .none H
  |c=>TE G k sc (.Constant c a b) ⟨m,H⟩ Q X)
 |.Name x _=>ki G T sc x m H Q
 |.BinOp l op r _=>ih (.E sc X l ⟨m,H⟩ (Fk G k ih sc X op r m Q))
 |.UnaryOp op x _=>ih (.E sc X x ⟨m,H⟩ (unQ G k X op Q))
 |.IfExp t b o _=>ih (.T sc X t ⟨m,H⟩ (kIf ih sc X b o m Q))
 |.BoolOp op es _=>ih (.Bo sc X op es ⟨m,H⟩ Q)
 |.Compare l ops rs pos=>(match ops with
  |[op]=>(match rs with
   |[r]=>cond (q9 op r) False (ih (.E sc X l ⟨m,H⟩ (Fp G k ih sc X op r m Q)))
   |rs=>TE G k sc (.Compare l [op] rs pos) ⟨m,H⟩ Q X)
  |ops=>TE G k sc (.Compare l ops rs pos) ⟨m,H⟩ Q X)
 |.Attribute o n _=>cond (kE o !=3) (ih (.E sc X o ⟨m,H⟩ (ze G k X T.at_ n Q))) False
 |.Tuple es _ _=>ih (.Es sc X es ⟨m,H⟩ (kTup Q))
 |.List es _=>ih (.Es sc X es ⟨m,H⟩ (kLst Q))
 |.Subscript v i pos=>(match i with
  |.Slice lo up st p=>(match v with
   |.Name x vp=>(match st with
    |bc=>ki G T sc x m H (kSl ih sc X lo up m (SlS Q))∨ki G T sc x m H (kSl ih sc X lo up m (SlL Q))
    |some st=>TE G k sc (.Subscript (.Name x vp) (.Slice lo up (some st) p) pos) ⟨m,H⟩ Q X)
   |v=>TE G k sc (.Subscript v (.Slice lo up st p) pos) ⟨m,H⟩ Q X)
  |i=>ih (.E sc X v ⟨m,H⟩ (kIt G k ih sc X v i m Q)))
 |.Call f args kws pos=>(match kws with
  |[]=>(match f with
   |.Name x _=>cond (args.all fun e=>kE e !=1) (tU G T sc x m (kFn G k ih sc X args m H Q)) False
   |.Attribute o n apos=>cond ((args.all fun e=>kE e !=1)&&kE o !=3&&Nat.blt args.length 29&&iX apos.endLine pos.line) (ih (.E sc X o ⟨m,H⟩ (Ft G T k ih sc X n args m Q))) False
   |f=>TE G k sc (.Call f args [] pos) ⟨m,H⟩ Q X)
  |kws=>TE G k sc (.Call f args kws pos) ⟨m,H⟩ Q X)
 |.ListComp elt gens scope pos=>(match gens with
  |[⟨tg,iter,ifs,n⟩]=>cond (kE iter !=2&&decide (n=0)&&lr sc scope&&(eC scope).all (fun x=>(m.lookup x).isSome)) (Bu ih sc X elt tg iter ifs scope m H (BO Q)) False
  |gens=>TE G k sc (.ListComp elt gens scope pos) ⟨m,H⟩ Q X)
 |e=>TE G k sc e ⟨m,H⟩ Q X
noncomputable def C9(ih:Tk->Prop)(sc:Sc)(t:Expr)(m:Mm)(Q:SP)(a:V)(H1:HH):Prop:=ih (.A sc t a ⟨m,H1⟩ (Q .next))
noncomputable def kExp(m:Mm)(Q:SP)(v:V)(H1:HH):Prop:=Q .next ⟨m,H1⟩
noncomputable def kRet(m:Mm)(Q:SP)(v:V)(H1:HH):Prop:=Q (.ret v) ⟨m,H1⟩
noncomputable def kIfS(ih:Tk->Prop)(sc:Sc)(X:XP)(b o:List jX)(m:Mm)(Q:SP)(x:Bool)(H1:HH):Prop:=gf x (ih (.Ss sc X b ⟨m,H1⟩ Q)) (ih (.Ss sc X o ⟨m,H1⟩ Q))
inductive Ds(P:St->Prop)(σ2:St):Prop
 |mk (σ3:St) (w:l5 σ2 σ3) (j:P σ3)
noncomputable def Cp(ih:Tk->Prop)(sc:Sc)(X:XP)(body:List jX)(J:List V->St->Prop)(r:List V)(Q:SP)(σ1:St):Prop:=ih (.Ss sc X body σ1 (nk (Ds (J r)) Q))
inductive ForJ(ih:Tk->Prop)(sc:Sc)(X:XP)(tg:Expr)(body:List jX)(Q:SP)(m:Mm)(xs:List V)(H1:HH):Prop
 |mk (J:List V->St->Prop) (h0:J xs ⟨m,H1⟩) (h1:∀σ,J [] σ->Q .next σ) (h2:∀x r σ,J (x::r) σ->ih (.A sc tg x σ (Cp ih sc X body J r Q)))
inductive ForC(ih:Tk->Prop)(sc:Sc)(X:XP)(tg iter:Expr)(body:List jX)(Q:SP)(σ:St):Prop
 |mk (σ0:St) (w:l5 σ σ0) (h:ih (.I sc X tg iter σ0 (ForJ ih sc X tg body Q σ0.m)))
inductive WkN(J:Nat->St->Prop)(n:Nat)(σ2:St):Prop
 |mk (m:Nat) (σ3:St) (l:m<n) (w:l5 σ2 σ3) (j:J m σ3)
noncomputable def kWh(ih:Tk->Prop)(sc:Sc)(X:XP)(body:List jX)(J:Nat->St->Prop)(n:Nat)(m:Mm)(Q:SP)(b:Bool)(H1:HH):Prop:=gf b (ih (.Ss sc X body ⟨m,H1⟩ (nk (WkN J n) Q))) (Q .next ⟨m,H1⟩)
inductive WhI(J:Nat->St->Prop)(n:Nat)(σ:St):Prop
 |mk (σ1:St) (w:l5 σ σ1) (j:J n σ1)
inductive WhC(ih:Tk->Prop)(sc:Sc)(X:XP)(t:Expr)(body:List jX)(Q:SP)(σ:St):Prop
 |mk (J:Nat->St->Prop) (n:Nat) (h0:WhI J n σ) (h1:∀n σ,J n σ->ih (.T sc X t σ (kWh ih sc X body J n σ.m Q)))
noncomputable def w5(ih:Tk->Prop)(sc:Sc)(X:XP)(s:jX)(m:Mm)(H:HH)(Q:SP):Prop:=match s with
 |.Assign ts v pos=>(match ts with
  |[t]=>cond (kE v !=4&&kE t !=1&&(kE t !=5&&kE t !=6||kE v !=5)) (ih (.E sc X v ⟨m,H⟩ (C9 ih sc t m Q))) (TS G k sc (.Assign [t] v pos) ⟨m,H⟩ Q X)
  |ts=>TS G k sc (.Assign ts v pos) ⟨m,H⟩ Q X)
 |.Expr e _=>cond (kE e !=4) (ih (.E sc X e ⟨m,H⟩ (kExp m Q))) False
 |.Return r _=>(match r with
  |some e=>ih (.E sc X e ⟨m,H⟩ (kRet m Q))
  |bc=>Q (.ret .none) ⟨m,H⟩)
 |.Break _=>Q .brk ⟨m,H⟩
 |.If t b o _=>ih (.T sc X t ⟨m,H⟩ (kIfS ih sc X b o m Q))
 |.For tg iter body els pos=>(match els with
  |[]=>cond (kE iter !=2) (ForC ih sc X tg iter body Q ⟨m,H⟩) False
  |els=>TS G k sc (.For tg iter body els pos) ⟨m,H⟩ Q X)
 |.While t body els pos=>(match els with
  |[]=>WhC ih sc X t body Q ⟨m,H⟩
  |els=>TS G k sc (.While t body els pos) ⟨m,H⟩ Q X)
 |s=>TS G k sc s ⟨m,H⟩ Q X
noncomputable def kEs2(Q:List V->HH->Prop)(v:V)(vs:List V)(H2:HH):Prop:=Q (v::vs) H2
noncomputable def kEs(ih:Tk->Prop)(sc:Sc)(X:XP)(es:List Expr)(m:Mm)(Q:List V->HH->Prop)(v:V)(H1:HH):Prop:=ih (.Es sc X es ⟨m,H1⟩ (kEs2 Q v))
noncomputable def kNot(Q:Bool->HH->Prop)(b:Bool)(H1:HH):Prop:=Q (!b) H1
noncomputable def kUT(m:Mm)(Q:St->Prop)(H2:HH):Prop:=Q ⟨m,H2⟩
noncomputable def Fu(n:Str)(v:V)(m:Mm)(Q:St->Prop)(ov:V)(H1:HH):Prop:=UT G k (qU n) [v,ov] H1 (kUT m Q) NX
noncomputable def Db(v:V)(m:Mm)(Q:St->Prop)(ov iv:V)(H2:HH):Prop:=UT G k sx [v,ov,iv] H2 (kUT m Q) NX
noncomputable def Fv(ih:Tk->Prop)(sc:Sc)(i:Expr)(v:V)(m:Mm)(Q:St->Prop)(ov:V)(H1:HH):Prop:=ih (.E sc NX i ⟨m,H1⟩ (Db G k v m Q ov))
inductive TupC(ih:Tk->Prop)(sc:Sc)(es:List Expr)(v:V)(m:Mm)(H:HH)(Q:St->Prop):Prop
 |mk (vs:List V) (a:con H v=.tup vs) (b:vs.length=es.length) (c:es.all (fun e=>kE e !=1)=true) (h:ih (.As sc es vs ⟨m,H⟩ Q))
noncomputable def kAs(ih:Tk->Prop)(sc:Sc)(ts:List Expr)(vs:List V)(Q:St->Prop)(σ1:St):Prop:=ih (.As sc ts vs σ1 Q)
noncomputable def seqK(ih:Tk->Prop)(sc:Sc)(X:XP)(ss:List jX)(Q:SP)(fl:Fl)(σ1:St):Prop:=match fl with
 |.next=>ih (.Ss sc X ss σ1 Q)
 |.brk=>Q .brk σ1
 |.ret v=>Q (.ret v) σ1
noncomputable def kBo2(ih:Tk->Prop)(sc:Sc)(X:XP)(op:BoolOp)(es:List Expr)(m:Mm)(Q:VP)(v:V)(b:Bool)(H2:HH):Prop:=match op with
 |.And=>gf b (ih (.Bo sc X .And es ⟨m,H2⟩ Q)) (Q v H2)
 |.Or=>gf b (Q v H2) (ih (.Bo sc X .Or es ⟨m,H2⟩ Q))
noncomputable def kBo(ih:Tk->Prop)(sc:Sc)(X:XP)(op:BoolOp)(es:List Expr)(m:Mm)(Q:VP)(v:V)(H1:HH):Prop:=qW G k X (kBo2 ih sc X op es m Q v) v H1
noncomputable def kAl(ih:Tk->Prop)(sc:Sc)(X:XP)(op:BoolOp)(es:List Expr)(m:Mm)(Q:Bool->HH->Prop)(b:Bool)(H1:HH):Prop:=match op with
 |.And=>gf b (ih (.Al sc X .And es ⟨m,H1⟩ Q)) (Q false H1)
 |.Or=>gf b (Q true H1) (ih (.Al sc X .Or es ⟨m,H1⟩ Q))
inductive EnL(Q:List V->HH->Prop)(v:V)(H2:HH):Prop
 |mk (xs:List V) (e:v=.lst xs) (h:Q (xs.zipIdx.map fun p=>V.tup [.int (p.2:Int),p.1]) H2)
inductive EnC(ih:Tk->Prop)(sc:Sc)(X:XP)(arg:Expr)(m:Mm)(Q:List V->HH->Prop)(fv:V)(H1:HH):Prop
 |mk (a:fv=.glob (.type "enumerate")) (h:ih (.E sc X arg ⟨m,H1⟩ (EnL Q)))
noncomputable def kF(ih:Tk->Prop)(sc:Sc)(cs:List Expr)(m:Mm)(Q:Bool->HH->Prop)(b:Bool)(H1:HH):Prop:=gf b (ih (.F sc cs ⟨m,H1⟩ Q)) (Q false H1)
noncomputable def w6(ih:Tk->Prop)(sc:Sc)(X:XP)(e:Expr)(m:Mm)(H:HH)(Q:Bool->HH->Prop):Prop:=match e with
 |.UnaryOp op x pos=>(match op with
  |.Not=>ih (.T sc X x ⟨m,H⟩ (kNot Q))
  |op=>TT G k sc (.UnaryOp op x pos) ⟨m,H⟩ Q X)
 |.BoolOp op es _=>ih (.Al sc X op es ⟨m,H⟩ Q)
 |.Compare l ops rs pos=>(match ops with
  |[op]=>(match rs with
   |[r]=>cond (q9 op r) False (ih (.E sc X l ⟨m,H⟩ (Fp G k ih sc X op r m (qW G k X Q))))
   |rs=>TT G k sc (.Compare l [op] rs pos) ⟨m,H⟩ Q X)
  |ops=>TT G k sc (.Compare l ops rs pos) ⟨m,H⟩ Q X)
 |e=>cond (kE e !=7) (ih (.E sc X e ⟨m,H⟩ (qW G k X Q))) (TT G k sc e ⟨m,H⟩ Q X)
noncomputable def uG(ih:Tk->Prop)(sc:Sc)(t:Expr)(v:V)(m:Mm)(H:HH)(Q:St->Prop):Prop:=match t with
 |.Name x p=>(match sc.kindOf x with
  |some .local=>Q ⟨put x v m,H⟩
  |some .cell=>cond (sc.caps.contains x) False (Q ⟨put x v m,H⟩)
  |_=>TA G k sc (.Name x p) v ⟨m,H⟩ Q NX)
 |.Attribute o n _=>ih (.E sc NX o ⟨m,H⟩ (Fu G k n v m Q))
 |.Subscript o i _=>ih (.E sc NX o ⟨m,H⟩ (Fv G k ih sc i v m Q))
 |.Tuple es _ _=>TupC ih sc es v m H Q
 |t=>TA G k sc t v ⟨m,H⟩ Q NX
noncomputable def w4(ih:Tk->Prop)(sc:Sc)(X:XP)(tg iter:Expr)(m:Mm)(H:HH)(Q:List V->HH->Prop):Prop:=match iter with
 |.Call f args kws pos=>(match f with
  |.Name x p=>(match args with
   |[arg]=>(match kws with
    |[]=>(match tg with
     |.Tuple a b c=>cond (kE arg !=1&&x== "enumerate") (ki G T sc x m H (EnC ih sc X arg m Q)) (ih (.E sc X (.Call (.Name x p) [arg] [] pos) ⟨m,H⟩ (rz Q)))
     |tg=>ih (.E sc X (.Call (.Name x p) [arg] [] pos) ⟨m,H⟩ (rz Q)))
    |kws=>ih (.E sc X (.Call (.Name x p) [arg] kws pos) ⟨m,H⟩ (rz Q)))
   |args=>ih (.E sc X (.Call (.Name x p) args kws pos) ⟨m,H⟩ (rz Q)))
  |f=>ih (.E sc X (.Call f args kws pos) ⟨m,H⟩ (rz Q)))
 |e=>ih (.E sc X e ⟨m,H⟩ (rz Q))
noncomputable def step(ih:Tk->Prop):Tk->Prop
 |.E sc X e ⟨m,H⟩ Q=>wZ G T k ih sc X e m H Q
 |.Es sc X es ⟨m,H⟩ Q=>(match es with
  |[]=>Q [] H
  |e::es=>cond (kE e !=1) (ih (.E sc X e ⟨m,H⟩ (kEs ih sc X es m Q))) False)
 |.T sc X e ⟨m,H⟩ Q=>w6 G k ih sc X e m H Q
 |.A sc t v ⟨m,H⟩ Q=>uG G k ih sc t v m H Q
 |.As sc ts vs σ Q=>(match ts with
  |[]=>(match vs with|[]=>Q σ|_::_=>False)
  |t::ts=>(match vs with|[]=>False|v::vs=>cond (kE t !=1) (ih (.A sc t v σ (kAs ih sc ts vs Q))) False))
 |.S sc X s ⟨m,H⟩ Q=>w5 G k ih sc X s m H Q
 |.Ss sc X ss σ Q=>(match ss with
  |[]=>Q .next σ
  |s::ss=>ih (.S sc X s σ (seqK ih sc X ss Q)))
 |.Bo sc X op es ⟨m,H⟩ Q=>(match es with
  |[]=>False
  |x::es=>(match es with
   |[]=>ih (.E sc X x ⟨m,H⟩ Q)
   |y::es=>ih (.E sc X x ⟨m,H⟩ (kBo G k ih sc X op (y::es) m Q))))
 |.Al sc X op es ⟨m,H⟩ Q=>(match es with
  |[]=>(match op with|.And=>Q true H|.Or=>Q false H)
  |x::es=>ih (.T sc X x ⟨m,H⟩ (kAl ih sc X op es m Q)))
 |.I sc X tg iter ⟨m,H⟩ Q=>w4 G T ih sc X tg iter m H Q
 |.F sc ifs ⟨m,H⟩ Q=>(match ifs with
  |[]=>Q true H
  |c::cs=>ih (.T sc NX c ⟨m,H⟩ (kF ih sc cs m Q)))
noncomputable def vc:Nat->Tk->Prop
 |0,_=>False
 |n+1,t=>step G T k (vc n) t
end
end
section
variable {G:GC}{T:Dr G}{k:Nat}{sc:Sc}{σ:St}{X:XP}
theorem gR{b:Bool}{P:Prop}(h:cond b P False):b=true/\P:=by
 cases b
 ·exact h.elim
 ·exact⟨rfl,h⟩
theorem j9{b:Bool}{P P':Prop}(h:cond b P P'):(b=true/\P)∨(b=false/\P'):=by
 cases b
 ·exact .inr ⟨rfl,h⟩
 ·exact .inl ⟨rfl,h⟩
theorem Fg{env:Env}:∀{es:List Expr},es.all (fun e=>kE e !=1)=true->eF es env=es.map fun e=>(false,assign e env)
 |[],_=>rfl
 |e::es,c=>by
  rw[List.all_cons,bI]at c;rw[CS c.1,Fg c.2];rfl
theorem ki.ok{x pos}{m:Mm}{H:HH}{Q:VP}(h:ki G T sc x m H Q):TE G k sc (.Name x pos) ⟨m,H⟩ Q X:=by
 unfold ki at h;cases hv:m.lookup x with
 |some v=>
  rw[hv]at h;cases q:x==("__debug__":Str)with
  |true=>rw[q]at h;exact h.elim
  |false=>rw[q]at h;exact TE.name hv h q
 |none=>
  rw[hv]at h;dsimp only at h;cases hk:sc.kindOf x with
  |none=>rw[hk]at h;exact h.elim
  |some kd=>
   rw[hk]at h;cases kd with
   |globalImplicit=>
    dsimp only at h;cases hn:T.nm x with
    |none=>rw[hn]at h;exact h.elim
    |some v=>
     rw[hn]at h;refine ea (T.nok _ _ hn) fun q hh=>?_;rcases hh with ⟨c,h1,rfl⟩|⟨h1,h2,c,h3,rfl⟩
     ·exact TE.glob hk h1 h q
     ·exact TE.blt hk h1 h3 h h2 q
   |_=>exact h.elim
theorem tU.ok{x pos}{m:Mm}{H:HH}{K:Value->Prop}(h:tU G T sc x m K):TE G k sc (.Name x pos) ⟨m,H⟩ (fun fv H1=>∃f,fv=.glob f/\gD G.K f/\H1=H/\K f) X:=by
 refine ki.ok (T:=T) ?_;unfold tU at h;unfold ki;cases hv:m.lookup x with
 |some v=>rw[hv]at h;exact h.elim
 |none=>
  rw[hv]at h;dsimp only at h ⊢;cases hk:sc.kindOf x with
  |none=>rw[hk]at h;exact h.elim
  |some kd=>
   rw[hk]at h;cases kd with
   |globalImplicit=>
    dsimp only at h ⊢;cases hn:T.nm x with
    |none=>rw[hn]at h;exact h.elim
    |some v=>
     rw[hn]at h;cases v with
     |glob f=>exact⟨_,rfl,T.cok _ _ hn,rfl,h⟩
     |_=>exact h.elim
   |_=>exact h.elim
theorem uT.ok{ov n}{H:HH}{K:Value->Prop}(h:uT G n ov H K):∃f,MT G n ov H f/\gD G.K f/\K f:=by
 obtain⟨f,a,b,c⟩:=h;exact⟨f,a,b,c⟩
theorem uh.ok{ov n}{H:HH}{K:Value->Prop}(h:uh G T ov n H K):∃f,MT G n ov H f/\gD G.K f/\K f:=by
 cases ov with
 |inst c d=>cases d with
  |adict xs=>
   unfold uh at h;dsimp only at h;cases hf:T.mt c n with
   |none=>rw[hf]at h;exact uT.ok h
   |some f=>
    rw[hf]at h;refine Bi (T.mok _ _ _ hf) fun a b c d=>?_;refine ea (gR h) fun q h=>?_;exact⟨_,MT.inst rfl a b c (sD.mp q),d,h⟩
  |_=>exact uT.ok h
 |_=>exact uT.ok h
theorem TE.imp{e}{Q Q':VP}(h:TE G k sc e σ Q X)(hQ:∀v H,Q v H->Q' v H):TE G k sc e σ Q' X:=h.mono (ax _) hQ fun zz zz zz x=>x
theorem TT.imp{e}{Q Q':Bool->HH->Prop}(h:TT G k sc e σ Q X)(hQ:∀v H,Q v H->Q' v H):TT G k sc e σ Q' X:=h.mono (ax _) hQ fun zz zz zz x=>x
theorem TA.imp{e v}{Q Q':St->Prop}(h:TA G k sc e v σ Q X)(hQ:∀σ,Q σ->Q' σ):TA G k sc e v σ Q' X:=h.mono (ax _) hQ fun zz zz zz x=>x
theorem TS.imp{e}{Q Q':SP}(h:TS G k sc e σ Q X)(hQ:∀f σ,Q f σ->Q' f σ):TS G k sc e σ Q' X:=h.mono (ax _) hQ fun zz zz zz x=>x
theorem lK.imp{e}{Q Q':SP}(h:lK G k sc e σ Q X)(hQ:∀f σ,Q f σ->Q' f σ):lK G k sc e σ Q' X:=h.mono (ax _) hQ fun zz zz zz x=>x
theorem pq.imp{es}{Q Q':List V->HH->Prop}(h:pq G k sc es σ Q X)(hQ:∀v H,Q v H->Q' v H):pq G k sc es σ Q' X:=fun fm A fs F s pos hs ok r=>(h fm A fs F s pos hs ok r).mono (fun zz zz zz zz zz zz z=>by obtain⟨v,a,b⟩:=z;exact⟨v,a,hQ _ _ b⟩) (fun zz zz zz x=>x) dD subs
theorem TI.imp{tg iter}{Q Q':List V->HH->Prop}(h:TI G k sc tg iter σ Q X)(hQ:∀v H,Q v H->Q' v H):TI G k sc tg iter σ Q' X:=fun fm A fs F s hs ok r=>
 aK (h fm A fs F s hs ok r) (fun x s1 h1=>aK h1 (fun it s2 z'=>by obtain⟨H',F',its,xs,r,st,hit,hf,q⟩:=z';exact⟨H',F',its,xs,r,st,hit,hf,hQ _ _ q⟩) fun zz zz x=>x) fun zz zz x=>x
theorem VT.imp2{t a H}{Q Q':VP}(h:VT G k t a H Q X)(hQ:∀v H,Q v H->Q' v H):VT G k t a H Q' X:=h.mono (ax _) hQ fun zz zz zz x=>x
theorem BT.imp{t a H}{Q Q':Bool->HH->Prop}(h:BT G k t a H Q X)(hQ:∀v H,Q v H->Q' v H):BT G k t a H Q' X:=h.mono (ax _) hQ fun zz zz zz x=>x
theorem tX{x p args pos}(env:Env):fu (.Call (.Name x p) args [] pos) env=(do callWith pos (←fu (.Name x p) env) [] (jr pos (cL args env)) (oN pos (jM [] env))):=rfl
theorem noStar{args:List Expr}(h:args.all (fun e=>kE e !=1)=true)(env:Env):(cL args env).any (·.1)=false:=by
 rw[BX h];refine rA lE ?_;exact List.any_eq_false.mpr fun zz zz=>by simp
theorem lK.post{ss}{Q:SP}(h:lK G k sc ss σ (fun f σ1=>∃σ2,l5 σ1 σ2/\Q f σ2) X):lK G k sc ss σ Q X:=fun fm A outer F s hsc ok rel=>by
 refine aK (h fm A outer F s hsc ok rel) (fun fl s1 g=>?_) fun zz zz x=>x;obtain⟨H1,F1,r1,st1,m1,fa,rf,hf,σ2,w,q⟩:=g;refine bx (jn.weak (σ:=⟨m1,H1⟩) ⟨r1,rf⟩ w) fun F2 rel2 dE=>?_;refine⟨σ2.H,F2,rel2.hp,st1.trans (dE.mono fP),σ2.m,fa,rel2.fr,?_,q⟩;cases hf with
 |next=>exact .next
 |brk=>exact .brk
 |ret v=>exact .ret (dE.vr r1.live v)
theorem TS.weak{s}{σ':St}{Q:SP}(w:l5 σ σ')(h:TS G k sc s σ' Q X):TS G k sc s σ Q X:=fun fm A outer F s hsc ok rel=>by
 refine bx (rel.weak w) fun F' r st=>?_;exact(h fm A outer F' s hsc ok r).fin (st.mono fP) subs dD
theorem xO{J:St->Prop}{Q:SP}{body}(h:lK G k sc body σ (nk (Ds J) Q) X):lK G k sc body σ (nk J Q) X:=by
 refine lK.post (h.imp fun fl σ2 q=>?_);cases fl with
 |next=>obtain⟨σ3,a,b⟩:=q;exact⟨σ3,a,b⟩
 |brk=>exact⟨σ2,.refl,q⟩
 |ret v=>exact⟨σ2,.refl,q⟩
theorem wx{tg body}{Q:SP}{J:List V->St->Prop}(h0:∀σ,J [] σ->Q .next σ)(h1:∀x r σ,J (x::r) σ->TA G k sc tg x σ (fun σ1=>lK G k sc body σ1 (nk (Ds (J r)) Q) X) NX) :
  ∀xs σ,J xs σ->yw G k sc tg body Q X xs σ
 |[],σ,h=>h0 σ h
 |x::xs,σ,h=>(h1 x xs σ h).imp fun σ1 h2=>(xO h2).imp fun fl σ2 h3=>by
  cases fl with
  |next=>exact wx h0 h1 xs σ2 h3
  |brk=>exact h3
  |ret v=>exact h3
theorem zv{tg ifs elt}{K:HH->Prop}{D:ah}{m:List (Str×V)}{J:List V->List V->HH->Prop}(h0:∀acc H,J [] acc H->K H)
  (h1:∀x r acc H,J (x::r) acc H->TA G k sc tg x ⟨m,H⟩ (fun σ1=>iP m σ1.m/\kD G k sc ifs σ1 (fun b H2=>gf b (TE G k sc elt ⟨σ1.m,H2⟩ (rX J D r acc) NX) (uR J r acc H2)) NX) NX) (xs:List V) :
  ∀acc H,J xs acc H->f9 G k sc tg ifs (AI G k sc elt D) (fun σc=>K σc.H) xs ⟨m,H⟩:=by
 induction xs with
 |nil=>exact h0
 |cons x xs ih=>
  intro acc H h;refine(h1 x xs acc H h).imp fun σ1 h2=>kD.mono h2.2 fun b H2 h3=>?_;have w:∀acc H,J xs acc H->f9 G k sc tg ifs (AI G k sc elt D) (fun σc=>K σc.H) xs ⟨σ1.m,H⟩:=fun acc H j=>f9.weakM (fun zz zz zz x=>x) (m:=m) h2.1 (ih acc H j);cases b with
  |true=>
   refine TE.imp h3 fun v H3 z=>?_;obtain⟨v',H4,a,b,c,d,e⟩:=z;exact⟨acc,v',H4,a,b,c,d,w _ _ e⟩
  |false=>obtain⟨H4,a,b⟩:=h3;exact⟨H4,a,w _ _ b⟩
variable {ih:Tk->Prop}
theorem lcA.ok{cs:Sc}{ifs:List Expr}{elt:Expr}{m0:Mm}{J:List V->List V->HH->Prop}{D:ah}{r acc:List V}{σ1:St}(hih:∀t,ih t->t.Sound G k)(h:Fs ih cs ifs elt m0 J D r acc σ1) :
  iP m0 σ1.m/\kD G k cs ifs σ1 (fun b H2=>gf b (TE G k cs elt ⟨σ1.m,H2⟩ (rX J D r acc) NX) (uR J r acc H2)) NX:=by
 obtain⟨s,h⟩:=h;refine⟨s,kD.mono (hih _ h) fun b H2 q=>?_⟩;cases b with
 |true=>exact hih _ q
 |false=>exact q
theorem Bu.run(hih:∀t,ih t->t.Sound G k){elt tg iter ifs scope}{m:Mm}{H:HH}{K K':ah->HH->Prop}(hK:∀D H,K D H->K' D H)(h:Bu ih sc X elt tg iter ifs scope m H K) :
  TI G k sc tg iter ⟨m,H⟩ (fun xs H1=>∀D,H1 D=none->f9 G k (eQ sc scope) tg ifs (AI G k (eQ sc scope) elt D) (fun σc=>K' D σc.H) xs ⟨rq scope m,upd H1 D (.lst [])⟩) X:=by
 refine TI.imp (hih _ h) fun xs H1 ⟨J,hJ⟩ D hD=>?_;obtain⟨j0,j1,j2⟩:=hJ D hD;exact zv (K:=K' D) (fun acc H hj=>hK _ _ (j1 acc H hj)) (fun x r acc H hj=>(hih _ (j2 x r acc H hj):TA ..).imp fun σ1 z=>lcA.ok hih z) xs [] _ j0
theorem Bu.ok(hih:∀t,ih t->t.Sound G k){elt tg iter ifs scope pos}{m:Mm}{H:HH}{Q:VP}{n:Int}(hn:(kE iter !=2&&decide (n=0)&&lr sc scope&&(eC scope).all (fun x=>(m.lookup x).isSome))=true)
  (h:Bu ih sc X elt tg iter ifs scope m H (BO Q)) (hk3:3<=k):TE G k sc (.ListComp elt [⟨tg,iter,ifs,n⟩] scope pos) ⟨m,H⟩ Q X:=by
 simp only[bI,decide_eq_true_eq]at hn;refine ea hn fun FW h3=>?_;clear hn;refine ea FW fun FY h2=>?_;clear FW;obtain⟨h1,rfl⟩:=FY;exact yN (Bu.run hih (K':=BO Q) (fun zz zz h=>h) h) h2 h3 (fun env x=>se h1 env x) (fun zz=>rfl) hk3
theorem TO.imp{e}{Q Q':VP}(h:TO G k sc e σ Q X)(hQ:∀v H,Q v H->Q' v H):TO G k sc e σ Q' X:=fun fm A fs F s hs ok r=>(h fm A fs F s hs ok r).mono (fun zz zz zz zz zz zz z=>z.imp hQ) (fun zz zz zz x=>x) dD subs
theorem uk.ok(hih:∀t,ih t->t.Sound G k){e}{m:Mm}{H:HH}{Q:VP}(h:uk ih sc X e m H Q):TO G k sc e ⟨m,H⟩ Q X:=by
 cases e with
 |none=>exact TO.none h
 |some e=>exact TO.some (hih _ h)
theorem wZ.ok(hih:∀t,ih t->t.Sound G k)(hk3:3<=k){e}{m:Mm}{H:HH}{Q:VP}(h:wZ G T k ih sc X e m H Q):TE G k sc e ⟨m,H⟩ Q X:=by
 cases e with
 |Constant c a b=>cases c with
  |int i=>exact TE.int h
  |str x=>exact TE.str h
  |bool x=>exact TE.bool h
  |none=>exact yP h
  |_=>exact h
 |Name x p=>exact ki.ok h
 |BinOp l op r p=>exact CI (TE.imp (hih _ h) fun a H1 h1=>TE.imp (hih _ h1) fun b H2 h2=>xt.ok h2)
 |UnaryOp op x p=>exact E8 (TE.imp (hih _ h) fun a H1 h1=>unQ.ok h1)
 |IfExp t b o p=>
  exact CJ (TT.imp (hih _ h) fun x H1 h1=>by
   have h1:=gf.ok h1;cases x with
   |true=>exact hih _ h1
   |false=>exact hih _ h1)
 |BoolOp op es p=>exact TE.bo (hih _ h)
 |Compare l ops rs pos=>cases ops with
  |nil=>exact h
  |cons op ops=>cases ops with
   |cons _ _=>exact h
   |nil=>cases rs with
    |nil=>exact h
    |cons r rs=>cases rs with
     |cons _ _=>exact h
     |nil=>
      rcases j9 h with ⟨q,h⟩|⟨q,h⟩
      ·exact h.elim
      ·exact TE.cmp (TE.imp (hih _ h) fun a H1 h1=>TE.imp (hih _ h1) fun b H2 h2=>zr.ok h2) q
 |Attribute o n p=>
  refine ea (gR h) fun q h=>?_;exact TE.attr (TE.imp (hih _ h) fun a H1 h1=>ze.ok h1) fun env w=>Cj q env w
 |Tuple es a b=>exact TE.tup (pq.imp (hih _ h) fun vs H1 h1=>by refine ea (gR h1) fun a b=>?_;exact⟨aq a,b⟩)
 |List es a=>exact TE.list (pq.imp (hih _ h) fun vs H1 h1=>by refine ea (gR h1) fun a b=>?_;exact⟨aq a,b⟩)
 |Subscript v i pos=>cases i with
  |Slice lo up st p=>cases v with
   |Name x vp=>cases st with
    |some st=>exact h
    |none=>
     rcases h with h|h
     ·exact xk (TE.imp (ki.ok h) fun o H1 h1=>TO.imp (uk.ok hih h1) fun l H2 h2=>uk.ok hih h2)
     ·exact yQ (TE.imp (ki.ok h) fun o H1 h1=>TO.imp (uk.ok hih h1) fun l H2 h2=>uk.ok hih h2)
   |_=>exact h
  |_=>exact TE.item (TE.imp (hih _ h) fun a H1 h1=>hih _ h1)
 |Call f args kws pos=>cases kws with
  |cons _ _=>exact h
  |nil=>cases f with
   |Name x p=>
    refine ea (gR h) fun q h=>?_;exact TE.call (TE.imp (tU.ok h) fun fv H1 h1=>by refine kZ h1 fun f a b FW c=>?_;clear h1;subst FW;exact⟨f,a,b,hih _ c⟩) (fun env=>tX env) (fun env=>noStar q env)
   |Attribute o n ap=>
    refine ea (gR h) fun q h=>?_;simp only[bI]at q;refine ea q fun FY q4=>?_;refine ea FY fun FZ q3=>?_;obtain⟨q1,q2⟩:=FZ;exact wc (TE.imp (hih _ h) fun fv H1 h1=>by refine cX (uh.ok h1) fun f a b c=>?_;exact⟨f,a,b,hih _ c⟩) (fU q4) (by have:=Nat.blt_eq.mp q3;exact this) (fun env w=>Cj q2 env w) (fun env=>noStar q1 env)
   |_=>exact h
 |ListComp elt gens scope pos=>cases gens with
  |nil=>exact h
  |cons g gs=>
   obtain⟨tg,iter,ifs,n⟩:=g;cases gs with
   |cons _ _=>exact h
   |nil=>
    refine ea (gR h) fun q h=>?_;exact Bu.ok hih q h hk3
 |_=>exact h
theorem w5.ok(hih:∀t,ih t->t.Sound G k)(hk3:3<=k){s}{m:Mm}{H:HH}{Q:SP}(h:w5 G k ih sc X s m H Q):TS G k sc s ⟨m,H⟩ Q X:=by
 cases s with
 |Assign ts v pos=>cases ts with
  |nil=>exact h
  |cons t ts=>cases ts with
   |cons _ _=>exact h
   |nil=>
    rcases j9 h with ⟨q,h⟩|⟨q,h⟩
    ·simp only[bI]at q;refine ea q fun FW q3=>?_;refine ea FW fun q1 q2=>?_;exact TS.assign (TE.imp (hih _ h) fun a H1 h1=>hih _ h1) (fun env line=>Cy q1 line env) (fun env zz=>BY (by simpa using q3) env) (fun env=>CS q2 env)
    ·exact h
 |Expr e p=>
  refine ea (gR h) fun q h=>?_;exact we (hih _ h) fun env line=>Cy q line env
 |Return r p=>cases r with
  |some e=>exact TS.ret (hih _ h)
  |none=>exact AU h
 |Break p=>exact TS.brk h
 |If t b o p=>
  refine CK (TT.imp (hih _ h) fun x H1 h1=>?_);have h1:=gf.ok h1;cases x with
  |true=>exact hih _ h1
  |false=>exact hih _ h1
 |For tg iter body els pos=>cases els with
  |cons _ _=>exact h
  |nil=>
   refine ea (gR h) fun q h=>?_;obtain⟨σ0,w,h⟩:=h;refine TS.weak w (AT (TI.imp (hih _ h) fun xs H1 h1=>?_) (fun env x=>se q env x) hk3);obtain⟨J,j0,j1,j2⟩:=h1;exact wx j1 (fun x r σ hj=>TA.imp (hih _ (j2 x r σ hj)) fun σ1 h2=>hih _ h2) xs _ j0
 |While t body els pos=>cases els with
  |cons _ _=>exact h
  |nil=>
   obtain⟨J,n,⟨σ1,w,j0⟩,j1⟩:=h;refine TS.weak w (yS J n j0 fun n σ hj=>TT.imp (hih _ (j1 n σ hj)) fun b H1 h1=>?_);have h1:=gf.ok h1;cases b with
   |false=>exact h1
   |true=>
    refine lK.post (lK.imp (hih _ h1) fun fl σ2 h2=>?_);cases fl with
    |next=>obtain⟨m,σ3,a,b,c⟩:=h2;exact⟨σ3,b,m,a,c⟩
    |brk=>exact⟨σ2,.refl,h2⟩
    |ret v=>exact⟨σ2,.refl,h2⟩
 |_=>exact h
theorem w6.ok(hih:∀t,ih t->t.Sound G k){e}{m:Mm}{H:HH}{Q:Bool->HH->Prop}(h:w6 G k ih sc X e m H Q):TT G k sc e ⟨m,H⟩ Q X:=by
 have d:∀e,cond (kE e !=7) (ih (.E sc X e ⟨m,H⟩ (qW G k X Q))) (TT G k sc e ⟨m,H⟩ Q X)->TT G k sc e ⟨m,H⟩ Q X:=fun e h=>by
  rcases j9 h with ⟨q,h⟩|⟨q,h⟩
  ·exact TT.val (TE.imp (hih _ h) fun a H1 h1=>qW.ok h1) fun env w=>FS q env w
  ·exact h
 cases e with
 |UnaryOp op x p=>cases op with
  |Not=>exact CL (hih _ h)
  |_=>exact h
 |BoolOp op es p=>exact TT.bo (hih _ h)
 |Compare l ops rs pos=>cases ops with
  |nil=>exact h
  |cons op ops=>cases ops with
   |cons _ _=>exact h
   |nil=>cases rs with
    |nil=>exact h
    |cons r rs=>cases rs with
     |cons _ _=>exact h
     |nil=>
      rcases j9 h with ⟨q,h⟩|⟨q,h⟩
      ·exact h.elim
      ·exact TT.cmp (TE.imp (hih _ h) fun a H1 h1=>TE.imp (hih _ h1) fun b H2 h2=>VT.imp2 (zr.ok h2) fun c H3 h3=>qW.ok h3) q
 |_=>exact d _ h
theorem uG.ok(hih:∀t,ih t->t.Sound G k)(hk3:3<=k){t v}{m:Mm}{H:HH}{Q:St->Prop}(h:uG G k ih sc t v m H Q):TA G k sc t v ⟨m,H⟩ Q NX:=by
 cases t with
 |Name x p=>
  unfold uG at h;dsimp only at h;cases hk:sc.kindOf x with
  |none=>rw[hk]at h;exact h
  |some kd=>
   rw[hk]at h;cases kd with
   | «local»=>exact TA.name hk h
   |cell=>
    rcases j9 h with ⟨q,h⟩|⟨q,h⟩
    ·exact h.elim
    ·exact TA.cell hk (fun m=>by rw[List.contains_iff_mem.mpr m]at q;exact nB q.symm) h
   |_=>exact h
 |Attribute o n p=>exact TA.attr (TE.imp (hih _ h) fun ov H1 h1=>h1)
 |Subscript o i p=>exact TA.sub (TE.imp (hih _ h) fun ov H1 h1=>hih _ h1)
 |Tuple es a b=>
  obtain⟨vs,a,b,c,d⟩:=h;refine TA.tup a b (hih _ d) (fun env=>?_) hk3;refine rA (Fg c) ?_;refine⟨by simp,?_⟩;rw[tz];intro x hx;refine bx (aJ.mp hx) fun e zz FW=>?_;subst FW
  rfl
 |_=>exact h
theorem w4.ok(hih:∀t,ih t->t.Sound G k){tg iter}{m:Mm}{H:HH}{Q:List V->HH->Prop}(h:w4 G T ih sc X tg iter m H Q):TI G k sc tg iter ⟨m,H⟩ Q X:=by
 have dflt:∀e,ih (.E sc X e ⟨m,H⟩ (rz Q))->TI G k sc tg e ⟨m,H⟩ Q X:=fun e q=>TI.of (TE.imp (hih _ q) fun v H1 h1=>rz.ok h1);cases iter with
 |Call f args kws pos=>cases f with
  |Name x p=>cases args with
   |nil=>exact dflt _ h
   |cons arg args=>cases args with
    |cons _ _=>exact dflt _ h
    |nil=>cases kws with
     |cons _ _=>exact dflt _ h
     |nil=>cases tg with
      |Tuple a b c=>
       rcases j9 h with ⟨q,h⟩|⟨q,h⟩
       ·refine ea (aP.mp q) fun q1 q2=>?_;refine TI.enum ⟨_,_,_,rfl⟩ (TE.imp (ki.ok h) fun fv H1 z'=>by obtain⟨e,h1⟩:=z';exact⟨e,TE.imp (hih _ h1) fun v H2 ⟨xs,a,b⟩=>⟨xs,a,b⟩⟩) (fun env=>tX env) (fun env=>by rw[Cx q1];rfl)
       ·exact dflt _ h
      |_=>exact dflt _ h
  |_=>exact dflt _ h
 |_=>exact dflt _ h
theorem step.ok(hih:∀t,ih t->t.Sound G k)(hk3:3<=k){t:Tk}(h:step G T k ih t):t.Sound G k:=by
 cases t with
 |E sc X e σ Q=>exact wZ.ok hih hk3 h
 |Es sc X es σ Q=>
  cases es with
  |nil=>exact pq.nil h
  |cons e es=>
   refine ea (gR h) fun q h=>?_;exact pq.cons (TE.imp (hih _ h) fun v H1 h1=>hih _ h1) fun env=>Cx q env
 |T sc X e σ Q=>exact w6.ok hih h
 |A sc t v σ Q=>exact uG.ok hih hk3 h
 |As sc ts vs σ Q=>
  cases ts with
  |nil=>cases vs with
   |nil=>exact AR.nil h
   |cons v vs=>exact h.elim
  |cons t ts=>cases vs with
   |nil=>exact h.elim
   |cons v vs=>
    refine ea (gR h) fun q h=>?_;exact AR.cons (TA.imp (hih _ h) fun σ1 h1=>hih _ h1) fun env=>CS q env
 |S sc X s σ Q=>exact w5.ok hih hk3 h
 |Ss sc X ss σ Q=>
  cases ss with
  |nil=>exact lK.nil h
  |cons s ss=>
   refine lK.cons (TS.imp (hih _ h) fun fl σ1 h1=>?_);cases fl with
   |next=>exact hih _ h1
   |brk=>exact h1
   |ret v=>exact h1
 |Bo sc X op es σ Q=>
  cases es with
  |nil=>exact h.elim
  |cons x es=>cases es with
   |nil=>exact xi.one (hih _ h)
   |cons y es=>
    cases op with
    |And=>
     refine xi.and (TE.imp (hih _ h) fun v H1 h1=>BT.imp (qW.ok h1) fun b H2 h2=>?_);cases b with
     |true=>exact hih _ h2
     |false=>exact h2
    |Or=>
     refine xi.or (TE.imp (hih _ h) fun v H1 h1=>BT.imp (qW.ok h1) fun b H2 h2=>?_);cases b with
     |true=>exact h2
     |false=>exact hih _ h2
 |Al sc X op es σ Q=>
  cases es with
  |nil=>cases op with
   |And=>exact tJ h
   |Or=>exact uX h
  |cons x es=>cases op with
   |And=>
    refine l4.and (TT.imp (hih _ h) fun b H1 h1=>?_);cases b with
    |true=>exact hih _ h1
    |false=>exact h1
   |Or=>
    refine l4.or (TT.imp (hih _ h) fun b H1 h1=>?_);cases b with
    |true=>exact h1
    |false=>exact hih _ h1
 |I sc X tg iter σ Q=>exact w4.ok hih h
 |F sc ifs σ Q=>
  cases ifs with
  |nil=>exact kD.nil h
  |cons c cs=>
   refine kD.cons (TT.imp (hih _ h) fun b H1 h1=>?_);cases b with
   |true=>exact hih _ h1
   |false=>exact h1
theorem vc.ok(hk3:3<=k):∀n t,vc G T k n t->t.Sound G k
 |0,t,h=>h.elim
 |n+1,t,h=>step.ok (vc.ok hk3 n) hk3 h
end
inductive GN
 |r (a:ah)
 |i (n:Int)
 |s (x:Str)
 |b (v:Value)
noncomputable def GN.v:GN->V
 |.r a=>.glob (.ref a)
 |.i n=>.int n
 |.s x=>.str x
 |.b v=>.glob v
noncomputable def gr(x:Str)(a:ah):Str×GN:=(x,.r a)
noncomputable def gi(x:Str)(n:Int):Str×GN:=(x,.i n)
noncomputable def gs(x:Str)(y:Str):Str×GN:=(x,.s y)
noncomputable def gb(x:Str)(v:Value):Str×GN:=(x,.b v)
noncomputable def xH:List (Str×GN):=[
 gr "GateError" 39,
 gr "CodeError" 52,
 gr "ProgramError" 64,
 gr "signed" 74,
 gi "ALU" 4,
 gi "JMP" 5,
 gi "JMP32" 6,
 gi "ALU64" 7,
 gi "WIDE" 24,
 gi "CALL" 133,
 gi "EXIT" 149,
 gs "DEEDS" "add sub mul div or  and lsh rsh neg mod xor mov arshend ",
 gs "JUMPS" "ja  eq  gt  ge  set ne  sgt sge callexitlt  le  slt sle ",
 gi "KNOWN" 14,
 gr "Order" 99,
 gr "is_jumping" 110,
 gr "is_wide" 117,
 gr "is_jump" 124,
 gr "is_call" 131,
 gr "is_local_call" 138,
 gr "is_exit" 145,
 gr "is_branch" 152,
 gr "distance" 159,
 gr "spot_of" 166,
 gr "deed_code" 173,
 gr "branch_code" 180,
 gr "alu_imm" 188,
 gr "jump" 195,
 gr "far_jump" 202,
 gr "branch_imm" 210,
 gr "wide" 217,
 gr "local_call" 224,
 gr "leave" 231,
 gi "MOST_ORDERS" 4096,
 gi "MOST_FRAMES" 8,
 gr "Program" 288,
 gr "has_goal" 299,
 gr "successors" 306,
 gr "predecessors" 311,
 gr "local_calls" 316,
 gr "reachable" 321,
 gr "Walk" 345,
 gr "post_order" 356,
 gr "loop_heads" 363,
 gr "blocks" 368,
 gr "calls_of" 375,
 gr "called_by" 380,
 gr "frame_counts" 385,
 gr "check_goals" 392,
 gr "check_ends" 399,
 gr "check_reached" 406,
 gr "check_calls" 413,
 gr "check_program" 421,
 gr "_law_draw" 428,
 gr "_law_pick" 435,
 gr "_law_calls" 440,
 gr "_law_chain" 445,
 gr "_law_call_orders" 450,
 gr "_law_leads" 455,
 gr "_law_depth" 460,
 gr "_law_fault" 467,
 gr "_law_heard" 474,
 gr "_law_calls_right" 479,
 gr "_law_flow" 484,
 gr "_law_edges" 491,
 gr "_law_reached" 496,
 gr "_law_walk_right" 501,
 gr "_law_blocks_right" 506,
 gr "law" 511,
 gb "len" (.builtin "len"),
 gb "range" (.type "range"),
 gb "list" (.type "list"),
 gb "int" (.type "int"),
 gb "set" (.type "set"),
 gb "dict" (.type "dict"),
 gb "abs" (.builtin "abs"),
 gb "max" (.builtin "max"),
 gb "sorted" (.builtin "sorted"),
 gb "isinstance" (.builtin "isinstance"),
 gb "enumerate" (.type "enumerate"),
 gb "Exception" (.type "Exception")]
noncomputable def Cq:Option (Option Value)->Option Value->Option V
 |some (some c),_=>some (nZ c)
 |some bc,b=>b.map .glob
 |bc,_=>bc
theorem zN{o:Option (Option Value)}{b:Option Value}{v:V}(h:Cq o b=some v):(∃c,o=some (some c)/\v=nZ c)∨(o=some bc/\∃c,b=some c/\v=.glob c):=by
 cases o with
 |none=>exact nS h
 |some o=>cases o with
  |none=>exact .inr ⟨rfl,(dg.mp h).elim fun c z=>⟨c,z.1,z.2.symm⟩⟩
  |some c=>exact .inl ⟨c,rfl,(aj h).symm⟩
theorem vC{α β:Type}{l:List α}{f g:α->β}(h:l.map f=l.map g){a:α}(ha:a∈l):f a=g a:=List.map_inj_left.mp h a ha
noncomputable def tb:Value->Bool
 |.type _=>true
 |.builtin _=>true
 |_=>false
theorem FR{K:kB}{v:Value}(h:tb v=true):gD K v:=by
 cases v with
 |type _=>trivial
 |builtin _=>trivial
 |_=>exact nB h
noncomputable def gnK(K:kB):GN->Bool
 |.r a=>keepIn K (.ref a)
 |.b v=>tb v
 |_=>true
noncomputable def gnOk(K:kB)(p:Str×GN):Bool:=p.1 != "__debug__"&&(p.1 != "__name__"&&gnK K p.2)
noncomputable def tO:List (ah×Str):=[(99,"code"),(99,"dst"),(99,"src"),(99,"off"),(99,"imm"),(99,"more"),(288,"orders"),(288,"slots"),(288,"by_slot"),(288,"many_slots"),(288,"subs"),
 (345,"program"),(345,"post"),(345,"heads"),(345,"marks"),(345,"way")]
noncomputable def sj:List (ah×Str×ah):=[(288,"count",252),(288,"goal_slot",259),(288,"target",266),(288,"sub_of",273),(288,"sub_end",280),(345,"step",342)]
noncomputable def atOk(K:kB)(c:ah):Bool:=plainGet K c "x"&&mB K c
noncomputable def mtOk(K:kB)(p:ah×Str×ah):Bool:=isFn K (.ref p.2.2)&&keepIn K (.ref p.2.2)
theorem wA(P:lZ):xH.all (gnOk (ho.heap_1 P))=true:=by kernel_rfl
theorem Bp(P:lZ):xH.map (fun p=>Cq (nsIn (ho.heap_1 P) dW p.1) (sF p.1))=xH.map fun p=>some p.2.v:=by kernel_rfl
theorem zS(P:lZ):sj.all (mtOk (ho.heap_1 P))=true:=by kernel_rfl
theorem zR(P:lZ):sj.map (fun p=>fj (ho.heap_1 P) (.ref p.1) p.2.1)=sj.map fun p=>some (some (.ref p.2.2)):=by kernel_rfl
theorem zg(P:lZ):tO.map (fun p=>fj (ho.heap_1 P) (.ref p.1) p.2)=tO.map fun zz=>some bc:=by kernel_rfl
theorem CV(P:lZ):[99,288,345].all (atOk (ho.heap_1 P))=true:=by kernel_rfl
theorem Bb:tO.all (fun p=>[99,288,345].contains p.1)=true:=by kernel_rfl
theorem By:sj.all (fun p=>[99,288,345].contains p.1)=true:=by kernel_rfl
theorem zq{P:lZ}{c:ah}(h:[99,288,345].contains c=true):pP (ho.heap_1 P) c :=
 have:=aP.mp (bJ.mp (CV P) c (List.contains_iff_mem.mp h))
 ⟨this.1,this.2⟩
theorem th{α β:Type} [BEq α] [LawfulBEq α]:∀{l:List (α×β)}{x:α}{v:β},l.lookup x=some v->(x,v)∈l
 |(y,u)::r,x,v,h=>by
  rw[aZ]at h;cases q:x==y with
  |true=>rw[q]at h;obtain rfl:=aj h;refine rA (beq_iff_eq.mp q) ?_;exact .head _
  |false=>rw[q]at h;exact .tail _ (th h)
theorem Bq{P:lZ}{x:Str}{v:V}(h:(xH.lookup x).map GN.v=some v):(x==("__debug__":Str))=false/\((∃c,nsIn (ho.heap_1 P) dW x=some (some c)/\v=nZ c)∨(nsIn (ho.heap_1 P) dW x=some bc/\x≠"__name__"/\∃c,sF x=some c/\v=.glob c)):=by
 refine bx (dg.mp h) fun p hp e=>?_;have h1:=aP.mp (bJ.mp (wA P) _ (th hp));have h2:=aP.mp h1.2;have z:=zN ((vC (Bp P) (th hp)).trans (congrArg some e));exact⟨(ku _).mp h1.1,z.imp id fun w=>⟨w.1,bne_iff_ne.mp h2.1,w.2⟩⟩
theorem Bn{P:lZ}{x:Str}{f:Value}(h:(xH.lookup x).map GN.v=some (.glob f)):gD (ho.heap_1 P) f:=by
 refine bx (dg.mp h) fun p hp e=>?_;have h1:=(aP.mp (aP.mp (bJ.mp (wA P) _ (th hp))).2).2;clear hp h;cases p with
 |r a=>injection e with e;exact e▸h1
 |i n=>cases e
 |s y=>cases e
 |b v=>injection e with e;exact e▸FR h1
theorem zf{P:lZ}{c:ah}{n:Str}(h:(tO.any fun p=>iX p.1 c&&p.2==n)=true):pP (ho.heap_1 P) c/\fj (ho.heap_1 P) (.ref c) n=some bc:=by
 refine bx (la.mp h) fun p hp h=>?_;have h:=aP.mp h;refine rB (fU h.1) (rB (eq_of_beq h.2) ?_);exact⟨zq (bJ.mp Bb _ hp),vC (zg P) hp⟩
theorem zQ{P:lZ}{c f:ah}{n:Str}(h:((sj.find? fun p=>iX p.1 c&&p.2.1==n).map fun p=>p.2.2)=some f):pP (ho.heap_1 P) c/\fj (ho.heap_1 P) (.ref c) n=some (some (.ref f))/\isFn (ho.heap_1 P) (.ref f)=true/\gD (ho.heap_1 P) (.ref f):=by
 refine bx (dg.mp h) fun p hp e=>?_;have h:(iX p.1 c&&p.2.1==n)=true:=jm (p:=fun p:ah×Str×ah=>iX p.1 c&&p.2.1==n) hp;have h:=aP.mp h;have hm:=eA hp;have k:=aP.mp (bJ.mp (zS P) _ hm);refine rB e (rB (fU h.1) (rB (eq_of_beq h.2) ?_));exact⟨zq (bJ.mp By _ hm),vC (zR P) hm,k.1,k.2⟩
noncomputable def GX.tab(g:GX):Dr g.gc where
 nm:=fun x=>(xH.lookup x).map GN.v
 at_:=fun c n=>tO.any fun p=>iX p.1 c&&p.2==n
 nok:=fun x v h=>Bq h
 aok:=fun c n h=>zf h
 cok:=fun x f h=>Bn h
 mt:=fun c n=>(sj.find? fun p=>iX p.1 c&&p.2.1==n).map fun p=>p.2.2
 mok:=fun c n f h=>zQ h
noncomputable def Fc:Data->Option iO
 |.func fd=>some fd
 |_=>bc
theorem A0{d:Data}{fd:iO}(h:Fc d=some fd):d=.func fd:=by
 cases d with
 |func c=>exact congrArg _ (aj h)
 |_=>exact nS h
noncomputable def Fd:FuncBody->Option (List jX)
 |.stmts b=>some b
 |_=>bc
theorem A1{d:FuncBody}{b:List jX}(h:Fd d=some b):d=.stmts b:=by
 cases d with
 |stmts c=>exact congrArg _ (aj h)
 |_=>exact nS h
noncomputable def fnB(K:kB)(fd:iO):Bool:=fd.closure.isEmpty&&(iX fd.globals dW&&(iX fd.builtins builtinsNs&&(codeIn K fd.code fd.qualname&&(!fd.scope.isCoroutine&&(!fd.scope.isGenerator&&(fd.scope.kind==.function &&
 (decide ((fd.params.args.map (·.arg)).Nodup)&&((fd.params.args.map (·.arg)).all fun y=>fd.scope.names.lookup y==some .local||fd.scope.names.lookup y==some .cell))))))))
noncomputable def ww(K:kB)(f:ah):Option (iO×List jX):=(K.lookup f).bind fun o=>(Fc o.data).bind fun fd=>(Fd fd.body).bind fun b=>cond (fnB K fd) (some (fd,b)) bc
theorem iL{a b:Bool}(h:(a&&b)=true):a=true:=(aP.mp h).1
theorem iu{a b:Bool}(h:(a&&b)=true):b=true:=(aP.mp h).2
theorem Cr{a:Bool}(h:(!a)=true):a=false:=(ku _).mp h
theorem C5{K:kB}{fd:iO}{b:List jX}(hb:fd.body=.stmts b)(h:fnB K fd=true):CD K fd b (fd.params.args.map (·.arg)) :=
 have h2:=iu h;have h3:=iu h2;have h4:=iu h3;have h5:=iu h4;have h6:=iu h5;have h7:=iu h6;have h8:=iu h7
 ⟨hb,List.isEmpty_iff.mp (iL h),fU (iL h2),fU (iL h3),iL h4,Cr (iL h5),Cr (iL h6),eq_of_beq (iL h7),of_decide_eq_true (iL h8),iu h8⟩
theorem ua{K:kB}{f:ah}{fd:iO}{b:List jX}(h:ww K f=some (fd,b)):(∃o,K.lookup f=some o/\o.data=.func fd)/\CD K fd b (fd.params.args.map (·.arg)):=by
 refine bx (gO.mp h) fun o ho h=>?_;refine bx (gO.mp h) fun fd' hd h=>?_;refine bx (gO.mp h) fun b' hb h=>?_;cases q:fnB K fd' with
 |false=>rw[q]at h;exact nS h
 |true=>
  rw[q]at h;cases h;exact⟨⟨o,ho,A0 hd⟩,C5 (A1 hb) q⟩
noncomputable def Dw(b:Bool)(K:kB)(c:ah)(n:Str):Bool:=b&&(takerIn K c n==some bc&&(fj K (.ref c) "__setattr__" ==some (some (.builtin "object.__setattr__"))&&mB K c))
theorem wO{b:Bool}{K:kB}{c:ah}{n:Str}(h:Dw b K c n=true):takerIn K c n=some bc:=eq_of_beq (iL (iu h))
theorem wN{b:Bool}{K:kB}{c:ah}{n:Str}(h:Dw b K c n=true):fj K (.ref c) "__setattr__"=some (some (.builtin "object.__setattr__")):=eq_of_beq (iL (iu (iu h)))
theorem wM{b:Bool}{K:kB}{c:ah}{n:Str}(h:Dw b K c n=true):mB K c=true:=iu (iu (iu h))
theorem uQ{G:GC}{k:Nat}{f:Value}{vs:List V}{H:HH}{Q:VP}{X:XP}(hk:1<=k)(h:CT G (k-1+1) f vs H Q X):CT G k f vs H Q X:=oK hk▸h
section
variable {g:GX}{k:Nat}{X:XP}{Q:VP}{H:HH}{f:ah}{fd:iO}{body:List jX}{dcs:List Value}
theorem fnG{vs:List V}(hf:ww g.gc.K f=some (fd,body))(hb:∀s cs,g.gc.K.In s.heap->cs.length=vs.length->BindsTo s fd ⟨cs,[]⟩ ((fd.params.args.map (·.arg)).zip (cs++dcs)))(hl:fd.params.args.length=vs.length+dcs.length)
  (h:vc g.gc g.tab (k-1) 100 (.Ss ⟨fd.scope,[]⟩ X body ⟨(fd.params.args.map (·.arg)).zip (vs++dcs.map nZ),H⟩ (rp Q))) (hk3:4<=k):CT g.gc k (.ref f) vs H Q X:=by
 refine ea (ua hf) fun FW hok=>?_;refine bx FW fun o ho hd=>?_;exact uQ (a8 (aq rfl) hk3) (B7 (oc:=o.cls) (od:=o.dict) (sl:=o.slots) (hd▸ho) hok hb ((ae _).trans hl) (vc.ok (Nat.sub_le_sub_right hk3 1) _ _ h))
theorem pk{s:an}{args:Args}{binds:List (Str×Value)}(X:g.gc.K.In s.heap)(e:∀S,peek g.gc.K S (bindArgs fd args)=some binds):BindsTo s fd args binds :=
 fun M zz zz zz q=>(Looks.of_peek (M:=M) X (e _)).here q
noncomputable def pN(fd:iO):List Str:=fd.params.args.map (·.arg)
noncomputable def yT:Nat->(List Value->Prop)->Prop
 |0,P=>P []
 |n+1,P=>∀a,yT n fun l=>P (a::l)
theorem yT.at{n:Nat}:∀{P:List Value->Prop},yT n P->∀{cs:List Value},cs.length=n->P cs:=by
 induction n with
 |zero=>exact fun h cs e=>cP.mp e▸h
 |succ n ih=>
  intro P h cs e;cases cs with
  |nil=>exact absurd e (Nat.succ_ne_zero n).symm
  |cons a l=>exact ih (h a) (Nat.succ.inj e)
theorem gK{vs:List V}(hf:ww g.gc.K f=some (fd,body))(hb:∀S,yT vs.length fun cs=>peek g.gc.K S (bindArgs fd ⟨cs,[]⟩)=some ((pN fd).zip (cs++dcs)))(hl:fd.params.args.length=vs.length+dcs.length)
  (h:vc g.gc g.tab (k-1) 100 (.Ss ⟨fd.scope,[]⟩ X body ⟨(pN fd).zip (vs++dcs.map nZ),H⟩ (rp Q))) (hk3:4<=k):CT g.gc k (.ref f) vs H Q X :=
 fnG (dcs:=dcs) hf (fun s cs x e=>pk x fun S=>(hb S).at e) hl h hk3
theorem dn{c d k:Nat}(h:c<=k)(e:autoParam (cU (d+1) c=true) aR):d<=k-1:=by
 have:=aq e;lia
theorem gG{c d k:Nat}(h:c<=k)(e:autoParam (cU d c=true) aR):d<=k:=a8 (aq e) h
end
theorem fy{i n:Nat}(hi:i<=n)(hr:[]=br i n):i=n:=by
 apply aG;intro z;rw[dA (by exact dH.mpr ⟨L2 (Ra N0 N1 (Gz C0 C1)) rfl hi,fun z''=>z (ao (L2 (Ra N0 N1 (Gn N0 N1)) rfl hi) (L2 (Sd C0 C1 (Gn N1 N0)) rfl z''))⟩)]at hr;exact nL hr
theorem er{i n:Nat}{v:V}{r:List V}(hi:i<=n)(hr:v::r=br i n):i<n/\v=.int i/\r=br ((i+1:Nat):Int) n:=by
 have hi:i<n:=by
  apply aG;intro z;rw[fJ (by exact jy (aW z))]at hr;exact nL hr.symm
 rw[dA (by exact qz hi)]at hr;refine ea (aV hr) fun FW FY=>?_;subst FW;subst FY;exact⟨hi,rfl,by push_cast;rfl⟩
theorem kf{l:List Int}{i:Nat}{v:V}{r:List V}(hi:i<=l.length)(h:v::r=(l.drop i).map .int):∃s,l[i]?=some s/\v=.int s/\r=(l.drop (i+1)).map .int/\i<l.length/\l.take (i+1)=l.take i++[s]:=by
 have hi:i<l.length:=by
  have:=congrArg bG h;simp at this;exact L4 (Rb M0 N1 (Rb (Pn N1 N2) N3 (Gn M2 N3))) rfl this (iE (L2 (Ra N0 N1 (Gn N0 N1)) rfl hi))
 rw[dq hi]at h;refine ea (aV h) fun FW FY=>?_;subst FW;subst FY;exact⟨_,ac hi,rfl,rfl,hi,by refine rA aT (rA (ac hi) ?_);rfl⟩
theorem lu{l:List Int}{i:Nat}(hi:i<=l.length)(h:[]=(l.drop i).map V.int):i=l.length:=by
 have:=congrArg bG h;simp at this;exact ao (L2 (Ra N0 N1 (Gn N0 N1)) rfl hi) (L3 (Rc (Kn 0) N0 (Ra N1 (Pn N0 N2) (Gn N1 N2))) rfl this jF)
theorem lz{xs:List V}{i:Nat}{v:V}{r:List V}(h:v::r=xs.drop i):xs[i]?=some v/\r=xs.drop (i+1)/\i<xs.length:=by
 have hi:i<xs.length:=by
  have:=congrArg bG h;simp at this;exact Nat.lt_of_sub_eq_succ this.symm
 rw[dq hi]at h;refine ea (aV h) fun FW FY=>?_;subst FW;subst FY;exact⟨ac hi,rfl,hi⟩
theorem pF{xs:List V}{i:Nat}(hi:i<=xs.length)(h:[]=xs.drop i):i=xs.length:=by
 have:=congrArg bG h;simp at this;exact ao (L2 (Ra N0 N1 (Gn N0 N1)) rfl hi) (L3 (Rc (Kn 0) N0 (Ra N1 (Pn N0 N2) (Gn N1 N2))) rfl this jF)
noncomputable def Fq(ih:Tk->Prop)(sc:Sc)(X:XP)(body:List jX)(R:SP)(σ1:St):Prop:=ih (.Ss sc X body σ1 R)
theorem lB{ih:Tk->Prop}{sc:Sc}{X:XP}{tg:Expr}{body:List jX}{J:List V->St->Prop}{Q:SP}{x:V}{r:List V}{σ:St}(h:∀R:SP,(∀fl σ1,nk (Ds (J r)) Q fl σ1->R fl σ1)->ih (.A sc tg x σ (Fq ih sc X body R))):ih (.A sc tg x σ (Cp ih sc X body J r Q)):=h _ fun zz zz q=>q
noncomputable def kWhR(ih:Tk->Prop)(sc:Sc)(X:XP)(body:List jX)(m:Mm)(R Q:SP)(b:Bool)(H1:HH):Prop:=gf b (ih (.Ss sc X body ⟨m,H1⟩ R)) (Q .next ⟨m,H1⟩)
theorem lW{ih:Tk->Prop}{sc:Sc}{X:XP}{t:Expr}{body:List jX}{J:Nat->St->Prop}{Q:SP}{n:Nat}{m:Mm}{σ:St}(h:∀R:SP,(∀fl σ1,nk (WkN J n) Q fl σ1->R fl σ1)->ih (.T sc X t σ (kWhR ih sc X body m R Q))):ih (.T sc X t σ (kWh ih sc X body J n m Q)):=h _ fun zz zz q=>q
section
variable {P:V->List V->St->Prop}{F:St->Prop}{S:Nat->St}{n:Nat}{l:List Int}{xs:List V}
theorem lRs(h:∀i:Nat,i<n->P (.int i) (br ((i+1:Nat):Int) n) (S i)):∀v r σ,X1 (fun i:Nat=>A3 (i<=n) (v::r=br i n) (σ=S i))->P v r σ:=by
 rintro v r σ ⟨i,hi,hr,rfl⟩;refine jc (er hi hr) fun hi FW FY=>?_;subst FW;subst FY;exact h i hi
theorem lRf(h:F (S n)):∀σ,X1 (fun i:Nat=>A3 (i<=n) ([]=br i n) (σ=S i))->F σ:=by
 rintro σ ⟨i,hi,hr,rfl⟩;exact fy hi hr▸h
theorem lDs(h:∀i s,l[i]?=some s->i<l.length->P (.int s) ((l.drop (i+1)).map .int) (S i)):∀v r σ,X1 (fun i:Nat=>A3 (i<=l.length) (v::r=(l.drop i).map .int) (σ=S i))->P v r σ:=by
 rintro v r σ ⟨i,hi,hr,rfl⟩;refine hV (kf hi hr) fun s hs FW FY hi zz=>?_;subst FW;subst FY;exact h i s hs hi
theorem lDf(e:l.length=n)(h:F (S n)):∀σ,X1 (fun i:Nat=>A3 (i<=l.length) ([]=(l.drop i).map V.int) (σ=S i))->F σ:=by
 rintro σ ⟨i,hi,hr,rfl⟩;exact(lu hi hr).trans e▸h
variable {α:Type}{es:List α}{f:α->V}{T:List α->St}
end
section
variable {P:V->List V->List V->HH->Prop}{F:List V->HH->Prop}{A:Nat->List V}{B:Nat->List V->HH}{O:Prop}{n:Nat}{l:List Int}{xs:List V}
theorem cRs(h:∀i:Nat,i<n->O->P (.int i) (br ((i+1:Nat):Int) n) (A i) (B i (A i))):∀v r acc H',X1 (fun i:Nat=>A5 (i<=n) (v::r=br i n) (acc=A i) (H'=B i acc) O)->P v r acc H':=by
 rintro v r acc H' ⟨i,hi,hr,rfl,rfl,o⟩;refine jc (er hi hr) fun hi FW FY=>?_;subst FW;subst FY;exact h i hi o
theorem cRf(h:O->F (A n) (B n (A n))):∀acc H',X1 (fun i:Nat=>A5 (i<=n) ([]=br i n) (acc=A i) (H'=B i acc) O)->F acc H':=by
 rintro acc H' ⟨i,hi,hr,rfl,rfl,o⟩;cases fy hi hr;exact h o
theorem bRs(h:∀i:Nat,i<n->P (.int i) (br ((i+1:Nat):Int) n) (A i) (B i (A i))):∀v r acc H',X1 (fun i:Nat=>A4 (i<=n) (v::r=br i n) (acc=A i) (H'=B i acc))->P v r acc H':=by
 rintro v r acc H' ⟨i,hi,hr,rfl,rfl⟩;refine jc (er hi hr) fun hi FW FY=>?_;subst FW;subst FY;exact h i hi
theorem bRf(h:F (A n) (B n (A n))):∀acc H',X1 (fun i:Nat=>A4 (i<=n) ([]=br i n) (acc=A i) (H'=B i acc))->F acc H':=by
 rintro acc H' ⟨i,hi,hr,rfl,rfl⟩;cases fy hi hr;exact h
theorem cDs(h:∀i s,l[i]?=some s->i<l.length->O->P (.int s) ((l.drop (i+1)).map .int) (A i) (B i (A i))):∀v r acc H',X1 (fun i:Nat=>A5 (i<=l.length) (v::r=(l.drop i).map .int) (acc=A i) (H'=B i acc) O)->P v r acc H':=by
 rintro v r acc H' ⟨i,hi,hr,rfl,rfl,o⟩;refine hV (kf hi hr) fun s hs FW FY hi zz=>?_;subst FW;subst FY;exact h i s hs hi o
theorem cDf(e:l.length=n)(h:O->F (A n) (B n (A n))):∀acc H',X1 (fun i:Nat=>A5 (i<=l.length) ([]=(l.drop i).map V.int) (acc=A i) (H'=B i acc) O)->F acc H':=by
 rintro acc H' ⟨i,hi,hr,rfl,rfl,o⟩;cases (lu hi hr).trans e;exact h o
variable {α:Type}{es:List α}{f:α->V}{C:List α->List V}{D:List α->List V->HH}
theorem Dv(h:∀pre x l,es=pre++x::l->O->P (f x) (l.map f) (C pre) (D pre (C pre))):∀v r acc H',X2 (fun pre l=>A5 (es=pre++l) (v::r=l.map f) (acc=C pre) (H'=D pre acc) O)->P v r acc H':=by
 rintro v r acc H' ⟨pre,l,e,hl,rfl,rfl,o⟩;cases l with
 |nil=>exact nL hl.symm
 |cons x l=>refine ea (aV hl) fun FW FY=>?_;subst FW;subst FY;exact h pre x l e o
theorem Du(h:O->F (C es) (D es (C es))):∀acc H',X2 (fun pre l=>A5 (es=pre++l) ([]=l.map f) (acc=C pre) (H'=D pre acc) O)->F acc H':=by
 rintro acc H' ⟨pre,l,e,hl,rfl,rfl,o⟩;cases l with
 |nil=>rw[bt]at e;subst e;exact h o
 |cons x l=>exact nL hl
end
section
variable {α β γ:Type}{F:St->Prop}{FH:List V->HH->Prop}
theorem kj{p q:α->Prop}{S:α->St}(h:∀a,p a->q a->F (S a)):∀σ,X1 (fun a=>A3 (p a) (q a) (σ=S a))->F σ:=by
 rintro σ ⟨a,x,y,rfl⟩;exact h a x y
theorem B5{p q r:α->Prop}{S:α->St}(h:∀a,p a->q a->r a->F (S a)):∀σ,X1 (fun a=>A4 (p a) (q a) (r a) (σ=S a))->F σ:=by
 rintro σ ⟨a,x,y,z,rfl⟩;exact h a x y z
theorem uM{p q r:α->β->Prop}{S:α->β->St}(h:∀a b,p a b->q a b->r a b->F (S a b)):∀σ,X2 (fun a b=>A4 (p a b) (q a b) (r a b) (σ=S a b))->F σ:=by
 rintro σ ⟨a,b,x,y,z,rfl⟩;exact h a b x y z
theorem B6{p q r s t:α->β->γ->Prop}{S:α->β->γ->St}(h:∀a b c,p a b c->q a b c->r a b c->s a b c->t a b c->F (S a b c)):∀σ,X3 (fun a b c=>A6 (p a b c) (q a b c) (r a b c) (s a b c) (t a b c) (σ=S a b c))->F σ:=by
 rintro σ ⟨a,b,c,x,y,z,u,v,rfl⟩;exact h a b c x y z u v
theorem AH{p q:α->Prop}{A:α->List V}{B:α->List V->HH}(h:∀a,p a->q a->FH (A a) (B a (A a))):∀acc H',X1 (fun a=>A4 (p a) (q a) (acc=A a) (H'=B a acc))->FH acc H':=by
 rintro acc H' ⟨a,x,y,rfl,rfl⟩;exact h a x y
theorem yk{p q o:α->Prop}{A:α->List V}{B:α->List V->HH}(h:∀a,p a->q a->o a->FH (A a) (B a (A a))):∀acc H',X1 (fun a=>A5 (p a) (q a) (acc=A a) (H'=B a acc) (o a))->FH acc H':=by
 rintro acc H' ⟨a,x,y,rfl,rfl,z⟩;exact h a x y z
end
theorem n0{β:Type}{x:Str}{v:β}:∀{m:List (Str×β)}{n:Nat},(m.take n).lookup x=some v->m.lookup x=some v
 |_,0,h=>by exact nS h
 |[],_+1,h=>by exact nS h
 |(y,u)::m,n+1,h=>by
  rw[List.take_succ_cons,aZ]at h;refine rA aZ ?_;cases q:x==y with
  |true=>rw[q]at h;exact h
  |false=>rw[q]at h;exact n0 h
noncomputable def uu(m:List (Str×V)):List (Str×V)->List (Str×V)
 |[]=>[]
 |(x,_)::r=>(m.lookup x).elim (uu m r) fun v=>(x,v)::uu m r
theorem nj{m:List (Str×V)}{x:Str}{v:V}:∀{l:List (Str×V)},(uu m l).lookup x=some v->m.lookup x=some v
 |[],h=>by exact nS h
 |(y,u)::l,h=>by
  replace h:((m.lookup y).elim (uu m l) fun v=>(y,v)::uu m l).lookup x=some v:=h
  cases e:m.lookup y with
  |none=>rw[e]at h;exact nj h
  |some w=>
   rw[e]at h
   replace h:((y,w)::uu m l).lookup x=some v:=h
   cases q:x==y with
   |true=>rw[aZ,q]at h;refine rA (eq_of_beq q) (rA e ?_);exact h
   |false=>rw[aZ,q]at h;exact nj h
theorem sA{m m':List (Str×V)}{H:HH}(h:uu m m'=m'):l5 ⟨m,H⟩ ⟨m',H⟩:=⟨.refl,fun x v e=>⟨v,nj (h▸e),.same v⟩⟩
theorem FT{m m':List (Str×V)}{H H':HH}(s:Sub H' H)(h:uu m m'=m'):l5 ⟨m,H⟩ ⟨m',H'⟩:=⟨s,fun x v e=>⟨v,nj (h▸e),.same v⟩⟩
theorem ci{m:List (Str×V)}{H:HH}(n:Nat):l5 ⟨m,H⟩ ⟨m.take n,H⟩:=⟨.refl,fun x v h=>⟨v,n0 h,.same v⟩⟩
theorem w9{m:List (Str×V)}{H H':HH}(n:Nat)(s:Sub H' H):l5 ⟨m,H⟩ ⟨m.take n,H'⟩:=⟨s,fun x v h=>⟨v,n0 h,.same v⟩⟩
structure bq where
 code:Int
 dst:Int
 src:Int
 off:Int
 imm:Int
 more:Int
noncomputable def cM(o:bq):V:=.inst 99 (.adict [("code",.int o.code),("dst",.int o.dst),("src",.int o.src),("off",.int o.off),("imm",.int o.imm),("more",.int o.more)])
noncomputable def nX(o:bq):Bool:=decide (d6 o.code 7=5)||decide (d6 o.code 7=6)
noncomputable def gF(o:bq):Bool:=decide (o.code=24)
noncomputable def cI(o:bq):Bool:=nX o&&decide (d6 o.code 240=0)
noncomputable def zH(o:bq):Bool:=decide (o.code=133)
noncomputable def bD(o:bq):Bool:=decide (o.code=133)&&decide (o.src=1)
noncomputable def dZ(o:bq):Bool:=decide (o.code=149)
noncomputable def bN(o:bq):Bool:=nX o&&(!cI o&&(!zH o&&!dZ o))
noncomputable def zy(o:bq):Int:=if bD o||decide (o.code=6)then o.imm else o.off
theorem or2{b c:Bool}{P:Bool->Prop}(h:P (b||c)):gf b (P b) (P c):=by
 cases b <;> exact h
theorem Fb{b c:Bool}{P:Bool->Prop}(h:P (b&&c)):gf b (P c) (P b):=by
 cases b <;> exact h
theorem dY{b:Bool}{P P':Prop}(h1:b=true->P)(h2:b=false->P'):gf b P P':=by
 cases b
 ·exact h2 rfl
 ·exact h1 rfl
section
variable {g:GX}{k:Nat}{X:XP}{Q:VP}{H:HH}
theorem dO{v:V}{H:HH}{m}(h:Q v H):rp Q (.ret v) ⟨m,H⟩:=⟨v,H,.refl,.same v,h⟩
theorem mu{o:bq}(h:Q (.bool (nX o)) H)(hk:10<=k):CT g.gc k (.ref 110) [cM o] H Q X:=by
 refine gK (dcs:=[]) rfl (fun zz zz=>rfl) rfl ?_ (gG hk);exact or2 (P:=fun b=>rp Q (.ret (.bool b)) _) (dO h)
theorem vU{o:bq}(h:Q (.bool (gF o)) H)(hk:10<=k):CT g.gc k (.ref 117) [cM o] H Q X :=
 gK (dcs:=[]) rfl (fun zz zz=>rfl) rfl (dO h) (gG hk)
theorem ez{o:bq}(h:Q (.bool (cI o)) H)(hk:20<=k):CT g.gc k (.ref 124) [cM o] H Q X:=by
 refine gK (dcs:=[]) rfl (fun zz zz=>rfl) rfl ?_ (gG hk);refine aE (mu ?_ (dn hk));exact Fb (P:=fun b=>rp Q (.ret (.bool b)) _) (dO h)
theorem vT{o:bq}(h:Q (.bool (zH o)) H)(hk:10<=k):CT g.gc k (.ref 131) [cM o] H Q X :=
 gK (dcs:=[]) rfl (fun zz zz=>rfl) rfl (dO h) (gG hk)
theorem dX{o:bq}(h:Q (.bool (bD o)) H)(hk:10<=k):CT g.gc k (.ref 138) [cM o] H Q X :=
 gK (dcs:=[]) rfl (fun zz zz=>rfl) rfl (Fb (P:=fun b=>rp Q (.ret (.bool b)) _) (dO h)) (gG hk)
theorem ji{o:bq}(h:Q (.bool (dZ o)) H)(hk:10<=k):CT g.gc k (.ref 145) [cM o] H Q X :=
 gK (dcs:=[]) rfl (fun zz zz=>rfl) rfl (dO h) (gG hk)
theorem fg{o:bq}(h:Q (.bool (bN o)) H)(hk:30<=k):CT g.gc k (.ref 152) [cM o] H Q X:=by
 unfold bN at h;refine gK (dcs:=[]) rfl (fun zz zz=>rfl) rfl ?_ (gG hk);refine aE (mu ?_ (dn hk));refine dY (fun h1=>?_) (fun h1=>dO (by rw[h1]at h;refine rA h1 ?_;exact h));rw[h1]at h;refine aE (ez ?_ (dn hk));refine dY (fun h2=>?_) (fun h2=>dO (by rw[h2]at h;refine rA h2 ?_;exact h));rw[h2]at h;refine aE (vT ?_ (dn hk));refine dY (fun h3=>?_) (fun h3=>dO (by rw[h3]at h;refine rA h3 ?_;exact h));rw[h3]at h;exact aE (ji (dO h) (dn hk))
theorem oI{o:bq}(h:Q (.int (zy o)) H)(hk:20<=k):CT g.gc k (.ref 159) [cM o] H Q X:=by
 unfold zy at h;refine gK (dcs:=[]) rfl (fun zz zz=>rfl) rfl ?_ (gG hk);refine aE (dX ?_ (dn hk));refine dY (fun h1=>?_) (fun h1=>?_)
 ·rw[h1]at h;exact dO h
 ·rw[h1]at h;refine dY (fun h2=>?_) (fun h2=>?_)
  ·rw[h2]at h;exact dO h
  ·rw[h2]at h;exact dO h
end
noncomputable def CX:Str:="add sub mul div or  and lsh rsh neg mod xor mov arshend "
noncomputable def C8:Str:="ja  eq  gt  ge  set ne  sgt sge callexitlt  le  slt sle "
noncomputable def AE(x:Str)(i:Int):Str:=Txt.strip (oG x (some (4*i)) (some (4*i+4)))
noncomputable def pD(x name:Str)(n:Nat):Bool:=(aQ n).all (fun i=>decide (AE x i≠name)&&cU (oG x (some (4*(i:Int))) (some (4*(i:Int)+4))).length 1000)&&decide (AE x n=name)&&cU (oG x (some (4*(n:Int))) (some (4*(n:Int)+4))).length 1000
theorem Df:pD CX "mov" 11=true:=by decide +kernel
theorem Fy:pD C8 "lt" 10=true:=by decide +kernel
section
variable {g:GX}{k:Nat}{X:XP}{Q:VP}{H:HH}
noncomputable abbrev E6(x:Str)(name:Str):List (Str×V):=[("names",.str x),("name",.str name)]
noncomputable abbrev J6a0(H:HH)(x:Str)(name:Str)(n:Nat):List V->St->Prop:=fun r σ=>X1 fun(i:Nat)=>A3 (i<=n) (r=br i 14) (σ=⟨E6 x name,H⟩)
theorem qO{x name:Str}{n:Nat}(hf:pD x name n=true)(hn:n<14)(h:Q (.int n) H)(hk:10<=k):CT g.gc k (.ref 166) [.str x,.str name] H Q X:=by
 refine gK (dcs:=[]) rfl (fun zz zz zz=>rfl) rfl ?_ (gG hk);refine⟨_,.refl,?_⟩;refine ct (by decide) ?_;refine⟨J6a0 H x name n,⟨0,aH _,rfl,rfl⟩,?_,?_⟩
 ·refine kj fun i hi hr=>?_;rw[dA (by exact FK (jy hi) (qz hn))]at hr;exact nL hr
 ·intro v r;refine kj fun i hi hr=>?_;rw[dA (by exact FK (jy hi) (qz hn))]at hr;obtain⟨rfl,rfl⟩:=aV hr;unfold pD at hf;simp only[bI,bJ,decide_eq_true_eq]at hf;obtain⟨⟨h1,h2⟩,h3⟩:=hf;have hb:cU (oG x (some (4*(i:Int))) (some (4*(i:Int)+4))).length 1000=true:=by
   by_cases q:i=n
   ·subst q;exact h3
   ·exact(h1 i (bZ.mpr (by exact z0 hi q))).2
  have hb:=aq hb;refine .inl ⟨.of_left (by decide),.of_left (by decide),_,rfl,rfl,rfl,a8 hb (by decide),?_⟩;refine⟨_,MT.strip,trivial,VT.strip (bU hb (by decide)) ?_⟩;refine dY (fun q=>?_) (fun q=>?_)
  ·have:i=n:=by
    apply aG;intro z;exact(h1 i (bZ.mpr (by exact z0 hi z))).1 (of_decide_eq_true q)
   subst this;exact dO h
  ·refine⟨⟨E6 x name,H⟩,w9 2 .refl,i+1,?_,by push_cast;rfl,rfl⟩;have:i≠n:=fun z=>of_decide_eq_false q (by subst z;exact h2)
   lia
noncomputable def obj(H:HH)(a d c:ah)(xs:List (Str×V)):HH:=upd (upd H d (.adict xs)) a (.inst c (.ref d))
noncomputable def Cv(K:kB)(c:ah)(n:Str):Bool:=Dw (plainOver K c) K c n
theorem Cs{a d c:ah}{xs}:obj H a d c xs a=some (.inst c (.ref d)):=aw
theorem Cu{a d c:ah}{xs}(hne:a≠d):obj H a d c xs d=some (.adict xs):=(bE hne.symm).trans aw
theorem BA{a d c:ah}{xs ys}(hne:a≠d):upd (obj H a d c xs) d (.adict ys)=obj H a d c ys:=by
 funext b
 unfold obj upd
 by_cases q:b=d
 ·subst q;exact rA (if_pos rfl) (rA (if_neg hne.symm) (rA (if_pos rfl) rfl))
 ·refine rA (if_neg q) ?_
  by_cases q2:b=a
  ·exact rA (if_pos q2) (rA (if_pos q2) rfl)
  ·exact rA (if_neg q2) (rA (if_neg q2) (rA (if_neg q) (rA (if_neg q) rfl)))
theorem UT.obj{G:GC}{a d c:ah}{n:Str}{x:V}{xs:List (Str×V)}{QH:HH->Prop}(hne:a≠d)(ho:Cv G.K c n=true)(h:QH (obj H a d c (put n x xs)))(hn:autoParam (decide ((xs.map (·.1)).Nodup)=true) aR)(hl:autoParam (cU xs.length 100=true) aR) :
  UT G k (qU n) [x,.ref a] (Internal.obj H a d c xs) QH X:=by
 exact pY (iL ho) (wO ho) (wN ho) (wM ho) Cs (Cu hne) (of_decide_eq_true hn) (aq hl) (by refine rA (BA hne) ?_;exact h)
theorem wL{a d c:ah}{xs}(ha:H a=none)(hd:H d=none):Sub H (obj H a d c xs):=(Sub.refl.upd hd).upd ha
theorem wK{a d c:ah}{xs ys}(hne:a≠d)(ha:H a=none)(hd:H d=none)(h:gZ (obj H a d c xs) H (.v (.adict xs) (.adict ys))):gZ (obj H a d c xs) H (.v (.ref a) (.inst c (.adict ys))) :=
 .ref Cs ha (.inst (.ref (Cu hne) hd h rfl)) rfl
noncomputable def Fz(K:kB)(C fI:ah):Bool:=makesIn K C&&(fj K (.ref C) "__init__" ==some (some (.ref fI))&&typeIn K (.ref fI)==some (.type "function"))
theorem Bz{C fI:ah}{vs:List V}(hm:Fz g.gc.K C fI=true)
  (h:∀a d,H a=none->H d=none->a≠d->CT g.gc (k-1) (.ref fI) (.ref a::vs) (obj H a d C []) (AO Q a) X) (hk:1<=k):CT g.gc k (.ref C) vs H Q X :=
 uQ hk (CT.new (fI:=fI) (iL hm) (eq_of_beq (iL (iu hm))) (eq_of_beq (iu (iu hm))) h)
theorem yd{c d s o i m:Int}(h:Q (cM ⟨c,d,s,o,i,m⟩) H)(hk:20<=k):CT g.gc k (.ref 99) [.int c,.int d,.int s,.int o,.int i,.int m] H Q X:=by
 refine Bz (fI:=89) rfl (fun a dd ha hd hne=>?_) (gG hk);refine gK (dcs:=[]) rfl (fun zz zz zz zz zz zz zz zz=>rfl) rfl ?_ (dn hk);refine UT.obj hne rfl ?_;refine UT.obj hne rfl ?_;refine UT.obj hne rfl ?_;refine UT.obj hne rfl ?_;refine UT.obj hne rfl ?_;refine UT.obj hne rfl ?_;exact⟨_,.refl,rfl,_,H,wL ha hd,wK hne ha hd (.same _),h⟩
theorem i7{c d s o i:Int}(h:Q (cM ⟨c,d,s,o,i,0⟩) H)(hk:20<=k):CT g.gc k (.ref 99) [.int c,.int d,.int s,.int o,.int i] H Q X:=by
 refine Bz (fI:=89) rfl (fun a dd ha hd hne=>?_) (gG hk);refine gK (dcs:=[.int 0 _]) rfl (fun zz zz zz zz zz zz zz=>rfl) rfl ?_ (dn hk);refine UT.obj hne rfl ?_;refine UT.obj hne rfl ?_;refine UT.obj hne rfl ?_;refine UT.obj hne rfl ?_;refine UT.obj hne rfl ?_;refine UT.obj hne rfl ?_;exact⟨_,.refl,rfl,_,H,wL ha hd,wK hne ha hd (.same _),h⟩
end
section
variable {g:GX}{k:Nat}{X:XP}{Q:VP}{H:HH}
theorem tq(h:Q (.int 183) H)(hk:20<=k):CT g.gc k (.ref 173) [.str "mov",.int 64] H Q X:=by
 refine gK (dcs:=[]) rfl (fun zz zz zz=>rfl) rfl ?_ (gG hk);refine aE (qO (n:=11) Df (by decide) ?_ (dn hk));refine⟨by decide,?_⟩;exact dO h
theorem qI(h:Q (.int 165) H)(hk:20<=k):CT g.gc k (.ref 180) [.str "lt",.int 64] H Q X:=by
 refine gK (dcs:=[]) rfl (fun zz zz zz=>rfl) rfl ?_ (gG hk);refine aE (qO (n:=10) Fy (by decide) ?_ (dn hk));refine⟨by decide,?_⟩;exact dO h
noncomputable def iW(d i:Int):bq:=⟨183,d,0,0,i,0⟩
noncomputable def zW(a:Int):bq:=⟨5,0,0,a,0,0⟩
noncomputable def Dg(a:Int):bq:=⟨6,0,0,0,a,0⟩
noncomputable def oLt(d i a:Int):bq:=⟨165,d,0,a,i,0⟩
noncomputable def fL(a:Int):bq:=⟨133,0,1,0,a,0⟩
noncomputable def g8:bq:=⟨149,0,0,0,0,0⟩
noncomputable def zX(d w:Int):bq:=⟨24,d,0,0,w,0⟩
theorem qH{d i:Int}(h:Q (cM (iW d i)) H)(hk:30<=k):CT g.gc k (.ref 188) [.str "mov",.int d,.int i] H Q X:=by
 refine gK (dcs:=[.int 64 _]) rfl (fun zz zz zz zz=>rfl) rfl ?_ (gG hk);refine aE (tq ?_ (dn hk));exact aE (i7 (dO h) (dn hk))
theorem BS{a:Int}(h:Q (cM (zW a)) H)(hk:30<=k):CT g.gc k (.ref 195) [.int a] H Q X:=by
 refine gK (dcs:=[]) rfl (fun zz zz=>rfl) rfl ?_ (gG hk);exact aE (i7 (dO h) (dn hk))
theorem uz{a:Int}(h:Q (cM (Dg a)) H)(hk:30<=k):CT g.gc k (.ref 202) [.int a] H Q X:=by
 refine gK (dcs:=[]) rfl (fun zz zz=>rfl) rfl ?_ (gG hk);exact aE (i7 (dO h) (dn hk))
theorem rI{d i a:Int}(h:Q (cM (oLt d i a)) H)(hk:30<=k):CT g.gc k (.ref 210) [.str "lt",.int d,.int i,.int a] H Q X:=by
 refine gK (dcs:=[.int 64 _]) rfl (fun zz zz zz zz zz=>rfl) rfl ?_ (gG hk);refine aE (qI ?_ (dn hk));exact aE (i7 (dO h) (dn hk))
theorem rL{a:Int}(h:Q (cM (fL a)) H)(hk:30<=k):CT g.gc k (.ref 224) [.int a] H Q X:=by
 refine gK (dcs:=[]) rfl (fun zz zz=>rfl) rfl ?_ (gG hk);exact aE (i7 (dO h) (dn hk))
theorem uC(h:Q (cM g8) H)(hk:30<=k):CT g.gc k (.ref 231) [] H Q X:=by
 refine gK (dcs:=[]) rfl (fun zz=>rfl) rfl ?_ (gG hk);exact aE (i7 (dO h) (dn hk))
theorem BT.int{G:GC}{a:Int}{QB:Bool->HH->Prop}(h:QB (a !=0) H):BT G k jk [.int a] H QB X:=fun A fs F s cs ok r vs=>by
 apply vs.elim1;intro c v;apply v.intE;intro t;exact PyProof.Rows.truthy_int (GP.b r .refl h)
theorem Fx:∀w:Fin 16,d6 ((w:Nat):Int) (1*2^(32:Int).toNat-1)=((w:Nat):Int):=by decide +kernel
theorem C7:∀w:Fin 16,(((w:Nat):Int)).fdiv (2^((32:Int)-1).toNat)=0:=by decide +kernel
theorem FO:∀w:Fin 16,(((w:Nat):Int)).fdiv (2^(32:Int).toNat)=((0:Nat):Int):=by decide +kernel
theorem sv{w:Nat}(h1:w<16)(h:Q (.int w) H)(hk:10<=k):CT g.gc k (.ref 74) [.int w,.int 32] H Q X:=by
 refine gK (dcs:=[]) rfl (fun zz zz zz=>rfl) rfl ?_ (gG hk);refine⟨by decide,?_⟩;have e:d6 ((w:Nat):Int) (1*2^(32:Int).toNat-1)=((w:Nat):Int):=Fx ⟨w,h1⟩;have e2:(((w:Nat):Int)).fdiv (2^((32:Int)-1).toNat)=0:=C7 ⟨w,h1⟩;refine⟨by decide,?_⟩;refine BT.int ?_;refine dY (fun q=>?_) (fun q=>?_)
 ·have q:((d6 ((w:Nat):Int) (1*2^(32:Int).toNat-1)).fdiv (2^((32:Int)-1).toNat) !=0)=true:=q;rw[e,e2]at q;exact nB q
 ·refine dO ?_;show Q (.int (d6 ((w:Nat):Int) (1*2^(32:Int).toNat-1))) H;refine rA e ?_;exact h
theorem BW{d:Int}{w:Nat}(h1:w<16)(h:Q (cM (zX d w)) H)(hk:30<=k):CT g.gc k (.ref 217) [.int d,.int w] H Q X:=by
 refine gK (dcs:=[]) rfl (fun zz zz zz=>rfl) rfl ?_ (gG hk);refine aE (sv h1 ?_ (dn hk));refine⟨by decide,?_⟩;have e:((w:Nat):Int).fdiv (2^(32:Int).toNat)=((0:Nat):Int):=FO ⟨w,h1⟩;refine rA e ?_;refine aE (sv (by decide) ?_ (dn hk));exact aE (yd (dO h) (dn hk))
end
noncomputable def HL(H:HH):List ah->List V->HH
 |k::ks,v::vs=>upd (HL H ks vs) k v
 |_,_=>H
structure cw(H:HH)(ks:List ah):Prop where
 nd:ks.Nodup
 fr:∀a∈ks,H a=none
section
variable {H:HH}{ks:List ah}{a:ah}{v w x:V}
theorem HL.off:∀{ks:List ah}{vs:List V},a∉ks->HL H ks vs a=H a
 |[],vs,_=>by cases vs <;> rfl
 |k::ks,[],_=>rfl
 |k::ks,v::vs,h=>(bE fun(q:a=k)=>h (by refine rA q ?_;exact .head _)).trans (HL.off fun q=>h (.tail _ q))
theorem HL.get:∀{ks:List ah}{vs:List V} (i:Nat),ks.Nodup->ks[i]?=some a->vs[i]?=some v->HL H ks vs a=some v
 |[],_,i,_,h,_=>by simp at h
 |_::_,[],i,_,_,h=>by simp at h
 |k::ks,u::vs,0,_,h1,h2=>by obtain rfl:=aj h1;obtain rfl:=aj h2;exact aw
 |k::ks,u::vs,i+1,n,h1,h2=>by
  have n:=ba.mp n;rw[List.getElem?_cons_succ]at h1 h2;exact(bE fun(q:a=k)=>n.1 (by refine rB q ?_;exact aS h1)).trans (HL.get i n.2 h1 h2)
theorem HL.set:∀{ks:List ah}{vs:List V} (i:Nat),ks.Nodup->ks[i]?=some a->vs[i]?=some v->upd (HL H ks vs) a w=HL H ks (vs.set i w)
 |[],_,i,_,h,_=>by simp at h
 |_::_,[],i,_,_,h=>by simp at h
 |k::ks,u::vs,0,_,h1,h2=>by
  obtain rfl:=aj h1;obtain rfl:=aj h2
  funext b;show upd (upd _ _ _) _ _ b=upd _ _ _ b
  unfold upd;split <;> rfl
 |k::ks,u::vs,i+1,n,h1,h2=>by
  have n:=ba.mp n;rw[List.getElem?_cons_succ]at h1 h2;show upd (upd (HL H ks vs) k u) a w=upd (HL H ks (vs.set i w)) k u;refine rB (HL.set i n.2 h1 h2) ?_;have hk:a≠k:=fun q=>n.1 (by refine rB q ?_;exact aS h1)
  funext b
  unfold upd
  by_cases q:b=a
  ·exact rA (if_pos q) (rA (if_neg (fun z=>hk (q▸z))) (rA (if_pos q) rfl))
  ·refine rA (if_neg q) ?_
   by_cases z:b=k
   ·exact rA (if_pos z) (rA (if_pos z) rfl)
   ·exact rA (if_neg z) (rA (if_neg z) (rA (if_neg q) rfl))
theorem cw.nil:cw H []:=⟨.nil,fun zz h=>nomatch h⟩
theorem HL.none_:∀{ks:List ah}{vs:List V},ks.length=vs.length->HL H ks vs a=none->a∉ks/\H a=none
 |[],vs,_,h=>⟨cH,by cases vs <;> exact h⟩
 |k::ks,[],e,h=>by cases e
 |k::ks,v::vs,e,h=>by
  refine ea (d4 h) fun h1 h2=>?_;refine ea (HL.none_ (Nat.succ.inj e) h2) fun h3 h4=>?_;exact⟨fun q=>(aA.mp q).elim h1 h3,h4⟩
theorem cw.push{vs:List V}(O:cw H ks)(h:HL H ks vs a=none)(e:autoParam (ks.length=vs.length) aR):cw H (a::ks):=by
 refine ea (HL.none_ e h) fun h1 h2=>?_;exact⟨ba.mpr ⟨h1,O.nd⟩,fun b hb=>(aA.mp hb).elim (fun q=>q▸h2) (O.fr b)⟩
theorem cw.two{d:ah}(h1:H a=none)(h2:H d=none)(h3:a≠d):cw H [a,d] :=
 ⟨ba.mpr ⟨fun q=>h3 (ag.mp q),ba.mpr ⟨fun q=>(nomatch q),.nil⟩⟩,fun b hb=>(aA.mp hb).elim (fun q=>q▸h1) fun q=>ag.mp q▸h2⟩
theorem cw.get{vs:List V}(O:cw H ks)(i:Nat)(h1:ks[i]?=some a)(h2:vs[i]?=some v):HL H ks vs a=some v:=HL.get i O.nd h1 h2
theorem cw.con{vs:List V}(O:cw H ks)(i:Nat)(h1:ks[i]?=some a)(h2:vs[i]?=some v):Internal.con (HL H ks vs) (.ref a)=v:=by
 show(HL H ks vs a).getD _=v;refine rA (O.get i h1 h2) ?_;rfl
theorem cw.sub:∀{ks:List ah}{vs:List V},(∀a∈ks,H a=none)->ks.Nodup->Sub H (HL H ks vs)
 |[],vs,_,_=>by cases vs <;> exact .refl
 |k::ks,[],_,_=>.refl
 |k::ks,v::vs,h,n=>by
  have n:=ba.mp n;exact(cw.sub (fun a ha=>h a (.tail _ ha)) n.2).upd (h k (.head _))
theorem cw.rfy{vs:List V}(O:cw H ks)(i:Nat)(h1:ks[i]?=some a)(h2:vs[i]?=some v)(h:gZ (HL H ks vs) H (.v v w))(ho:autoParam (w.isObj=true) aR):gZ (HL H ks vs) H (.v (.ref a) w) :=
 .ref (O.get i h1 h2) (O.fr _ (aS h1)) h ho
variable {g:GX}{k:Nat}{X:XP}{Q:VP}{QH:HH->Prop}{G:GC}{vs:List V}
theorem ut{u u':V}{m}(O:cw H ks)(r:gZ (HL H ks vs) H (.v u u'))(h:Q u' H):rp Q (.ret u) ⟨m,HL H ks vs⟩:=⟨u',H,cw.sub O.fr O.nd,r,h⟩
theorem AD{m m':List (Str×V)}(h:DC H H m m'):l5 ⟨m,H⟩ ⟨m',H⟩:=.of .refl h
theorem il{c d:ah}{n:Str}{xs:List (Str×V)}(O:cw H ks)(i j:Nat)(i1:ks[i]?=some a)(i2:vs[i]?=some (.inst c (.ref d)))(j1:ks[j]?=some d)(j2:vs[j]?=some (.adict xs))(ho:Cv G.K c n=true)
  (h:QH (HL H ks (vs.set j (.adict (put n x xs))))) (hn:autoParam (decide ((xs.map (·.1)).Nodup)=true) aR) (hl:autoParam (cU xs.length 100=true) aR):UT G k (qU n) [x,.ref a] (HL H ks vs) QH X:=by
 exact pY (iL ho) (wO ho) (wN ho) (wM ho) (O.get i i1 i2) (O.get j j1 j2) (of_decide_eq_true hn) (aq hl) (by refine rA (HL.set j O.nd j1 j2) ?_;exact h)
theorem dy{c d:ah}{n:Str}{xs:List (Str×V)}{y:V}(O:cw H ks)(i j:Nat)(i1:ks[i]?=some a)(i2:vs[i]?=some (.inst c (.ref d)))(j1:ks[j]?=some d)(j2:vs[j]?=some (.adict xs))(hc:g.tab.at_ c n=true)(hx:xs.lookup n=some y)
  (h:Q y (HL H ks vs)) (hg:autoParam (y.noGlob=true) aR):VT g.gc k (nA n) [.ref a] (HL H ks vs) Q X:=by
 refine ea (g.tab.aok _ _ hc) fun c1 c2=>?_;refine VT.attr (c:=c) (xs:=xs) ?_ c1 c2 hx hg h;unfold xz;refine rA (O.con i i1 i2) ?_;show(match Internal.con (HL H ks vs) (.ref d)with|.adict xs=>some (c,xs)|_=>none)=_;exact rA (O.con j j1 j2) rfl
theorem pS{c d f:ah}{n:Str}{xs:List (Str×V)}(O:cw H ks)(i j:Nat)(i1:ks[i]?=some a)(i2:vs[i]?=some (.inst c (.ref d)))(j1:ks[j]?=some d)(j2:vs[j]?=some (.adict xs))(hm:g.tab.mt c n=some f)(hx:xs.lookup n=none) :
  MT g.gc n (.ref a) (HL H ks vs) (.ref f):=by
 refine Bi (g.tab.mok _ _ _ hm) fun c1 c2 c3 c4=>?_;refine MT.inst (c:=c) (xs:=xs) ?_ c1 c2 c3 hx;unfold xz;refine rA (O.con i i1 i2) ?_;show(match Internal.con (HL H ks vs) (.ref d)with|.adict xs=>some (c,xs)|_=>none)=_;exact rA (O.con j j1 j2) rfl
theorem gA{xs:List V}(O:cw H ks)(i:Nat)(i1:ks[i]?=some a)(i2:vs[i]?=some (.lst xs))(hl:xs.length<1000000)(h:Q .none (HL H ks (vs.set i (.lst (xs++[x]))))):VT G k (dm (.builtin "list.append")) [.ref a,x] (HL H ks vs) Q X :=
 VT.append (O.get i i1 i2) hl (by refine rA (HL.set i O.nd i1 i2) ?_;exact h)
theorem mV{xs:List (Int×V)}{n:Int}(O:cw H ks)(i:Nat)(i1:ks[i]?=some a)(i2:vs[i]?=some (.dct xs))(hl:xs.length<1000000)(h:QH (HL H ks (vs.set i (.dct (ix xs n x))))):UT G k sx [x,.ref a,.int n] (HL H ks vs) QH X :=
 sM (O.get i i1 i2) hl (by refine rA (HL.set i O.nd i1 i2) ?_;exact h)
theorem qa{xs:List Int}{n:Int}(O:cw H ks)(i:Nat)(i1:ks[i]?=some a)(i2:vs[i]?=some (.set xs))(hl:xs.length<4000)(h:Q .none (HL H ks (vs.set i (.set (cO xs n))))):VT G k (dm (.builtin "set.add")) [.ref a,.int n] (HL H ks vs) Q X :=
 VT.sadd (O.get i i1 i2) hl (by refine rA (HL.set i O.nd i1 i2) ?_;exact h)
theorem sP{xs:List V}{y:V}(O:cw H ks)(i:Nat)(i1:ks[i]?=some a)(i2:vs[i]?=some (.lst (xs++[y])))(hl:xs.length<1000000)(h:Q y (HL H ks (vs.set i (.lst xs)))):VT G k (dm (.builtin "list.pop")) [.ref a] (HL H ks vs) Q X :=
 u7 (O.get i i1 i2) hl (by refine rA (HL.set i O.nd i1 i2) ?_;exact h)
theorem AY{xs ys:List V}{y:V}(O:cw H ks)(i:Nat)(i1:ks[i]?=some a)(i2:vs[i]?=some (.lst xs))(hy:Internal.con (HL H ks vs) y=.lst ys)(hl:xs.length+ys.length<1000000)(h:Q .none (HL H ks (vs.set i (.lst (xs++ys))))):VT G k (dm (.builtin "list.extend")) [.ref a,y] (HL H ks vs) Q X :=
 VT.extend (O.get i i1 i2) hy hl (by refine rA (HL.set i O.nd i1 i2) ?_;exact h)
theorem mW{xs:List V}{n:Int}{j:Nat}(O:cw H ks)(i:Nat)(i1:ks[i]?=some a)(i2:vs[i]?=some (.lst xs))(hj:kY n xs.length=some j)(hl:j<xs.length)(hb:n.natAbs<2^62)(h:QH (HL H ks (vs.set i (.lst (xs.set j x))))):UT G k sx [x,.ref a,.int n] (HL H ks vs) QH X :=
 lL (O.get i i1 i2) hj hl hb (by refine rA (HL.set i O.nd i1 i2) ?_;exact h)
end
noncomputable def B1(o:bq):Int:=if gF o then 2 else 1
noncomputable def cQ(os:List bq)(i:Nat):Int:=((os.take i).map B1).sum
noncomputable def fe(os:List bq)(n:Nat):List V:=(aQ n).map fun j=>.int (cQ os j)
noncomputable def tx(os:List bq)(n:Nat):List (Int×V):=(aQ n).map fun(j:Nat)=>(cQ os j,V.int (j:Int))
noncomputable def o6(os:List bq)(i:Nat)(o:bq):Int:=cQ os i+1+zy o
noncomputable def tgt(os:List bq)(i:Nat)(o:bq):Option Nat:=(aQ os.length).find? fun j=>cQ os j=o6 os i o
noncomputable def fQ(os:List bq)(acc:List Int)(p:bq×Nat):List Int:=if bD p.1 then(match tgt os p.2 p.1 with|some t=>cO acc t|bc=>acc)else acc
noncomputable def gQ(os:List bq):List Int:=os.zipIdx.foldl (fQ os) [0]
noncomputable def ay(os:List bq):List Int:=eT (gQ os)
noncomputable def iV(l:List Int):V:=.lst (l.map .int)
noncomputable def fx(os:List bq):V:=.lst (os.map cM)
noncomputable def c5(os:List bq):V:=.inst 288 (.adict [("orders",fx os),("slots",.lst (fe os os.length)),("by_slot",.dct (tx os os.length)),("many_slots",.int (cQ os os.length)),("subs",iV (ay os))])
theorem xa(o:bq):1<=B1 o:=by unfold B1;split <;> lia
theorem jI{os:List bq}{i:Nat}{o:bq}(h:os[i]?=some o):cQ os (i+1)=cQ os i+B1 o:=by
 unfold cQ;refine rA aT (rA h ?_);simp
set_option tactic.hygienic true in
theorem oa{os:List bq}{i j:Nat}(h:i<j)(hj:j<=os.length):cQ os i<cQ os j:=by
 induction j with
 |zero=>lia
 |succ j ih=>
  have hj':j<os.length:=hj;refine rA (jI (ac hj')) ?_;have:=xa os[j]
  by_cases q:i=j
  ·subst q;exact Lz [] [_,_] (Sa (Kz 1) Z0 (Gz (Pz Z1 (Kz 1)) (Pz Z1 Z0))) rfl this
  ·have:=ih (by exact z0 (dR h) q) (by exact bn hj');(rename_i FW;exact Lz [] [_,_,_] (Sa (Kz 1) Z0 (Sa (Pz Z1 (Kz 1)) (Xz 2) (Gz (Pz Z1 (Kz 1)) (Pz (Xz 2) Z0)))) rfl FW this)
theorem qD{os:List bq}{i j:Nat}(hi:i<=os.length)(hj:j<=os.length)(h:cQ os i=cQ os j):i=j:=by
 rcases pL i j with q|q|q
 ·have:=oa q hj;lia
 ·exact q
 ·have:=oa q hi;lia
theorem uv(os:List bq)(n:Nat):fe os (n+1)=fe os n++[.int (cQ os n)]:=by
 unfold fe;refine rA ch (rA ai ?_);rfl
theorem Bf{os:List bq}{n:Nat}(h:n<os.length):ix (tx os n) (cQ os n) (.int (n:Int))=tx os (n+1):=by
 unfold ix;rw[if_neg]
 ·unfold tx;refine rA ch (rA ai ?_);rfl
 ·intro q;refine bx (la.mp q) fun p hp e=>?_;refine bx (aJ.mp hp) fun j hj FW=>?_;subst FW;have hj:=bZ.mp hj;have:=qD (by exact a8 (bn hj) (bn h)) (by exact bn h) (of_decide_eq_true e);exact L2 (Ra M0 N1 (Rc N0 N1 Fa)) rfl hj this
theorem Be(os:List bq)(n:Nat):(tx os n).length=n:=by unfold tx;simp
theorem vS(os:List bq)(n:Nat):(fe os n).length=n:=by unfold fe;simp
theorem qE{os:List bq}{n i:Nat}(h:i<n):(fe os n)[i]?=some (.int (cQ os i)):=by
 unfold fe;refine rA ar (rA (bK h) ?_);rfl
theorem mZ{os:List bq}{i:Nat}{o:bq}:dF (tx os os.length) (o6 os i o)=Option.map (fun(t:Nat)=>V.int (t:Int)) (tgt os i o):=by
 unfold dF tx tgt;rw[List.find?_map,Option.map_map]
 rfl
theorem fo{os:List bq}{i:Nat}{o:bq}(h:os[i]?=some o):(os.map cM)[i]?=some (cM o):=by
 refine rA ar (rA h ?_);rfl
section
variable {g:GX}{k:Nat}{X:XP}{Q:VP}{H:HH}{G:GC}
theorem bT{value slice:Expr}{o x:V}{xs:List V}{j:Nat}(e:con H o=.lst xs)(hx:xs[j]?=some x)(hb:j<1000000)(h:Q x H)
  (hs:autoParam (∀o i,oR slice false o i=operate [o,i] (getItem o i)) aU):VT G k (qT value slice) [o,.int (j:Int)] H Q X :=
 i9 e (by exact xU) (by rw[bw];exact hx) (by exact L1 (Ra M0 (Kn 1000000) (Gz (Pz C0 (Kz 1)) (Kz (2^62)))) rfl hb) h hs
theorem ny{os:List bq}{i:Nat}{o:bq}(ho:os[i]?=some o)(hn:os.length<60)(h:Q (.int (o6 os i o)) H)(hk:30<=k):CT g.gc k (.ref 259) [c5 os,.int i] H Q X:=by
 have hi:i<os.length:=(au.mp ho).1;refine gK (dcs:=[]) rfl (fun zz zz zz=>rfl) rfl ?_ (gG hk);refine bT rfl (qE hi) (by exact lC hi hn) ?_;refine bT rfl (fo ho) (by exact lC hi hn) ?_;exact aE (oI (dO h) (dn hk))
theorem rK{ks:List ah}{vs:List V}{a d L S:ah}{xs:List (Str×V)}{os:List bq}{i:Nat}{o:bq}(O:cw H ks)(p q r t:Nat)(p1:ks[p]?=some a)(p2:vs[p]?=some (.inst 288 (.ref d)))(q1:ks[q]?=some d)(q2:vs[q]?=some (.adict xs))
  (x1:xs.lookup ("slots":Str)=some (.ref S)) (x2:xs.lookup ("orders":Str)=some (.ref L)) (r1:ks[r]?=some S) (r2:vs[r]?=some (.lst (fe os os.length))) (t1:ks[t]?=some L) (t2:vs[t]?=some (fx os))
  (ho:os[i]?=some o) (hn:os.length<60) (h:Q (.int (o6 os i o)) (HL H ks vs)) (hk:30<=k):CT g.gc k (.ref 259) [.ref a,.int i] (HL H ks vs) Q X:=by
 have hi:i<os.length:=(au.mp ho).1;refine gK (dcs:=[]) rfl (fun zz zz zz=>rfl) rfl ?_ (gG hk);refine dy O p q p1 p2 q1 q2 rfl x1 ?_;refine bT (O.con r r1 r2) (qE hi) (by exact lC hi hn) ?_;refine dy O p q p1 p2 q1 q2 rfl x2 ?_;refine bT (O.con t t1 t2) (fo ho) (by exact lC hi hn) ?_;exact aE (oI (dO h) (dn hk))
end
section
variable {g:GX}{k:Nat}{X:XP}{Q:VP}{H:HH}{G:GC}
theorem cw.conOf{ks:List ah}{vs:List V}{v x:V}(O:cw H ks)(e:Internal.con H v=x)(hx:x.isObj=true):Internal.con (HL H ks vs) v=x:=by
 cases v with
 |ref b=>
  have e:(H b).getD (.ref b)=x:=e;have:b∉ks:=fun m=>by rw[O.fr b m]at e;subst e;exact nB hx
  show(HL H ks vs b).getD (.ref b)=x;refine rA (HL.off this) ?_;exact e
 |_=>exact e
noncomputable def vK(os:List bq)(L S B:ah):List (Str×V):=[("orders",.ref L),("slots",.ref S),("by_slot",.ref B),("many_slots",.int (cQ os os.length))]
noncomputable def iR(os:List bq)(i:Nat):List Int:=(os.zipIdx.take i).foldl (fQ os) [0]
theorem j8{os:List bq}{i:Nat}{o:bq}(h:os[i]?=some o):iR os (i+1)=fQ os (iR os i) (o,i):=by
 unfold iR;refine rA aT (rA eK (rA h (rA dh ?_)));simp
theorem j7(os:List bq):iR os os.length=gQ os:=by
 unfold iR gQ;exact rA (fw (by simp)) rfl
theorem vZ{os:List bq}{acc:List Int}{p:bq×Nat}:(fQ os acc p).length<=acc.length+1:=by
 unfold fQ;split
 ·split
  ·exact fM _ _
  ·exact b6 _ _
 ·exact b6 _ _
theorem mY{os:List bq}:∀{i:Nat},i<=os.length->(iR os i).length<=i+1
 |0,_=>ax _
 |i+1,h=>by
  refine rA (j8 (ac h)) ?_;have:=mY (os:=os) (i:=i) (by exact iy h);exact a8 vZ (by exact lg this)
noncomputable def BK(os:List bq)(L S B:ah):List (Str×V):=[("orders",.ref L),("slots",.ref S),("by_slot",.ref B)]
noncomputable abbrev DE(H:HH)(os:List bq)(a:ah)(d:ah)(L:ah)(S:ah)(B:ah):List V->St->Prop:=fun r σ=>X1 fun(i:Nat)=>A3 (i<=os.length) (r=br i os.length) (σ=⟨[("self",.ref a),("slot",.int (cQ os i))],HL H [B,S,L,a,d] [.dct (tx os i),.lst (fe os i),fx os,.inst 288 (.ref d),.adict (BK os L S B)]⟩)
noncomputable abbrev DF(H:HH)(os:List bq)(a:ah)(d:ah)(L:ah)(S:ah)(B:ah)(D:ah):List V->St->Prop:=fun r σ=>X1 fun(i:Nat)=>A3 (i<=os.length) (r=br i os.length) (σ=⟨[("self",.ref a),("begins",.ref D)],HL H [D,B,S,L,a,d] [.set (iR os i),.dct (tx os os.length),.lst (fe os os.length),fx os,.inst 288 (.ref d),.adict (vK os L S B)]⟩)
theorem o9{os:List bq}{ov:V}{a d:ah}(ha:H a=none)(hd:H d=none)(hne:a≠d)(e:con H ov=fx os)(hn:os.length<60)(h:Q (c5 os) H)(hk:40<=k) :
  CT g.gc k (.ref 245) [.ref a,ov] (obj H a d 288 []) (AO Q a) X:=by
 refine gK (dcs:=[]) rfl (fun zz zz zz=>rfl) rfl ?_ (gG hk);have O:=cw.two ha hd hne;refine lp (O.conOf (vs:=[.inst 288 (.ref d),.adict []]) e rfl) (by rw[ae];exact rC hn) (fun L hL=>?_)
 replace O:=O.push (vs:=[.inst 288 (.ref d),.adict []]) hL
 refine il (vs:=[fx os,.inst 288 (.ref d),.adict []]) O 1 2 rfl rfl rfl rfl rfl ?_;intro S hS
 replace O:=O.push hS
 refine il (vs:=[.lst [],fx os,.inst 288 (.ref d),.adict [("orders",.ref L)]]) O 2 3 rfl rfl rfl rfl rfl ?_;refine pX fun B hB=>?_
 replace O:=O.push hB
 refine il (vs:=[.dct [],.lst [],fx os,.inst 288 (.ref d),.adict [("orders",.ref L),("slots",.ref S)]]) O 3 4 rfl rfl rfl rfl rfl ?_;refine⟨⟨[("self",.ref a),("slot",.int 0)],HL H [B,S,L,a,d] [.dct [],.lst [],fx os,.inst 288 (.ref d),.adict (BK os L S B)]⟩,sA rfl,?_⟩;refine dy O 3 4 rfl rfl rfl rfl rfl rfl ?_;refine VT.len (O.con 2 rfl rfl) (by rw[ae];exact rC hn) ?_;rw[ae];refine ct (by exact vI hn) ?_;refine⟨DE H os a d L S B,⟨0,aH _,rfl,rfl⟩,?_,?_⟩
 ·refine kj fun i hi hr=>?_;have hi:i=os.length:=by
   apply aG;intro z;rw[dA (by exact dH.mpr ⟨L2 (Ra N0 N1 (Gz C0 C1)) rfl hi,fun z''=>z (ao (L2 (Ra N0 N1 (Gn N0 N1)) rfl hi) (L2 (Sd C0 C1 (Gn N1 N0)) rfl z''))⟩)]at hr;exact nL hr
  subst hi;refine il O 3 4 rfl rfl rfl rfl rfl ?_;refine AS fun D hD=>?_
  replace O:=O.push hD
  refine⟨⟨[("self",.ref a),("begins",.ref D)],HL H [D,B,S,L,a,d] [.set [0],.dct (tx os os.length),.lst (fe os os.length),fx os,.inst 288 (.ref d),.adict (vK os L S B)]⟩,sA rfl,?_⟩;refine dy O 4 5 rfl rfl rfl rfl rfl rfl ?_;refine VT.len (O.con 3 rfl rfl) (by rw[ae];exact rC hn) ?_;rw[ae];refine ct (by exact vI hn) ?_;refine⟨DF H os a d L S B D,⟨0,aH _,rfl,rfl⟩,?_,?_⟩
  ·refine kj fun i hi hr=>?_;have hi:i=os.length:=by
    apply aG;intro z;rw[dA (by exact dH.mpr ⟨L2 (Ra N0 N1 (Gz C0 C1)) rfl hi,fun z''=>z (ao (L2 (Ra N0 N1 (Gn N0 N1)) rfl hi) (L2 (Sd C0 C1 (Gn N1 N0)) rfl z''))⟩)]at hr;exact nL hr
   subst hi;refine jb (O.con 0 rfl rfl) (by have:=mY (os:=os) (ax _);exact oq8 this hn) (fun D2 hD2=>?_)
   replace O:=O.push hD2
   refine il (vs:=[.lst ((eT (iR os os.length)).map .int),.set (iR os os.length),.dct (tx os os.length),.lst (fe os os.length),fx os,.inst 288 (.ref d),.adict (vK os L S B)]) O 5 6 rfl rfl rfl rfl rfl ?_;refine⟨_,.refl,rfl,_,H,cw.sub O.fr O.nd,O.rfy 5 rfl rfl (.inst (O.rfy 6 rfl rfl (.adict (.skcons (O.rfy 4 rfl rfl (.same _)) (.skcons (O.rfy 3 rfl rfl (.same _)) (.skcons (O.rfy 2 rfl rfl (.same _)) (.skcons (.same _) (.skcons (O.rfy 0 rfl rfl (.same _)) .sknil)))))))),?_⟩;rw[j7];exact h
  ·intro v r;refine kj fun i hi hr=>?_;have hi:i<os.length:=by
    apply aG;intro z;rw[fJ (by exact jy (aW z))]at hr;exact nL hr.symm
   rw[dA (by exact qz hi)]at hr;obtain⟨rfl,rfl⟩:=aV hr;have ho:=ac hi;have hl:=mY (os:=os) (bn hi);have fin:∀acc,fQ os (iR os i) (os[i],i)=acc->(⟨[("self",.ref a),("begins",.ref D)],HL H [D,B,S,L,a,d] [.set acc,.dct (tx os os.length),.lst (fe os os.length),fx os,.inst 288 (.ref d),.adict (vK os L S B)]⟩:St)=
    ⟨[("self",.ref a),("begins",.ref D)],HL H [D,B,S,L,a,d] [.set (iR os (i+1)),.dct (tx os os.length),.lst (fe os os.length),fx os,.inst 288 (.ref d),.adict (vK os L S B)]⟩:=fun acc e=>by exact rA (j8 ho) (rA e rfl)
   have gs:∀{k':Nat}{X:XP}{Q:VP},40<=k'->Q (.int (o6 os i os[i])) (HL H [D,B,S,L,a,d] [.set (iR os i),.dct (tx os os.length),.lst (fe os os.length),fx os,.inst 288 (.ref d),.adict (vK os L S B)])->VT g.gc (k'-1) (dm (.ref 259)) [.ref a,.int i] (HL H [D,B,S,L,a,d] [.set (iR os i),.dct (tx os os.length),.lst (fe os os.length),fx os,.inst 288 (.ref d),.adict (vK os L S B)]) Q X:=fun hk hq=>
    aE (rK O 4 5 2 3 rfl rfl rfl rfl rfl rfl rfl rfl rfl rfl ho hn hq (dn hk))
   refine dy O 4 5 rfl rfl rfl rfl rfl rfl ?_;refine bT (j:=i) (O.con 3 rfl rfl) (fo ho) (by exact lC hi hn) ?_;refine aE (dX ?_ (dn hk));refine dY (fun q1=>?_) (fun q1=>?_)
   ·refine⟨.ref 259,pS O 4 5 rfl rfl rfl rfl rfl rfl,rfl,?_⟩;refine gs hk ?_;refine dy O 4 5 rfl rfl rfl rfl rfl rfl ?_;refine CN (O.con 1 rfl rfl) ?_;refine rA mZ ?_;refine dY (fun q2=>?_) (fun q2=>?_)
    ·obtain⟨t,ht⟩:∃t,tgt os i os[i]=some t:=by
      rw[Option.isSome_map]at q2;exact b5.mp q2
     refine⟨.builtin "set.add",MT.sadd (O.con 0 rfl rfl),trivial,?_⟩;refine dy O 4 5 rfl rfl rfl rfl rfl rfl ?_;refine⟨.ref 259,pS O 4 5 rfl rfl rfl rfl rfl rfl,rfl,?_⟩;refine gs hk ?_;refine dK (x:=.int t) (O.con 1 rfl rfl) (by refine rA mZ (rA ht ?_);rfl) ?_;refine qa O 0 rfl rfl (by exact L3 (Ra M0 (Kn 60) (Ra M1 N0 (Ra N2 M1 (Gn M2 (Kn 4000))))) rfl hn hi hl) ?_;refine⟨_,?_,i+1,hi,by push_cast;rfl,fin _ (by unfold fQ;exact rA q1 (rA (if_pos rfl) (rA ht rfl)))⟩;exact ci 2
    ·have ht:tgt os i os[i]=none:=by
      rw[Option.isSome_map]at q2;exact Option.isSome_eq_false_iff.mp q2 |> sD.mp
     refine⟨_,?_,i+1,hi,by push_cast;rfl,fin (iR os i) (by unfold fQ;exact rA q1 (rA (if_pos rfl) (rA ht rfl)))⟩;exact ci 2
   ·refine⟨_,?_,i+1,hi,by push_cast;rfl,fin (iR os i) (by unfold fQ;refine rA q1 ?_;rfl)⟩;exact ci 2
 ·intro v r;refine kj fun i hi hr=>?_;have hi:i<os.length:=by
   apply aG;intro z;rw[fJ (by exact jy (aW z))]at hr;exact nL hr.symm
  rw[dA (by exact qz hi)]at hr;obtain⟨rfl,rfl⟩:=aV hr;have ho:=ac hi;refine dy O 3 4 rfl rfl rfl rfl rfl rfl ?_;refine⟨_,MT.append (O.con 1 rfl rfl),trivial,?_⟩;refine gA O 1 rfl rfl (by rw[vS];exact lC hi hn) ?_;refine dy O 3 4 rfl rfl rfl rfl rfl rfl ?_;refine mV O 0 rfl rfl (by rw[Be];exact lC hi hn) ?_;refine dy O 3 4 rfl rfl rfl rfl rfl rfl ?_;refine bT (j:=i) (O.con 2 rfl rfl) (fo ho) (by exact lC hi hn) ?_;refine aE (vU ?_ (dn hk));have fin:∀w:Int,B1 os[i]=w->(⟨[("self",.ref a),("slot",.int (cQ os i+w))],HL H [B,S,L,a,d] [.dct (ix (tx os i) (cQ os i) (.int i)),.lst (fe os i++[.int (cQ os i)]),fx os,.inst 288 (.ref d),.adict (BK os L S B)]⟩:St)=
    ⟨[("self",.ref a),("slot",.int (cQ os (i+1)))],HL H [B,S,L,a,d] [.dct (tx os (i+1)),.lst (fe os (i+1)),fx os,.inst 288 (.ref d),.adict (BK os L S B)]⟩:=fun w hw=>by
   rw[jI ho,hw,uv,Bf hi]
  refine dY (fun q=>?_) (fun q=>?_)
  ·refine⟨_,?_,i+1,hi,by push_cast;rfl,fin 2 (by unfold B1;refine rA q ?_;rfl)⟩;exact ci 2
  ·refine⟨_,?_,i+1,hi,by push_cast;rfl,fin 1 (by unfold B1;refine rA q ?_;rfl)⟩;exact ci 2
theorem qG{os:List bq}{ov:V}(e:con H ov=fx os)(hn:os.length<60)(h:Q (c5 os) H)(hk:50<=k):CT g.gc k (.ref 288) [ov] H Q X :=
 Bz (fI:=245) rfl (fun a d ha hd hne=>o9 ha hd hne e hn h (dn hk)) (gG hk)
end
noncomputable def tc(o:bq):Bool:=cI o||(bN o||bD o)
noncomputable def tg(os:List bq)(i:Nat)(o:bq):Nat:=(tgt os i o).getD 0
noncomputable def dT(os:List bq)(i:Nat)(o:bq):List Int:=if dZ o then []else if cI o then [(tg os i o:Int)]else if bN o&&decide ((tg os i o:Int)≠i+1)then [(i:Int)+1,(tg os i o:Int)]else [(i:Int)+1]
noncomputable def cN(os:List bq):List Int:=(os.zipIdx.filter fun p=>bD p.1).map fun p=>(p.2:Int)
section
variable {g:GX}{k:Nat}{X:XP}{Q:VP}{H:HH}{G:GC}
theorem frz{b:ah}{v w:V}{m}{H:HH}(hb:H b=none)(r:gZ (upd H b v) H (.v v w))(h:Q w H)(ho:autoParam (w.isObj=true) aR):rp Q (.ret (.ref b)) ⟨m,upd H b v⟩ :=
 ⟨w,H,Sub.refl.upd hb,.ref aw hb r ho,h⟩
theorem eR{os:List bq}(hn:os.length<60)(h:Q (.int os.length) H)(hk:10<=k):CT g.gc k (.ref 252) [c5 os] H Q X:=by
 refine gK (dcs:=[]) rfl (fun zz zz=>rfl) rfl ?_ (gG hk);refine VT.len (xs:=os.map cM) rfl (by rw[ae];exact rC hn) ?_;rw[ae];exact dO h
theorem f8{os:List bq}{i t:Nat}{o:bq}(ho:os[i]?=some o)(hn:os.length<60)(ht:tgt os i o=some t)(h:Q (.int t) H)(hk:40<=k):CT g.gc k (.ref 266) [c5 os,.int i] H Q X:=by
 refine gK (dcs:=[]) rfl (fun zz zz zz=>rfl) rfl ?_ (gG hk);refine aE (ny ho hn ?_ (dn hk));exact dK (x:=.int t) rfl (by refine rA mZ (rA ht ?_);rfl) (dO h)
theorem uA{o:bq}(h:Q (.bool (tc o)) H)(hk:40<=k):CT g.gc k (.ref 299) [cM o] H Q X:=by
 unfold tc at h;refine gK (dcs:=[]) rfl (fun zz zz=>rfl) rfl ?_ (gG hk);refine aE (ez ?_ (dn hk));refine dY (fun q=>dO (by rw[q]at h;refine rA q ?_;exact h)) (fun q=>?_);rw[q]at h;refine aE (fg ?_ (dn hk));refine dY (fun q=>dO (by rw[q]at h;refine rA q ?_;exact h)) (fun q=>?_);rw[q]at h;exact aE (dX (dO h) (dn hk))
theorem gq{os:List bq}{i:Nat}{o:bq}(ho:os[i]?=some o)(hn:os.length<60)(ht:cI o=true∨bN o=true->(tgt os i o).isSome=true)(h:Q (iV (dT os i o)) H)(hk:50<=k):CT g.gc k (.ref 306) [c5 os,.int i] H Q X:=by
 have tt:cI o=true∨bN o=true->tgt os i o=some (tg os i o):=fun z=>by
  refine ex (b5.mp (ht z)) fun t e=>?_;unfold tg;refine rA e ?_;rfl
 unfold dT at h;refine gK (dcs:=[]) rfl (fun zz zz zz=>rfl) rfl ?_ (gG hk);refine bT rfl (fo ho) (by have:=(au.mp ho).1;exact lC this hn) ?_;refine aE (ji ?_ (dn hk));refine dY (fun q=>?_) (fun q1=>?_)
 ·rw[q]at h;exact fun b hb=>frz (w:=iV []) hb (.same _) h
 rw[q1]at h;refine aE (ez ?_ (dn hk));refine dY (fun q=>?_) (fun q2=>?_)
 ·rw[q]at h;refine aE (f8 ho hn (tt (.inl q)) ?_ (dn hk));exact fun b hb=>frz (w:=iV [(tg os i o:Int)]) hb (.same _) h
 rw[q2]at h;refine aE (fg ?_ (dn hk));refine dY (fun q=>?_) (fun q3=>?_)
 ·rw[q]at h;refine aE (f8 ho hn (tt (.inr q)) ?_ (dn hk));refine dY (fun q4=>?_) (fun q4=>?_)
  ·rw[q4]at h;refine aE (f8 ho hn (tt (.inr q)) ?_ (dn hk));exact fun b hb=>frz (w:=iV [(i:Int)+1,(tg os i o:Int)]) hb (.same _) h
  ·rw[q4]at h;exact fun b hb=>frz (w:=iV [(i:Int)+1]) hb (.same _) h
 ·rw[q3]at h;exact fun b hb=>frz (w:=iV [(i:Int)+1]) hb (.same _) h
end
noncomputable def iT(os:List bq)(i:Nat):List Int:=((os.zipIdx.take i).filter fun p=>bD p.1).map fun p=>(p.2:Int)
theorem tv{os:List bq}{i:Nat}{o:bq}(h:os[i]?=some o):os.zipIdx[i]?=some (o,i):=by
 refine rA eK (rA h ?_);simp
theorem sT{os:List bq}{i:Nat}{o:bq}(h:os[i]?=some o):iT os (i+1)=iT os i++(if bD o then [(i:Int)]else []):=by
 unfold iT;rw[aT,tv h,bu,ai];simp only[Option.toList,bO,dk];split <;> rfl
theorem ow(os:List bq):iT os os.length=cN os:=by
 unfold iT cN;exact rA (fw (by simp)) rfl
theorem oy(os:List bq)(i:Nat):(iT os i).length<=os.length:=by
 unfold iT;rw[ae];exact a8 (bp _ _) (by simp;exact L2 (Ra N0 N1 (Gn N0 N1)) rfl (bP _ _))
section
variable {g:GX}{k:Nat}{X:XP}{Q:VP}{H:HH}{G:GC}
theorem eU{H:HH}{D:ah}{v w:V}:upd (upd H D v) D w=upd H D w:=by
 funext b;unfold upd;split <;> rfl
noncomputable abbrev DG(H:HH)(os:List bq):ah->List V->List V->HH->Prop:=fun D r acc H'=>X1 fun(i:Nat)=>A4 (i<=os.length) (r=br i os.length) (acc=(iT os i).map .int) (H'=upd H D (.lst acc))
theorem jj{os:List bq}(hn:os.length<60)(h:Q (iV (cN os)) H)(hk:20<=k):CT g.gc k (.ref 316) [c5 os] H Q X:=by
 refine gK (dcs:=[]) rfl (fun zz zz=>rfl) rfl ?_ (gG hk);refine aE (eR hn ?_ (dn hk));refine ct (by exact vI hn) ?_;refine⟨DG H os,fun D hD=>⟨⟨0,aH _,rfl,rfl,rfl⟩,?_,?_⟩⟩
 ·refine bRf ?_;exact frz (w:=iV (iT os os.length)) hD (.same _) (by rw[ow];exact h)
 ·refine bRs fun i hi=>?_;have ho:=ac hi;have hs:=sT ho;refine⟨.put .refl rfl,?_⟩;refine bT (j:=i) rfl (fo ho) (by exact lC hi hn) ?_;refine aE (dX ?_ (dn hk));refine dY (fun q=>?_) (fun q=>?_)
  ·rw[q]at hs;exact⟨.int i,_,.refl,.same _,aw,by have:=oy os i;rw[ae];exact pG this hn,i+1,hi,rfl,by refine rA hs ?_;simp,by exact rA eU rfl⟩
  ·rw[q]at hs;exact⟨_,.refl,i+1,hi,rfl,by refine rA hs ?_;simp,rfl⟩
end
noncomputable def subEnd(os:List bq)(s:Int):Int:=((ay os).find? fun b=>decide (s<b)).getD os.length
structure mU(os:List bq)(at_ s:Int):Prop where
 mem:s∈ay os
 le:s<=at_
 max:∀b∈ay os,b<=at_->b<=s
theorem nz{os:List bq}:(ay os).length<=os.length+1:=by
 unfold ay;rw[fN,←j7];exact mY (ax _)
theorem uD{xs:List Int}{a b:Int}(h:a∈xs):a∈cO xs b:=by
 unfold cO;split
 ·exact h
 ·exact aC _ h
theorem v3{os:List bq}{acc:List Int}{p:bq×Nat}{a:Int}(h:a∈acc):a∈fQ os acc p:=by
 unfold fQ;split
 ·split
  ·exact uD h
  ·exact h
 ·exact h
theorem sa{os:List bq}:∀{i:Nat},i<=os.length->(0:Int)∈iR os i
 |0,_=>.head _
 |i+1,h=>by
  refine rA (j8 (ac h)) ?_;exact v3 (sa (by exact iy h))
theorem uN(os:List bq):(0:Int)∈ay os:=by
 unfold ay;rw[(fq _).mem_iff,←j7];exact sa (ax _)
section
variable {g:GX}{k:Nat}{X:XP}{Q:VP}{H:HH}{G:GC}
noncomputable abbrev DK(os:List bq)(s:Int):List (Str×V):=[("self",c5 os),("sub",.int s)]
noncomputable abbrev DH(H:HH)(os:List bq)(s:Int):List V->St->Prop:=fun r σ=>X1 fun(l:List Int)=>A3 (r=l.map .int) ((ay os).find? (fun b=>decide (s<b))=l.find? (fun b=>decide (s<b))) (σ=⟨DK os s,H⟩)
theorem qP{os:List bq}{s:Int}(hn:os.length<60)(h:Q (.int (subEnd os s)) H)(hk:10<=k):CT g.gc k (.ref 280) [c5 os,.int s] H Q X:=by
 unfold subEnd at h;refine gK (dcs:=[]) rfl (fun zz zz zz=>rfl) rfl ?_ (gG hk);refine⟨_,.refl,?_⟩;refine⟨DH H os s,⟨ay os,rfl,rfl,rfl⟩,?_,?_⟩
 ·refine kj fun l hl hf=>?_;cases l with
  |cons b l=>exact nL hl
  |nil=>
   rw[hf]at h;refine VT.len (xs:=os.map cM) rfl (by rw[ae];exact rC hn) ?_;rw[ae];exact dO h
 ·intro v r;refine kj fun l hl hf=>?_;cases l with
  |nil=>exact nL hl.symm
  |cons b l=>
   obtain⟨rfl,rfl⟩:=aV hl;refine dY (fun q=>?_) (fun q=>?_)
   ·rw[hf,List.find?_cons_of_pos (by exact q)]at h;exact dO h
   ·refine⟨_,?_,l,rfl,by rw[hf,List.find?_cons_of_neg (by rw[q];decide)],rfl⟩;exact ci 2
inductive SwC(names:List Str)(m:Mm)(Q:SP)(xs:List V)(H1:HH):Prop
 |mk (a:xs.length=names.length) (b:xs.length<=1000) (h:Q .next ⟨(names.zip xs).reverse.foldl (fun m p=>put p.1 p.2 m) m,H1⟩)
theorem mw{ts kt pt vs kv pv pos}{sc:Sc}{m:Mm}{H:HH}{Q:SP}{names:List Str}(hw:∀env:Env,env.scope=sc.scope->fi [.Tuple ts kt pt] (.Tuple vs kv pv) env=pure (some names))
  (h:vc g.gc g.tab k 50 (.Es sc X vs ⟨m,H⟩ (SwC names m Q))) (hk3:3<=k)
  (hk:autoParam (names.all (fun x=>sc.kindOf x==some .local)=true) aR) (hs:autoParam (∀env line,eV (.Tuple vs kv pv) (some (.Tuple ts kt pt)) line env=pure false) aI):TS g.gc k sc (.Assign [.Tuple ts kt pt] (.Tuple vs kv pv) pos) ⟨m,H⟩ Q X :=
 TS.swap (pq.imp (vc.ok (t:=.Es _ _ _ _ _) hk3 50 h) fun xs H1 z'=>by obtain⟨a,b,c⟩:=z';exact⟨a,b,c⟩) hw (fun x hx=>by simpa using bJ.mp hk x hx) hs hk3
noncomputable abbrev DL(os:List bq)(i:Nat)(lo:Nat)(hi:Nat):List (Str×V):=[("self",c5 os),("at",.int i),("low",.int lo),("high",.int hi)]
noncomputable abbrev DJ(H:HH)(os:List bq)(i:Nat):Nat->St->Prop:=fun m σ=>X2 fun(lo hi:Nat)=>A6 (m=hi-lo) (lo<hi) (hi<=(ay os).length) (∃hl:lo<(ay os).length,(ay os)[lo]<=i) (∀hh:hi<(ay os).length,(i:Int)<(ay os)[hi]) (σ=⟨DL os i lo hi,H⟩)
noncomputable abbrev DM(os:List bq)(i:Nat):List (Str×V):=[("self",c5 os),("at",.int i),("low",.int 0),("high",.int (ay os).length)]
set_option tactic.hygienic true in
theorem oi{os:List bq}{i:Nat}(hn:os.length<60)(h:∀s,mU os i s->Q (.int s) H)(hk:10<=k):CT g.gc k (.ref 273) [c5 os,.int i] H Q X:=by
 have hs:=ib (gQ os);have hl:=nz (os:=os);refine gK (dcs:=[]) rfl (fun zz zz zz=>rfl) rfl ?_ (gG hk);refine mw (names:=["low","high"]) (fun env e=>by cases env;cases e;rfl) ?_ (dn hk);refine VT.len (xs:=(ay os).map .int) rfl (by rw[ae];exact oq8 hl hn) ?_;rw[ae];refine⟨rfl,aq rfl,?_⟩;have get:∀(j:Nat) (hj:j<(ay os).length),((ay os).map V.int)[j]?=some (.int ((ay os)[j])):=fun j hj=>by refine rA ar (rA (ac hj) ?_);rfl
 have h0:0<(ay os).length:=List.length_pos_iff.mpr fun z=>by have:=uN os;rw[z]at this;cases this
 have mono:∀(a b:Nat) (ha:a<(ay os).length) (hb:b<(ay os).length),a<=b->(ay os)[a]<=(ay os)[b]:=fun a b ha hb hab=>by
  by_cases q:a=b
  ·subst q;exact cJ _
  ·exact gB.mp hs a b ha hb (by exact z0 hab q)
 refine⟨DJ H os i,(ay os).length,⟨⟨DM os i,H⟩,sA rfl,0,_,rfl,h0,ax _,⟨h0,?_⟩,fun hh=>absurd hh (iY _),rfl⟩,?_⟩
 ·obtain⟨j,hj,e⟩:=di (uN os);have:=mono 0 j h0 hj (aH _);rw[e]at this;exact Lz [_] [_] (Sa Z0 (Kz 0) (Gz Z0 C0)) rfl this
 ·rintro n σ ⟨lo,hi,rfl,h1,h2,⟨h3,h4⟩,h5,rfl⟩;refine dY (fun q=>?_) (fun q=>?_)
  ·have q:=of_decide_eq_true q;have hm:lo<(lo+hi) / 2/\(lo+hi) / 2<hi:=⟨(Nat.le_div_iff_mul_le (by decide)).mpr (by rw[Nat.mul_two];(rename_i FW;exact L2 (Sa (Pz (Kz 1) (Kz 1)) (Mz C0 C1) (Gn (Pn M1 M1) (Pn N1 N0))) rfl (of_decide_eq_true FW))),Nat.div_lt_of_lt_mul (by rw[Nat.two_mul];exact mO h1 _)⟩;have e:((lo:Int)+hi).fdiv 2=(((lo+hi) / 2:Nat):Int):=by refine rA (jW _ (by decide)) ?_;rfl
   generalize (lo+hi) / 2=mid at hm e;refine⟨by decide,?_⟩;refine rA e ?_;refine bT (j:=mid) rfl (get mid (by exact be hm.2 h2)) (by exact L4 (Ra M0 (Kn 60) (Ra N1 M0 (Ra N2 N1 (Ra (Pn N3 (Kn 1)) N2 (Gn (Pn N3 (Kn 1)) (Kn 1000000)))))) rfl hn hl h2 hm.2) ?_;refine dY (fun q2=>?_) (fun q2=>?_)
   ·refine⟨hi-mid,_,by exact L5 (Ra M0 N1 (Rb (Pn N2 N1) N3 (Ra N3 (Pn (Xn 4) N0) (Gn M2 (Xn 4))))) rfl hm.1 (iE (L2 (Ra M0 N1 (Gn N0 N1)) rfl hm.2)) jF,?_,mid,hi,rfl,hm.2,h2,⟨by exact be hm.2 h2,of_decide_eq_true q2⟩,h5,rfl⟩;exact ci 4
   ·refine⟨mid-lo,_,by exact L5 (Ra M0 N1 (Rb (Pn N2 N3) N0 (Ra N1 (Pn (Xn 4) N3) (Gn M2 (Xn 4))))) rfl hm.2 (iE (L2 (Ra M0 N1 (Gn N0 N1)) rfl hm.1)) jF,?_,lo,mid,rfl,hm.1,by exact a8 (bn hm.2) h2,⟨h3,h4⟩,fun zz=>by have:=of_decide_eq_false q2;exact oz17 this,rfl⟩;exact ci 4
  ·have q:=of_decide_eq_false q;have:hi=lo+1:=by(rename_i FW;exact ao (L2 (Se (Pz (Kz 1) (Kz 1)) (Mz C0 C1) (Gn N0 M1)) rfl (of_decide_eq_false FW)) (L2 (Ra M0 N1 (Gn M0 N1)) rfl h1))
   subst this;refine bT (j:=lo) rfl (get lo h3) (by exact L3 (Ra M0 (Kn 60) (Ra N1 M0 (Ra M2 N1 (Gn M2 (Kn 1000000))))) rfl hn hl h3) (dO (h _ ⟨cS h3,h4,fun b hb hbi=>?_⟩));obtain⟨j,hj,rfl⟩:=di hb;apply aG;intro z;have hj2:lo+1<=j:=by
    apply aG;intro z2;exact z (mono j lo hj h3 (by exact(aW z2)))
   have:=mono (lo+1) j (by exact bU hj2 hj) hj hj2;have:=h5 (by exact bU hj2 hj)
   (rename_i FY;exact Lz [_] [_,_] (Sa Z0 C0 (Sa Z1 Z0 (Sa (Pz C0 (Kz 1)) Z1 Fa))) rfl hbi FY this)
end
structure Rows(H H':HH)(D:ah)(bs:List ah)(ls:List (List V)):Prop where
 top:H' D=some (.lst (bs.map .ref))
 len:bs.length=ls.length
 row:∀(j:Nat) (b:ah) (l:List V),bs[j]?=some b->ls[j]?=some l->H' b=some (.lst l)
 nd:(D::bs).Nodup
 fr:∀a∈D::bs,H a=none
 sub:Sub H H'
section
variable {H H':HH}{D b:ah}{bs:List ah}{ls:List (List V)}{l:List V}{x:V}
theorem Rows.nil(hD:H D=none):Rows H (upd H D (.lst [])) D [] []:=⟨aw,rfl,fun j b l h=>by simp at h,by simp,fun a ha=>by refine rA (ag.mp ha) ?_;exact hD,Sub.refl.upd hD⟩
theorem Rows.live(R:Rows H H' D bs ls):∀a∈D::bs,∃v,H' a=some v:=fun a ha=>by
 rcases aA.mp ha with rfl|ha
 ·exact⟨_,R.top⟩
 ·refine ex (di ha) fun j FW=>?_;refine ex FW fun hj FY=>?_;clear FW;subst FY;exact⟨_,R.row j _ (ls[j]'(R.len▸hj)) (ac hj) (ac _)⟩
theorem Rows.more(R:Rows H H' D bs ls)(hb:H' b=none):Rows H (upd (upd H' b (.lst l)) D (.lst (bs.map .ref++[.ref b]))) D (bs++[b]) (ls++[l]):=by
 have hn:b∉D::bs:=fun m=>by refine ex (R.live b m) fun v e=>?_;rw[hb]at e;exact nS e
 have hf:H b=none:=by
  cases q:H b with
  |none=>rfl
  |some v=>rw[R.sub b v q]at hb;exact nS hb.symm
 refine⟨by refine rA aw ?_;simp,by simp[R.len],fun j c m h1 h2=>?_,?_,fun a ha=>?_,(R.sub.upd hf).upd (R.fr D (.head _))⟩
 ·have hcD:c≠D:=fun z=>by
   subst z;rcases ak.mp (aS h1)with q|q
   ·exact(ba.mp R.nd).1 q
   ·exact hn (ag.mp q▸.head _)
  refine rA (bE hcD) ?_
  by_cases hj:j<bs.length
  ·rw[du hj]at h1;rw[du (by refine rB R.len ?_;exact hj)]at h2;have hcb:c≠b:=fun z=>by subst z;exact hn (.tail _ (aS h1))
   refine rA (bE hcb) ?_;exact R.row j c m h1 h2
  ·rw[cR (by exact aW hj)]at h1;rw[cR (by refine rB R.len ?_;exact aW hj)]at h2;obtain⟨h3,h4⟩:j-bs.length=0/\c=b:=by
    cases q:j-bs.length with
    |zero=>rw[q]at h1;exact⟨rfl,(aj h1).symm⟩
    |succ z=>rw[q]at h1;simp at h1
   rw[←R.len,h3]at h2;obtain rfl:=aj h2;subst h4;exact aw
 ·have:D::(bs++[b])=(D::bs)++[b]:=rfl;rw[this,cB];exact⟨R.nd,by simp,fun a ha c hc=>by refine rA (ag.mp hc) ?_;rintro rfl;exact hn ha⟩
 ·rcases aA.mp ha with rfl|ha
  ·exact R.fr _ (.head _)
  ·rcases ak.mp ha with q|q
   ·exact R.fr _ (.tail _ q)
   ·refine rA (ag.mp q) ?_;exact hf
theorem Rows.app{j:Nat}(R:Rows H H' D bs ls)(hb:bs[j]?=some b):Rows H (upd H' b (.lst l)) D bs (ls.set j l):=by
 have hm:=aS hb;have nd:=ba.mp R.nd;have hD:D≠b:=fun z=>nd.1 (z▸hm);refine⟨by refine rA (bE hD) ?_;exact R.top,by simp[R.len],fun i c m h1 h2=>?_,R.nd,R.fr,R.sub.upd (R.fr _ (.tail _ hm))⟩
 by_cases q:i=j
 ·subst q;rw[hb]at h1;obtain rfl:=aj h1;rw[ie]at h2;refine rA aw ?_;split at h2
  ·split at h2
   ·obtain rfl:=aj h2;rfl
   ·exact nS h2
  ·exact absurd rfl (by assumption)
 ·have hc:c≠b:=fun z=>by
   subst z;refine ex (au.mp h1) fun p1 p2=>?_;refine ex (au.mp hb) fun p3 p4=>?_;exact q ((List.getElem_inj nd.2).mp (p2.trans p4.symm))
  refine rA (bE hc) ?_;rw[List.getElem?_set_ne (Ne.symm q)]at h2;exact R.row i c m h1 h2
theorem Rows.rfy(R:Rows H H' D bs ls):gZ H' H (.v (.ref D) (.lst (ls.map .lst))):=by
 refine .ref R.top (R.fr _ (.head _)) (.lst ?_) rfl;have key:∀(bs:List ah) (ls:List (List V)),bs.length=ls.length->(∀(j:Nat) (b:ah) (l:List V),bs[j]?=some b->ls[j]?=some l->H' b=some (.lst l))->(∀a∈bs,H a=none)->gZ H' H (.vs (bs.map .ref) (ls.map .lst)):=by
  intro bs
  induction bs with
  |nil=>intro ls h _ _;cases ls with
   |nil=>exact .nil
   |cons l ls=>cases h
  |cons b bs ih=>
   intro ls h r f;cases ls with
   |nil=>cases h
   |cons l ls=>exact .cons (.ref (r 0 b l rfl rfl) (f b (.head _)) (.same _) rfl) (ih ls (Nat.succ.inj h) (fun j c m h1 h2=>r (j+1) c m h1 h2) fun a ha=>f a (.tail _ ha))
 exact key bs ls R.len R.row fun a ha=>R.fr a (.tail _ ha)
end
section
variable {g:GX}{k:Nat}{X:XP}{Q:VP}{H:HH}{G:GC}
noncomputable def Co(ih:Tk->Prop)(sc:Sc)(t:Expr)(m:Mm)(Q:SP)(D:ah)(H:HH):Prop:=ih (.A sc t (.ref D) ⟨m,H⟩ (Q .next))
theorem Ba{y py elt tg iter ifs scope pos spos}{sc:Sc}{m:Mm}{H:HH}{Q:SP}(hsw:∀env:Env,env.scope=sc.scope->eV (.ListComp elt [⟨tg,iter,ifs,0⟩] scope pos) (some (.Name y py)) spos.line env=pure true)
  (h:Bu (vc g.gc g.tab k 50) sc X elt tg iter ifs scope m H (Co (vc g.gc g.tab k 50) sc (.Name y py) m Q)) (hk3:3<=k)
  (co:autoParam ((kE iter !=2&&lr sc scope&&(eC scope).all (fun x=>(m.lookup x).isSome))=true) aR):TS g.gc k sc (.Assign [.Name y py] (.ListComp elt [⟨tg,iter,ifs,0⟩] scope pos) spos) ⟨m,H⟩ Q X:=by
 simp only[bI]at co;refine ea co fun FW h3=>?_;refine ea FW fun h1 h2=>?_;have hih:=fun t=>vc.ok (T:=g.tab) hk3 50 t;exact uZ (Bu.run hih (K':=fun D H=>TA g.gc k sc (.Name y py) (.ref D) ⟨m,H⟩ (Q .next) NX) (fun D H h=>vc.ok (T:=g.tab) (t:=.A _ _ _ _ _) hk3 50 h) h) hsw h2 h3 (fun env x=>se h1 env x) (fun zz zz=>rfl) hk3
end
noncomputable def iG(rows:List (List V))(at_:Nat)(ss:List Int):List (List V):=ss.foldl (fun rows s=>rows.set s.toNat (rows.getD s.toNat []++[.int at_])) rows
noncomputable def fb(os:List bq)(i:Nat):List (List V):=(os.zipIdx.take i).foldl (fun rows p=>iG rows p.2 (dT os p.2 p.1)) (d9 os.length [])
theorem kP{os:List bq}{i:Nat}{o:bq}(h:os[i]?=some o):fb os (i+1)=iG (fb os i) i (dT os i o):=by
 unfold fb;refine rA aT (rA (tv h) (rA dh ?_));rfl
theorem qc:∀{ss:List Int}{rows:List (List V)}{a:Nat},(iG rows a ss).length=rows.length
 |[],_,_=>rfl
 |s::ss,rows,a=>by show(iG _ a ss).length=_;refine rA qc ?_;simp
theorem oE{os:List bq}:∀{i:Nat},i<=os.length->(fb os i).length=os.length
 |0,_=>by unfold fb;simp
 |i+1,h=>by refine rA (kP (ac h)) (rA qc ?_);exact oE (by exact iy h)
structure i8(os:List bq):Prop where
 tgt:∀i o,os[i]?=some o->cI o=true∨bN o=true->(Internal.tgt os i o).isSome=true
 rng:∀i o,os[i]?=some o->∀s∈dT os i o,∃j:Nat,s=j/\j<os.length
section
variable {g:GX}{k:Nat}{X:XP}{Q:VP}{H:HH}{G:GC}
theorem bv{H:HH}{a:ah}{v:V}(h:H a=some v):con H (.ref a)=v:=by show(H a).getD _=v;refine rA h ?_;rfl
theorem om{os:List bq}{i:Nat}{o:bq}:(dT os i o).length<=2:=by
 unfold dT;split
 ·simp
 ·split
  ·simp
  ·split <;> simp
theorem bump{rows:List (List V)}{m j:Nat}{l:List V}{x:V}(h:∀l∈rows,l.length<=m)(hl:l∈rows):∀q∈rows.set j (l++[x]),q.length<=m+1:=fun q hq=>by
 rcases tB hq with z|z
 ·have:=h q z;exact vF this
 ·subst z;have:=h l hl;simp;exact this
noncomputable abbrev DN(H:HH)(os:List bq):ah->List V->List V->HH->Prop:=fun D r acc H'=>X2 fun bs ls=>A5 (acc=bs.map .ref) (r=(os.drop bs.length).map cM) (bs.length<=os.length) (ls=d9 bs.length []) (Rows H H' D bs ls)
noncomputable abbrev B9(os:List bq)(D:ah):List (Str×V):=[("program",c5 os),("found",.ref D)]
noncomputable abbrev DO(H:HH)(os:List bq)(D:ah)(bs:List ah):List V->St->Prop:=fun r σ=>X1 fun(i:Nat)=>A3 (i<=os.length) (r=br i os.length) (X1 fun H'=>A3 (Rows H H' D bs (fb os i)) (∀l∈fb os i,l.length<=2*i) (σ=⟨B9 os D,H'⟩))
noncomputable abbrev Ca(os:List bq)(D:ah)(i:Nat):List (Str×V):=[("program",c5 os),("found",.ref D),("at",.int i)]
noncomputable abbrev DP(H:HH)(os:List bq)(D:ah)(bs:List ah)(i:Nat):List V->St->Prop:=fun r σ=>X1 fun(l:List Int)=>A3 (r=l.map .int) (∀s∈l,∃j:Nat,s=j/\j<os.length) (X3 fun H' rows m=>A6 (iG rows i l=fb os (i+1)) (rows.length=os.length) (m+l.length<=2*(i+1)) (∀l∈rows,l.length<=m) (Rows H H' D bs rows) (σ=⟨Ca os D i,H'⟩))
theorem pe{os:List bq}(hn:os.length<60)(S:i8 os)(h:Q (.lst ((fb os os.length).map .lst)) H)(hk:60<=k):CT g.gc k (.ref 311) [c5 os] H Q X:=by
 refine gK (dcs:=[]) rfl (fun zz zz=>rfl) rfl ?_ (gG hk);refine Ba (fun env e=>by cases env;cases e;rfl) ?_ (dn hk);refine⟨DN H os,fun D hD=>⟨⟨[],[],rfl,rfl,aH _,rfl,.nil hD⟩,?_,?_⟩⟩
 ·rintro acc H' ⟨bs,ls,rfl,hr,hb,rfl,R⟩;have hb:bs.length=os.length:=by
   have:=congrArg bG hr;simp at this;exact ao (L2 (Ra N0 N1 (Gn N0 N1)) rfl hb) (L3 (Rc (Kn 0) N0 (Ra N1 (Pn N0 N2) (Gn N1 N2))) rfl this jF)
  rw[hb]at R;refine⟨⟨B9 os D,H'⟩,ci 2,?_⟩;refine aE (eR hn ?_ (dn hk));refine ct (by exact vI hn) ?_;refine⟨DO H os D bs,⟨0,aH _,rfl,H',R,fun l hl=>by refine rA (uO hl) ?_;simp,rfl⟩,?_,?_⟩
  ·rintro σ ⟨i,hi,hr,H',R,-,rfl⟩;cases fy hi hr;exact⟨_,H,R.sub,R.rfy,h⟩
  ·rintro v r σ ⟨i,hi,hr,H',R,hm,rfl⟩;refine lB fun R1 hR1=>?_;refine jc (er hi hr) fun hi FW FY=>?_;subst FW;subst FY;have ho:=ac hi;refine⟨⟨Ca os D i,H'⟩,ci 3,?_⟩;refine aE (gq ho hn (S.tgt _ _ ho) ?_ (dn hk));refine⟨DP H os D bs i,
    ⟨dT os i os[i],rfl,S.rng _ _ ho,H',fb os i,2*i,(kP ho).symm,oE (by exact L2 (Ra M0 N1 (Gn N0 N1)) rfl hi),by have:=om (os:=os) (i:=i) (o:=os[i]);exact L2 (Ra N0 (Kn 2) (Gn (Pn (Tn 2 N1) N0) (Tn 2 M1))) rfl this,hm,R,rfl⟩,?_,?_⟩
   ·rintro σ ⟨l,hl,-,H',rows,m,e,-,hml,hm,R,rfl⟩;cases l with
    |cons b l=>exact nL hl
    |nil=>
     have e:rows=fb os (i+1):=e;subst e;refine hR1 _ _ ⟨_,?_,i+1,hi,rfl,H',R,fun l hl=>by have:=hm l hl;simp at hml;exact a8 this hml,rfl⟩;exact ci 2
   ·rintro v r σ ⟨l,hl,hs,H',rows,m,e,hlen,hml,hm,R,rfl⟩;refine lB fun R2 hR2=>?_;cases l with
    |nil=>exact nL hl.symm
    |cons s l=>
     refine ea (aV hl) fun FZ F7=>?_;subst FZ;subst F7;refine bx (hs s (.head _)) fun j F8 hj=>?_;subst F8;have hjb:j<bs.length:=by refine rA R.len (rA hlen ?_);exact hj
     have hjr:j<rows.length:=by exact mI hj hlen
     have hrow:=R.row j bs[j] rows[j] (ac hjb) (ac hjr);have hmem:=cS hjr;have hle:=hm _ hmem;refine bT (j:=j) (x:=.ref bs[j]) (bv R.top) (by refine rA ar (rA (ac hjb) ?_);rfl) (by exact lC hj hn) ?_;refine⟨_,MT.append (bv hrow),trivial,?_⟩;refine VT.append hrow (by exact L5 (Ra M0 (Kn 60) (Ra M0 (Kn 60) (Ra M1 N0 (Ra M1 N0 (Ra (Pn N2 N3) (Tn 2 M1) (Ra (Xn 4) N2 (Gn (Pn (Xn 4) (Kn 1)) (Kn 1000000)))))))) rfl hn hn hi hi hml hle) ?_;refine hR2 _ _ ⟨_,?w,l,rfl,fun s hs'=>hs s (.tail _ hs'),_,rows.set j (rows[j]++[.int i]),m+1,?_,by simpa using hlen,by simp at hml;exact L3 (Ra (Pn N0 M1) (Tn 2 M2) (Gn (Pn M0 N1) (Tn 2 M2))) rfl hml,bump hm hmem,R.app (ac hjb),rfl⟩
     case w=>exact ci 3
     refine rB e ?_;show iG _ _ _=iG (rows.set (j:Int).toNat _) _ _;rw[bw,bH,ac hjr]
     rfl
 ·rintro v r acc H' ⟨bs,ls,rfl,hr,hb,rfl,R⟩;have hb:bs.length<os.length:=by
   have:=congrArg bG hr;simp at this;exact L4 (Rb M0 N1 (Rb (Pn N1 N2) N3 (Gn M2 N3))) rfl this (iE (L2 (Ra N0 N1 (Gn N0 N1)) rfl hb))
  rw[dq hb]at hr;refine ea (aV hr) fun F9 Ga=>?_;subst F9;subst Ga;refine⟨.put .refl rfl,?_⟩;intro b hb';have hb':H' b=none:=hb';exact⟨.ref b,_,.refl,.same _,by refine rA (bE (fun z=>by subst z;rw[R.top]at hb';exact nS hb'.symm)) ?_;exact R.top,by simp;exact lC hb hn,bs++[b],_,by simp,by simp,by simp;exact l9 (jy hb),by simp[List.replicate_succ'],R.more hb'⟩
end
noncomputable def jD(os:List bq)(acc:List Int)(p:bq×Nat):List Int:=if bD p.1 then cO acc (tg os p.2 p.1:Int)else acc
noncomputable def de(os:List bq)(s i:Nat):List Int:=((os.zipIdx.take i).drop s).foldl (jD os) []
theorem e8{os:List bq}{s:Nat}:de os s s=[]:=by
 unfold de;refine rA List.drop_take_self ?_;rfl
theorem im{os:List bq}{s i:Nat}{o:bq}(h:os[i]?=some o)(hs:s<=i):de os s (i+1)=jD os (de os s i) (o,i):=by
 unfold de;have hi:i<os.zipIdx.length:=by simp;exact(au.mp h).1
 rw[aT,tv h,List.drop_append_of_le_length (by rw[cT];lia),dh];rfl
theorem tT{os:List bq}{acc:List Int}{p:bq×Nat}:(jD os acc p).length<=acc.length+1:=by
 unfold jD;split
 ·exact fM _ _
 ·exact b6 _ _
theorem kH{os:List bq}{s:Nat}:∀{i:Nat},s<=i->i<=os.length->(de os s i).length<=i:=by
 intro i
 induction i with
 |zero=>
  intro h _;have:s=0:=by exact io h
  subst this;refine rA e8 ?_;simp
 |succ i ih=>
  intro h1 h2
  by_cases q:s=i+1
  ·subst q;refine rA e8 ?_;simp
  ·refine rA (im (ac h2) (by exact ul h1 q)) ?_;have:=ih (by exact ul h1 q) (by exact iy h2);exact a8 tT (by exact lg this)
noncomputable def iS(os:List bq)(s e:Nat):List Int:=eT (de os s e)
noncomputable def nK(os:List bq):Prop:=∀i o,os[i]?=some o->bD o=true->tgt os i o=some (tg os i o)
section
variable {g:GX}{k:Nat}{X:XP}{Q:VP}{H:HH}{G:GC}
noncomputable abbrev v7(os:List bq)(s:Nat)(D:ah):List (Str×V):=[("program",c5 os),("sub",.int s),("found",.ref D)]
noncomputable abbrev DQ(H:HH)(os:List bq)(s:Nat)(e:Nat)(D:ah):List V->St->Prop:=fun r σ=>X1 fun(i:Nat)=>A4 (s<=i) (i<=e) (r=br i e) (σ=⟨v7 os s D,upd H D (.set (de os s i))⟩)
theorem oH{os:List bq}{s e:Nat}(hn:os.length<60)(C:nK os)(he:subEnd os s=e)(h1:s<=e)(h2:e<=os.length)(h:Q (iV (iS os s e)) H)(hk:50<=k):CT g.gc k (.ref 375) [c5 os,.int s] H Q X:=by
 refine gK (dcs:=[]) rfl (fun zz zz zz=>rfl) rfl ?_ (gG hk);refine nO fun D hD=>?_;refine⟨⟨v7 os s D,upd H D (.set [])⟩,ci 3,?_⟩;refine aE (qP hn ?_ (dn hk));refine rA he ?_;refine j6 (by exact L3 (Ra M0 (Kn 60) (Ra N1 N2 (Ra N2 N0 (Gn M1 (Kn (2^62)))))) rfl hn h1 h2) (by exact oz3 h2 hn) ?_;refine⟨DQ H os s e D,⟨s,ax _,h1,rfl,by exact rA e8 rfl⟩,?_,?_⟩
 ·refine B5 fun i hs hi hr=>?_;cases fy hi hr;have:=kH h1 h2;refine jb (bv aw) (by exact oq9 this h2 hn) fun D2 hD2=>?_;have O:cw H [D2,D]:=(cw.push (vs:=[.set (de os s e)]) (cw.push (vs:=[]) cw.nil hD) hD2);exact ut (ks:=[D2,D]) (vs:=[iV (iS os s e),.set (de os s e)]) O (O.rfy 0 rfl rfl (.same _)) h
 ·intro v r;refine B5 fun i hs hi hr=>?_;refine jc (er hi hr) fun hi FW FY=>?_;subst FW;subst FY;have ho:=ac (show i<os.length by exact be hi h2);have hc:=im ho hs;have hlen:=kH hs (show i<=os.length by exact a8 (bn hi) h2);refine bT (j:=i) rfl (fo ho) (by exact FB hi h2 hn) ?_;refine aE (dX ?_ (dn hk));refine dY (fun q=>?_) (fun q=>?_)
  ·refine⟨.builtin "set.add",MT.sadd (bv aw),trivial,?_⟩;refine aE (f8 ho hn (C _ _ ho q) ?_ (dn hk));refine VT.sadd aw (by exact L4 (Ra M0 (Kn 60) (Ra N1 N0 (Ra M2 N1 (Ra N3 N2 (Gn (Pn N3 (Kn 1)) (Kn 4000)))))) rfl hn h2 hi hlen) ?_;have f1:de os s (i+1)=cO (de os s i) (tg os i os[i]:Int):=by refine rA hc ?_;unfold jD;exact rA q (rA (if_pos rfl) rfl)
   exact⟨⟨v7 os s D,upd (upd H D (.set (de os s i))) D (.set (cO (de os s i) (tg os i os[i]:Int)))⟩,ci 3,i+1,by exact vF hs,hi,rfl,by exact rA f1 (rA eU rfl)⟩
  ·have f1:de os s (i+1)=de os s i:=by refine rA hc ?_;unfold jD;refine rA q ?_;rfl
   exact⟨⟨v7 os s D,upd H D (.set (de os s i))⟩,ci 3,i+1,by exact vF hs,hi,rfl,by exact rA f1 rfl⟩
end
section
variable {g:GX}{k:Nat}{X:XP}{Q:VP}{H:HH}{G:GC}
inductive B8(J:List V->HH->Prop)(D:ah)(r:List V)(a v:V)(H3:HH):Prop
 |mk (i:Int) (ys:List (Int×V)) (v':V) (H4:HH) (e:a=.int i) (s:Sub H4 H3) (f:gZ H3 H4 (.v v v')) (d:H4 D=some (.dct ys)) (l:ys.length<1000000) (j:J r (upd H4 D (.dct (ix ys i v'))))
theorem zt{sc:Sc}{tg kx vx}{K:HH->Prop}{D:ah}{m:List (Str×V)}{J:List V->HH->Prop}(h0:∀H,J [] H->K H)
  (h1:∀x r H,J (x::r) H->TA G k sc tg x ⟨m,H⟩ (fun σ1=>iP m σ1.m/\TE G k sc kx σ1 (fun a H2=>TE G k sc vx ⟨σ1.m,H2⟩ (B8 J D r a) NX) NX) NX) (xs:List V) :
  ∀H,J xs H->f9 G k sc tg [] (emD G k sc kx vx D) (fun σc=>K σc.H) xs ⟨m,H⟩:=by
 induction xs with
 |nil=>exact h0
 |cons x xs ih=>
  intro H h;refine(h1 x xs H h).imp fun σ1 h2=>kD.nil ?_;refine TE.imp h2.2 fun a H2 h3=>TE.imp h3 fun v H3 z=>?_;obtain⟨i,ys,v',H4,e,a,b,c,d,f⟩:=z;exact⟨i,ys,v',H4,e,a,b,c,d,f9.weakM (fun zz zz zz x=>x) (m:=m) h2.1 (ih _ f)⟩
noncomputable def kDcV(ih:Tk->Prop)(cs:Sc)(vx:Expr)(J:List V->HH->Prop)(D:ah)(r:List V)(m1:Mm)(a:V)(H2:HH):Prop:=ih (.E cs NX vx ⟨m1,H2⟩ (B8 J D r a))
inductive DcA(ih:Tk->Prop)(cs:Sc)(kx vx:Expr)(m0:Mm)(J:List V->HH->Prop)(D:ah)(r:List V)(σ1:St):Prop
 |mk (s:iP m0 σ1.m) (h:ih (.E cs NX kx σ1 (kDcV ih cs vx J D r σ1.m)))
inductive DcD(ih:Tk->Prop)(cs:Sc)(tg kx vx:Expr)(m0:Mm)(K:ah->HH->Prop)(J:List V->HH->Prop)(D:ah)(xs:List V)(H1:HH):Prop
 |mk (h0:J xs (upd H1 D (.dct []))) (h1:∀H,J [] H->K D H) (h2:∀x r H,J (x::r) H->ih (.A cs tg x ⟨m0,H⟩ (DcA ih cs kx vx m0 J D r)))
inductive DcC(ih:Tk->Prop)(cs:Sc)(tg kx vx:Expr)(m0:Mm)(K:ah->HH->Prop)(xs:List V)(H1:HH):Prop
 |mk (J:ah->List V->HH->Prop) (h:∀D,H1 D=none->DcD ih cs tg kx vx m0 K (J D) D xs H1)
theorem Fe{y py kx vx tg iter scope pos spos}{sc:Sc}{m:Mm}{H:HH}{Q:SP}(hsw:∀env:Env,env.scope=sc.scope->eV (.DictComp kx vx [⟨tg,iter,[],0⟩] scope pos) (some (.Name y py)) spos.line env=pure true)
  (h:vc g.gc g.tab k 50 (.I sc X tg iter ⟨m,H⟩ (DcC (vc g.gc g.tab k 50) (eQ sc scope) tg kx vx (rq scope m) (Co (vc g.gc g.tab k 50) sc (.Name y py) m Q)))) (hk3:3<=k)
  (co:autoParam ((kE iter !=2&&lr sc scope&&(eC scope).all (fun x=>(m.lookup x).isSome))=true) aR):TS g.gc k sc (.Assign [.Name y py] (.DictComp kx vx [⟨tg,iter,[],0⟩] scope pos) spos) ⟨m,H⟩ Q X:=by
 simp only[bI]at co;refine ea co fun FW h3=>?_;refine ea FW fun h1 h2=>?_;have hih:=fun t=>vc.ok (T:=g.tab) hk3 50 t;refine uY (TI.imp (hih _ h) fun xs H1 ⟨J,hJ⟩ D hD=>?_) hsw h2 h3 (fun env x=>se h1 env x) (fun zz zz=>rfl) hk3;obtain⟨j0,j1,j2⟩:=hJ D hD;exact zt (K:=fun H=>TA g.gc k sc (.Name y py) (.ref D) ⟨m,H⟩ (Q .next) NX) (J:=J D) (fun H hj=>hih _ (j1 H hj)) (fun x r H hj=>(hih _ (j2 x r H hj):TA ..).imp fun σ1 z'=>by obtain⟨s,z⟩:=z';exact⟨s,TE.imp (hih _ z) fun a H2 z2=>hih _ z2⟩) xs _ j0
end
inductive gY(E:Int->List Int):Int->Int->Prop
 |one {s t}:t∈E s->gY E s t
 |more {s t u}:t∈E s->gY E t u->gY E s u
theorem gY.snoc{E:Int->List Int}{s t u:Int}(h:gY E s t)(hu:u∈E t):gY E s u:=by
 induction h with
 |one h=>exact .more h (.one hu)
 |more h _ ih=>exact .more h (ih hu)
noncomputable def left(E:Int->List Int)(l seen:List Int):Nat:=(l.map fun s=>if s∈seen then 0 else 1+(E s).length).sum
theorem qr{E:Int->List Int}{seen:List Int}{x:Int}(hx:x∉seen):∀{l:List Int},left E l (cO seen x)+(if x∈l then 1+(E x).length else 0)<=left E l seen
 |[]=>by simp[left]
 |s::l=>by
  have ih:=qr hx (E:=E) (l:=l);have hm:∀y,y∈cO seen x↔y∈seen∨y=x:=fun y=>by unfold cO;refine rA (if_neg hx) ?_;simp
  unfold left at ih ⊢;simp only[aB,cn,aA]
  by_cases q:s=x
  ·subst q;refine rA (if_pos ((hm s).mpr (.inr rfl))) (rA (if_neg hx) (rA (if_pos (.inl rfl)) ?_));have:((List.map (fun y=>if y∈cO seen s then 0 else 1+(E y).length) l)).sum<=((List.map (fun y=>if y∈seen then 0 else 1+(E y).length) l)).sum:=by exact iy ih
   exact L4 (Ra (Pn N0 N1) N2 (Gn (Pn (Pn (Kn 0) N0) (Pn (Kn 1) N3)) (Pn (Pn (Kn 1) N3) N2))) rfl ih
  ·have h1:(s∈cO seen x)↔s∈seen:=by
    rw[hm];exact⟨fun h=>h.elim id fun h=>absurd h q,.inl⟩
   have h2:(x=s∨x∈l)↔x∈l:=⟨fun h=>h.elim (fun z=>absurd z.symm q) id,.inr⟩;simp only[h1,h2];exact L4 (Ra (Pn N0 N1) N2 (Gn (Pn (Pn N3 N0) N1) (Pn N3 N2))) rfl ih
set_option tactic.hygienic true in
theorem wE{E:Int->List Int}{l seen:List Int}{m:Nat}(h:∀s∈l,(E s).length<=m):left E l seen<=l.length*(1+m):=by
 unfold left
 induction l with
 |nil=>simp
 |cons s l ih=>
  have:=ih fun s hs=>h s (.tail _ hs);have:=h s (.head _);simp only[aB,cn,aF,Nat.add_mul];split
  ·(rename_i FW FY;exact L3 (Ra N0 N1 (Gn (Pn (Kn 0) N0) (Pn N1 (Tn 1 (Pn (Kn 1) N2))))) rfl FW)
  ·(rename_i FW FY;exact L4 (Ra N0 N1 (Ra N2 N3 (Gn (Pn (Pn (Kn 1) N2) N0) (Pn N1 (Tn 1 (Pn (Kn 1) N3)))))) rfl FW this)
noncomputable def adj(os:List bq)(s:Int):List Int:=iS os s.toNat (subEnd os s).toNat
structure mT(os:List bq):Prop where
 call:nK os
 sub:∀s∈ay os,∃n e:Nat,s=n/\subEnd os s=e/\n<=e/\e<=os.length
 clo:∀s∈ay os,∀t∈adj os s,t∈ay os
 nd:(ay os).Nodup
theorem mT.adj_len{os:List bq}(g:mT os){s:Int}(h:s∈ay os):(adj os s).length<=os.length:=by
 refine cq (g.sub s h) fun n e FW h1 FY=>?_;subst FW;obtain⟨h2,h3⟩:=FY;unfold adj iS;rw[fN,h1];exact a8 (kH h2 h3) h3
theorem jd{xs:List (Int×V)}{n:Int}{v:V}(h:n∉xs.map (·.1)):ix xs n v=xs++[(n,v)]:=by
 unfold ix;rw[if_neg];intro q;refine bx (la.mp q) fun p hp e=>?_;exact h (aJ.mpr ⟨p,hp,of_decide_eq_true e⟩)
theorem f7{f:Int->V}{x:Int}:∀{l:List Int},x∈l->dF (l.map fun s=>(s,f s)) x=some (f x)
 |s::l,h=>by
  unfold dF;refine rA aB (rA List.find?_cons ?_)
  by_cases q:s=x
  ·subst q;simp
  ·have:=f7 (f:=f) ((aA.mp h).resolve_left (fun z=>q z.symm));unfold dF at this;simp only[q,decide_false];exact this
structure AQ(H H':HH)(F:ah)(ts:List (Int×ah×List Int)):Prop where
 top:H' F=some (.dct (ts.map fun t=>(t.1,.ref t.2.1)))
 row:∀t∈ts,H' t.2.1=some (.set t.2.2)
 frF:H F=none
 fr:∀t∈ts,H t.2.1=none
 sub:Sub H H'
theorem AQ.rfy{H H':HH}{F:ah}{ts}(S:AQ H H' F ts):gZ H' H (.v (.ref F) (.dct (ts.map fun t=>(t.1,.set t.2.2)))):=by
 refine .ref S.top S.frF (.dct ?_) rfl;have r:=S.row;have f:=S.fr;clear S
 induction ts with
 |nil=>exact .knil
 |cons t ts ih=>exact .kcons (.ref (r t (.head _)) (f t (.head _)) (.same _) rfl) (ih (fun t ht=>r t (.tail _ ht)) fun t ht=>f t (.tail _ ht))
section
variable {g:GX}{k:Nat}{X:XP}{Q:VP}{H:HH}{G:GC}
noncomputable abbrev DR(H:HH)(os:List bq):ah->List V->HH->Prop:=fun D r H'=>X1 fun(i:Nat)=>A3 (i<=(ay os).length) (r=((ay os).drop i).map .int) (H'=upd H D (.dct (((ay os).take i).map fun s=>(s,iV (adj os s)))))
noncomputable abbrev Cb(os:List bq)(F:ah):List (Str×V):=[("program",c5 os),("direct",.dct ((ay os).map fun s=>(s,iV (adj os s)))),("found",.ref F)]
noncomputable abbrev DT(H:HH)(os:List bq)(F:ah):List V->St->Prop:=fun r σ=>X1 fun(i:Nat)=>A3 (i<=(ay os).length) (r=((ay os).drop i).map .int) (X2 fun ts H'=>A4 (ts.map (·.1)=(ay os).take i) (∀t∈ts,t.2.2.Nodup/\∀x,x∈t.2.2↔gY (adj os) t.1 x) (AQ H H' F ts) (σ=⟨Cb os F,H'⟩))
noncomputable abbrev DV(os:List bq)(F:ah)(s:Int)(Sn:ah)(Wt:ah):List (Str×V):=[("program",c5 os),("direct",.dct ((ay os).map fun s=>(s,iV (adj os s)))),("found",.ref F),("sub",.int s),("seen",.ref Sn),("waiting",.ref Wt)]
noncomputable abbrev DU(os:List bq)(F:ah)(H':HH)(s:Int)(Sn:ah)(Wt:ah):Nat->St->Prop:=fun n σ=>X2 fun(seen wait:List Int)=>A9 (n=wait.length+left (adj os) (ay os) seen) (n<=4000) seen.Nodup (∀x∈seen,gY (adj os) s x) (∀x∈wait,gY (adj os) s x/\x∈ay os) (∀x∈adj os s,x∈seen∨x∈wait) (∀x∈seen,∀y∈adj os x,y∈seen∨y∈wait) (seen.length<=4000-n) (σ=⟨DV os F s Sn Wt,HL H' [Wt,Sn] [.lst (wait.map .int),.set seen]⟩)
theorem nw{os:List bq}(hn:os.length<60)(Gr:mT os)
  (h:∀Ls:List (Int×List Int),Ls.map (·.1)=ay os->(∀p∈Ls,p.2.Nodup/\∀x,x∈p.2↔gY (adj os) p.1 x)->Q (.dct (Ls.map fun p=>(p.1,.set p.2))) H) (hk:60<=k):CT g.gc k (.ref 380) [c5 os] H Q X:=by
 have hsl:=nz (os:=os);refine gK (dcs:=[]) rfl (fun zz zz=>rfl) rfl ?_ (gG hk);refine Fe (fun env e=>by cases env;cases e;rfl) ?_ (dn hk);refine⟨DR H os,fun D hD=>⟨⟨0,aH _,rfl,rfl⟩,?_,?_⟩⟩
 ·rintro H' ⟨i,hi,hr,rfl⟩;have hD:H D=none:=hD;cases lu hi hr;refine rA cz ?_;refine pX fun F hF=>?_;have hF:upd H D (.dct ((ay os).map fun s=>(s,iV (adj os s)))) F=none:=hF;refine ea (d4 hF) fun hFD hF0=>?_;refine⟨⟨Cb os F,upd H F (.dct [])⟩,.of ?_ ⟨⟨_,rfl,.same _⟩,⟨_,rfl,.ref (x:=.dct ((ay os).map fun s=>(s,iV (adj os s)))) ?_ ?_ (.same _) rfl⟩,⟨_,rfl,.same _⟩,trivial⟩,?_⟩
  ·intro a x e;have e:upd H F (.dct []) a=some x:=e;show upd (upd H D _) F _ a=some x
   by_cases q:a=F
   ·subst q;rw[aw]at e ⊢;exact e
   ·rw[bE q]at e ⊢;refine rA (bE (fun z=>by subst z;rw[hD]at e;exact nS e)) ?_;exact e
  ·show upd (upd H D _) F _ D=_;exact rA (bE (Ne.symm hFD)) (rA aw rfl)
  ·show upd H F _ D=_;refine rA (bE (Ne.symm hFD)) ?_;exact hD
  refine⟨DT H os F,⟨0,aH _,rfl,[],_,rfl,fun t ht=>(nomatch ht),⟨aw,fun t ht=>(nomatch ht),hF0,fun t ht=>(nomatch ht),Sub.refl.upd hF0⟩,rfl⟩,?_,?_⟩
  ·rintro σ ⟨i,hi,hr,ts,H',ht,hts,S,rfl⟩;cases lu hi hr;rw[cz]at ht;have:=h (ts.map fun t=>(t.1,t.2.2)) (by refine rA bz ?_;exact ht) (fun p hp=>by refine bx (aJ.mp hp) fun t ht FW=>?_;subst FW;exact hts t ht);rw[bz]at this;exact⟨_,H,S.sub,S.rfy,this⟩
  ·rintro v r σ ⟨i,hi,hr,ts,H',ht,hts,S,rfl⟩;refine hV (kf hi hr) fun s hs FY FZ hi hti=>?_;subst FY;subst FZ;have hm:=aS hs;refine mw (names:=["seen","waiting"]) (fun env e=>by cases env;cases e;rfl) ?_ (dn hk);refine nO fun Sn hS=>?_;have hS:H' Sn=none:=hS;refine dK (x:=iV (adj os s)) rfl (f7 hm) ?_;have hal:=Gr.adj_len hm;refine lp (xs:=(adj os s).map .int) rfl (by rw[ae];exact pG hal hn) fun Wt hW=>?_;have hW:upd H' Sn (.set []) Wt=none:=hW;refine ea (d4 hW) fun hWS hW0=>?_;have O:cw H' [Wt,Sn]:=cw.push (vs:=[.set []]) (cw.push (vs:=[]) cw.nil hS) hW;refine⟨rfl,aq rfl,?_⟩;refine⟨DU os F H' s Sn Wt,_,⟨_,?w0,[],adj os s,rfl,?_,.nil,fun x hx=>(nomatch hx),fun x hx=>⟨.one hx,Gr.clo s hm x hx⟩,fun x hx=>.inr hx,fun x hx=>(nomatch hx),aH _,rfl⟩,?_⟩
   case w0=>exact sA rfl
   ·have:=wE (E:=adj os) (l:=ay os) (seen:=[]) (m:=os.length) fun s hs=>Gr.adj_len hs;have h2:(ay os).length*(1+os.length)<=60*60:=Nat.mul_le_mul (by exact L2 (Ra M0 (Kn 60) (Ra N1 M0 (Gn N1 (Kn 60)))) rfl hn hsl) (by exact L1 (Ra M0 (Kn 60) (Gn (Pn (Kn 1) N0) (Kn 60))) rfl hn);exact L4 (Ra M0 (Kn 60) (Ra N1 N0 (Ra N2 N3 (Ra N3 (Tn 60 (Kn 60)) (Gn (Pn N1 N2) (Kn 4000)))))) rfl hn hal this h2
   ·rintro n σ ⟨seen,wait,rfl,hn4,i0,i1,i2,i3,i4,i5,rfl⟩;refine BT.list (O.con 0 rfl rfl) (by rw[ae];exact L2 (Ra (Pn N0 N1) (Kn 4000) (Gn M0 (Kn 1000000))) rfl hn4) ?_;refine dY (fun q=>?_) (fun q=>?_)
    ·obtain⟨w,x,rfl⟩:∃w x,wait=w++[x]:=by
      rcases me wait with z|⟨w,x,z⟩
      ·subst z;exact nB q
      ·exact⟨w,x,by exact rA z (rA md rfl)⟩
     refine⟨_,MT.pop (O.con 0 rfl rfl),trivial,?_⟩;refine sP (xs:=w.map .int) (y:=.int x) O 0 rfl (by simp) (by simp at hn4 ⊢;exact L2 (Ra (Pn M0 N1) (Kn 4000) (Gn M0 (Kn 1000000))) rfl hn4) ?_;refine xo (O.con 1 rfl rfl) ?_;refine ea (i2 x (by simp)) fun r1 r2=>?_;refine dY (fun q2=>?_) (fun q2=>?_)
     ·have hx:x∉seen:=by simpa using q2
      have hl:=qr (E:=adj os) hx (l:=ay os);rw[if_pos r2]at hl;have hm:∀y,y∈cO seen x↔y∈seen∨y=x:=fun y=>by unfold cO;refine rA (if_neg hx) ?_;simp
      have hsl2:(cO seen x).length=seen.length+1:=by unfold cO;refine rA (if_neg hx) ?_;simp
      have hxl:=Gr.adj_len r2;simp only[az,aF,cG]at hn4 i5;refine⟨_,MT.sadd (O.con 1 rfl rfl),trivial,?_⟩;refine qa O 1 rfl rfl (bU i5 (Nat.sub_lt (by decide) (by exact L2 (Gn (Pn (Kn 0) (Kn 1)) (Pn (Pn N0 (Pn (Kn 0) (Kn 1))) N1)) rfl))) ?_;refine⟨_,MT.extend (O.con 0 rfl rfl),trivial,?_⟩;refine dK (x:=iV (adj os x)) rfl (f7 r2) ?_;refine AY O 0 rfl rfl (ys:=(adj os x).map .int) rfl (by simp;exact L4 (Ra (Pn N0 (Pn (Kn 1) N1)) N2 (Ra (Pn (Pn N3 (Pn (Kn 0) (Kn 1))) N2) (Kn 4000) (Gn (Pn (Pn N3 N1) (Kn 1)) (Kn 1000000)))) rfl hl hn4) ?_;refine⟨(w++adj os x).length+left (adj os) (ay os) (cO seen x),_,?_,?w,cO seen x,w++adj os x,rfl,?_,(by unfold cO;refine rA (if_neg hx) ?_;exact cB.mpr ⟨i0,by simp,fun a ha b hb=>by refine rA (ag.mp hb) ?_;rintro rfl;exact hx ha⟩),fun y hy=>?_,fun y hy=>?_,fun y hy=>?_,fun y hy z hz=>?_,?_,by exact rA ai rfl⟩
      case w=>exact ci 6
      ·simp;exact L4 (Ra (Pn N0 (Pn (Kn 1) N1)) N2 (Gn (Pn (Pn (Pn N3 N1) N0) (Kn 1)) (Pn (Pn N3 (Kn 1)) N2))) rfl hl
      ·simp;exact L4 (Ra (Pn N0 (Pn (Kn 1) N1)) N2 (Ra (Pn (Pn N3 (Pn (Kn 0) (Kn 1))) N2) (Kn 4000) (Gn (Pn (Pn N3 N1) N0) (Kn 4000)))) rfl hl hn4
      ·rcases(hm y).mp hy with z|rfl
       ·exact i1 y z
       ·exact r1
      ·rcases ak.mp hy with z|z
       ·exact i2 y (by simp[z])
       ·exact⟨r1.snoc z,Gr.clo x r2 y z⟩
      ·rcases i3 y hy with z|z
       ·exact .inl ((hm y).mpr (.inl z))
       ·rcases ak.mp z with z|z
        ·exact .inr (aC _ z)
        ·exact .inl ((hm y).mpr (.inr (ag.mp z)))
      ·rcases(hm y).mp hy with u|rfl
       ·rcases i4 y u z hz with v|v
        ·exact .inl ((hm z).mpr (.inl v))
        ·rcases ak.mp v with v|v
         ·exact .inr (aC _ v)
         ·exact .inl ((hm z).mpr (.inr (ag.mp v)))
       ·exact .inr (aO _ hz)
      ·simp;exact L8 (Ra (Pn N0 (Pn (Kn 1) N1)) N2 (Rb N3 (Pn (Xn 4) (Kn 1)) (Ra (Xn 4) (Xn 5) (Rb (Pn (Xn 5) (Pn (Pn (Xn 6) (Pn (Kn 0) (Kn 1))) N2)) (Kn 4000) (Ra (Kn 4000) (Pn (Xn 7) (Pn (Pn (Xn 6) N1) N0)) (Gn N3 (Xn 7))))))) rfl hl hsl2 i5 (iE (L2 (Ra (Pn (Pn N0 (Pn (Kn 0) (Kn 1))) N1) (Kn 4000) (Gn (Pn (Pn N0 (Pn (Kn 0) (Kn 1))) N1) (Kn 4000))) rfl hn4)) jF
     ·have hx:x∈seen:=by simpa using q2
      simp only[az,aF,cG]at hn4 i5;refine⟨w.length+left (adj os) (ay os) seen,_,?_,?w2,seen,w,rfl,?_,i0,i1,fun y hy=>i2 y (by simp[hy]),fun y hy=>?_,fun y hy z hz=>?_,?_,rfl⟩
      case w2=>exact ci 6
      ·simp
      ·exact L2 (Ra (Pn (Pn N0 (Pn (Kn 0) (Kn 1))) N1) (Kn 4000) (Gn (Pn N0 N1) (Kn 4000))) rfl hn4
      ·rcases i3 y hy with z|z
       ·exact .inl z
       ·rcases ak.mp z with z|z
        ·exact .inr z
        ·exact .inl (ag.mp z▸hx)
      ·rcases i4 y hy z hz with v|v
       ·exact .inl v
       ·rcases ak.mp v with v|v
        ·exact .inr v
        ·exact .inl (ag.mp v▸hx)
      ·exact L5 (Ra N0 N1 (Rb (Pn N1 (Pn (Pn N2 (Pn (Kn 0) (Kn 1))) N3)) (Kn 4000) (Ra (Kn 4000) (Pn (Xn 4) (Pn N2 N3)) (Gn N0 (Xn 4))))) rfl i5 (iE (L2 (Ra (Pn (Pn N0 (Pn (Kn 0) (Kn 1))) N1) (Kn 4000) (Gn (Pn (Pn N0 (Pn (Kn 0) (Kn 1))) N1) (Kn 4000))) rfl hn4)) jF
    ·have hw:wait=[]:=by cases wait with
      |nil=>rfl
      |cons a b=>exact nB q.symm
     subst hw;have off:∀b v,H' b=some v->HL H' [Wt,Sn] [.lst [],.set seen] b=some v/\b∉[Wt,Sn]:=fun b v e=>by
      have:b∉[Wt,Sn]:=fun m=>by rw[O.fr b m]at e;exact nS e
      exact⟨by refine rA (HL.off this) ?_;exact e,this⟩
     have nd:=(kz (i+1) (ay os)).nodup Gr.nd;rw[hti,cB]at nd;have fresh:s∉(ts.map fun t=>(t.1,V.ref t.2.1)).map (·.1):=fun q=>by
      rw[bz]at q;have q:s∈ts.map (·.1):=q;rw[ht]at q;exact nd.2.2 _ q _ (.head _) rfl
     have tl:ts.length<=60:=by
      have:=congrArg bG ht;simp at this;exact L4 (Ra M0 (Kn 60) (Ra N1 M0 (Rb N2 N3 (Ra N3 N1 (Gn N2 (Kn 60)))))) rfl hn hsl this (bP _ _)
     have SF:AQ H (upd (HL H' [Wt,Sn] [.lst [],.set seen]) F (.dct (ix (ts.map fun t=>(t.1,.ref t.2.1)) s (.ref Sn)))) F (ts++[(s,Sn,seen)]):=by
      have hSF:Sn≠F:=fun z=>(off F _ S.top).2 (z▸.tail _ (.head _));refine⟨by refine rA aw (rA (jd fresh) (rA ai ?_));rfl,fun t ht=>?_,S.frF,fun t ht=>?_,?_⟩
      ·rcases ak.mp ht with z|z
       ·have e:=S.row t z;refine rA (bE (fun y=>by rw[y,S.top]at e;cases e)) ?_;exact(off _ _ e).1
       ·cases ag.mp z;refine rA (bE hSF) ?_;exact O.get 1 rfl rfl
      ·rcases ak.mp ht with z|z
       ·exact S.fr t z
       ·cases ag.mp z;show H Sn=none;cases y:H Sn with
        |none=>rfl
        |some v=>rw[S.sub Sn v y]at hS;exact nS hS.symm
      ·exact(S.sub.trans (cw.sub O.fr O.nd)).upd S.frF
     refine sM (off _ _ S.top).1 (by rw[ae];exact nr tl) ?_;refine⟨_,?w3,i+1,hi,rfl,ts++[(s,Sn,seen)],_,?_,fun t ht=>?_,SF,rfl⟩
     case w3=>exact ci 3
     ·refine rA hti (rA ai (rA ht ?_));rfl
     ·rcases ak.mp ht with z|z
      ·exact hts t z
      ·cases ag.mp z;refine⟨i0,fun x=>⟨i1 x,fun hx=>?_⟩⟩;have key:∀a b,gY (adj os) a b->(∀y∈adj os a,y∈seen)->b∈seen:=by
        intro a b hab
        induction hab with
        |one e=>intro z;exact z _ e
        |more e _ ih=>intro z;exact ih fun y hy=>(i4 _ (z _ e) y hy).resolve_right (fun q=>nomatch q)
       exact key s x hx fun y hy=>(i3 y hy).resolve_right (fun q=>nomatch q)
 ·rintro v r H' ⟨i,hi,hr,rfl⟩;refine hV (kf hi hr) fun s hs F7 F8 hi ht=>?_;subst F7;subst F8;have hm:=aS hs;refine cq (Gr.sub s hm) fun n e F9 h1 Ga=>?_;subst F9;obtain⟨h2,h3⟩:=Ga;refine⟨.put .refl rfl,?_⟩;refine aE (oH hn Gr.call h1 h2 h3 ?_ (dn hk));refine⟨_,_,_,_,rfl,.refl,.same _,aw,by simp;exact L3 (Ra M0 (Kn 60) (Ra N1 M0 (Ra N2 N1 (Gn M2 (Kn 1000000))))) rfl hn hsl (bP _ _),i+1,hi,rfl,?_⟩;rw[eU,jd,ht,ai]
  ·have:adj os (n:Int)=iS os n e:=by unfold adj;refine rA h1 ?_;rfl
   refine rB this ?_;rfl
  ·refine rA bz ?_;intro q;have nd:=Gr.nd;have:(ay os).take (i+1)=(ay os).take i++[(n:Int)]:=ht;have:=(kz (i+1) (ay os)).nodup nd;rw[ht,cB]at this;exact this.2.2 _ (by simpa [jJ]using q) _ (.head _) rfl
end
noncomputable def gU(l:List Int)(c:Int->Int):List (Int×V):=l.map fun s=>(s,.int (c s))
noncomputable def sU(c:Int->Int)(t v:Int):Int->Int:=fun s=>if s=t then v else c s
theorem B0{l:List Int}{c:Int->Int}{t v:Int}(h:t∈l):ix (gU l c) t (.int v)=gU l (sU c t v):=by
 unfold ix;rw[if_pos]
 ·unfold gU sU;refine rA bz ?_;refine cy fun s zz=>?_;show(if s=t then(s,V.int v)else(s,V.int (c s)))=(s,V.int (if s=t then v else c s));split <;> rfl
 ·exact la.mpr ⟨(t,.int (c t)),aJ.mpr ⟨t,h,rfl⟩,by simp⟩
noncomputable def nE(dep c:Int->Int)(l:List Int):Nat:=(l.map fun s=>(dep s-c s).toNat).sum
theorem vw{dep c c':Int->Int}:∀{l:List Int},(∀s∈l,c s<=c' s)->nE dep c' l<=nE dep c l
 |[],_=>ax _
 |s::l,h=>by
  unfold nE;refine rA aB (rA cn (rA aB (rA cn ?_)));exact Nat.add_le_add (Int.toNat_le_toNat (Int.sub_le_sub_left (h s (.head _)) _)) (vw (l:=l) fun s hs=>h s (.tail _ hs))
theorem qm{dep c c':Int->Int}{t:Int}:∀{l:List Int},(∀s∈l,c s<=c' s)->t∈l->c t<c' t->c' t<=dep t->nE dep c' l<nE dep c l
 |s::l,h,ht,h1,h2=>by
  have h0:=vw (dep:=dep) (l:=l) fun s hs=>h s (.tail _ hs);have h3:=h s (.head _);rcases aA.mp ht with rfl|ht
  ·unfold nE at h0 ⊢;refine rA aB (rA cn (rA aB (rA cn ?_)));exact Lz [_,_,_,_] [_,_,_] (Sa (Pz Z0 (Kz 1)) Z1 (Ra N0 N1 (Sb C2 (Mz (Xz 2) Z1) (Sa (Mz (Xz 2) Z0) (Cz N3) (Gn (Pn (Pn N2 N0) (Kn 1)) (Pn N3 N1)))))) rfl h1 h0 (aY (Lz [] [_,_] (Sa Z0 Z1 (Gz (Kz 0) (Mz Z1 Z0))) rfl h2)) wJ
  ·unfold nE;refine rA aB (rA cn (rA aB (rA cn ?_)));exact Nat.add_lt_add_of_le_of_lt (Int.toNat_le_toNat (Int.sub_le_sub_left h3 _)) (qm (fun s hs=>h s (.tail _ hs)) ht h1 h2)
inductive xe(os:List bq):Int->Int->Prop
 |mk {i:Nat}{o:bq}{s:Int} (ho:os[i]?=some o) (hl:bD o=true) (hs:mU os i s):xe os s (tg os i o)
structure tG(os:List bq)(dep:Int->Int):Prop where
 pos:∀s,1<=dep s
 step:∀s t,xe os s t->dep s+1<=dep t
 least:∀t∈ay os,dep t=1∨∃s,xe os s t/\dep t=dep s+1
theorem mF{os:List bq}{a:Int}(h:a∈cN os):∃(i:Nat) (o:bq),a=i/\os[i]?=some o/\bD o=true:=by
 unfold cN at h;refine bx (aJ.mp h) fun p hp FW=>?_;subst FW;refine ea (bh.mp hp) fun h1 h2=>?_;obtain⟨o,i⟩:=p;refine⟨i,o,rfl,?_,h2⟩;have:=rU.mp h1;simpa using this
theorem xx{os:List bq}{i:Nat}{o:bq}(h:os[i]?=some o)(hl:bD o=true):(i:Int)∈cN os:=by
 unfold cN;exact aJ.mpr ⟨(o,i),bh.mpr ⟨rU.mpr (by simpa using h),hl⟩,rfl⟩
set_option tactic.hygienic true in
theorem lS{xs:List Int}{a:Int}(h:xs.Nodup):(cO xs a).Nodup:=by
 unfold cO;split
 ·exact h
 ·rename_i q;rw[cB];exact⟨h,by simp,fun x hx y hy=>by refine rA (ag.mp hy) ?_;rintro rfl;exact q hx⟩
theorem yg{os:List bq}{acc:List Int}{p:bq×Nat}(h:acc.Nodup):(fQ os acc p).Nodup:=by
 unfold fQ;split
 ·split
  ·exact lS h
  ·exact h
 ·exact h
theorem sQ{os:List bq}:∀{i:Nat},i<=os.length->(iR os i).Nodup
 |0,_=>by unfold iR;simp
 |i+1,h=>by refine rA (j8 (ac h)) ?_;exact yg (sQ (by exact iy h))
theorem pJ(os:List bq):(ay os).Nodup:=by
 unfold ay;rw[(fq _).nodup_iff,←j7];exact sQ (ax _)
theorem tG.eq{os:List bq}{dep c:Int->Int}(Dp:tG os dep)(h1:∀s∈ay os,1<=c s/\c s<=dep s)(h2:∀s t,xe os s t->c s+1<=c t):∀(n:Nat) (t:Int),t∈ay os->(dep t).toNat<=n->c t=dep t
 |0,t,ht,hn=>by have:=Dp.pos t;lia
 |n+1,t,ht,hn=>by
  refine ea (h1 t ht) fun q1 q2=>?_;rcases Dp.least t ht with e|⟨s,he,e⟩
  ·exact bi (Lz [] [_,_] (Sa Z0 Z1 (Gz Z0 Z1)) rfl q2) (Lz [] [_,_] (Sa (Kz 1) Z0 (Sb Z1 (Kz 1) (Gz Z1 Z0))) rfl q1 e)
  ·have hs:s∈ay os:=by cases he with|mk _ _ hs=>exact hs.mem
   have p:=Dp.pos s;have ih:=Dp.eq h1 h2 n s hs (by exact Lz [_,_,_] [_,_] (Ra N0 M1 (Sd Z0 (Pz Z1 (Kz 1)) (Sb C2 Z1 (Sa Z0 C0 (Gn N2 N1))))) rfl hn e (aY (Lz [] [_] (Sa (Kz 1) Z0 (Gz (Kz 0) Z0)) rfl p)) wJ);have:=h2 s t he;exact bi (Lz [] [_,_] (Sa Z0 Z1 (Gz Z0 Z1)) rfl q2) (Lz [] [_,_,_,_] (Sb Z0 (Pz Z1 (Kz 1)) (Sd (Xz 2) Z1 (Sa (Pz (Xz 2) (Kz 1)) (Xz 3) (Gz Z0 (Xz 3))))) rfl e ih this)
section
variable {g:GX}{k:Nat}{X:XP}{Q:VP}{H:HH}{G:GC}
noncomputable abbrev DW(H:HH)(os:List bq):ah->List V->HH->Prop:=fun D r H'=>X1 fun(i:Nat)=>A3 (i<=(ay os).length) (r=((ay os).drop i).map .int) (H'=upd H D (.dct (gU ((ay os).take i) fun zz=>1)))
noncomputable abbrev Cc(os:List bq)(D:ah)(b:Bool):List (Str×V):=[("program",c5 os),("counts",.ref D),("is_changed",.bool b)]
noncomputable abbrev DX(H:HH)(os:List bq)(dep:Int->Int)(D:ah):Nat->St->Prop:=fun n σ=>X2 fun(c:Int->Int) (b:Bool)=>A4 (n=nE dep c (ay os)+(if b then 1 else 0)) (∀s∈ay os,1<=c s/\c s<=dep s) (b=false->∀s t,xe os s t->c s+1<=c t) (σ=⟨Cc os D b,upd H D (.dct (gU (ay os) c))⟩)
noncomputable abbrev DY(H:HH)(os:List bq)(dep:Int->Int)(D:ah)(c:Int->Int):List V->St->Prop:=fun r σ=>X3 fun(l:List Int) (c':Int->Int) (b:Bool)=>A6 (r=l.map .int) (∀a∈l,a∈cN os) (∀s∈ay os,c s<=c' s/\c' s<=dep s) (b=true->nE dep c' (ay os)<nE dep c (ay os)) (b=false->c'=c/\∀(i:Nat) (o:bq) (s:Int),os[i]?=some o->bD o=true->mU os i s->(i:Int)∉l->c s+1<=c (tg os i o)) (σ=⟨Cc os D b,upd H D (.dct (gU (ay os) c'))⟩)
noncomputable abbrev DZ(os:List bq)(D:ah):List (Str×V):=[("program",c5 os),("counts",.ref D),("is_changed",.bool false)]
noncomputable abbrev D0(os:List bq)(D:ah):List (Str×V):=[("program",c5 os),("counts",.ref D),("is_changed",.bool true)]
set_option tactic.hygienic true in
theorem k7{os:List bq}{dep:Int->Int}(hn:os.length<60)(C:nK os)(T:∀i o,os[i]?=some o->bD o=true->(tg os i o:Int)∈ay os)(Dp:tG os dep)
  (h:Q (.dct (gU (ay os) dep)) H) (hk:60<=k):CT g.gc k (.ref 385) [c5 os] H Q X:=by
 have hsl:=nz (os:=os);have tlen:∀c,(gU (ay os) c).length<1000000:=fun c=>by unfold gU;rw[ae];exact oq8 hsl hn
 have tlen':∀i,(gU ((ay os).take i) fun zz=>1).length<1000000:=fun i=>by unfold gU;rw[ae,cT];exact L3 (Ra M0 (Kn 60) (Ra N1 M0 (Ra N2 N1 (Gn M2 (Kn 1000000))))) rfl hn hsl (bP _ _)
 refine gK (dcs:=[]) rfl (fun zz zz=>rfl) rfl ?_ (gG hk);refine Fe (fun env e=>by cases env;cases e;rfl) ?_ (dn hk);refine⟨DW H os,fun D hD=>⟨⟨0,aH _,rfl,rfl⟩,?_,?_⟩⟩
 ·rintro H' ⟨i,hi,hr,rfl⟩;have hD:H D=none:=hD;cases lu hi hr;refine rA cz ?_;refine⟨DX H os dep D,_,⟨_,?w0,fun zz=>1,true,rfl,fun s zz=>⟨cJ _,Dp.pos s⟩,fun q=>(by exact nB q.symm),rfl⟩,?_⟩
  case w0=>exact ci 3
  rintro n σ ⟨c,b,rfl,hc,hb,rfl⟩;refine dY (fun q=>?_) (fun q=>?_)
  ·subst q;refine⟨⟨DZ os D,upd H D (.dct (gU (ay os) c))⟩,ci 3,?_⟩;refine aE (jj hn ?_ (dn hk));refine⟨DY H os dep D c,⟨cN os,c,false,rfl,fun zz h=>h,fun s hs=>⟨cJ _,(hc s hs).2⟩,fun q=>(by exact nB q),fun zz=>⟨rfl,fun i o s ho hl zz hn=>absurd (xx ho hl) hn⟩,rfl⟩,?_,?_⟩
   ·refine B6 fun l c' b hl zz h1 h2 h3=>?_;cases l with
    |cons a l=>exact nL hl
    |nil=>
     refine⟨nE dep c' (ay os)+(if b then 1 else 0),_,?_,?w1,c',b,rfl,fun s hs=>⟨Int.le_trans (hc s hs).1 (h1 s hs).1,(h1 s hs).2⟩,fun q s t he=>?_,rfl⟩
     case w1=>exact ci 3
     ·cases b with
      |true=>have:=h2 rfl;simp;exact this
      |false=>refine rA ((h3 rfl).1) ?_;simp
     ·refine ea (h3 q) fun FW h4=>?_;subst FW;cases he with
      |mk ho hl hs=>exact h4 _ _ _ ho hl hs cH
   ·intro v r;refine B6 fun l c' b hl hm h1 h2 h3=>?_;cases l with
    |nil=>exact nL hl.symm
    |cons a l=>
     refine ea (aV hl) fun FY FZ=>?_;subst FY;subst FZ;refine cq (mF (hm a (.head _))) fun i o F7 ho hlo=>?_;subst F7;have ht:=T i o ho hlo;refine mw (names:=["many","other"]) (fun env e=>by cases env;cases e;rfl) ?_ (dn hk);refine aE (oi hn (fun s hs=>?_) (dn hk));refine dK (x:=.int (c' s)) (bv aw) (f7 hs.mem) ?_;refine aE (f8 ho hn (C i o ho hlo) ?_ (dn hk));refine⟨rfl,aq rfl,?_⟩;refine dK (x:=.int (c' (tg os i o))) (bv aw) (f7 ht) ?_;have he:=Dp.step s _ (.mk ho hlo hs);have hcs:=h1 s hs.mem;refine dY (fun q=>?_) (fun q=>?_)
     ·have q:c' (tg os i o)<c' s+1:=of_decide_eq_true q;refine sM aw (tlen c') ?_;have e1:upd (upd H D (.dct (gU (ay os) c'))) D (.dct (ix (gU (ay os) c') (tg os i o) (.int (c' s+1))))=upd H D (.dct (gU (ay os) (sU c' (tg os i o) (c' s+1)))):=by exact rA eU (rA (B0 ht) rfl)
      have up:∀z,c' z<=sU c' (tg os i o) (c' s+1) z:=fun z=>by
       unfold sU;split
       ·rename_i y;refine rA y ?_;exact cZ q
       ·exact cJ _
      have dn_:sU c' (tg os i o) (c' s+1) (tg os i o)=c' s+1:=by unfold sU;exact rA (if_pos rfl) rfl
      refine⟨⟨D0 os D,upd (upd H D (.dct (gU (ay os) c'))) D (.dct (ix (gU (ay os) c') (tg os i o) (.int (c' s+1))))⟩,ci 3,l,sU c' (tg os i o) (c' s+1),true,rfl,fun a ha=>hm a (.tail _ ha),fun z hz=>⟨Int.le_trans (h1 z hz).1 (up z),?_⟩,fun zz=>?_,fun q=>(by exact nB q.symm),by exact rA e1 rfl⟩
      ·unfold sU;split
       ·rename_i y;refine rA y ?_;exact Lz [] [_,_,_] (Sa (Pz Z0 (Kz 1)) Z1 (Sa (Xz 2) Z0 (Gz (Pz (Xz 2) (Kz 1)) Z1))) rfl he hcs.2
       ·exact(h1 z hz).2
      ·have g1:=vw (dep:=dep) (l:=ay os) fun z hz=>(h1 z hz).1;have g2:=qm (dep:=dep) (l:=ay os) (fun z zz=>up z) ht (by refine rA dn_ ?_;exact q) (by refine rA dn_ ?_;exact Lz [] [_,_,_] (Sa (Pz Z0 (Kz 1)) Z1 (Sa (Xz 2) Z0 (Gz (Pz (Xz 2) (Kz 1)) Z1))) rfl he hcs.2);exact be g2 g1
     ·have q:¬c' (tg os i o)<c' s+1:=of_decide_eq_false q;refine⟨_,?w2,l,c',b,rfl,fun a ha=>hm a (.tail _ ha),h1,h2,fun z=>?_,rfl⟩
      case w2=>exact ci 3
      refine ea (h3 z) fun F8 h4=>?_;subst F8;refine⟨rfl,fun i' o' s' ho' hl' hs' hn'=>?_⟩
      by_cases y:i'=i
      ·subst y;rw[ho]at ho';obtain rfl:=aj ho';have:s'=s:=bi (hs.max s' hs'.mem hs'.le) (hs'.max s hs.mem hs.le);subst this;exact Di q
      ·exact h4 i' o' s' ho' hl' hs' (fun m=>(aA.mp m).elim (fun z=>y (by exact_mod_cast z)) hn')
  ·subst q;refine frz (w:=.dct (gU (ay os) dep)) hD ?_ h;have:gU (ay os) dep=gU (ay os) c:=cy fun s hs=>by exact rA (Dp.eq hc (hb rfl) _ s hs (ax _)) rfl
   refine rA this ?_;exact .same _
 ·rintro v r H' ⟨i,hi,hr,rfl⟩;refine hV (kf hi hr) fun s hs F9 Ga hi ht=>?_;subst F9;subst Ga;refine⟨.put .refl rfl,?_⟩;refine⟨_,_,_,_,rfl,.refl,.same _,aw,tlen' _,i+1,hi,rfl,?_⟩;have nd:=(kz (i+1) (ay os)).nodup (pJ os);rw[ht,cB]at nd;rw[eU,jd,ht]
  ·unfold gU;refine rA ai ?_;rfl
  ·unfold gU;refine rA bz ?_;intro q;exact nd.2.2 _ (by simpa [jJ]using q) _ (.head _) rfl
end
noncomputable def bW(n:Nat):List Int:=(aQ n).map fun(j:Nat)=>(j:Int)
noncomputable def kq(f:Int->Bool)(n:Nat):List V:=(aQ n).map fun(j:Nat)=>V.bool (f j)
noncomputable def kL(f:Int->Bool)(t:Int):Int->Bool:=fun s=>if s=t then true else f s
theorem gS{f:Int->Bool}{n:Nat}:(kq f n).length=n:=by unfold kq;simp
theorem nb{f:Int->Bool}{n j:Nat}(h:j<n):(kq f n)[j]?=some (.bool (f j)):=by
 unfold kq;refine rA ar (rA (bK h) ?_);rfl
theorem wv{f:Int->Bool}{n j:Nat}:(kq f n).set j (.bool true)=kq (kL f j) n:=by
 refine eJ fun i=>?_;unfold kq;refine rA ie (rA ar (rA ar ?_))
 by_cases q:j=i
 ·subst q;refine rA (if_pos rfl) ?_
  by_cases h:j<n
  ·refine rA (bK h) ?_;simp[kL,h]
  ·refine rA (b8 (by simp;exact aW h)) ?_;simp;exact aW h
 ·refine rA (if_neg q) ?_
  by_cases h:i<n
  ·refine rA (bK h) ?_;have:(i:Int)≠j:=by exact fun z3'=>q (ao (L2 (Sd C0 C1 (Gn N1 N0)) rfl z3') (L2 (Sb C0 C1 (Gn N0 N1)) rfl z3'))
   simp[kL,this]
  ·refine rA (b8 (by simp;exact aW h)) ?_;rfl
noncomputable def nQ(f:Int->Bool):Int->Int:=fun s=>if f s then 1 else 0
theorem Aj{f:Int->Bool}{n j:Nat}(hj:j<n)(h:f j=false):nE (fun zz=>1) (nQ (kL f j)) (bW n)<nE (fun zz=>1) (nQ f) (bW n):=by
 refine qm (t:=j) (fun s zz=>?_) (aJ.mpr ⟨j,bZ.mpr hj,rfl⟩) ?_ ?_
 ·unfold nQ kL
  by_cases q:s=j
  ·refine rA (if_pos q) ?_;simp;split <;> lia
  ·refine rA (if_neg q) ?_;exact cJ _
 ·unfold nQ kL;simp[h]
 ·unfold nQ kL;simp
theorem wy{f:Int->Bool}{n:Nat}:nE (fun zz=>1) (nQ f) (bW n)<=n:=by
 have:∀l:List Int,nE (fun zz=>1) (nQ f) l<=l.length:=by
  intro l
  induction l with
  |nil=>exact ax _
  |cons s l ih=>
   have e:nE (fun zz=>1) (nQ f) (s::l)=((1:Int)-nQ f s).toNat+nE (fun zz=>1) (nQ f) l:=rfl;have:nQ f s=0∨nQ f s=1:=by unfold nQ;split <;> simp
   refine rA e (rA aF ?_);exact Or.elim (this) (fun z3'=>Lz [_,_,_] [_] (Ra N0 N1 (Sd Z0 (Kz 0) (Sb C2 (Mz (Kz 1) Z0) (Gn (Pn N2 N0) M1)))) rfl ih z3' (aY (Lz [] [_] (Sb Z0 (Kz 0) (Gz (Kz 0) (Mz (Kz 1) Z0))) rfl z3'))) (fun z3'=>Lz [_,_,_] [_] (Ra N0 N1 (Sd Z0 (Kz 1) (Sb C2 (Mz (Kz 1) Z0) (Gn (Pn N2 N0) M1)))) rfl ih z3' (aY (Lz [] [_] (Sb Z0 (Kz 1) (Gz (Kz 0) (Mz (Kz 1) Z0))) rfl z3')))
 exact a8 (this _) (by simp[bW])
noncomputable def nx(os:List bq)(i:Nat)(o:bq):List Int:=dT os i o++(if bD o then [(tg os i o:Int)]else [])
noncomputable def sm(os:List bq)(s:Int):List Int:=match os[s.toNat]? with|some o=>nx os s.toNat o|bc=>[]
structure pT(os:List bq):Prop where
 suc:i8 os
 call:nK os
 rng:∀i o,os[i]?=some o->bD o=true->tg os i o<os.length
set_option tactic.hygienic true in
theorem pT.nx{os:List bq}(N:pT os){i:Nat}{o:bq}(ho:os[i]?=some o):∀s∈Internal.nx os i o,∃j:Nat,s=j/\j<os.length:=fun s hs=>by
 unfold Internal.nx at hs;rcases ak.mp hs with q|q
 ·exact N.suc.rng i o ho s q
 ·split at q
  ·rename_i hl;refine rA (ag.mp q) ?_;exact⟨_,rfl,N.rng i o ho hl⟩
  ·cases q
theorem wB{b:Bool}{P P' M:Prop}(h1:b=true->M->P)(h2:b=false->M->P')(m:M):gf b P P':=by
 cases b
 ·exact h2 rfl m
 ·exact h1 rfl m
section
variable {g:GX}{k:Nat}{X:XP}{Q:VP}{H:HH}{G:GC}
theorem sz{t value pos}{sc:Sc}{σ:St}{Q:SP}(h:TE G k sc value σ (fun v H1=>TA G k sc t v ⟨σ.m,H1⟩ (fun σ'=>Q .next σ') NX) X)
  (hs:∀env:Env,env.scope=sc.scope->eV value (some t) pos.line env=pure false) (hw:autoParam (∀env:Env,env.scope=sc.scope->fi [t] value env=pure none) aI)
  (ht:autoParam (∀env,eF [t] env=[(false,assign t env)]) aI):TS G k sc (.Assign [t] value pos) σ Q X:=fun fm A outer F s hsc ok rel=>by
 refine pM ((h fm A _ F s hsc ok rel).thnV .refl (fun c s1 H1 F1 r1 st1 st1' a va h1=>?_) fP gH) (hs _ (by refine rB hsc ?_;rfl)) (hw _ (by refine rB hsc ?_;rfl));rw[ht];refine((h1 fm A _ F1 s1 c hsc ok (rel.keeps st1' r1) va).mono (fun zz zz zz zz zz zz x=>x) (fun zz zz zz x=>x.elim) dD subs).thn st1 (fun zz s2 H2 F2 r2 dE st2' z=>?_) subs gH;obtain⟨m2,rf,h2⟩:=z;exact GP.here r2 dE ⟨m2,.next,rf,.next,h2⟩
theorem wk{y py elt tg iter ifs scope pos spos}{sc:Sc}{m:Mm}{H:HH}{Q:SP}(hsw:∀env:Env,env.scope=sc.scope->eV (.ListComp elt [⟨tg,iter,ifs,0⟩] scope pos) (some (.Name y py)) spos.line env=pure false)
  (h:vc g.gc g.tab k 50 (.E sc X (.ListComp elt [⟨tg,iter,ifs,0⟩] scope pos) ⟨m,H⟩ (C9 (vc g.gc g.tab k 50) sc (.Name y py) m Q))) (hk3:3<=k):TS g.gc k sc (.Assign [.Name y py] (.ListComp elt [⟨tg,iter,ifs,0⟩] scope pos) spos) ⟨m,H⟩ Q X :=
 sz (TE.imp (vc.ok (t:=.E _ _ _ _ _) hk3 50 h) fun v H1 h1=>vc.ok (t:=.A _ _ _ _ _) hk3 50 h1) hsw
theorem wW{j n:Nat}(h:j<n):kY (j:Int) n=some j:=by
 unfold kY;have h1:¬((j:Int)<0):=by exact fun z'=>L1 (Sa (Pz C0 (Kz 1)) (Kz 0) Fa) rfl z'
 have h2:((j:Int)<n):=by exact qz h
 simp[h1,h2]
noncomputable abbrev D6(H:HH)(os:List bq):ah->List V->List V->HH->Prop:=fun D r acc H'=>X1 fun(i:Nat)=>A4 (i<=os.length) (r=(os.drop i).map cM) (acc=kq (fun zz=>false) i) (H'=upd H D (.lst acc))
noncomputable abbrev Ea(os:List bq)(D:ah)(W:ah):List (Str×V):=[("program",c5 os),("is_seen",.ref D),("waiting",.ref W)]
noncomputable abbrev D7(H:HH)(os:List bq)(D:ah)(W:ah):Nat->St->Prop:=fun n σ=>X2 fun(f:Int->Bool) (wait:List Int)=>A6 (n=wait.length+nE (fun zz=>1) (nQ f) (bW os.length)) (n<=200) (f 0=true) (∀x∈wait,∃j:Nat,x=j/\j<os.length/\f j=true) (∀j:Nat,j<os.length->f j=true->(j:Int)∈wait∨∀t∈sm os j,f t=true) (σ=⟨Ea os D W,HL H [W,D] [.lst (wait.map .int),.lst (kq f os.length)]⟩)
noncomputable abbrev yy(os:List bq)(D:ah)(W:ah)(a:Nat)(l0:List Int):List (Str×V):=[("program",c5 os),("is_seen",.ref D),("waiting",.ref W),("at",.int a),("nexts",.lst (l0.map .int))]
noncomputable abbrev D8(H:HH)(os:List bq)(D:ah)(W:ah)(f:Int->Bool)(w:List Int)(a:Nat)(l0:List Int):List V->St->Prop:=fun r σ=>X3 fun(l:List Int) (f':Int->Bool) (w':List Int)=>A8 (r=l.map .int) (∀s∈l,s∈l0) (w'.length+nE (fun zz=>1) (nQ f') (bW os.length)<=w.length+nE (fun zz=>1) (nQ f) (bW os.length)) (∀z,f z=true->f' z=true) (∀s∈l0,s∈l∨f' s=true) (∀x∈w',∃j:Nat,x=j/\j<os.length/\f' j=true) (∀j:Nat,j<os.length->f' j=true->j=a∨(j:Int)∈w'∨(f j=true/\∀t∈sm os j,f t=true)) (σ=⟨yy os D W a l0,HL H [W,D] [.lst (w'.map .int),.lst (kq f' os.length)]⟩)
noncomputable abbrev D9(H:HH)(os:List bq)(D:ah)(W:ah)(f:Int->Bool):ah->List V->List V->HH->Prop:=fun E r acc H'=>X1 fun(i:Nat)=>A5 (i<=os.length) (r=br i os.length) (acc=(bW i).map .int) (H'=HL H [E,W,D] [.lst acc,.lst [],.lst (kq f os.length)]) (cw H [E,W,D])
theorem tr{os:List bq}(h0:0<os.length)(hn:os.length<60)(N:pT os)(hall:∀i:Nat,i<os.length->i=0∨gY (sm os) 0 i)(h:Q (iV (bW os.length)) H)(hk:60<=k):CT g.gc k (.ref 321) [c5 os] H Q X:=by
 refine gK (dcs:=[]) rfl (fun zz zz=>rfl) rfl ?_ (gG hk);refine wk (fun env e=>by cases env;cases e;rfl) ?_ (dn hk);refine⟨D6 H os,fun D hD=>⟨⟨0,aH _,rfl,rfl,rfl⟩,?_,?_⟩⟩
 ·refine AH fun i hi hr=>?_;have hD:H D=none:=hD;have hi:i=os.length:=by
   have:=congrArg bG hr;simp at this;exact ao (L2 (Ra N0 N1 (Gn N0 N1)) rfl hi) (L3 (Rc (Kn 0) N0 (Ra N1 (Pn N0 N2) (Gn N1 N2))) rfl this jF)
  subst hi;refine lL (j:=0) aw ?_ (by refine rA gS ?_;exact h0) (by decide) ?_
  ·refine rA gS ?_;exact wW h0
  refine rA eU (rA wv ?_);intro W hW;have O:cw H [W,D]:=cw.push (vs:=[.lst (kq (kL (fun zz=>false) (0:Nat)) os.length)]) (cw.push (vs:=[]) cw.nil hD) hW;refine⟨D7 H os D W,_,⟨_,?w0,kL (fun zz=>false) (0:Nat),[0],rfl,?_,by simp[kL],fun x hx=>⟨0,by simpa using hx,h0,by simp[kL]⟩,fun j hj hf=>?_,rfl⟩,?_⟩
  case w0=>exact ci 3
  ·have:=wy (f:=kL (fun zz=>false) (0:Nat)) (n:=os.length);simp only[aF,cG];exact L2 (Ra M0 (Kn 60) (Ra N1 N0 (Gn (Pn (Pn (Kn 0) (Kn 1)) N1) (Kn 200)))) rfl hn this
  ·refine .inl ?_;have:(j:Int)=(0:Nat):=by
    apply aG;intro z;unfold kL at hf;rw[if_neg z]at hf;exact nB hf
   refine rA this ?_;exact .head _
  ·rintro n σ ⟨f,wait,rfl,hw2,f0,i1,i2,rfl⟩;refine lW fun R1 hR1=>?_;refine BT.list (O.con 0 rfl rfl) (by rw[ae];exact L2 (Ra (Pn N0 N1) (Kn 200) (Gn M0 (Kn 1000000))) rfl hw2) ?_;refine dY (fun q=>?_) (fun q=>?_)
   ·obtain⟨w,x,rfl⟩:∃w x,wait=w++[x]:=by
     rcases me wait with z|⟨w,x,z⟩
     ·subst z;exact nB q
     ·exact⟨w,x,by exact rA z (rA md rfl)⟩
    simp only[az,aF,cG]at hw2;refine cX (i1 x (by simp)) fun a FW ha hfa=>?_;subst FW;obtain⟨o,ho⟩:∃o,os[a]?=some o:=⟨_,ac ha⟩;refine⟨_,MT.pop (O.con 0 rfl rfl),trivial,?_⟩;refine sP (xs:=w.map .int) (y:=.int a) O 0 rfl (by simp) (by simp;exact L2 (Ra (Pn (Pn N0 (Pn (Kn 0) (Kn 1))) N1) (Kn 200) (Gn M0 (Kn 1000000))) rfl hw2) ?_;refine aE (gq ho hn (N.suc.tgt _ _ ho) ?_ (dn hk));have sl:=om (os:=os) (i:=a) (o:=o);refine lp (xs:=(dT os a o).map .int) rfl (by rw[ae];exact nr sl) fun Nn hN=>?_;have hN:HL H [W,D] [.lst (w.map .int),.lst (kq f os.length)] Nn=none:=hN;have O2:=O.push hN;refine bT (j:=a) rfl (fo ho) (by exact lC ha hn) ?_;refine aE (dX ?_ (dn hk));obtain⟨l0,hl0⟩:∃l0,nx os a o=l0:=⟨_,rfl⟩;have hrg:=N.nx ho;rw[hl0]at hrg;have hlen:l0.length<=3:=by refine rB hl0 ?_;unfold nx;refine rA az ?_;split <;> simp <;> lia
    have hE:sm os a=l0:=by unfold sm;rw[bw,ho];exact hl0
    have hb1:((dT os a o).map V.int).length<1000000:=by rw[ae];exact nr sl
    apply wB
    case h1=>
     intro q main;refine⟨_,MT.append (bv aw),trivial,?_⟩;refine aE (f8 ho hn (N.call _ _ ho q) ?_ (dn hk));refine VT.append aw hb1 ?_;have e:(dT os a o).map V.int++[.int (tg os a o)]=l0.map .int:=by refine rB hl0 ?_;unfold nx;refine rA q (rA (if_pos rfl) (rA ai ?_));rfl
     refine rA eU (rA e ?_);exact⟨⟨yy os D W a l0,HL H [W,D] [.lst (w.map .int),.lst (kq f os.length)]⟩,.of (Sub.refl.upd hN) ⟨⟨_,rfl,.same _⟩,⟨_,rfl,.same _⟩,⟨_,rfl,.same _⟩,⟨_,rfl,.same _⟩,⟨_,rfl,.ref (x:=.lst (l0.map .int)) aw hN (.same _) rfl⟩,trivial⟩,main⟩
    case h2=>
     intro q main;have e:(dT os a o).map V.int=l0.map .int:=by refine rB hl0 ?_;unfold nx;rw[q,if_neg (by decide),bt]
     refine rA e ?_;exact⟨⟨yy os D W a l0,HL H [W,D] [.lst (w.map .int),.lst (kq f os.length)]⟩,.of (Sub.refl.upd hN) ⟨⟨_,rfl,.same _⟩,⟨_,rfl,.same _⟩,⟨_,rfl,.same _⟩,⟨_,rfl,.same _⟩,⟨_,rfl,.ref (x:=.lst (l0.map .int)) aw hN (.same _) rfl⟩,trivial⟩,main⟩
    case m=>
     refine⟨D8 H os D W f w a l0,
      ⟨l0,f,w,rfl,fun zz h=>h,ax _,fun zz h=>h,fun s hs=>.inl hs,fun x hx=>i1 x (by simp[hx]),fun j hj hf=>?_,rfl⟩,?_,?_⟩
     ·rcases i2 j hj hf with z|z
      ·rcases ak.mp z with z|z
       ·exact .inr (.inl z)
       ·exact .inl (by exact_mod_cast ag.mp z)
      ·exact .inr (.inr ⟨hf,z⟩)
     ·rintro σ ⟨l,f',w',hl,-,p1,p3,p4,p5,p6,rfl⟩;cases l with
      |cons s l=>exact nL hl
      |nil=>
       refine hR1 _ _ ⟨w'.length+nE (fun zz=>1) (nQ f') (bW os.length),_,?_,?w1,f',w',rfl,by exact L4 (Ra (Pn (Pn N0 (Pn (Kn 0) (Kn 1))) N1) (Kn 200) (Ra (Pn N2 N3) (Pn N0 N1) (Gn (Pn N2 N3) (Kn 200)))) rfl hw2 p1,p3 0 f0,p5,fun j hj hf=>?_,rfl⟩
       case w1=>exact ci 3
       ·simp only[az,aF,cG];exact L4 (Ra (Pn N0 N1) (Pn N2 N3) (Gn (Pn (Pn N0 N1) (Kn 1)) (Pn (Pn N2 (Pn (Kn 0) (Kn 1))) N3))) rfl p1
       ·rcases p6 j hj hf with rfl|z|⟨z1,z2⟩
        ·refine .inr fun t ht=>?_;rw[hE]at ht;exact(p4 t ht).resolve_left (fun z=>nomatch z)
        ·exact .inl z
        ·exact .inr fun t ht=>p3 t (z2 t ht)
     ·rintro v r σ ⟨l,f',w',hl,hm,p1,p3,p4,p5,p6,rfl⟩;refine lB fun R2 hR2=>?_;cases l with
      |nil=>exact nL hl.symm
      |cons s l=>
       refine ea (aV hl) fun FY FZ=>?_;subst FY;subst FZ;refine bx (hrg s (hm s (.head _))) fun j F7 hj=>?_;subst F7;have hgl:=wy (f:=f') (n:=os.length);refine bT (j:=j) (O.con 1 rfl rfl) (nb hj) (by exact lC hj hn) ?_;refine dY (fun z=>?_) (fun z=>?_)
       ·have z:f' j=false:=by simpa using z
        have hg:=Aj hj z;refine mW (j:=j) O 1 rfl rfl (by refine rA gS ?_;exact wW hj) (by refine rA gS ?_;exact hj) (by exact oz2 hj hn) ?_;refine rA wv ?_;refine⟨_,MT.append (O.con 0 rfl rfl),trivial,?_⟩;refine gA O 0 rfl rfl (by rw[ae];exact L4 (Ra (Pn (Pn N0 (Pn (Kn 0) (Kn 1))) N1) (Kn 200) (Ra (Pn N2 N3) (Pn N0 N1) (Gn M2 (Kn 1000000)))) rfl hw2 p1) ?_;have up:∀y,f' y=true->kL f' j y=true:=fun y hy=>by unfold kL;split <;> first|rfl|exact hy
        refine hR2 _ _ ⟨_,?w2,l,kL f' j,w'++[(j:Int)],rfl,fun s hs=>hm s (.tail _ hs),?_,fun y hy=>up y (p3 y hy),fun y hy=>?_,fun x hx=>?_,fun i hi hf=>?_,by exact rA ai rfl⟩
        case w2=>exact ci 5
        ·simp only[az,aF,cG];exact L5 (Ra (Pn N0 N1) (Pn N2 N3) (Ra (Pn (Xn 4) (Kn 1)) N1 (Gn (Pn (Pn N0 (Pn (Kn 0) (Kn 1))) (Xn 4)) (Pn N2 N3)))) rfl p1 hg
        ·rcases p4 y hy with q|q
         ·rcases aA.mp q with rfl|q
          ·exact .inr (by unfold kL;exact rA (if_pos rfl) rfl)
          ·exact .inl q
         ·exact .inr (up y q)
        ·rcases ak.mp hx with q|q
         ·refine cX (p5 x q) fun i e1 e2 e3=>?_;exact⟨i,e1,e2,up _ e3⟩
         ·exact⟨j,ag.mp q,hj,by unfold kL;exact rA (if_pos rfl) rfl⟩
        ·by_cases q:i=j
         ·subst q;exact .inr (.inl (by simp))
         ·have hf:f' i=true:=by unfold kL at hf;rw[if_neg (by exact FJ q)]at hf;exact hf
          rcases p6 i hi hf with e|e|e
          ·exact .inl e
          ·exact .inr (.inl (aC _ e))
          ·exact .inr (.inr e)
       ·have z:f' j=true:=by simpa using z
        refine hR2 _ _ ⟨_,?w3,l,f',w',rfl,fun s hs=>hm s (.tail _ hs),p1,p3,fun y hy=>?_,p5,p6,rfl⟩
        case w3=>exact ci 5
        rcases p4 y hy with q|q
        ·rcases aA.mp q with rfl|q
         ·exact .inr z
         ·exact .inl q
        ·exact .inr q
   ·have hw0:wait=[]:=by cases wait with
     |nil=>rfl
     |cons a b=>exact nB q.symm
    subst hw0;have cl:∀j:Nat,j<os.length->f j=true->∀t∈sm os j,f t=true:=fun j hj hf=>(i2 j hj hf).resolve_left (fun z=>nomatch z);have rg:∀j:Nat,j<os.length->∀t∈sm os j,∃m:Nat,t=m/\m<os.length:=fun j hj t ht=>by
     unfold sm at ht;rw[bw,ac hj]at ht;exact N.nx (ac hj) t ht
    have key:∀a b,gY (sm os) a b->∀i:Nat,a=i->i<os.length->f i=true->f b=true:=by
     intro a b hab
     induction hab with
     |one e=>intro i hi hl hf;subst hi;exact cl i hl hf _ e
     |more e _ ih=>
      intro i hi hl hf;subst hi;refine bx (rg i hl _ e) fun m F8 hm=>?_;subst F8;exact ih m rfl hm (cl i hl hf _ e)
    have all:∀j:Nat,j<os.length->f j=true:=fun j hj=>by
     rcases hall j hj with rfl|r
     ·exact f0
     ·exact key 0 j r 0 rfl h0 f0
    refine aE (eR hn ?_ (dn hk));refine ct (by exact vI hn) ?_;refine⟨D9 H os D W f,fun E hE=>⟨⟨0,aH _,rfl,rfl,rfl,O.push hE⟩,?_,?_⟩⟩
    ·refine cRf fun O3=>?_;exact ut O3 (O3.rfy 0 rfl rfl (.same _)) h
    ·refine cRs fun i hi O3=>?_;have hal:(bW i).length=i:=by simp[bW]
     refine⟨.put .refl rfl,?_⟩;refine bT (j:=i) (O3.con 2 rfl rfl) (nb hi) (by exact lC hi hn) ?_;refine rA (all i hi) ?_;refine⟨.int i,_,.refl,.same _,O3.get 0 rfl rfl,by rw[ae,hal];exact lC hi hn,i+1,hi,rfl,?_,?_,O3⟩
     ·unfold bW;refine rA ch (rA ai (rA ai ?_));rfl
     ·exact HL.set 0 O3.nd rfl rfl
 ·intro v r;refine AH fun i hi hr=>?_;have hi:i<os.length:=by
   have:=congrArg bG hr;simp at this;exact L4 (Rb M0 N1 (Rb (Pn N1 N2) N3 (Gn M2 N3))) rfl this (iE (L2 (Ra N0 N1 (Gn N0 N1)) rfl hi))
  rw[dq hi]at hr;refine ea (aV hr) fun F9 Ga=>?_;subst F9;subst Ga;refine⟨.put .refl rfl,?_⟩;exact⟨.bool false,_,.refl,.same _,aw,by refine rA gS ?_;exact lC hi hn,i+1,hi,rfl,by unfold kq;refine rA ch (rA ai ?_);rfl,by exact rA eU rfl⟩
end
section
variable {g:GX}{k:Nat}{X:XP}{Q:VP}{H:HH}{G:GC}{f:ah}{fd:iO}{body:List jX}{dcs:List Value}
theorem fnS{vs:List V}(hf:ww g.gc.K f=some (fd,body))(hb:∀S,yT vs.length fun cs=>peek g.gc.K S (bindArgs fd ⟨cs,[]⟩)=some ((pN fd).zip (cs++dcs)))(hl:fd.params.args.length=vs.length+dcs.length)
  (h:lK g.gc (k-1) ⟨fd.scope,[]⟩ body ⟨(pN fd).zip (vs++dcs.map nZ),H⟩ (rp Q) X) (hk3:1<=k):CT g.gc k (.ref f) vs H Q X:=by
 refine ea (ua hf) fun FW hok=>?_;refine bx FW fun o ho hd=>?_;exact uQ hk3 (B7 (oc:=o.cls) (od:=o.dict) (sl:=o.slots) (dcs:=dcs) (hd▸ho) hok (fun s cs x e=>pk x fun S=>(hb S).at e) ((ae _).trans hl) h)
noncomputable def na(w a:V):V:=.adict [("what",w),("at",a)]
theorem ux{a:ah}{w i:V}(ha:H a=none)(h:∀d,H d=none->a≠d->Q .none (HL H [a,d] [.exn 64 (some d),na w i]))(hk:10<=k):CT g.gc k (.ref 29) [.ref a,w,i] (upd H a (.exn 64 none)) Q X:=by
 refine fnS (dcs:=[]) rfl (fun zz zz zz zz=>rfl) rfl ?_ (gG hk);have hk3:3<=k-1:=dn hk;have e1:Dw (lN g.gc.K 64) g.gc.K 64 "what"=true:=rfl;have f1:Dw (lN g.gc.K 64) g.gc.K 64 "at"=true:=rfl;refine lK.cons (we (yO (T:="Exception") (m:=.builtin "Exception.__init__") (TE.blt rfl rfl rfl ⟨rfl,vc.ok (T:=g.tab) (t:=.Es _ _ _ _ _) hk3 20 ?_⟩ (by decide)) rfl rfl rfl rfl trivial));refine u1 rfl aw ?_;refine vc.ok (T:=g.tab) (t:=.Ss _ _ _ _ _) hk3 20 ?_;refine yU (iL e1) (wO e1) (wN e1) (wM e1) aw fun d hd hda=>?_;have hd:upd H a (.exn 64 none) d=none:=hd;refine ea (d4 hd) fun zz hd0=>?_;refine yV (d:=d) (xs:=[("what",w)]) (iL f1) (wO f1) (wN f1) (wM f1) aw ((bE hda).trans aw) (by simp) (by simp) ?_;refine⟨_,.refl,?_⟩;have e:upd (upd (upd (upd H a (.exn 64 none)) d (.adict [("what",w)])) a (.exn 64 (some d))) d (na w i)=HL H [a,d] [.exn 64 (some d),na w i]:=by
  funext b
  show _=upd (upd H d _) a _ b;unfold upd
  by_cases q:b=d
  ·subst q;simp[hda]
  ·by_cases q2:b=a
   ·subst q2;simp[q]
   ·simp[q,q2]
 have:=h d hd0 (Ne.symm hda);rw[←e]at this;exact this
theorem iK{w i:V}(h:∀a d,H a=none->H d=none->a≠d->Q (.ref a) (HL H [a,d] [.exn 64 (some d),na w i]))(hk:20<=k):CT g.gc k (.ref 64) [w,i] H Q X:=by
 obtain⟨j,rfl⟩:∃j,k=j+1:=⟨k-1,by exact ao (L2 (Ra N0 M1 (Gn N0 M1)) rfl jF) (L2 (Rb M0 N1 (Gn M0 N1)) rfl (iE (L1 (Ra (Kn 20) N0 (Gn (Kn 1) N0)) rfl hk)))⟩;exact xd (fI:=29) rfl rfl rfl (aq rfl) fun a ha=>ux ha (fun d hd hne=>⟨rfl,h a d ha hd hne⟩) (by exact FG (dR hk))
inductive CG(H:HH)(X:XP)(v:V)(H1:HH):Prop
 |mk (a d:ah) (w i:V) (e:v=.ref a) (ha:H a=none) (hd:H d=none) (n:a≠d) (e1:H1=HL H [a,d] [.exn 64 (some d),na w i]) (x:X 64 (na w i) H)
theorem vL{sc:Sc}{σ:St}{e pos}{Q:SP}(h:vc g.gc g.tab k 20 (.E sc X e σ (CG σ.H X)))(hk3:3<=k):TS g.gc k sc (.Raise (some e) none pos) σ Q X:=by
 refine yR (TE.imp (vc.ok (t:=.E _ _ _ _ _) hk3 20 h) fun v H1 z=>?_) hk3;obtain⟨a,d,w,i,e,ha,hd,hne,rfl,hX⟩:=z;have O:=cw.two ha hd hne;refine⟨a,64,d,_,σ.H,e,ha,Ne.symm hne,O.get 0 rfl rfl,O.get 1 rfl rfl,rfl,fun b x e=>?_,hd,hX⟩;have h1:b≠a:=fun z=>nS ((z▸ha).symm.trans e);have h2:b≠d:=fun z=>nS ((z▸hd).symm.trans e);refine(if_neg h1).trans ((HL.off ?_).trans e);simp[h1,h2]
end
noncomputable def NoJ(os:List bq):Prop:=∀(i:Nat) (o:bq),os[i]?=some o->cI o=false/\bN o=false
theorem qV{os:List bq}{i t:Nat}{o:bq}(h:tgt os i o=some t):t<os.length/\o6 os i o=cQ os t:=by
 unfold tgt at h;have h1:=eA h;have h2:=jm h;exact⟨bZ.mp h1,(of_decide_eq_true h2).symm⟩
theorem rG(os:List bq)(i:Nat):0<=cQ os i:=by
 unfold cQ
 induction os.take i with
 |nil=>simp
 |cons o l ih=>have:=xa o;simp only[aB,cn];exact Lz [] [_,_] (Sa (Kz 0) Z0 (Sa (Kz 1) Z1 (Gz (Kz 0) (Pz Z1 Z0)))) rfl ih this
section
variable {g:GX}{k:Nat}{X:XP}{Q:VP}{H:HH}{G:GC}
noncomputable abbrev Eb(H:HH)(os:List bq):List V->St->Prop:=fun r σ=>X1 fun(i:Nat)=>A3 (i<=os.length) (r=br i os.length) (σ=⟨[("program",c5 os)],H⟩)
noncomputable abbrev Ec(H:HH)(os:List bq):List V->St->Prop:=fun r σ=>X1 fun(i:Nat)=>A3 (i<=os.length) (r=br i os.length) (σ=⟨[("program",c5 os)],H⟩)
theorem qM{os:List bq}(hn:os.length<60)(J:NoJ os)(C:nK os)(h:Q .none H)(hk:60<=k):CT g.gc k (.ref 392) [c5 os] H Q X:=by
 refine gK (dcs:=[]) rfl (fun zz zz=>rfl) rfl ?_ (gG hk);refine⟨_,.refl,?_⟩;refine aE (eR hn ?_ (dn hk));refine ct (by exact vI hn) ?_;refine⟨Eb H os,⟨0,aH _,rfl,rfl⟩,?_,?_⟩
 ·refine kj fun i hi hr=>?_;refine⟨_,.refl,?_⟩;refine aE (eR hn ?_ (dn hk));refine ct (by exact vI hn) ?_;refine⟨Ec H os,⟨0,aH _,rfl,rfl⟩,?_,?_⟩
  ·refine kj fun i hi hr=>?_;exact⟨H,.refl,h⟩
  ·refine lRs fun i hi=>?_;refine lB fun R1 hR1=>?_;obtain⟨o,ho⟩:∃o,os[i]?=some o:=⟨_,ac hi⟩;refine ea (J i o ho) fun j1 j2=>?_;refine bT rfl (fo ho) (by exact lC hi hn) ?_;refine aE (ez ?_ (dn hk));refine rA j1 ?_;refine aE (fg ?_ (dn hk));refine rA j2 ?_;refine hR1 _ _ ⟨_,?_,i+1,hi,rfl,rfl⟩;exact ci 1
 ·refine lRs fun i hi=>?_;refine lB fun R2 hR2=>?_;obtain⟨o,ho⟩:∃o,os[i]?=some o:=⟨_,ac hi⟩;refine ea (J i o ho) fun j1 j2=>?_;refine bT rfl (fo ho) (by exact lC hi hn) ?_;refine aE (uA ?_ (dn hk));refine dY (fun q=>?_) (fun q=>?_)
  ·have hl:bD o=true:=by unfold tc at q;rw[j1,j2]at q;exact q
   refine ea (qV (C i o ho hl)) fun t1 t2=>?_;refine aE (ny ho hn ?_ (dn hk));have g1:decide (0<=o6 os i o)=true:=decide_eq_true (by refine rA t2 ?_;exact rG _ _);have g2:decide (o6 os i o<cQ os os.length)=true:=decide_eq_true (by refine rA t2 ?_;exact oa t1 (ax _));refine AW (TE.int (TE.name rfl (ou rfl (BT.bool ?_))));refine rA g1 (rA (if_pos rfl) ?_);refine vc.ok (T:=g.tab) (t:=.E _ _ _ _ _) (dn hk) 20 ?_;refine ou rfl (BT.bool ?_);refine rA g2 ?_;refine xn rfl ?_;refine rA mZ (rA (C i o ho hl) ?_);refine hR2 _ _ ⟨_,?_,i+1,hi,rfl,rfl⟩;exact ci 1
  ·refine hR2 _ _ ⟨_,?_,i+1,hi,rfl,rfl⟩;exact ci 1
noncomputable abbrev Ed(H:HH)(os:List bq):List V->St->Prop:=fun r σ=>X1 fun(l:List Int)=>A3 (r=l.map .int) (∀s∈l,s∈ay os) (σ=⟨[("program",c5 os)],H⟩)
theorem rJ{os:List bq}(hn:os.length<60)(E:∀s∈ay os,∃(l:Nat) (o:bq),subEnd os s=(l:Int)+1/\os[l]?=some o/\dZ o=true)(h:Q .none H)(hk:60<=k):CT g.gc k (.ref 399) [c5 os] H Q X:=by
 refine gK (dcs:=[]) rfl (fun zz zz=>rfl) rfl ?_ (gG hk);refine⟨_,.refl,?_⟩;refine⟨Ed H os,⟨ay os,rfl,fun zz h=>h,rfl⟩,?_,?_⟩
 ·refine kj fun l hl zz=>?_;cases l with
  |cons b l=>exact nL hl
  |nil=>exact⟨H,.refl,h⟩
 ·intro v r;refine kj fun l hl hm=>?_;cases l with
  |nil=>exact nL hl.symm
  |cons s l=>
   refine ea (aV hl) fun FW FY=>?_;subst FW;subst FY;refine cq (E s (hm s (.head _))) fun i o e ho hx=>?_;have hi:=(au.mp ho).1;refine aE (qP hn ?_ (dn hk));refine rA e ?_;have e2:((i:Int)+1-1).toNat=i:=by exact ao (L2 (Sb C0 (Mz (Pz C1 (Kz 1)) (Kz 1)) (Gn N0 N1)) rfl (aY (L1 (Gz (Kz 0) (Mz (Pz C0 (Kz 1)) (Kz 1))) rfl))) (L2 (Sa (Mz (Pz C0 (Kz 1)) (Kz 1)) C1 (Gn N0 N1)) rfl wJ)
   refine i9 (i:=(i:Int)+1-1) rfl (by exact L1 (Gz (Kz 0) (Mz (Pz C0 (Kz 1)) (Kz 1))) rfl) (by refine rA e2 ?_;exact fo ho) (by exact L2 (Ra M0 (Kn 60) (Ra M1 N0 (Gz (Pz (Mz (Pz C1 (Kz 1)) (Kz 1)) (Kz 1)) (Kz (2^62))))) rfl hn hi) ?_;refine aE (ji ?_ (dn hk));refine rA hx ?_;refine⟨_,?_,l,rfl,fun s hs=>hm s (.tail _ hs),rfl⟩;exact ci 1
theorem y0{n j:Nat}(h:j<n):((bW n).map V.int)[j]?=some (.int j):=by
 unfold bW;refine rA ar (rA ar (rA (bK h) ?_));rfl
noncomputable abbrev Ee(H:HH)(os:List bq):List V->St->Prop:=fun r σ=>X1 fun(i:Nat)=>A3 (i<=os.length) (r=br i os.length) (σ=⟨[("program",c5 os),("reached",iV (bW os.length))],H⟩)
theorem oh{os:List bq}(h0:0<os.length)(hn:os.length<60)(N:pT os)(hall:∀i:Nat,i<os.length->i=0∨gY (sm os) 0 i)(h:Q .none H)(hk:70<=k):CT g.gc k (.ref 406) [c5 os] H Q X:=by
 have hal:((bW os.length).map V.int).length=os.length:=by simp[bW]
 refine gK (dcs:=[]) rfl (fun zz zz=>rfl) rfl ?_ (gG hk);refine aE (tr h0 hn N hall ?_ (dn hk));refine⟨_,.refl,?_⟩;refine VT.len (xs:=(bW os.length).map .int) rfl (by exact oq7 hal hn) ?_;refine rA hal ?_;refine ct (by exact vI hn) ?_;refine⟨Ee H os,⟨0,aH _,rfl,rfl⟩,?_,?_⟩
 ·refine kj fun i hi hr=>?_;refine VT.len (xs:=(bW os.length).map .int) rfl (by exact oq7 hal hn) ?_;refine rA hal ?_;refine aE (eR hn ?_ (dn hk));refine dY (fun q=>?_) (fun q=>⟨H,.refl,h⟩);have:=of_decide_eq_true q
  lia
 ·refine lRs fun i hi=>?_;refine lB fun R3 hR3=>?_;refine bT rfl (y0 hi) (by exact lC hi hn) ?_;refine dY (fun q=>absurd rfl (of_decide_eq_true q)) (fun q=>?_);refine hR3 _ _ ⟨_,?_,i+1,hi,rfl,rfl⟩;exact ci 2
end
noncomputable def lm(os:List bq)(a:Int):Prop:=∃(i:Nat) (o:bq) (s:Int),a=i/\os[i]?=some o/\bD o=true/\mU os i s/\((tg os i o:Int)=s∨gY (adj os) (tg os i o) s)
noncomputable def mC(os:List bq)(dep:Int->Int)(a:Int):Prop:=∃s,mU os a s/\8<=dep s
theorem mU.eq{os:List bq}{a s t:Int}(h1:mU os a s)(h2:mU os a t):s=t:=bi (h2.max s h1.mem h1.le) (h1.max t h2.mem h2.le)
noncomputable def Ag:Str:="calls in a ring"
noncomputable def Ck:Str:="too many frames"
structure CM(os:List bq)(X:XP)(P:Prop)(H:HH):Prop where
 ring:∀pre (i:Nat) post,cN os=pre++(i:Int)::post->(∀a∈pre,¬lm os a)->lm os i->X 64 (na (.str Ag) (.int i)) H
 deep:(∀a∈cN os,¬lm os a)->∃dep,tG os dep/\(∀pre (i:Nat) post,cN os=pre++(i:Int)::post->(∀a∈pre,¬mC os dep a)->mC os dep i->X 64 (na (.str Ck) (.int i)) H)/\((∀a∈cN os,¬mC os dep a)->P)
section
variable {g:GX}{k:Nat}{X:XP}{Q:VP}{H:HH}{G:GC}
theorem qp{Ls:List (Int×List Int)}{x:Int}(h:x∈Ls.map (·.1)):∃p∈Ls,p.1=x/\dF (Ls.map fun p=>(p.1,V.set p.2)) x=some (.set p.2):=by
 induction Ls with
 |nil=>cases h
 |cons p Ls ih=>
  unfold dF at ih ⊢;refine rA aB (rA List.find?_cons ?_)
  by_cases q:p.1=x
  ·exact⟨p,.head _,q,by simp[q]⟩
  ·refine cX (ih ((aA.mp h).resolve_left (fun z=>q z.symm))) fun r hr e1 e2=>?_;refine⟨r,.tail _ hr,e1,?_⟩;simp only[q,decide_false];exact e2
noncomputable abbrev Eh(os:List bq)(Ls:List (Int×List Int)):List (Str×V):=[("program",c5 os),("calls",iV (cN os)),("leads",.dct (Ls.map fun p=>(p.1,.set p.2)))]
noncomputable abbrev Ef(H:HH)(os:List bq)(Ls:List (Int×List Int)):List V->St->Prop:=fun r σ=>X2 fun(pre l:List Int)=>A4 (cN os=pre++l) (r=l.map .int) (∀a∈pre,¬lm os a) (σ=⟨Eh os Ls,H⟩)
noncomputable abbrev Ei(os:List bq)(Ls:List (Int×List Int))(dep:Int->Int):List (Str×V):=[("program",c5 os),("calls",iV (cN os)),("leads",.dct (Ls.map fun p=>(p.1,.set p.2))),("counts",.dct (gU (ay os) dep))]
noncomputable abbrev Eg(H:HH)(os:List bq)(Ls:List (Int×List Int))(dep:Int->Int):List V->St->Prop:=fun r σ=>X2 fun(pre l:List Int)=>A4 (cN os=pre++l) (r=l.map .int) (∀a∈pre,¬mC os dep a) (σ=⟨Ei os Ls dep,H⟩)
theorem qL{os:List bq}(hn:os.length<60)(Gr:mT os)(T:∀i o,os[i]?=some o->bD o=true->(tg os i o:Int)∈ay os)(h:CM os X (Q .none H) H)(hk:70<=k):CT g.gc k (.ref 413) [c5 os] H Q X:=by
 have hcl:(cN os).length<=os.length:=by rw[←ow];exact oy _ _
 refine gK (dcs:=[]) rfl (fun zz zz=>rfl) rfl ?_ (gG hk);refine aE (jj hn ?_ (dn hk));refine BT.list (xs:=(cN os).map .int) rfl (by rw[ae];exact pG hcl hn) ?_;refine dY (fun q=>?_) (fun q=>?_)
 ·have e:cN os=[]:=by
   cases z:cN os with
   |nil=>rfl
   |cons a l=>rw[z]at q;exact nB q
  refine cX (h.deep (fun a ha=>by rw[e]at ha;cases ha)) fun dep zz zz d3=>?_;exact dO (d3 fun a ha=>by rw[e]at ha;cases ha)
 ·refine aE (nw hn Gr (fun Ls hL hLs=>?_) (dn hk));refine⟨_,.refl,?_⟩;refine⟨Ef H os Ls,⟨[],cN os,rfl,rfl,fun a ha=>(nomatch ha),rfl⟩,?_,?_⟩
  ·refine uM fun pre l e hl hp=>?_;cases l with
   |cons a l=>exact nL hl
   |nil=>
    rw[bt]at e;subst e;refine cX (h.deep hp) fun dep d1 d2 d3=>?_;refine aE (k7 hn Gr.call T d1 ?_ (dn hk));refine⟨_,.refl,?_⟩;refine⟨Eg H os Ls dep,⟨[],cN os,rfl,rfl,fun a ha=>(nomatch ha),?_⟩,?_,?_⟩
    ·exact rfl
    ·refine uM fun pre l e hl hp2=>?_;cases l with
     |cons a l=>exact nL hl
     |nil=>
      rw[bt]at e;rw[e]at d3;exact⟨H,.refl,d3 hp2⟩
    ·intro v r;refine uM fun pre l e hl hp2=>?_;cases l with
     |nil=>exact nL hl.symm
     |cons a l=>
      refine ea (aV hl) fun FW FY=>?_;subst FW;subst FY;refine cq (mF (show a∈cN os by refine rA e ?_;simp)) fun i o FZ ho hlo=>?_;subst FZ;refine aE (oi hn (fun s hs=>?_) (dn hk));refine dK (x:=.int (dep s)) rfl (f7 hs.mem) ?_;refine dY (fun q=>?_) (fun q=>?_)
      ·refine vL ?_ (dn hk);refine aE (iK (fun a d ha hd hne=>⟨a,d,_,_,rfl,ha,hd,hne,rfl,d2 pre i l e hp2 ⟨s,hs,of_decide_eq_true q⟩⟩) (dn hk))
      ·refine⟨_,?_,pre++[(i:Int)],l,by refine rA e ?_;simp,rfl,fun a ha=>?_,rfl⟩
       ·exact ci 4
       ·rcases ak.mp ha with z|z
        ·exact hp2 a z
        ·refine rA (ag.mp z) ?_;refine fun F7=>bx F7 fun s' hs' hd'=>?_;rw[hs'.eq hs]at hd';exact of_decide_eq_false q hd'
  ·intro v r;refine uM fun pre l e hl hp=>?_;cases l with
   |nil=>exact nL hl.symm
   |cons a l=>
    refine ea (aV hl) fun F8 F9=>?_;subst F8;subst F9;refine cq (mF (show a∈cN os by refine rA e ?_;simp)) fun i o Ga ho hlo=>?_;subst Ga;have ht:=T i o ho hlo;refine cX (qp (Ls:=Ls) (x:=(tg os i o:Int)) (by refine rA hL ?_;exact ht)) fun p hp1 hp2 hp3=>?_;refine mw (names:=["sub","other"]) (fun env e=>by cases env;cases e;rfl) ?_ (dn hk);refine aE (oi hn (fun s hs=>?_) (dn hk));refine aE (f8 ho hn (Gr.call i o ho hlo) ?_ (dn hk));refine⟨rfl,aq rfl,?_⟩;have rs:∀{P:Prop},((tg os i o:Int)=s∨gY (adj os) (tg os i o) s->X 64 (na (.str Ag) (.int i)) H->P)->(tg os i o:Int)=s∨gY (adj os) (tg os i o) s->P:=fun f z=>f z (h.ring pre i l e hp ⟨i,o,s,rfl,ho,hlo,hs,z⟩);refine dY (fun q=>?_) (fun q=>?_)
    ·refine rs (fun zz hx=>?_) (.inl (of_decide_eq_true q));refine vL ?_ (dn hk);refine aE (iK (fun a d ha hd hne=>⟨a,d,_,_,rfl,ha,hd,hne,rfl,hx⟩) (dn hk))
    ·refine dK (x:=.set p.2) rfl hp3 ?_;refine CP rfl ?_;refine dY (fun q2=>?_) (fun q2=>?_)
     ·refine rs (fun zz hx=>?_) (.inr (hp2▸((hLs p hp1).2 s).mp (of_decide_eq_true q2)));refine vL ?_ (dn hk);refine aE (iK (fun a d ha hd hne=>⟨a,d,_,_,rfl,ha,hd,hne,rfl,hx⟩) (dn hk))
     ·refine⟨_,?_,pre++[(i:Int)],l,by refine rA e ?_;simp,rfl,fun a ha=>?_,rfl⟩
      ·exact ci 3
      ·rcases ak.mp ha with z|z
       ·exact hp a z
       ·refine rA (ag.mp z) ?_;refine fun Gb=>eN Gb fun i' o' s' h1 h2 h3 Gc=>?_;obtain⟨h4,h5⟩:=Gc;have:i'=i:=by exact_mod_cast h1.symm
        subst this;rw[ho]at h2;obtain rfl:=aj h2;have:=h4.eq hs;subst this;rcases h5 with z|z
        ·exact of_decide_eq_false q z
        ·exact of_decide_eq_false q2 (((hLs p hp1).2 s').mpr (hp2▸z))
end
section
variable {prog:ei}{w:iC}{A:cA}{E:Value->an->Prop}{s:an}{K:kB}{x C:ah}{ox:Obj}{od:Option Obj}{name:Str}{expr:Bool}{pl:Sem Bool}
theorem Bw{f:ah}{Q:Value×List Value->an->Prop}(X:K.In s.heap)(I:InstAt s.heap x ox C od)(hga:fj K (.ref C) "__getattribute__"=some (some (.builtin "BaseException.__getattribute__")))(hk:fj K (.ref C) "__getattr__"=some none)
  (hf:fj K (.ref C) name=some (some (.ref f))) (ht:typeIn K (.ref f)=some (.type "function")) (hs:shadowIn od name=some false) (h:Q (.ref f,[.ref x]) s) :
  aM (bj prog w) A (pi (.ref x) name pl) Q E s:=by
 have hcan:(Manifest.canonical "BaseException.__getattribute__" != "object.__getattribute__")=false:=by decide +kernel
 unfold pi specialOf;refine aa (aa (I.type.here ((fX X hga).here ?_)));dsimp only;refine rA hcan (rA (if_neg (by decide)) ?_);refine aa (aa (I.type.here ((fX X hk).here ?_)));refine aa (aa (I.type.here ((fX X hf).here (aa ((looks_typeIn X ht).here ?_)))));refine rA (if_neg (by decide +kernel)) ?_;refine aa (k9 I.at_ ?_);have hd:=I.dict;cases e:ox.dict with
 |none=>exact aa (fW (af h))
 |some dx=>
  cases od with
  |none=>rw[e]at hd;exact hd.elim
  |some o=>
   rw[e]at hd;refine bx (dg.mp hs) fun r a b=>?_;refine aa (aa (k9 hd ?_));refine rA (nsLook_of a) ?_;refine af ?_;refine rA b ?_;exact aa (fW (af h))
theorem getE{v:Value}{Q:Value->an->Prop}(X:K.In s.heap)(I:InstAt s.heap x ox C od)(hga:fj K (.ref C) "__getattribute__"=some (some (.builtin "BaseException.__getattribute__")))(hk:fj K (.ref C) "__getattr__"=some none)(ho:lN K C=true)
  (hf:findObj K C od name=some (.value v)) (hh:handedIn v=true) (h:Q v {s with toks:=s.toks+1}):aM (bj prog w) A (getAttr (.ref x) name expr) Q E s:=by
 refine bx (oY ho) fun cd hc ho=>?_;have ne:cd.mro.isEmpty=false:=qx ho;obtain⟨hh',g,d,t,os⟩:=s;have L0:=I.type (M:=bj prog w);have L1:=fX (M:=bj prog w) X hga;have L2:=fX (M:=bj prog w) X hk;have L3:=looks_find (M:=bj prog w) X I hf;have sub:Looks (bj prog w) hh' (isInstance (.ref x) (.type "BaseException")) true:=I.type.andThen (looks_mroIn X (by unfold mroIn;rw[hc,kW,if_neg (by refine rA ne ?_;decide),en ho (T:="BaseException") (b:=true) (by decide)]));unfold getAttr getAttrBy;refine aa (wpAny_mkText (a9 (aa (L0.at (aa (L1.at ?_))))));show aM _ _ (getAttrByItsOwn (.ref x) (.str name t) (.ref C) (.builtin "BaseException.__getattribute__") true expr) _ _ _;unfold getAttrByItsOwn hookBefore callGetattribute boundAndCalled;refine aa ?_;show aM _ _ (rj (.ref C) "__getattr__") _ _ _;refine L2.at ?_;refine aa (wpAny_attempt (a9 ?_));have hx0:(expr&&onTheHeap (Value.builtin "BaseException.__getattribute__"))=false:=by cases expr <;> rfl
 refine rA hx0 (rA (if_neg (by decide)) ?_);have hk1:builtinKind "BaseException.__getattribute__"=some .slot:=by decide +kernel
 have hsplit:splitId "BaseException.__getattribute__"=some ("BaseException","__getattribute__"):=by decide +kernel
 refine aa (oV (PySem.F.attr_Exception.ga.bind (.ref x)) ?_);show aM _ _ (call (.builtin "BaseException.__getattribute__") [.ref x,.str name t]) _ _ _;refine mS (gM PySem.F.attr_Exception.ga.plain PySem.F.entry_bexc_ga (@check_slot (bj prog w) _ _ ⟨hh',g,d,t+1,os⟩ "BaseException.__getattribute__" "BaseException" "__getattribute__" (.ref x) [.str name t] [] _ hk1 hsplit sub (PySem.F.args_bexc_ga (.ref x) (.str name t)) ?_));refine aa (af (aa (af (aa (L0.at (aa (L3.at ?_)))))));refine af ?_;show aM _ _ (handedOut v) _ _ _;refine rA (handedOut_of hh) ?_;exact af h
end
structure uV(os:List bq):Prop where
 pos:0<os.length
 len:os.length<60
 noj:NoJ os
 ends:∀s∈ay os,∃(l:Nat) (o:bq),subEnd os s=(l:Int)+1/\os[l]?=some o/\dZ o=true
 next:pT os
 all:∀i:Nat,i<os.length->i=0∨gY (sm os) 0 i
 graph:mT os
 tgs:∀i o,os[i]?=some o->bD o=true->(tg os i o:Int)∈ay os
 slots:cQ os os.length<=4096
section
variable {g:GX}{k:Nat}{X:XP}{Q:VP}{H:HH}{G:GC}
theorem og{os:List bq}{ov:V}(P:uV os)(e:con H ov=fx os)(h:CM os X (Q (c5 os) H) H)(hk:80<=k):CT g.gc k (.ref 421) [ov] H Q X:=by
 have hn:=P.len;refine gK (dcs:=[.int 4096 _]) rfl (fun zz zz=>rfl) rfl ?_ (gG hk);refine aE (qG e hn ?_ (dn hk));refine aE (eR hn ?_ (dn hk));refine dY (fun q=>absurd (of_decide_eq_true q) (by have:=P.pos;exact wP (qz this))) (fun q=>?_);refine dY (fun q=>absurd (of_decide_eq_true q) (by have:=P.slots;exact fun z'=>Lz [] [_] (Sa Z0 (Kz 4096) (Sa (Pz (Kz 4096) (Kz 1)) Z0 Fa)) rfl this z')) (fun q=>?_);refine aE (qM hn P.noj P.graph.call ?_ (dn hk));refine aE (rJ hn P.ends ?_ (dn hk));refine aE (oh P.pos hn P.next P.all ?_ (dn hk));refine aE (qL hn P.graph P.tgs ⟨h.ring,fun z=>?_⟩ (dn hk));refine cX (h.deep z) fun dep d1 d2 d3=>?_;exact⟨dep,d1,d2,fun z2=>dO (d3 z2)⟩
theorem uS{w i:V}{H:HH}:MT g.gc "told" (.exc 64 (na w i)) H (.ref 36):=fun A fs F s c pl E QQ r vr h=>by
 obtain⟨a,dx,ox,m,od,rfl,I,hd,hn,hm,rf,hl,_⟩:=lO (xs:=[("what",w),("at",i)]) r vr rfl;refine Bw r.kin I rfl rfl rfl rfl ?_ h;show(lookIn "told" od).map _=_;rw[hl,hm "told" rfl];rfl
theorem r7{w i x:V}{n:Str}{H:HH}(hn:fj g.gc.K (.ref 64) n=some none)(hx:List.lookup n [(("what":Str),w),(("at":Str),i)]=some x)(hg:x.noGlob=true)(h:Q x H):VT g.gc k (nA n) [.exc 64 (na w i)] H Q X:=fun A fs F s cs ok r vs=>by
 apply vs.elim1;intro cv vr;obtain⟨a,dx,ox,m,od,rfl,I,hd,hn',hm,rf,hl,_⟩:=lO (xs:=[("what",w),("at",i)]) r vr rfl;refine bx (rf.f_get hx) fun c' hc1 vc=>?_;exact getE r.kin I rfl rfl rfl (findObj_own rfl hn rfl (by rw[hl,hc1])) (sf vc hg) (GP.v (r.toks _) .refl vc h)
theorem BV{w i:V}(hw:w.noGlob=true)(hi:i.noGlob=true)(h:Q (.tup [w,i]) H):CT g.gc (k+1) (.ref 36) [.exc 64 (na w i)] H Q X:=by
 refine fnS (dcs:=[]) rfl (fun zz zz=>rfl) rfl ?_ (jL _);refine lK.cons (TS.ret (TE.tup (pq.cons (TE.attr (TE.name rfl (r7 (x:=w) rfl rfl hw ?_))))));refine pq.cons (TE.attr (TE.name rfl (r7 (x:=i) rfl rfl hi ?_)));exact pq.nil ⟨aq rfl,dO h⟩
theorem qN{os:List bq}{ov:V}(P:uV os)(e:con H ov=fx os)(h:CM os (fun c d H'=>H'=H/\c=64/\∃w i,d=na w i/\w.noGlob=true/\i.noGlob=true/\Q (.tup [w,i]) H) (Q (c5 os) H) H)(hk:100<=k):CT g.gc k (.ref 474) [ov] H Q NX:=by
 refine gK (dcs:=[]) rfl (fun zz zz=>rfl) rfl ?_ (gG hk);refine AV (X1:=fun c d H'=>H'=H/\c=64/\∃w i,d=na w i/\w.noGlob=true/\i.noGlob=true/\Q (.tup [w,i]) H) (vc.ok (T:=g.tab) (t:=.E _ _ _ _ _) (dn hk) 20 ?_) rfl rfl rfl rfl (fun c d H1 hx=>?_) (hk2:=dn hk)
 ·refine aE (og P e ⟨h.ring,fun z=>?_⟩ (dn hk));refine cX (h.deep z) fun dep d1 d2 d3=>?_;exact⟨dep,d1,d2,fun z2=>TA.name rfl (dO (d3 z2))⟩
 ·refine jc hx fun FW FY FZ=>?_;clear hx;subst FW;subst FY;refine cq FZ fun w i F7 hw F8=>?_;clear FZ;subst F7;obtain⟨hi,hq⟩:=F8;refine⟨rfl,?_⟩;refine lK.cons (TS.assign (wc (TE.name rfl ⟨_,uS,rfl,pq.nil (aE (BV hw hi (TA.name rfl (lK.nil (dO hq)))))⟩)))
end
theorem qB(xs:List V)(a b:Nat)(hb:b<=xs.length):(sliceRange a b 1).filterMap (xs[·]?)=(xs.drop a).take (b-a):=by
 rw[sliceRange_one,List.filterMap_map];refine eJ fun i=>?_;have key:∀n,a+n<=xs.length->(aQ n).filterMap ((fun x=>xs[x]?) ∘ fun x=>a+x)=(xs.drop a).take n:=by
  intro n
  induction n with
  |zero=>intro _;simp
  |succ n ih=>
   intro h;refine rA ch (rA List.filterMap_append (rA (ih (by exact(bn h))) (rA aT (rA oq ?_))));simp only[gI,List.filterMap_nil,Function.comp];refine rA (ac (by exact jz (qz h))) ?_
   rfl
 by_cases q:a<=b
 ·exact rA (key (b-a) (by exact L4 (Ra N0 N1 (Rb (Pn N2 N3) N0 (Gn (Pn N3 N2) N1))) rfl hb (iE (L2 (Ra N0 N1 (Gn N0 N1)) rfl q)))) rfl
 ·refine rA (Nat.sub_eq_zero_of_le (bn (Nat.lt_of_not_le q))) ?_;simp
theorem tY(m n:Nat):clipAt n (m:Int)=min m n:=by
 unfold clipAt;refine rA (if_neg (Int.not_lt.mpr (fA m))) (rA (Int.max_eq_right (Int.le_min.mpr ⟨fA m,fA n⟩)) ?_);rcases Nat.le_total m n with h|h
 ·refine rA (Int.min_eq_left (eO.mpr h)) (rA (Nat.min_eq_left h) ?_);rfl
 ·refine rA (Int.min_eq_right (eO.mpr h)) (rA (Nat.min_eq_right h) ?_);rfl
theorem xX(x:V)(xs:List V):iA (x::xs) (some 1) none=xs:=by
 unfold iA;rw[sliceBounds_plain];have h1:((some (1:Int)).elim 0 (clipAt (x::xs).length):Nat)=1:=tY 1 _ |>.trans (Nat.min_eq_left (jL _))
 refine rA h1 ?_;show(sliceRange (1:Nat) ((x::xs).length:Nat) 1).filterMap _=_;refine rA (qB _ _ _ (ax _)) ?_;simp
theorem sq(xs:List V)(m:Nat):iA xs none (some (m:Int))=xs.take m:=by
 unfold iA;rw[sliceBounds_plain];have h1:((some (m:Int)).elim xs.length (clipAt xs.length):Nat)=min m xs.length:=tY m _;refine rA h1 ?_;show(sliceRange (0:Nat) ((min m xs.length:Nat):Int) 1).filterMap _=_;refine rA (qB _ _ _ (bP _ _)) ?_;simp only[mK,Nat.sub_zero];rw[List.take_eq_take_iff,Nat.min_assoc,Nat.min_self]
structure DS where
 marks:List (Int×Int)
 post:List Int
 heads:List Int
 way:List (Int×List Int)
noncomputable def fD(ms:List (Int×Int))(x:Int):Int:=((ms.find? fun p=>p.1=x).map (·.2)).getD 0
noncomputable def l8(ms:List (Int×Int))(x v:Int):List (Int×Int):=if ms.any (fun p=>p.1=x)then ms.map (fun p=>if p.1=x then(p.1,v)else p)else ms++[(x,v)]
noncomputable def zP(ms:List (Int×Int)):List (Int×V):=ms.map fun p=>(p.1,.int p.2)
theorem Bx{ms:List (Int×Int)}{x:Int}:(dF (zP ms) x).getD (.int 0)=.int (fD ms x):=by
 unfold dF zP fD;refine rA List.find?_map ?_;have:((fun kv:Int×V=>decide (kv.1=x)) ∘ fun p:Int×Int=>(p.1,V.int p.2))=fun p=>decide (p.1=x):=rfl;refine rA this ?_;cases ms.find? fun p=>decide (p.1=x) <;> rfl
theorem wI{ms:List (Int×Int)}{x v:Int}:ix (zP ms) x (.int v)=zP (l8 ms x v):=by
 unfold ix zP l8;refine rA lE ?_;have:((fun kv:Int×V=>decide (kv.1=x)) ∘ fun p:Int×Int=>(p.1,V.int p.2))=fun p=>decide (p.1=x):=rfl;refine rA this ?_;split
 ·refine rA bz (rA bz ?_);refine cy fun p zz=>?_;show(if p.1=x then(p.1,V.int v)else(p.1,V.int p.2))=_;simp only[Function.comp];split <;> rfl
 ·refine rA ai ?_;rfl
theorem uj{ms:List (Int×Int)}{x v:Int}:(l8 ms x v).length<=ms.length+1:=by
 unfold l8;split <;> simp
noncomputable def fO(E:Int->List Int)(d:DS)(w0:List (Int×List Int))(u:Int):List Int->DS
 |[]=>⟨l8 d.marks u 2,d.post++[u],d.heads,w0⟩
 |v::r=>if fD d.marks v=1 then⟨d.marks,d.post,cO d.heads v,w0++[(u,r)]⟩else if fD d.marks v=0 then⟨l8 d.marks v 1,d.post,d.heads,w0++[(u,r)]++[(v,E v)]⟩else⟨d.marks,d.post,d.heads,w0++[(u,r)]⟩
noncomputable def NV(H:HH)(nv:V)(l:List Int):Prop:=nv=iV l∨∃b,nv=.ref b/\H b=some (iV l)
inductive mE(H:HH):List V->List (Int×List Int)->Prop
 |nil:mE H [] []
 |snoc {ws w nv u l}:mE H ws w->NV H nv l->mE H (ws++[.tup [.int u,nv]]) (w++[(u,l)])
theorem NV.mono{H H':HH}{nv l}(s:Sub H H')(h:NV H nv l):NV H' nv l:=h.imp id fun z'=>by refine bx z' fun b e h=>?_;exact⟨b,e,s b _ h⟩
theorem mE.mono{H H':HH}{ws w}(s:Sub H H')(h:mE H ws w):mE H' ws w:=by
 induction h with
 |nil=>exact .nil
 |snoc _ n ih=>exact .snoc ih (n.mono s)
theorem mE.len{H:HH}{ws w}(h:mE H ws w):ws.length=w.length:=by
 induction h with
 |nil=>rfl
 |snoc _ _ ih=>simp[ih]
theorem mE.last{H:HH}{ws:List V}{w0 u l}(h:mE H ws (w0++[(u,l)])):∃ws0 nv,ws=ws0++[.tup [.int u,nv]]/\mE H ws0 w0/\NV H nv l:=by
 generalize hw:w0++[(u,l)]=w at h;cases h with
 |nil=>simp at hw
 |snoc a b=>
  obtain⟨rfl,e⟩:=List.append_inj' hw rfl;cases e;exact⟨_,_,rfl,a,b⟩
theorem NV.con{H:HH}{nv l}{ks:List ah}{vs:List V}(O:cw H ks)(h:NV H nv l):Internal.con (HL H ks vs) nv=iV l:=by
 rcases h with rfl|⟨b,rfl,h⟩
 ·rfl
 ·exact O.conOf (bv h) rfl
theorem HL.base{H:HH}{b:ah}{v:V}:∀{ks:List ah}{vs:List V},b∉ks->upd (HL H ks vs) b v=HL (upd H b v) ks vs
 |[],vs,_=>by cases vs <;> rfl
 |k::ks,[],_=>rfl
 |k::ks,w::vs,h=>by
  show upd (upd (HL H ks vs) k w) b v=upd (HL (upd H b v) ks vs) k w;refine rB (HL.base (fun m=>h (.tail _ m))) ?_;have:b≠k:=fun z=>h (z▸.head _)
  funext c
  unfold upd
  by_cases q:c=b
  ·exact rA (if_pos q) (rA (if_neg (fun z=>this (q▸z))) (rA (if_pos q) rfl))
  ·refine rA (if_neg q) ?_
   by_cases z:c=k
   ·exact rA (if_pos z) (rA (if_pos z) rfl)
   ·exact rA (if_neg z) (rA (if_neg z) (rA (if_neg q) rfl))
theorem cw.base{H:HH}{b:ah}{v:V}{ks:List ah}(O:cw H ks)(h:b∉ks):cw (upd H b v) ks :=
 ⟨O.nd,fun a ha=>(bE fun(z:a=b)=>h (z▸ha)).trans (O.fr a ha)⟩
noncomputable def wkD(os:List bq)(P S M W:ah):List (Str×V):=[("program",c5 os),("post",.ref P),("heads",.ref S),("marks",.ref M),("way",.ref W)]
noncomputable def B4(os:List bq)(P S M W d:ah)(ds:DS)(ws:List V):List V:=[.lst ws,.dct (zP ds.marks),.set ds.heads,.lst (ds.post.map .int),.inst 345 (.ref d),.adict (wkD os P S M W)]
noncomputable def sE(os:List bq)(s:Int):List Int:=match os[s.toNat]? with|some o=>dT os s.toNat o|bc=>[]
section
variable {g:GX}{k:Nat}{X:XP}{Q:VP}{H:HH}{G:GC}
theorem Dc{n:Nat}(h:0<n):kY (-1) n=some (n-1):=by
 unfold kY;have h1:(0:Int)<=-1+n:=by exact L1 (Ra (Pn (Kn 0) (Kn 1)) N0 (Gz (Kz 0) (Pz (Mz (Kz 0) (Kz 1)) C0))) rfl h
 have h2:(-1:Int)+n<n:=by exact L1 (Gz (Pz (Pz (Mz (Kz 0) (Kz 1)) C0) (Kz 1)) C0) rfl
 simp[h1,h2];exact ao (L3 (Sb C0 (Pz (Mz (Kz 0) (Kz 1)) C1) (Ra N1 M2 (Gn N0 N2))) rfl (aY (L1 (Ra (Pn (Kn 0) (Kn 1)) N0 (Gz (Kz 0) (Pz (Mz (Kz 0) (Kz 1)) C0))) rfl h)) jF) (L3 (Rb M0 N1 (Sa (Pz (Mz (Kz 0) (Kz 1)) C1) C2 (Gn N0 N2))) rfl (iE (L1 (Ra (Pn (Kn 0) (Kn 1)) N0 (Gn (Kn 1) N0)) rfl h)) wJ)
theorem qq{ws:List V}{x:V}:(ws++[x])[((-1:Int)+((ws++[x]).length:Nat)).toNat]?=some x:=by
 refine rA (show((-1:Int)+((ws++[x]).length:Nat)).toNat=ws.length by simp;exact ao (L2 (Sb C0 (Pz (Mz (Kz 0) (Kz 1)) (Pz C1 (Kz 1))) (Gn N0 N1)) rfl (aY (L1 (Gz (Kz 0) (Pz (Mz (Kz 0) (Kz 1)) (Pz C0 (Kz 1)))) rfl))) (L2 (Sa (Pz (Mz (Kz 0) (Kz 1)) (Pz C0 (Kz 1))) C1 (Gn N0 N1)) rfl wJ)) ?_;simp
theorem NV.truth{H:HH}{nv:V}{l:List Int}{ks:List ah}{vs:List V}{X:XP}{QB:Bool->HH->Prop}(O:cw H ks)(h:NV H nv l)(hl:l.length<1000)(q:QB (!l.isEmpty) (HL H ks vs)):qW g.gc k X QB nv (HL H ks vs):=by
 have hc:=h.con (vs:=vs) O;have:=BT.list (G:=g.gc) (k:=k) (X:=X) (QB:=QB) hc (by rw[ae];exact rC hl) (by refine rA List.isEmpty_map ?_;exact q);rcases h with rfl|⟨b,rfl,h⟩
 ·exact this
 ·exact this
theorem AX{ks:List ah}{vs:List V}{H0:HH}{a c d:ah}{n:Str}{xs:List (Str×V)}{y:V}(e:H0=HL H ks vs)(O:cw H ks)(i j:Nat)(i1:ks[i]?=some a)(i2:vs[i]?=some (.inst c (.ref d)))(j1:ks[j]?=some d)(j2:vs[j]?=some (.adict xs))(hc:g.tab.at_ c n=true)(hx:xs.lookup n=some y)
  (h:Q y (HL H ks vs)) (hg:autoParam (y.noGlob=true) aR):VT g.gc k (nA n) [.ref a] H0 Q X:=by
 subst e;exact dy O i j i1 i2 j1 j2 hc hx h hg
theorem BU{os:List bq}{a d P S M W:ah}{ds:DS}{ws:List V}{w0:List (Int×List Int)}{u:Int}{l:List Int}(hn:os.length<60)(N:i8 os)(O:cw H [W,M,S,P,a,d])(hw:mE H ws (w0++[(u,l)]))
  (hl:∀v∈l,∃j:Nat,v=j/\j<os.length) (hll:l.length<=2) (b1:w0.length<1000) (b2:ds.post.length<1000) (b3:ds.heads.length<1000) (b4:ds.marks.length<1000)
  (h:∀H2 ws2,Sub H H2->cw H2 [W,M,S,P,a,d]->mE H2 ws2 (fO (sE os) ds w0 u l).way->Q .none (HL H2 [W,M,S,P,a,d] (B4 os P S M W d (fO (sE os) ds w0 u l) ws2))) (hk:60<=k) :
  CT g.gc k (.ref 342) [.ref a] (HL H [W,M,S,P,a,d] (B4 os P S M W d ds ws)) Q X:=by
 refine cq hw.last fun ws0 nv FW hw0 hnv=>?_;subst FW;have hlen:=hw0.len;have mt:(zP ds.marks).length=ds.marks.length:=by unfold zP;simp
 refine gK (dcs:=[]) rfl (fun zz zz=>rfl) rfl ?_ (gG hk);refine dy O 4 5 rfl rfl rfl rfl rfl rfl ?_;refine pZ (x:=.tup [.int u,nv]) (O.con 0 rfl rfl) (by decide) (by simp;exact L1 (Gz (Kz 1) (Pz C0 (Kz 1))) rfl) qq (by decide) ?_;refine⟨_,rfl,rfl,rfl,?_⟩;refine hnv.truth O (by exact nr hll) ?_;refine dY (fun q=>?_) (fun q=>?_)
 ·have e:l=[]:=by cases l with
   |nil=>rfl
   |cons a b=>exact nB q
  subst e;refine dy O 4 5 rfl rfl rfl rfl rfl rfl ?_;refine mV O 1 rfl rfl (by refine rA mt ?_;exact rC b4) ?_;refine rA wI ?_;refine dy O 4 5 rfl rfl rfl rfl rfl rfl ?_;refine⟨_,MT.append (O.con 3 rfl rfl),trivial,?_⟩;refine gA O 3 rfl rfl (by rw[ae];exact rC b2) ?_;refine dy O 4 5 rfl rfl rfl rfl rfl rfl ?_;refine⟨_,MT.pop (O.con 0 rfl rfl),trivial,?_⟩;refine sP O 0 rfl rfl (by exact oq7 hlen b1) ?_;have:=h H ws0 .refl O hw0;refine dO ?_;have e:(ds.post++[u]).map V.int=ds.post.map .int++[.int u]:=by simp
  unfold fO B4 at this;rw[e]at this;exact this
 ·cases l with
  |nil=>exact nB q.symm
  |cons v r=>
   refine bx (hl v (.head _)) fun j FY hj=>?_;subst FY;have ho:=ac hj;simp only[aF]at hll;refine bT (j:=0) (hnv.con O) rfl (by decide) ?_;refine .inr ⟨((j:Int)::r).map .int,rfl,rfl,hnv.con O,by simp;exact nr hll,fun b hb=>?_⟩;have hb:HL H [W,M,S,P,a,d] (B4 os P S M W d ds (ws0++[.tup [.int u,nv]])) b=none:=hb;refine ea (HL.none_ rfl hb) fun hbk hbH=>?_;have ep:iA (((j:Int)::r).map V.int) (some 1) none=r.map .int:=xX _ _;have O':=O.base (v:=iV r) hbk;have sub:Sub H (upd H b (iV r)):=Sub.refl.upd hbH;have hw1:mE (upd H b (iV r)) (ws0++[.tup [.int u,.ref b]]) (w0++[(u,r)]):=.snoc (hw0.mono sub) (.inr ⟨b,rfl,aw⟩);refine AX (H:=upd H b (iV r)) (ks:=[W,M,S,P,a,d]) (vs:=B4 os P S M W d ds (ws0++[.tup [.int u,nv]])) (by refine rB (HL.base hbk) ?_;show upd _ _ (.lst (iA _ _ _))=_;refine rA (show V.part (.int 1)=some 1 from rfl) (rA (show V.part .none=none from rfl) (rA ep ?_));rfl) O' 4 5 rfl rfl rfl rfl rfl rfl ?_;refine mW (j:=ws0.length) O' 0 rfl rfl (by refine rA (Dc (by simp)) ?_;simp) (by simp) (by decide) ?_;refine rA (show(ws0++[V.tup [.int u,nv]]).set ws0.length (.tup [.int u,.ref b])=ws0++[.tup [.int u,.ref b]] from by simp) ?_;refine dy O' 4 5 rfl rfl rfl rfl rfl rfl ?_;refine⟨_,MT.dget (O'.con 1 rfl rfl),trivial,?_⟩;refine VT.dget (O'.con 1 rfl rfl) ?_;refine rA Bx ?_;refine dY (fun q=>?_) (fun q=>?_)
   ·have q:fD ds.marks j=1:=of_decide_eq_true q;refine dy O' 4 5 rfl rfl rfl rfl rfl rfl ?_;refine⟨_,MT.sadd (O'.con 2 rfl rfl),trivial,?_⟩;refine qa O' 2 rfl rfl (by exact rC b3) ?_;have e:fO (sE os) ds w0 u ((j:Int)::r)=⟨ds.marks,ds.post,cO ds.heads j,w0++[(u,r)]⟩:=by unfold fO;dsimp only;exact rA (if_pos q) rfl
    have:=h (upd H b (iV r)) _ sub O' (by refine rA e ?_;exact hw1);rw[e]at this;exact⟨_,.refl,this⟩
   ·have q:¬fD ds.marks j=1:=of_decide_eq_false q;refine dY (fun q2=>?_) (fun q2=>?_)
    ·have q2:fD ds.marks j=0:=of_decide_eq_true q2;refine dy O' 4 5 rfl rfl rfl rfl rfl rfl ?_;refine mV O' 1 rfl rfl (by refine rA mt ?_;exact rC b4) ?_;refine rA wI ?_;refine dy O' 4 5 rfl rfl rfl rfl rfl rfl ?_;refine⟨_,MT.append (O'.con 0 rfl rfl),trivial,?_⟩;refine dy O' 4 5 rfl rfl rfl rfl rfl rfl ?_;refine aE (gq ho hn (N.tgt _ _ ho) ?_ (dn hk));refine gA O' 0 rfl rfl (by simp;exact L2 (Ra M0 (Kn 1000) (Rb N1 N0 (Gn (Pn M1 (Kn 1)) (Kn 1000000)))) rfl b1 hlen) ?_;have e:fO (sE os) ds w0 u ((j:Int)::r)=⟨l8 ds.marks j 1,ds.post,ds.heads,w0++[(u,r)]++[((j:Int),dT os j os[j])]⟩:=by
      unfold fO;dsimp only;refine rA (if_neg q) (rA (if_pos q2) ?_);have:sE os j=dT os j os[j]:=by unfold sE;rw[bw,ho]
      exact rA this rfl
     have:=h (upd H b (iV r)) _ sub O' (by refine rA e ?_;exact hw1.snoc (.inl rfl));rw[e]at this;exact⟨_,.refl,this⟩
    ·have q2:¬fD ds.marks j=0:=of_decide_eq_false q2;have e:fO (sE os) ds w0 u ((j:Int)::r)=⟨ds.marks,ds.post,ds.heads,w0++[(u,r)]⟩:=by unfold fO;dsimp only;exact rA (if_neg q) (rA (if_neg q2) rfl)
     have:=h (upd H b (iV r)) _ sub O' (by refine rA e ?_;exact hw1);rw[e]at this;exact⟨_,.refl,this⟩
end
theorem kh{p:Int×Int}{l:List (Int×Int)}{y:Int}:fD (p::l) y=if p.1=y then p.2 else fD l y:=by
 unfold fD;refine rA List.find?_cons ?_
 by_cases q:p.1=y
 ·refine rA (decide_eq_true q) (rA (if_pos q) ?_);rfl
 ·exact rA (decide_eq_false q) (rA (if_neg q) rfl)
theorem ui{x v y:Int}:∀{ms:List (Int×Int)},fD (ms.map fun p=>if p.1=x then(p.1,v)else p) y=if y=x then(if ms.any (fun p=>p.1=x)then v else 0)else fD ms y
 |[]=>by split <;> rfl
 |p::l=>by
  have ih:=ui (x:=x) (v:=v) (y:=y) (ms:=l);refine rA aB (rA kh (rA kh (rA ih (rA kS ?_))))
  by_cases q:p.1=x
  ·rw[if_pos q,decide_eq_true q,Bool.true_or,if_pos (rfl:true=true),q]
   by_cases r:y=x
   ·exact rA (if_pos r.symm) (rA (if_pos r) rfl)
   ·exact rA (if_neg (fun z=>r z.symm)) (rA (if_neg r) (rA (if_neg r) (rA (if_neg (fun z=>r z.symm)) rfl)))
  ·rw[if_neg q,decide_eq_false q,Bool.false_or]
   by_cases r:y=x
   ·exact rA (if_pos r) (rA (if_pos r) (rA (if_neg (fun z=>q (z.trans r))) rfl))
   ·exact rA (if_neg r) (rA (if_neg r) rfl)
theorem qu{q:Int×Int}{y:Int}:∀{ms:List (Int×Int)},ms.any (fun p=>p.1=q.1)=false->fD (ms++[q]) y=if y=q.1 then q.2 else fD ms y
 |[],_=>by
  rw[List.nil_append,kh]
  by_cases r:y=q.1
  ·exact rA (if_pos r) (rA (if_pos r.symm) rfl)
  ·exact rA (if_neg r) (rA (if_neg (fun z=>r z.symm)) rfl)
 |p::l,h=>by
  rw[kS,Bool.or_eq_false_iff]at h;refine rA List.cons_append (rA kh (rA kh (rA (qu h.2) ?_)))
  by_cases r:y=q.1
  ·exact rA (if_neg (fun z=>of_decide_eq_false h.1 (z.trans r))) (rA (if_pos r) (rA (if_pos r) rfl))
  ·exact rA (if_neg r) (rA (if_neg r) rfl)
set_option tactic.hygienic true in
theorem qv{ms:List (Int×Int)}{x v y:Int}:fD (l8 ms x v) y=if y=x then v else fD ms y:=by
 unfold l8;split
 ·rename_i h;exact rA ui (rA (if_pos h) rfl)
 ·rename_i h;exact qu (q:=(x,v)) (eq_false_of_ne_true h)
noncomputable def DS.line(d:DS):List Int:=d.post++(d.way.map (·.1)).reverse
noncomputable def Xe(E:Int->List Int)(l:List Int)(u v:Int):Prop:=v∈(E u).take ((E u).length-l.length)
noncomputable def yl(E:Int->List Int)(P:List Int)(W:List (Int×List Int))(u v:Int):Prop:=(u∈P/\v∈E u)∨∃l,(u,l)∈W/\Xe E l u v
noncomputable def yr(L:List Int)(v u:Int):Prop:=L.idxOf v<L.idxOf u
section
variable {E:Int->List Int}{s u v:Int}{L P K hs hs' c l A B:List Int}{k k':Int->Int}{X X':Int->Int->Prop}{W:List (Int×List Int)}{a b:Int}
theorem AG(h:E u=c++l):Xe E l u v↔v∈c:=by
 unfold Xe;rw[h,az,Nat.add_sub_cancel,List.take_left]
theorem lx:yl E P (W++[(u,l)]) a b↔yl E P W a b∨(a=u/\Xe E l a b) :=
 ⟨fun h=>h.elim (fun h=>.inl (.inl h)) fun h=>h.elim fun l' h=>(ak.mp h.1).elim (fun m=>.inl (.inr ⟨l',m,h.2⟩)) fun m=>.inr ⟨(lY (ag.mp m)).1,(lY (ag.mp m)).2▸h.2⟩,
  fun h=>h.elim (fun h=>h.imp id fun h=>h.imp fun zz h=>⟨aC _ h.1,h.2⟩) fun h=>.inr ⟨l,h.1▸aO _ (.head _),h.2⟩⟩
theorem zD:yl E (P++[u]) W a b↔yl E P W a b∨(a=u/\b∈E a) :=
 ⟨fun h=>h.elim (fun h=>(ak.mp h.1).elim (fun m=>.inl (.inl ⟨m,h.2⟩)) fun m=>.inr ⟨ag.mp m,h.2⟩) fun h=>.inl (.inr h),
  fun h=>h.elim (fun h=>h.imp (fun h=>⟨aC _ h.1,h.2⟩) id) fun h=>.inl ⟨h.1▸aO _ (.head _),h.2⟩⟩
structure DI(E:Int->List Int)(s:Int)(L P K hs:List Int)(k:Int->Int)(X:Int->Int->Prop):Prop where
 nd:L.Nodup
 m2:∀v,k v=2↔v∈P
 m1:∀v,k v=1↔v∈K
 m0:∀v,k v=0∨k v=1∨k v=2
 last:L.getLast?=some s
 rch:∀v∈L,v=s∨gY E s v
 src:∀u v,X u v->u∈L
 met:∀u v,X u v->v∈L
 hd:∀v,v∈hs↔∃u,X u v/\¬yr L v u
 hnd:hs.Nodup
structure pR(E:Int->List Int)(s:Int)(d:DS):Prop where
 i:DI E s d.line d.post (d.way.map (·.1)) d.heads (fD d.marks) (yl E d.post d.way)
 pre:∀u l,(u,l)∈d.way->∃c,E u=c++l
theorem td(n:a≠b):a∈P↔a∈P++[b]:=⟨fun h=>aC _ h,fun h=>(ak.mp h).resolve_right fun m=>n (ag.mp m)⟩
set_option tactic.hygienic true in
theorem DI.leave(I:DI E s L P (K++[u]) hs k X)(hu:u∉K)(hk:∀x,k' x=if x=u then 2 else k x)(hX:∀a b,X' a b↔X a b):DI E s L (P++[u]) K hs k' X' where
 nd:=I.nd
 m2 v:=by
  rw[hk];split
  ·rename_i e;exact iff_of_true rfl (e▸aO _ (.head _))
  ·rename_i e;exact(I.m2 v).trans (td e)
 m1 v:=by
  rw[hk];split
  ·rename_i e;exact iff_of_false (by decide) (e▸hu)
  ·rename_i e;exact(I.m1 v).trans (td e).symm
 m0 v:=by
  rw[hk];split
  ·exact .inr (.inr rfl)
  ·exact I.m0 v
 last:=I.last
 rch:=I.rch
 src a b h:=I.src a b ((hX a b).mp h)
 met a b h:=I.met a b ((hX a b).mp h)
 hd v:=(I.hd v).trans (exists_congr fun a=>and_congr_left' (hX a v).symm)
 hnd:=I.hnd
theorem DI.old(I:DI E s L P K hs k X)(hu:u∈L)(hv:v∈L)(hX:∀a b,X' a b↔X a b∨(a=u/\b=v))(hh:∀x,x∈hs'↔x∈hs∨(x=v/\¬yr L v u))(hn:hs'.Nodup):DI E s L P K hs' k X' where
 nd:=I.nd
 m2:=I.m2
 m1:=I.m1
 m0:=I.m0
 last:=I.last
 rch:=I.rch
 src a b h:=((hX a b).mp h).elim (I.src a b) fun z=>z.1▸hu
 met a b h:=((hX a b).mp h).elim (I.met a b) fun z=>z.2▸hv
 hd x:=(hh x).trans ⟨fun h=>h.elim (fun h=>((I.hd x).mp h).elim fun a h=>⟨a,(hX a x).mpr (.inl h.1),h.2⟩) fun h=>⟨u,(hX u x).mpr (.inr ⟨rfl,h.1⟩),h.1▸h.2⟩,
  fun h=>h.elim fun a h=>((hX a x).mp h.1).elim (fun m=>.inl ((I.hd x).mpr ⟨a,m,h.2⟩)) fun z=>.inr ⟨z.2,z.1▸z.2▸h.2⟩⟩
 hnd:=hn
set_option tactic.hygienic true in
theorem wm{x y:Int}(hv:v∉A++B)(hx:x∈A++B)(hy:y∈A++B):yr (A++v::B) x y↔yr (A++B) x y:=by
 have key:∀z,z∈A++B->(A++v::B).idxOf z=if z∈A then(A++B).idxOf z else(A++B).idxOf z+1:=fun z hz=>by
  refine rA cW (rA cW ?_)
  by_cases q:z∈A
  ·exact rA (if_pos q) (rA (if_pos q) (rA (if_pos q) rfl))
  ·have hne:v≠z:=fun w=>hv (w▸hz);refine rA (if_neg q) (rA (if_neg q) (rA (if_neg q) (rA List.idxOf_cons (rA (show(v==z)=false from by simpa using hne) ?_))));simp;exact ao (L2 (Gn (Pn M0 N1) (Pn (Pn N0 N1) (Kn 1))) rfl) (L2 (Gn (Pn (Pn N0 N1) (Kn 1)) (Pn M0 N1)) rfl)
 have lt:∀z,z∈A->(A++B).idxOf z<A.length:=fun z q=>by refine rA cW (rA (if_pos q) ?_);exact sC q
 have ge:∀z,z∉A->A.length<=(A++B).idxOf z:=fun z q=>by refine rA cW (rA (if_neg q) ?_);exact dU _ _
 unfold yr;refine rA (key x hx) (rA (key y hy) ?_)
 by_cases p:x∈A <;> by_cases q:y∈A
 ·rw[if_pos p,if_pos q]
 ·refine rA (if_pos p) (rA (if_neg q) ?_);have:=lt x p;have:=ge y q;(rename_i FW;exact⟨fun z'=>L3 (Ra M0 N1 (Ra N1 N2 (Gn M0 N2))) rfl FW this,fun z'=>L2 (Ra M0 N1 (Gn M0 M1)) rfl z'⟩)
 ·refine rA (if_neg p) (rA (if_pos q) ?_);have:=lt y q;have:=ge x p;(rename_i FW;exact⟨fun z'=>L2 (Ra (Pn M0 (Kn 1)) N1 (Gn M0 N1)) rfl z',fun z'=>L3 (Ra M0 N1 (Ra N1 N2 (Ra M2 N0 (Ra M2 N0 (Gn (Pn M2 (Kn 1)) N0))))) rfl FW this z' z'⟩)
 ·refine rA (if_neg p) (rA (if_neg q) ?_);exact⟨fun z'=>L2 (Ra (Pn M0 (Kn 1)) M1 (Gn M0 N1)) rfl z',fun z'=>L2 (Ra M0 N1 (Gn (Pn M0 (Kn 1)) M1)) rfl z'⟩
theorem CU(hA:v∉A)(hB:u∉A)(hn:v≠u):yr (A++v::B) v u:=by
 unfold yr;refine rA cW (rA (if_neg hA) (rA cW (rA (if_neg hB) (rA List.idxOf_cons_self (rA List.idxOf_cons (rA (beq_false_of_ne hn) ?_))))));exact mO (jL _) _
set_option tactic.hygienic true in
theorem DI.new(I:DI E s (A++u::B) P K hs k X)(hv:v∉A++u::B)(hP:v∉P)(hA:u∉A)(he:v∈E u)(hk:∀x,k' x=if x=v then 1 else k x)(hX:∀a b,X' a b↔X a b∨(a=u/\b=v)):DI E s (A++v::u::B) P (K++[v]) hs k' X' where
 nd:=List.perm_middle.nodup_iff.mpr (ba.mpr ⟨hv,I.nd⟩)
 m2 x:=by
  rw[hk];split
  ·rename_i e;exact iff_of_false (by decide) (e▸hP)
  ·exact I.m2 x
 m1 x:=by
  rw[hk];split
  ·rename_i e;exact iff_of_true rfl (e▸aO _ (.head _))
  ·rename_i e;exact(I.m1 x).trans (td e)
 m0 x:=by
  rw[hk];split
  ·exact .inr (.inl rfl)
  ·exact I.m0 x
 last:=by have:=I.last;rw[List.getLast?_append]at this ⊢;refine rA List.getLast?_cons_cons ?_;exact this
 rch x h:=(aA.mp (List.perm_middle.mem_iff.mp h)).elim (fun e=>.inr (e▸(I.rch u (aO _ (.head _))).elim (fun z=>.one (z▸he)) fun z=>z.snoc he)) (I.rch x)
 src a b h:=List.perm_middle.mem_iff.mpr (((hX a b).mp h).elim (fun h=>.tail _ (I.src a b h)) fun z=>z.1▸.tail _ (aO _ (.head _)))
 met a b h:=List.perm_middle.mem_iff.mpr (((hX a b).mp h).elim (fun h=>.tail _ (I.met a b h)) fun z=>z.2▸.head _)
 hd x:=(I.hd x).trans ⟨fun h=>h.elim fun a h=>⟨a,(hX a x).mpr (.inl h.1),fun n=>h.2 ((wm hv (I.met a x h.1) (I.src a x h.1)).mp n)⟩,
  fun h=>h.elim fun a h=>((hX a x).mp h.1).elim (fun m=>⟨a,m,fun n=>h.2 ((wm hv (I.met a x m) (I.src a x m)).mpr n)⟩) fun z=>absurd (by refine rA z.1 (rA z.2 ?_);exact CU (fun m=>hv (aC _ m)) hA fun e=>hv (e▸aO _ (.head _))) h.2⟩
 hnd:=I.hnd
end
theorem ug{α:Type}{w0:List α}{p q:α}(h:q∈w0++[p]):q∈w0∨q=p:=(ak.mp h).imp id ag.mp
set_option tactic.hygienic true in
theorem fK{l:List Int}{a x:Int}:x∈cO l a↔x∈l∨x=a:=by
 unfold cO;split
 ·rename_i m;exact⟨.inl,fun h=>h.elim id fun z=>z▸m⟩
 ·rw[ak,ag]
set_option tactic.hygienic true in
theorem pR.step{E:Int->List Int}{s:Int}{d:DS}{w0:List (Int×List Int)}{u:Int}{l:List Int}(I:pR E s d)(hw:d.way=w0++[(u,l)]):pR E s (fO E d w0 u l):=by
 have pre:=I.pre;have hL:d.line=d.post++u::(w0.map (·.1)).reverse:=by unfold DS.line;refine rA hw (rA ai (rA jo ?_));rfl
 have J:DI E s (d.post++u::(w0.map (·.1)).reverse) d.post (w0.map (·.1)++[u]) d.heads (fD d.marks) (yl E d.post (w0++[(u,l)])):=by
  have:=I.i;rw[hL,hw,ai]at this;exact this
 rw[hw]at pre;clear I hL hw;have nd:=cB.mp J.nd;have hup:u∉d.post:=fun m=>nd.2.2 u m u (.head _) rfl;have uL:u∈d.post++u::(w0.map (·.1)).reverse:=aO _ (.head _);refine ex (pre u l (aO _ (.head _))) fun c hc=>?_;cases l with
 |nil=>
  refine⟨?_,fun a l' h=>pre a l' (aC _ h)⟩;show DI E s (d.post++[u]++(w0.map (·.1)).reverse) (d.post++[u]) (w0.map (·.1)) d.heads (fD (l8 d.marks u 2)) (yl E (d.post++[u]) w0);rw[fT];refine J.leave (fun m=>(ba.mp nd.2.1).1 (List.mem_reverse.mpr m)) (fun x=>qv) fun a b=>zD.trans (.trans ?_ lx.symm);unfold Xe;rw[cG,Nat.sub_zero,cz]
 |cons v r=>
  have hvE:v∈E u:=by refine rA hc ?_;exact aO _ (.head _)
  have hc2:E u=(c++[v])++r:=by rw[hc,fT];rfl
  have ex:∀a b,yl E d.post (w0++[(u,r)]) a b↔yl E d.post (w0++[(u,v::r)]) a b∨(a=u/\b=v):=fun a b=>by
   rw[lx,lx,or_assoc,←and_or_left];refine or_congr .rfl (and_congr_right fun e=>?_);rw[e,AG hc,AG hc2,ak,ag]
  have pre':∀a l',(a,l')∈w0++[(u,r)]->∃c,E a=c++l':=fun a l' h=>(ug h).elim (fun h=>pre a l' (aC _ h)) fun h=>by
   refine ea (lY h) fun e1 e2=>?_;refine rA e1 (rA e2 ?_);exact⟨_,hc2⟩
  have line:∀m h,(⟨m,d.post,h,w0++[(u,r)]⟩:DS).line=d.post++u::(w0.map (·.1)).reverse:=fun m h=>by unfold DS.line;refine rA ai (rA jo ?_);rfl
  have keys:∀r:List Int,(w0++[(u,r)]).map (·.1)=w0.map (·.1)++[u]:=fun r=>ai;show pR E s (if _ then _ else _);split
  ·rename_i q;refine⟨?_,pre'⟩;rw[line];have hvK:=(J.m1 v).mp q;have hvp:v∉d.post:=fun m=>by rw[(J.m2 v).mpr m]at q;cases q
   refine keys r▸J.old uL (aO _ ((ak.mp hvK).elim (fun m=>.tail _ (List.mem_reverse.mpr m)) fun m=>ag.mp m▸.head _)) ex (fun x=>fK.trans (or_congr .rfl (iff_self_and.mpr fun zz h=>?_))) (lS J.hnd);unfold yr at h;rw[cW,if_neg hvp,cW,if_neg hup,List.idxOf_cons_self,Nat.zero_add]at h;exact lc (dU _ _) h
  ·rename_i q1;split
   ·rename_i q0;have hvP:v∉d.post:=fun m=>by rw[(J.m2 v).mpr m]at q0;cases q0
    have hvK:v∉w0.map (·.1)++[u]:=fun m=>by rw[(J.m1 v).mpr m]at q0;cases q0
    refine⟨?_,fun a l' h=>(ug h).elim (pre' a l') fun h=>?_⟩
    ·have e:(⟨l8 d.marks v 1,d.post,d.heads,w0++[(u,r)]++[(v,E v)]⟩:DS).line=d.post++v::u::(w0.map (·.1)).reverse:=by unfold DS.line;refine rA ai (rA jo (rA ai (rA jo ?_)));rfl
     refine rA e ?_;show DI E s _ d.post ((w0++[(u,r)]++[(v,E v)]).map (·.1)) d.heads (fD (l8 d.marks v 1)) (yl E d.post _);rw[ai,keys];refine J.new (fun m=>(ak.mp m).elim hvP fun m=>hvK ((aA.mp m).elim (fun e=>e▸aO _ (.head _)) fun m=>aC _ (List.mem_reverse.mp m))) hvP hup hvE (fun x=>qv) fun a b=>lx.trans ((or_iff_left fun z=>?_).trans (ex a b));refine ea z fun e h=>?_;unfold Xe at h;rw[e,Nat.sub_self]at h;cases h
    ·refine ea (lY h) fun e1 e2=>?_;refine rA e1 (rA e2 ?_);exact⟨[],rfl⟩
   ·rename_i q0;have hvp:=(J.m2 v).mp (((J.m0 v).resolve_left q0).resolve_left q1);refine⟨?_,pre'⟩;rw[line];refine keys r▸J.old uL (aC _ hvp) ex (fun x=>⟨.inl,fun h=>h.elim id fun h=>absurd ?_ h.2⟩) J.hnd;unfold yr;refine rA cW (rA (if_pos hvp) (rA cW (rA (if_neg hup) ?_)));exact be (sC hvp) (dU _ _)
noncomputable def us(E:Int->List Int)(ms:List (Int×Int))(l:List Int):Nat:=(l.map fun s=>if fD ms s=0 then 2+(E s).length else 0).sum
theorem v5{E:Int->List Int}{ms:List (Int×Int)}{x v:Int}(hv:v≠0):∀{l:List Int},us E (l8 ms x v) l+(if x∈l/\fD ms x=0 then 2+(E x).length else 0)<=us E ms l
 |[]=>by simp[us]
 |s::l=>by
  have ih:=v5 hv (E:=E) (ms:=ms) (x:=x) (l:=l);have e1:us E (l8 ms x v) (s::l)=(if fD (l8 ms x v) s=0 then 2+(E s).length else 0)+us E (l8 ms x v) l:=rfl;have e2:us E ms (s::l)=(if fD ms s=0 then 2+(E s).length else 0)+us E ms l:=rfl;refine rA e1 (rA e2 (rA qv ?_))
  by_cases q:s=x
  ·subst q;refine rA (if_pos rfl) (rA (if_neg hv) ?_)
   by_cases z:fD ms s=0
   ·refine rA (if_pos z) (rA (if_pos ⟨.head _,z⟩) ?_);exact L4 (Ra (Pn N0 N1) N2 (Gn (Pn (Pn (Kn 0) N0) (Pn (Kn 2) N3)) (Pn (Pn (Kn 2) N3) N2))) rfl ih
   ·refine rA (if_neg z) (rA (if_neg (fun h=>z h.2)) ?_);exact L3 (Ra (Pn N0 N1) N2 (Gn (Pn (Pn (Kn 0) N0) (Kn 0)) (Pn (Kn 0) N2))) rfl ih
  ·refine rA (if_neg q) ?_;have:(x∈s::l/\fD ms x=0)↔(x∈l/\fD ms x=0):=by
    constructor
    ·refine fun FW=>ea FW fun h1 h2=>?_;exact⟨(aA.mp h1).resolve_left (fun z=>q z.symm),h2⟩
    ·refine fun FY=>ea FY fun h1 h2=>?_;exact⟨.tail _ h1,h2⟩
   simp only[this];exact L4 (Ra (Pn N0 N1) N2 (Gn (Pn (Pn N3 N0) N1) (Pn N3 N2))) rfl ih
set_option tactic.hygienic true in
theorem CB{E:Int->List Int}{ms:List (Int×Int)}{m:Nat}:∀{l:List Int},(∀s∈l,(E s).length<=m)->us E ms l<=l.length*(2+m)
 |[],_=>by simp[us]
 |s::l,h=>by
  have ih:=CB (ms:=ms) fun s hs=>h s (.tail _ hs);have e2:us E ms (s::l)=(if fD ms s=0 then 2+(E s).length else 0)+us E ms l:=rfl;have:=h s (.head _);rw[e2,aF,Nat.add_mul];split
  ·(rename_i FW;exact L4 (Ra N0 N1 (Ra N2 N3 (Gn (Pn (Pn (Kn 2) N2) N0) (Pn N1 (Tn 1 (Pn (Kn 2) N3)))))) rfl ih this)
  ·exact L3 (Ra N0 N1 (Gn (Pn (Kn 0) N0) (Pn N1 (Tn 1 (Pn (Kn 2) N2))))) rfl ih
noncomputable def qZ(w:List (Int×List Int)):Nat:=(w.map fun p=>1+p.2.length).sum
theorem lD{a b:List (Int×List Int)}:qZ (a++b)=qZ a+qZ b:=by unfold qZ;exact rA ai (rA eD rfl)
theorem uK:∀{w:List (Int×List Int)},w.length<=qZ w
 |[]=>aH _
 |p::w=>by have:=uK (w:=w);have e:qZ (p::w)=(1+p.2.length)+qZ w:=rfl;refine rA e (rA aF ?_);exact L3 (Ra N0 N1 (Gn M0 (Pn (Pn (Kn 1) N2) N1))) rfl this
noncomputable def uP(E:Int->List Int)(d:DS)(l:List Int):Nat:=qZ d.way+us E d.marks l
theorem BP{E:Int->List Int}{d:DS}{w0:List (Int×List Int)}{u:Int}{l nl:List Int}(hw:d.way=w0++[(u,l)])(hl:∀v∈l,v∈nl):uP E (fO E d w0 u l) nl<uP E d nl /\
  (fO E d w0 u l).post.length+uP E (fO E d w0 u l) nl<=d.post.length+uP E d nl/\(fO E d w0 u l).heads.length+uP E (fO E d w0 u l) nl<=d.heads.length+uP E d nl/\(fO E d w0 u l).marks.length+uP E (fO E d w0 u l) nl<=d.marks.length+uP E d nl:=by
 have one:∀(a:Int) (b:List Int),qZ [(a,b)]=1+b.length:=fun a b=>by simp[qZ]
 cases l with
 |nil=>
  have h1:=v5 (E:=E) (ms:=d.marks) (x:=u) (v:=2) (l:=nl) (by decide);have h2:=uj (ms:=d.marks) (x:=u) (v:=2);unfold uP;rw[hw,lD,one];simp only[fO,az,aF,cG];exact⟨L4 (Ra (Pn N0 N1) N2 (Gn (Pn (Pn N3 N0) (Kn 1)) (Pn (Pn N3 (Pn (Kn 1) (Kn 0))) N2))) rfl h1,⟨L5 (Ra (Pn N0 N1) N2 (Gn (Pn (Pn N3 (Pn (Kn 0) (Kn 1))) (Pn (Xn 4) N0)) (Pn N3 (Pn (Pn (Xn 4) (Pn (Kn 1) (Kn 0))) N2)))) rfl h1,⟨L5 (Ra (Pn N0 N1) N2 (Gn (Pn N3 (Pn (Xn 4) N0)) (Pn N3 (Pn (Pn (Xn 4) (Pn (Kn 1) (Kn 0))) N2)))) rfl h1,L6 (Ra (Pn N0 N1) N2 (Ra N3 (Pn (Xn 4) (Kn 1)) (Gn (Pn N3 (Pn (Xn 5) N0)) (Pn (Xn 4) (Pn (Pn (Xn 5) (Pn (Kn 1) (Kn 0))) N2))))) rfl h1 h2⟩⟩⟩
 |cons v r=>
  have hv:=hl v (.head _);have h3:=fM d.heads v;unfold uP;rw[hw,lD,one];unfold fO;dsimp only
  by_cases q1:fD d.marks v=1
  ·refine rA (if_pos q1) ?_;simp only[lD,one,aF];exact⟨L3 (Gn (Pn (Pn (Pn N0 (Pn (Kn 1) N1)) N2) (Kn 1)) (Pn (Pn N0 (Pn (Kn 1) M1)) N2)) rfl,⟨L4 (Gn (Pn N0 (Pn (Pn N1 (Pn (Kn 1) N2)) N3)) (Pn N0 (Pn (Pn N1 (Pn (Kn 1) M2)) N3))) rfl,⟨L5 (Ra N0 M1 (Gn (Pn N0 (Pn (Pn N2 (Pn (Kn 1) N3)) (Xn 4))) (Pn N1 (Pn (Pn N2 (Pn (Kn 1) (Pn N3 (Kn 1)))) (Xn 4))))) rfl h3,L4 (Gn (Pn N0 (Pn (Pn N1 (Pn (Kn 1) N2)) N3)) (Pn N0 (Pn (Pn N1 (Pn (Kn 1) M2)) N3))) rfl⟩⟩⟩
  ·by_cases q0:fD d.marks v=0
   ·refine rA (if_neg q1) (rA (if_pos q0) ?_);have h1:=v5 (E:=E) (ms:=d.marks) (x:=v) (v:=1) (l:=nl) (by decide);rw[if_pos ⟨hv,q0⟩]at h1;have h2:=uj (ms:=d.marks) (x:=v) (v:=1);simp only[lD,one,aF];exact⟨L5 (Ra (Pn N0 (Pn (Kn 2) N1)) N2 (Gn (Pn (Pn (Pn (Pn N3 (Pn (Kn 1) (Xn 4))) (Pn (Kn 1) N1)) N0) (Kn 1)) (Pn (Pn N3 (Pn (Kn 1) (Pn (Xn 4) (Kn 1)))) N2))) rfl h1,⟨L6 (Ra (Pn N0 (Pn (Kn 2) N1)) N2 (Gn (Pn N3 (Pn (Pn (Pn (Xn 4) (Pn (Kn 1) (Xn 5))) (Pn (Kn 1) N1)) N0)) (Pn N3 (Pn (Pn (Xn 4) (Pn (Kn 1) (Pn (Xn 5) (Kn 1)))) N2)))) rfl h1,⟨L6 (Ra (Pn N0 (Pn (Kn 2) N1)) N2 (Gn (Pn N3 (Pn (Pn (Pn (Xn 4) (Pn (Kn 1) (Xn 5))) (Pn (Kn 1) N1)) N0)) (Pn N3 (Pn (Pn (Xn 4) (Pn (Kn 1) (Pn (Xn 5) (Kn 1)))) N2)))) rfl h1,L7 (Ra (Pn N0 (Pn (Kn 2) N1)) N2 (Ra N3 (Pn (Xn 4) (Kn 1)) (Gn (Pn N3 (Pn (Pn (Pn (Xn 5) (Pn (Kn 1) (Xn 6))) (Pn (Kn 1) N1)) N0)) (Pn (Xn 4) (Pn (Pn (Xn 5) (Pn (Kn 1) (Pn (Xn 6) (Kn 1)))) N2))))) rfl h1 h2⟩⟩⟩
   ·refine rA (if_neg q1) (rA (if_neg q0) ?_);simp only[lD,one,aF];exact⟨L3 (Gn (Pn (Pn (Pn N0 (Pn (Kn 1) N1)) N2) (Kn 1)) (Pn (Pn N0 (Pn (Kn 1) M1)) N2)) rfl,⟨L4 (Gn (Pn N0 (Pn (Pn N1 (Pn (Kn 1) N2)) N3)) (Pn N0 (Pn (Pn N1 (Pn (Kn 1) M2)) N3))) rfl,⟨L4 (Gn (Pn N0 (Pn (Pn N1 (Pn (Kn 1) N2)) N3)) (Pn N0 (Pn (Pn N1 (Pn (Kn 1) M2)) N3))) rfl,L4 (Gn (Pn N0 (Pn (Pn N1 (Pn (Kn 1) N2)) N3)) (Pn N0 (Pn (Pn N1 (Pn (Kn 1) M2)) N3))) rfl⟩⟩⟩
noncomputable def sw(E:Int->List Int)(d:DS):DS:=match d.way.reverse with
 |[]=>d
 |p::w=>fO E d w.reverse p.1 p.2
noncomputable def yn(E:Int->List Int):Nat->DS->DS
 |0,d=>d
 |n+1,d=>sw E (yn E n d)
theorem vY{E:Int->List Int}{d:DS}{w0 u l}(h:d.way=w0++[(u,l)]):sw E d=fO E d w0 u l:=by
 unfold sw;refine rA h ?_;simp
theorem qn{E:Int->List Int}{d:DS}{m:Nat}(h:(yn E m d).way=[]):∀j,yn E (m+j) d=yn E m d
 |0=>rfl
 |j+1=>by
  show sw E (yn E (m+j) d)=_;refine rA (qn h j) ?_;unfold sw;refine rA h ?_;rfl
theorem Bt{E:Int->List Int}{d:DS}{m n:Nat}(h1:(yn E m d).way=[])(h2:(yn E n d).way=[]):yn E m d=yn E n d:=by
 rcases Nat.le_total m n with h|h
 ·refine ex (lb h) fun j FW=>?_;subst FW;exact(qn h1 j).symm
 ·refine ex (lb h) fun j FY=>?_;subst FY;exact qn h2 j
noncomputable def ds0(E:Int->List Int)(s:Int):DS:=⟨[(s,1)],[],[],[(s,E s)]⟩
noncomputable def lk(E:Int->List Int)(s:Int)(ds:DS):Prop:=ds.way=[]/\pR E s ds/\∃m,ds=yn E m (ds0 E s)
theorem lk.one{E:Int->List Int}{s:Int}{d e:DS}(h1:lk E s d)(h2:lk E s e):d=e:=by
 refine jc h1 fun a1 zz FW=>?_;clear h1;refine ex FW fun m FY=>?_;clear FW;subst FY;refine jc h2 fun a2 zz FZ=>?_;clear h2;refine ex FZ fun n F7=>?_;clear FZ;subst F7;exact Bt a1 a2
noncomputable def CC(os:List bq)(d:DS):V:=.inst 345 (.adict [("program",c5 os),("post",iV d.post),("heads",.set d.heads),("marks",.dct (zP d.marks)),("way",.lst [])])
theorem pR.init{E:Int->List Int}{s:Int}:pR E s ⟨[(s,1)],[],[],[(s,E s)]⟩:=by
 have hg:∀v,fD [(s,1)] v=if v=s then 1 else 0:=fun v=>qu (ms:=[]) rfl
 have hx:∀u v,¬yl E [] [(s,E s)] u v:=fun u v h=>(lx (W:=[]).mp h).elim (fun h=>h.elim (fun h=>nomatch h.1) fun h=>h.elim fun zz h=>nomatch h.1) fun h=>by
  have:=h.2;unfold Xe at this;rw[h.1,Nat.sub_self]at this;cases this
 refine⟨⟨ba.mpr ⟨cH,.nil⟩,fun v=>?_,fun v=>?_,fun v=>?_,rfl,fun v hv=>.inl (ag.mp hv),fun u v h=>absurd h (hx u v),fun u v h=>absurd h (hx u v),fun v=>iff_of_false cH fun h=>h.elim fun u h=>hx u v h.1,.nil⟩,fun u l h=>?_⟩
 ·show fD [(s,1)] v=2↔v∈[];rw[hg];split
  ·exact iff_of_false (by decide) cH
  ·exact iff_of_false (by decide) cH
 ·show fD [(s,1)] v=1↔v∈[s];rw[hg,ag];split
  ·exact iff_of_true rfl ‹_›
  ·exact iff_of_false (by decide) ‹_›
 ·show fD [(s,1)] v=0∨fD [(s,1)] v=1∨_;rw[hg];split
  ·exact .inr (.inl rfl)
  ·exact .inl rfl
 ·refine ea (lY (ag.mp h)) fun e1 e2=>?_;refine rA e1 (rA e2 ?_);exact⟨[],rfl⟩
section
variable {g:GX}{k:Nat}{X:XP}{Q:VP}{H:HH}{G:GC}
theorem vQ{os:List bq}{s:Int}:(sE os s).length<=2:=by
 unfold sE;split
 ·exact om
 ·simp
set_option tactic.hygienic true in
theorem qC{os:List bq}(N:i8 os){s:Int}:∀t∈sE os s,∃j:Nat,t=j/\j<os.length:=fun t ht=>by
 unfold sE at ht;split at ht
 ·rename_i o ho;exact N.rng _ o ho t ht
 ·cases ht
noncomputable abbrev Ej(H:HH)(os:List bq)(s:Nat)(a:ah)(d:ah)(P:ah)(S:ah)(M:ah)(W:ah):Nat->St->Prop:=fun n σ=>X3 fun(ds:DS) (H':HH) (ws:List V)=>A10 (n=uP (sE os) ds (bW os.length)) (ds.post.length+n<=400) (ds.heads.length+n<=400) (ds.marks.length+n<=401) (Sub H H') (cw H' [W,M,S,P,a,d]) (mE H' ws ds.way) (pR (sE os) s ds) (∃m,ds=yn (sE os) m (ds0 (sE os) s)) (σ=⟨[("self",.ref a)],HL H' [W,M,S,P,a,d] (B4 os P S M W d ds ws)⟩)
theorem tp{os:List bq}{s:Nat}{a d:ah}(ha:H a=none)(hd:H d=none)(hne:a≠d)(hn:os.length<60)(N:i8 os)(hs:s<os.length)
  (h:∀ds,lk (sE os) s ds->Q (CC os ds) H) (hk:70<=k) :
  CT g.gc k (.ref 335) [.ref a,c5 os,.int s] (obj H a d 345 []) (AO Q a) X:=by
 have ho:=ac hs;refine gK (dcs:=[]) rfl (fun zz zz zz zz=>rfl) rfl ?_ (gG hk);have O:=cw.two ha hd hne;refine il (vs:=[.inst 345 (.ref d),.adict []]) O 0 1 rfl rfl rfl rfl rfl ?_;intro P hP
 replace O:=O.push hP
 refine il (vs:=[.lst [],.inst 345 (.ref d),.adict [("program",c5 os)]]) O 1 2 rfl rfl rfl rfl rfl ?_;refine nO fun S hS=>?_
 replace O:=O.push hS
 refine il (vs:=[.set [],.lst [],.inst 345 (.ref d),.adict [("program",c5 os),("post",.ref P)]]) O 2 3 rfl rfl rfl rfl rfl ?_;refine yL (fun M hM=>xl.cons (TE.name rfl (TE.int (xl.nil ⟨[((s:Int),.int 1)],rfl,by simp,aw,?_⟩))));have hM:HL H [S,P,a,d] [.set [],.lst [],.inst 345 (.ref d),.adict [("program",c5 os),("post",.ref P),("heads",.ref S)]] M=none:=hM
 replace O:=O.push hM
 refine rA eU ?_;refine il (vs:=[.dct (zP [((s:Int),1)]),.set [],.lst [],.inst 345 (.ref d),.adict [("program",c5 os),("post",.ref P),("heads",.ref S)]]) O 3 4 rfl rfl rfl rfl rfl ?_;refine aE (gq ho hn (N.tgt _ _ ho) ?_ (dn hk));intro W hW;have e1:sE os s=dT os s os[s]:=by unfold sE;rw[bw,ho]
 replace O:=O.push hW
 refine il (vs:=[.lst [.tup [.int s,iV (dT os s os[s])]],.dct (zP [((s:Int),1)]),.set [],.lst [],.inst 345 (.ref d),.adict [("program",c5 os),("post",.ref P),("heads",.ref S),("marks",.ref M)]]) O 4 5 rfl rfl rfl rfl rfl ?_;have nl:∀v:Int,(∃j:Nat,v=j/\j<os.length)->v∈bW os.length:=fun v z'=>by refine bx z' fun j e hj=>?_;exact aJ.mpr ⟨j,bZ.mpr hj,e.symm⟩
 have r0:uP (sE os) ⟨[((s:Int),1)],[],[],[((s:Int),sE os s)]⟩ (bW os.length)<=400:=by
  have h1:=CB (E:=sE os) (ms:=[((s:Int),1)]) (m:=2) (l:=bW os.length) fun zz zz=>vQ;have h2:(bW os.length).length=os.length:=by simp[bW]
  have h3:=vQ (os:=os) (s:=s);unfold uP qZ;simp only[aB,gw,cn,List.sum_nil];rw[h2,Nat.mul_comm]at h1;have h1:us (sE os) [((s:Int),1)] (bW os.length)<=4*os.length:=h1
  lia
 refine⟨Ej H os s a d P S M W,_,⟨_,?w,⟨[((s:Int),1)],[],[],[((s:Int),sE os s)]⟩,H,_,rfl,by simpa using r0,by simpa using r0,by simp;exact L1 (Ra N0 (Kn 400) (Gn (Pn (Kn 1) N0) (Kn 401))) rfl r0,.refl,O,.snoc .nil (.inl (by exact rA e1 rfl)),pR.init,⟨0,rfl⟩,rfl⟩,?_⟩
 case w=>exact ci 1
 rintro n σ ⟨ds,H',ws,rfl,b1,b2,b3,hs',O',hw,I,⟨mm,hmm⟩,rfl⟩;refine lW fun R3 hR3=>?_;have hwl:=hw.len;have hwm:=uK (w:=ds.way);have hwr:ds.way.length<=uP (sE os) ds (bW os.length):=by unfold uP;exact L3 (Ra N0 N1 (Gn N0 (Pn N1 N2))) rfl hwm
 refine dy O' 4 5 rfl rfl rfl rfl rfl rfl ?_;refine BT.list (O'.con 0 rfl rfl) (by exact L4 (Ra (Pn N0 N1) (Kn 400) (Rb N2 N3 (Ra N3 N1 (Gn M2 (Kn 1000000))))) rfl b1 hwl hwr) ?_;refine dY (fun q=>?_) (fun q=>?_)
 ·obtain⟨w0,p,hp⟩:∃w0 p,ds.way=w0++[p]:=by
   rcases me ds.way with z|⟨w,x,z⟩
   ·rw[z]at hwl;have:ws=[]:=cP.mp hwl;subst this;exact nB q
   ·exact⟨w,x,by exact rA z (rA md rfl)⟩
  obtain⟨u,l⟩:=p;rw[hp]at hw hwr;have hlen:(w0++[(u,l)]).length=w0.length+1:=by simp
  refine ex (I.pre u l (by refine rA hp ?_;simp)) fun c hc=>?_;have hrl:∀v∈l,∃j:Nat,v=j/\j<os.length:=fun v hv=>qC N v (by refine rA hc ?_;exact aO _ hv);have hll:l.length<=2:=by
   have:=vQ (os:=os) (s:=u);rw[hc,az]at this;exact oq43 this
  refine Bi (BP (E:=sE os) (nl:=bW os.length) hp fun v hv=>nl v (hrl v hv)) fun m0 m1 m2 m3=>?_;refine⟨.ref 342,pS O' 4 5 rfl rfl rfl rfl rfl rfl,rfl,?_⟩;refine aE (BU hn N O' hw hrl hll (by exact L4 (Ra (Pn N0 N1) (Kn 400) (Ra N2 N1 (Rc N2 (Pn N3 (Kn 1)) (Gn (Pn N3 (Kn 1)) (Kn 1000))))) rfl b1 hwr hlen) (by exact L2 (Ra (Pn N0 N1) (Kn 400) (Gn M0 (Kn 1000))) rfl b1) (by exact L2 (Ra (Pn N0 N1) (Kn 400) (Gn M0 (Kn 1000))) rfl b2) (by exact L2 (Ra (Pn N0 N1) (Kn 401) (Gn M0 (Kn 1000))) rfl b3) (fun H2 ws2 s2 O2 w2=>?_) (dn hk));refine hR3 _ _ ⟨uP (sE os) (fO (sE os) ds w0 u l) (bW os.length),_,m0,?_,fO (sE os) ds w0 u l,H2,ws2,rfl,by exact xS m1 b1,by exact xS m2 b2,by exact xS m3 b3,hs'.trans s2,O2,w2,I.step hp,⟨mm+1,by show _=sw _ (yn _ mm _);exact rB hmm (rA (vY hp) rfl)⟩,rfl⟩;exact ci 1
 ·have hws:ws=[]:=by cases ws with
   |nil=>rfl
   |cons a b=>exact nB q.symm
  subst hws;have hway:ds.way=[]:=cP.mp hwl.symm;refine⟨_,.refl,rfl,_,H,hs'.trans (cw.sub O'.fr O'.nd),?_,h ds ⟨hway,I,mm,hmm⟩⟩;have fr:∀b∈[W,M,S,P,a,d],H b=none:=fun b hb=>by
   cases e:H b with
   |none=>rfl
   |some v=>have:=hs' b v e;rw[O'.fr b hb]at this;exact nS this
  have rf:∀(i:Nat) {b:ah}{v w:V},[W,M,S,P,a,d][i]?=some b->(B4 os P S M W d ds [])[i]?=some v->gZ (HL H' [W,M,S,P,a,d] (B4 os P S M W d ds [])) H (.v v w)->w.isObj=true->gZ (HL H' [W,M,S,P,a,d] (B4 os P S M W d ds [])) H (.v (.ref b) w):=fun i b v w h1 h2 h3 h4=>
   .ref (O'.get i h1 h2) (fr b (aS h1)) h3 h4
  exact rf 4 rfl rfl (.inst (rf 5 rfl rfl (.adict (.skcons (.same _) (.skcons (rf 3 rfl rfl (.same _) rfl) (.skcons (rf 2 rfl rfl (.same _) rfl) (.skcons (rf 1 rfl rfl (.same _) rfl) (.skcons (rf 0 rfl rfl (.same _) rfl) .sknil)))))) rfl)) rfl
theorem wX{os:List bq}{s:Nat}(hn:os.length<60)(N:i8 os)(hs:s<os.length)(h:∀ds,lk (sE os) s ds->Q (CC os ds) H)(hk:80<=k):CT g.gc k (.ref 345) [c5 os,.int s] H Q X :=
 Bz (fI:=335) rfl (fun a d ha hd hne=>tp ha hd hne hn N hs h (dn hk)) (gG hk)
theorem rN{os:List bq}{s:Nat}(hn:os.length<60)(N:i8 os)(hs:s<os.length)(h:∀ds,lk (sE os) s ds->Q (iV ds.post) H)(hk:90<=k):CT g.gc k (.ref 356) [c5 os,.int s] H Q X:=by
 refine gK (dcs:=[]) rfl (fun zz zz zz=>rfl) rfl ?_ (gG hk);exact aE (wX hn N hs (fun ds h1=>dO (h ds h1)) (dn hk))
end
set_option tactic.hygienic true in
theorem hZ{l m:List Int}(h:l.Nodup)(hs:∀x∈l,x∈m):l.length<=m.length:=by
 induction l generalizing m with
 |nil=>exact aH _
 |cons x l ih=>
  have hn:=ba.mp h;have hx:=hs x (.head _);have:=ih (m:=m.erase x) hn.2 fun y hy=>(List.mem_erase_of_ne (fun z=>hn.1 (by refine rB z ?_;exact hy))).mpr (hs y (.tail _ hy));rw[List.length_erase_of_mem hx]at this;have:0<m.length:=List.length_pos_of_mem hx;simp only[aF];(rename_i FW;exact L3 (Ra N0 N1 (Rb M1 N2 (Gn M0 N2))) rfl FW (iE (L1 (Ra (Pn (Kn 0) (Kn 1)) N0 (Gn (Kn 1) N0)) rfl this)))
theorem gP(n:Nat):(bW n).length=n:=by simp[bW]
theorem dj{n:Nat}{x:Int}:x∈bW n↔∃j:Nat,x=j/\j<n:=by
 unfold bW;rw[aJ];exact⟨fun z'=>by refine bx z' fun j h e=>?_;exact⟨j,e.symm,bZ.mp h⟩,fun z'=>by refine bx z' fun j e h=>?_;exact⟨j,bZ.mpr h,e.symm⟩⟩
theorem pR.heads_rng{os:List bq}{s:Int}{ds:DS}(N:i8 os)(I:pR (sE os) s ds):∀v∈ds.heads,v∈bW os.length:=fun v hv=>by
 refine bx ((I.i.hd v).mp hv) fun u h1 zz=>?_;refine dj.mpr ?_;exact qC N v (h1.elim (·.2) fun z=>z.elim fun zz z=>List.mem_of_mem_take z.2)
noncomputable def hU(os:List bq)(acc:List Int)(p:bq×Nat):List Int :=
 let acc1:=if cI p.1||bN p.1 then cO acc (tg os p.2 p.1:Int)else acc
 if(cI p.1||(bN p.1||dZ p.1))&&decide ((p.2:Int)+1<os.length)then cO acc1 ((p.2:Int)+1)else acc1
noncomputable def bR(os:List bq)(i:Nat):List Int:=(os.zipIdx.take i).foldl (hU os) ((ay os).foldl cO [])
theorem jC{os:List bq}{i:Nat}{o:bq}(h:os[i]?=some o):bR os (i+1)=hU os (bR os i) (o,i):=by
 unfold bR;refine rA aT (rA (tv h) (rA dh ?_));rfl
theorem Ax{l:List Int}:∀{acc:List Int},acc.Nodup->(l.foldl cO acc).Nodup:=by
 induction l with
 |nil=>intro acc h;exact h
 |cons a l ih=>intro acc h;exact ih (lS h)
theorem oj{l:List Int}:∀{acc:List Int}{a:Int},a∈l.foldl cO acc↔a∈acc∨a∈l:=by
 induction l with
 |nil=>intro acc a;simp
 |cons b l ih=>intro acc a;rw[fE,ih,fK,aA];exact⟨fun h=>h.elim (fun h=>h.elim .inl fun z=>.inr (.inl z)) fun z=>.inr (.inr z),fun h=>h.elim (fun z=>.inl (.inl z)) fun h=>h.elim (fun z=>.inl (.inr z)) .inr⟩
set_option tactic.hygienic true in
theorem nP{os:List bq}(hs:∀s∈ay os,s∈bW os.length)(ht:∀i o,os[i]?=some o->cI o=true∨bN o=true->tg os i o<os.length):∀{i:Nat},i<=os.length->(bR os i).Nodup/\∀x∈bR os i,x∈bW os.length
 |0,_=>by
  unfold bR;exact⟨Ax (by simp),fun x hx=>(oj.mp hx).elim (fun z=>nomatch z) (hs x)⟩
 |i+1,h=>by
  have ho:=ac (show i<os.length from h);refine ea (nP hs ht (i:=i) (by exact iy h)) fun h1 h2=>?_;refine rA (jC ho) ?_;have a1:(if cI os[i]||bN os[i]then cO (bR os i) (tg os i os[i]:Int)else bR os i).Nodup/\∀x∈(if cI os[i]||bN os[i]then cO (bR os i) (tg os i os[i]:Int)else bR os i),x∈bW os.length:=by
   split
   ·rename_i q;refine⟨lS h1,fun x hx=>(fK.mp hx).elim (h2 x) fun e=>dj.mpr ⟨_,e,ht i _ ho ?_⟩⟩;simpa using q
   ·exact⟨h1,h2⟩
  unfold hU;dsimp only;split
  ·rename_i q;have q:=(aP.mp q).2;refine⟨lS a1.1,fun x hx=>(fK.mp hx).elim (a1.2 x) fun e=>dj.mpr ⟨i+1,by refine rA e ?_;push_cast;rfl,?_⟩⟩;have:=of_decide_eq_true q;exact(jz this)
  ·exact a1
noncomputable def cE(os:List bq):List Int:=eT (bR os os.length)++[(os.length:Int)]
noncomputable def dN(p:Int×Int):V:=.tup [.int p.1,.int p.2]
noncomputable def wn(os:List bq):V:=.lst (((cE os).zip (cE os).tail).map dN)
section
variable {g:GX}{k:Nat}{X:XP}{Q:VP}{H:HH}{G:GC}
noncomputable abbrev yz(os:List bq)(F:ah):List (Str×V):=[("program",c5 os),("found",.ref F)]
noncomputable abbrev Em(H:HH)(os:List bq)(F:ah):List V->St->Prop:=fun r σ=>(r=(ay os).map V.int/\σ=⟨yz os F,upd H F (.lst [])⟩)∨(r=[]/\∃ds H',lk (sE os) (0:Nat) ds/\Sub H H'/\H' F=some (iV (eT ds.heads))/\σ=⟨yz os F,H'⟩)
theorem rM{os:List bq}(hn:os.length<60)(N:i8 os)(hs:ay os=[0])(h0:0<os.length)(h:∀ds,lk (sE os) (0:Nat) ds->Q (iV (eT ds.heads)) H)(hk:90<=k):CT g.gc k (.ref 363) [c5 os] H Q X:=by
 refine gK (dcs:=[]) rfl (fun zz zz=>rfl) rfl ?_ (gG hk);intro F hF;have hF:H F=none:=hF;refine⟨_,.refl,?_⟩;refine⟨Em H os F,.inl ⟨rfl,rfl⟩,?_,?_⟩
 ·rintro σ (⟨h1,-⟩|⟨-,ds,H',hw,hs',hf,rfl⟩)
  ·rw[hs]at h1;exact nL h1
  ·exact⟨iV (eT ds.heads),H,hs',.ref hf hF (.same _) rfl,h ds hw⟩
 ·rintro v r σ (⟨h1,rfl⟩|⟨h1,-⟩)
  ·rw[hs]at h1;refine ea (aV h1) fun FW FY=>?_;subst FW;subst FY;refine⟨_,MT.extend (bv aw),trivial,?_⟩;refine aE (wX (s:=0) hn N h0 (fun ds hw=>?_) (dn hk));have I:=hw.2.1;have hl:=hZ I.i.hnd (I.heads_rng N);rw[gP]at hl;refine jb rfl (by exact pG hl hn) fun D hD=>?_;have hD:upd H F (.lst []) D=none:=hD;refine ea (d4 hD) fun hDF hD0=>?_;refine VT.extend (ys:=(eT ds.heads).map .int) ((bE (Ne.symm hDF)).trans aw) (bv aw) (by rw[ae,fN];simp;exact pG hl hn) ?_;refine⟨⟨yz os F,upd (upd (upd H F (.lst [])) D (.lst ((eT ds.heads).map .int))) F (.lst ([]++(eT ds.heads).map .int))⟩,?_,.inr ⟨rfl,ds,_,hw,?_,aw,rfl⟩⟩
   ·exact ci 2
   ·intro b x e;have h1:b≠F:=fun z=>by rw[z,hF]at e;exact nS e
    have h2:b≠D:=fun z=>by rw[z,hD0]at e;exact nS e
    show upd (upd (upd H F _) D _) F _ b=some x;refine rA (bE h1) (rA (bE h2) (rA (bE h1) ?_));exact e
  ·exact nL h1.symm
noncomputable abbrev yA(os:List bq)(B:ah):List (Str×V):=[("program",c5 os),("begins",.ref B)]
noncomputable abbrev Ek(H:HH)(os:List bq)(B:ah):List V->St->Prop:=fun r σ=>X1 fun(i:Nat)=>A3 (i<=os.length) (r=br i os.length) (σ=⟨yA os B,upd H B (.set (bR os i))⟩)
noncomputable abbrev El(H:HH)(os:List bq)(B:ah)(E:ah)(m:Nat):ah->List V->List V->HH->Prop:=fun D r acc H'=>X1 fun(i:Nat)=>A5 (i<=m) (r=br i m) (acc=(((cE os).zip (cE os).tail).take i).map dN) (H'=HL H [D,E,B] [.lst acc,iV (cE os),.set (bR os os.length)]) (cw H [D,E,B])
theorem ye{os:List bq}(hn:os.length<60)(hs:∀s∈ay os,s∈bW os.length)(hsl:(ay os).length<60)(T:∀i o,os[i]?=some o->cI o=true∨bN o=true->tgt os i o=some (tg os i o))(h:Q (wn os) H)(hk:60<=k):CT g.gc k (.ref 368) [c5 os] H Q X:=by
 have bk:∀{i:Nat},i<=os.length->(bR os i).Nodup/\∀x∈bR os i,x∈bW os.length:=fun hi=>nP hs (fun i o ho hq=>(qV (T i o ho hq)).1) hi;have bl:∀{i:Nat},i<=os.length->(bR os i).length<=os.length:=fun hi=>by
  have:=hZ (bk hi).1 (bk hi).2;rw[gP]at this;exact this
 refine gK (dcs:=[]) rfl (fun zz zz=>rfl) rfl ?_ (gG hk);refine xq (ns:=ay os) rfl (by exact rC hsl) fun B hB=>?_;have hB:H B=none:=hB;refine⟨⟨yA os B,upd H B (.set (bR os 0))⟩,ci 2,?_⟩;refine aE (eR hn ?_ (dn hk));refine ct (by exact vI hn) ?_;refine⟨Ek H os B,⟨0,aH _,rfl,rfl⟩,?_,?_⟩
 ·refine lRf ?_;have hbl:=bl (ax os.length);refine jb (bv aw) (by exact pG hbl hn) fun E hE=>?_;have O:cw H [E,B]:=cw.push (vs:=[.set (bR os os.length)]) (cw.push (vs:=[]) cw.nil hB) hE;refine⟨_,MT.append (bv aw),trivial,?_⟩;refine aE (eR hn ?_ (dn hk));refine VT.append aw (by rw[ae,fN];exact pG hbl hn) ?_;have el:(cE os).length=(bR os os.length).length+1:=by unfold cE;simp[fN]
  have ee:upd (upd (upd H B (.set (bR os os.length))) E (.lst ((eT (bR os os.length)).map .int))) E (.lst ((eT (bR os os.length)).map V.int++[.int os.length]))=HL H [E,B] [iV (cE os),.set (bR os os.length)]:=by
   refine rA eU ?_;unfold cE iV;refine rA ai ?_;rfl
  have ex:(eT (bR os os.length)).map V.int++[.int os.length]=(cE os).map .int:=by unfold cE;refine rA ai ?_;rfl
  refine VT.len (xs:=(eT (bR os os.length)).map V.int++[.int os.length]) (bv aw) (by rw[ex,ae];exact L3 (Ra M0 (Kn 60) (Ra N1 N0 (Rb N2 M1 (Gn M2 (Kn 1000000))))) rfl hn hbl el) ?_;rw[ex,ae];obtain⟨m,hm⟩:∃m,(cE os).length=m+1:=⟨_,el⟩;have em:((cE os).length:Int)-1=(m:Nat):=by exact bi (L2 (Rb N0 M1 (Gz (Mz C0 (Kz 1)) C1)) rfl hm) (L2 (Rc N0 M1 (Gz C1 (Mz C0 (Kz 1)))) rfl hm)
  refine ct (n:=((cE os).length:Int)-1) (by exact AK (L2 (Rc N0 M1 (Gz (Kz 0) (Mz C0 (Kz 1)))) rfl el) (L3 (Ra M0 (Kn 60) (Ra N1 N0 (Rb N2 M1 (Gz (Pz (Mz C2 (Kz 1)) (Kz 1)) (Cz (Kn (2^62))))))) rfl hn hbl el)) ?_;have zl:((cE os).zip (cE os).tail).length=m:=by refine rA List.length_zip (rA List.length_tail (rA hm ?_));exact Nat.min_eq_right (Nat.sub_le _ _)
  rw[ex]at ee;refine⟨El H os B E m,fun D hD=>?_⟩;have hD:upd (upd (upd H B (.set (bR os os.length))) E (.lst ((eT (bR os os.length)).map .int))) E (.lst ((cE os).map V.int)) D=none:=hD;rw[ee]at hD;have O3:=O.push hD;refine⟨⟨0,aH _,by refine rB em ?_;rfl,rfl,?_,O3⟩,?_,?_⟩
  ·show upd (upd (upd (upd H B _) E _) E _) D _=_;refine rA ee ?_;rfl
  ·refine cRf fun O3=>?_;refine rA (fw (by exact jK zl)) ?_;exact ut O3 (O3.rfy 0 rfl rfl (.same _)) h
  ·refine cRs fun i hi O3=>?_;have g1:((cE os).map V.int)[i]?=some (.int ((cE os)[i]'(by exact L3 (Rc N0 M1 (Ra M2 N1 (Gn M2 N0))) rfl hm hi))):=by refine rA ar (rA (ac (by exact L3 (Rc N0 M1 (Ra M2 N1 (Gn M2 N0))) rfl hm hi)) ?_);rfl
   have g2:((cE os).map V.int)[i+1]?=some (.int ((cE os)[i+1]'(by exact L3 (Rc N0 M1 (Ra M2 N1 (Gn (Pn M2 (Kn 1)) N0))) rfl hm hi))):=by refine rA ar (rA (ac (by exact L3 (Rc N0 M1 (Ra M2 N1 (Gn (Pn M2 (Kn 1)) N0))) rfl hm hi)) ?_);rfl
   refine⟨.put .refl rfl,?_⟩;refine bT (j:=i) (O3.con 1 rfl rfl) g1 (by exact L5 (Ra M0 (Kn 60) (Ra N1 N0 (Rb N2 M1 (Rc N2 (Pn N3 (Kn 1)) (Ra (Pn (Xn 4) (Kn 1)) N3 (Gn (Pn (Xn 4) (Kn 1)) (Kn 1000000))))))) rfl hn hbl el hm hi) ?_;refine bT (j:=i+1) (O3.con 1 rfl rfl) g2 (by exact L5 (Ra M0 (Kn 60) (Ra N1 N0 (Rb N2 M1 (Rc N2 (Pn N3 (Kn 1)) (Ra (Pn (Xn 4) (Kn 1)) N3 (Gn (Pn (Pn (Xn 4) (Kn 1)) (Kn 1)) (Kn 1000000))))))) rfl hn hbl el hm hi) ?_;refine⟨.tup [.int ((cE os)[i]'(by exact L3 (Rc N0 M1 (Ra M2 N1 (Gn M2 N0))) rfl hm hi)),.int ((cE os)[i+1]'(by exact L3 (Rc N0 M1 (Ra M2 N1 (Gn (Pn M2 (Kn 1)) N0))) rfl hm hi))],_,.refl,.same _,O3.get 0 rfl rfl,by rw[ae,cT];exact L6 (Ra M0 (Kn 60) (Ra N1 N0 (Rb N2 M1 (Rc N2 (Pn N3 (Kn 1)) (Rb (Xn 4) N3 (Ra (Xn 5) (Xn 4) (Gn (Pn (Xn 5) (Kn 1)) (Kn 1000000)))))))) rfl hn hbl el hm zl (bP _ _),i+1,hi,rfl,?_,HL.set 0 O3.nd rfl rfl,O3⟩;refine rA aT (rA ai ?_)
   congr 1
   have hz:((cE os).zip (cE os).tail)[i]?=some ((cE os)[i]'(by exact L3 (Rc N0 M1 (Ra M2 N1 (Gn M2 N0))) rfl hm hi),(cE os)[i+1]'(by exact L3 (Rc N0 M1 (Ra M2 N1 (Gn (Pn M2 (Kn 1)) N0))) rfl hm hi)):=tA.mpr ⟨ac (by exact L3 (Rc N0 M1 (Ra M2 N1 (Gn M2 N0))) rfl hm hi),by refine rA List.getElem?_tail ?_;exact ac (by exact L3 (Rc N0 M1 (Ra M2 N1 (Gn (Pn M2 (Kn 1)) N0))) rfl hm hi)⟩;refine rA hz ?_
   rfl
 ·refine lRs fun i hi=>?_;obtain⟨o,ho⟩:∃o,os[i]?=some o:=⟨_,ac hi⟩;have hbl:=bl (bn hi);have hsucc:=jC ho;have fin:∀acc,hU os (bR os i) (o,i)=acc->∀{m:List (Str×V)}{HH':HH},m.lookup ("program":Str)=some (c5 os)->m.lookup ("begins":Str)=some (.ref B)->HH'=upd H B (.set acc)->Ds (fun σ=>X1 fun(i':Nat)=>A3 (i'<=os.length) (br ((i+1:Nat):Int) os.length=br i' os.length) (σ=⟨yA os B,upd H B (.set (bR os i'))⟩)) ⟨m,HH'⟩:=fun acc e m HH' m1 m2 eH=>by
   subst eH;exact⟨_,AD (m':=[("program",c5 os),("begins",.ref B)]) ⟨⟨_,m1,.same _⟩,⟨_,m2,.same _⟩,trivial⟩,i+1,hi,rfl,by exact rA hsucc (rA e rfl)⟩
  refine bT (j:=i) rfl (fo ho) (by exact lC hi hn) ?_
  by_cases hj:cI o=true
  ·obtain⟨hb,-⟩:(∀b,(true||b)=true)/\True:=⟨fun b=>rfl,trivial⟩;refine aE (ez ?_ (dn hk));refine rA hj ?_;refine⟨.builtin "set.add",MT.sadd (bv aw),trivial,?_⟩;refine aE (f8 ho hn (T i o ho (.inl hj)) ?_ (dn hk));refine VT.sadd aw (by exact pG hbl hn) ?_;refine aE (ez ?_ (dn hk));refine rA hj ?_;refine aE (eR hn ?_ (dn hk));refine dY (fun z=>?_) (fun z=>?_)
   ·have z:(i:Int)+1<os.length:=of_decide_eq_true z;refine⟨.builtin "set.add",MT.sadd (bv aw),trivial,?_⟩;refine VT.sadd aw (by have:=fM (bR os i) (tg os i o:Int);exact L3 (Ra M0 (Kn 60) (Ra N1 N0 (Ra N2 M1 (Gn M2 (Kn 4000))))) rfl hn hbl this) ?_;exact fin (cO (cO (bR os i) (tg os i o:Int)) ((i:Int)+1)) (by unfold hU;simp[hj,hb,z]) rfl rfl (by show _=_;exact rA eU (rA eU rfl))
   ·have z:¬(i:Int)+1<os.length:=of_decide_eq_false z;exact fin (cO (bR os i) (tg os i o:Int)) (by unfold hU;simp[hj,hb,z]) rfl rfl (by exact rA eU rfl)
  ·have hj:cI o=false:=by simpa using hj
   by_cases hb:bN o=true
   ·refine aE (ez ?_ (dn hk));refine rA hj ?_;refine aE (fg ?_ (dn hk));refine rA hb ?_;refine⟨.builtin "set.add",MT.sadd (bv aw),trivial,?_⟩;refine aE (f8 ho hn (T i o ho (.inr hb)) ?_ (dn hk));refine VT.sadd aw (by exact pG hbl hn) ?_;refine aE (ez ?_ (dn hk));refine rA hj ?_;refine aE (fg ?_ (dn hk));refine rA hb ?_;refine aE (eR hn ?_ (dn hk));refine dY (fun z=>?_) (fun z=>?_)
    ·have z:(i:Int)+1<os.length:=of_decide_eq_true z;refine⟨.builtin "set.add",MT.sadd (bv aw),trivial,?_⟩;refine VT.sadd aw (by have:=fM (bR os i) (tg os i o:Int);exact L3 (Ra M0 (Kn 60) (Ra N1 N0 (Ra N2 M1 (Gn M2 (Kn 4000))))) rfl hn hbl this) ?_;exact fin (cO (cO (bR os i) (tg os i o:Int)) ((i:Int)+1)) (by unfold hU;simp[hj,hb,z]) rfl rfl (by show _=_;exact rA eU (rA eU rfl))
    ·have z:¬(i:Int)+1<os.length:=of_decide_eq_false z;exact fin (cO (bR os i) (tg os i o:Int)) (by unfold hU;simp[hj,hb,z]) rfl rfl (by exact rA eU rfl)
   ·have hb:bN o=false:=by simpa using hb
    refine aE (ez ?_ (dn hk));refine rA hj ?_;refine aE (fg ?_ (dn hk));refine rA hb ?_;refine aE (ez ?_ (dn hk));refine rA hj ?_;refine aE (fg ?_ (dn hk));refine rA hb ?_
    by_cases hx:dZ o=true
    ·refine aE (ji ?_ (dn hk));refine rA hx ?_;refine aE (eR hn ?_ (dn hk));refine dY (fun z=>?_) (fun z=>?_)
     ·have z:(i:Int)+1<os.length:=of_decide_eq_true z;refine⟨.builtin "set.add",MT.sadd (bv aw),trivial,?_⟩;refine VT.sadd aw (by have:=fM (bR os i) (tg os i o:Int);exact pG hbl hn) ?_;exact fin (cO (bR os i) ((i:Int)+1)) (by unfold hU;simp[hj,hb,hx,z]) rfl rfl (by show _=_;exact rA eU rfl)
     ·have z:¬(i:Int)+1<os.length:=of_decide_eq_false z;exact fin (bR os i) (by unfold hU;simp[hj,hb,hx,z]) rfl rfl (by rfl)
    ·have hx:dZ o=false:=by simpa using hx
     refine aE (ji ?_ (dn hk));refine rA hx ?_;exact fin (bR os i) (by unfold hU;simp[hj,hb,hx]) rfl rfl rfl
end
theorem eZ{G:GC}{k:Nat}{X:XP}{Q:VP}{H:HH}{v:V}{xs:List V}{n:Nat}(e:con H v=.lst xs)(hn:xs.length=n)(hl:n<1000000)(h:Q (.int n) H):VT G k (dm (.builtin "len")) [v] H Q X:=by
 subst hn;exact VT.len e hl h
structure tw(H:HH)(p L:ah)(cs:List Int)(t gg:Int):Prop where
 pp:H p=some (.lst [.ref L,.int t,.int gg])
 ll:H L=some (iV cs)
 ne:p≠L
 cs:cs.length<=24
 t0:0<=t
 g0:0<=gg
theorem fH(a:Int){b:Int}(h:0<b):0<=a.fmod b/\a.fmod b<b:=by
 refine rA (ty _ (cZ h)) ?_;exact⟨Int.emod_nonneg _ (by exact wP h),Int.emod_lt_of_pos _ h⟩
theorem Cm{a b:Int}(h:0<b)(ha:0<=a):0<=a.fdiv b:=by
 refine rA (jW _ (cZ h)) ?_;exact Int.ediv_nonneg ha (cZ h)
theorem sZ{r t:Int}(h1:0<=r)(h2:r<2147483549)(h3:0<=t)(h4:t<100000):(r+51907*t+3389).natAbs<2^64:=by
 have h5:0<=51907*t:=mN (by decide) h3;have h6:51907*t<=51907*100000:=rT (cZ h4) (by decide);generalize 51907*t=x at h5 h6 ⊢;exact AK (Lz [] [_,_] (Sa (Kz 0) Z0 (Sa (Kz 0) Z1 (Gz (Kz 0) (Pz (Pz Z0 Z1) (Kz 3389))))) rfl h1 h5) (Lz [] [_,_] (Sa (Pz Z0 (Kz 1)) (Kz 2147483549) (Sa Z1 (Tz 51907 (Kz 100000)) (Gz (Pz (Pz (Pz Z0 Z1) (Kz 3389)) (Kz 1)) (Cz (Kn (2^64)))))) rfl h2 h6)
theorem FP{t:Int}(h3:0<=t)(h4:t<100000):0<=60493*t*t/\60493*t*t<=6049300000*100000:=by
 have h:0<=60493*t:=mN (by decide) h3;exact⟨mN h h3,Int.mul_le_mul (rT (cZ h4) (by decide)) (by exact cZ h4) h3 (by decide)⟩
theorem s7{m t:Int}(h1:0<=m)(h2:m<2147483647)(h3:0<=t)(h4:t<100000):(m*(2*t+1867)+60493*t*t+643).natAbs<2^64:=by
 have a1:0<=m*(2*t+1867):=mN h1 (by exact Lz [] [_] (Sa (Kz 0) Z0 (Sa (Kz 0) Z0 (Gz (Kz 0) (Pz (Tz 2 Z0) (Kz 1867))))) rfl h3 h3);have a2:m*(2*t+1867)<=2147483647*202000:=Int.mul_le_mul (by exact cZ h2) (by exact Lz [] [_] (Sa (Pz Z0 (Kz 1)) (Kz 100000) (Sa (Pz Z0 (Kz 1)) (Kz 100000) (Gz (Pz (Tz 2 Z0) (Kz 1867)) (Kz 202000)))) rfl h4 h4) (by exact Lz [] [_] (Sa (Kz 0) Z0 (Sa (Kz 0) Z0 (Gz (Kz 0) (Pz (Tz 2 Z0) (Kz 1867))))) rfl h3 h3) (by decide);refine ea (FP h3 h4) fun a3 a4=>?_;exact AK (Lz [] [_,_] (Sa (Kz 0) Z0 (Sa (Kz 0) Z1 (Gz (Kz 0) (Pz (Pz Z0 Z1) (Kz 643))))) rfl a1 a3) (Lz [] [_,_] (Sa Z0 (Tz 2147483647 (Kz 202000)) (Sa Z1 (Tz 6049300000 (Kz 100000)) (Gz (Pz (Pz (Pz Z0 Z1) (Kz 643)) (Kz 1)) (Cz (Kn (2^64)))))) rfl a2 a4)
theorem lq{a:Int}(h:a.natAbs<2^64):Builtin.Int.intBits a<=64:=intBits_le_iff.mpr h
theorem FN{cs:List Int}(t:Int)(h:0<cs.length):∃c,cs[(t.fmod (cs.length:Nat)).toNat]?=some c:=by
 have:=fH t (b:=(cs.length:Nat)) (by exact qz h);generalize t.fmod (cs.length:Nat)=m at this;exact⟨_,ac (by exact Lz [_,_] [_] (Sa (Pz Z0 (Kz 1)) C0 (Sb C1 Z0 (Gn M1 N0))) rfl this.2 (aY (Lz [] [_] (Sa (Kz 0) Z0 (Gz (Kz 0) Z0)) rfl this.1)))⟩
theorem Dl{cs:List Int}(t:Int)(h:0<cs.length)(h2:cs.length<=24):t.fmod (cs.length:Nat)<2^62:=by
 have:=fH t (b:=(cs.length:Nat)) (by exact qz h);generalize t.fmod (cs.length:Nat)=m at this;exact Lz [_] [_] (Ra N0 (Kn 24) (Sa (Pz Z0 (Kz 1)) C0 (Gz (Pz Z0 (Kz 1)) (Kz (2^62))))) rfl h2 this.2
section
variable {g:GX}{k:Nat}{X:XP}{Q:VP}{H:HH}{G:GC}
set_option tactic.hygienic true in
theorem lR{p L:ah}{cs:List Int}{t gg many:Int}(P:tw H p L cs t gg)(hm:0<many)(hm2:many<1000)(ht:t<100000)
  (h:∀d t' g',0<=d->d<many->0<=t'->t'<=t+1->0<=g'->Q (.int d) (upd H p (.lst [.ref L,.int t',.int g']))) (hk:10<=k):CT g.gc k (.ref 428) [.ref p,.int many] H Q X:=by
 have t0:=P.t0;have g0:=P.g0;refine gK (dcs:=[]) rfl (fun zz zz zz=>rfl) rfl ?_ (gG hk);refine bT (j:=2) (bv P.pp) rfl (by decide) ?_;refine dY (fun q=>?_) (fun q=>?_)
 ·refine bT (j:=2) (bv P.pp) rfl (by decide) ?_;refine c8 ?_;refine⟨by exact wP hm,?_⟩;refine bT (j:=2) (bv P.pp) rfl (by decide) ?_;refine c8 ?_;refine⟨⟨by exact wP hm,by exact oz6 hm hm2⟩,?_⟩;refine lL (j:=2) P.pp rfl (aq rfl) (by decide) ?_;have e1:=ty gg (show 0<=many by exact cZ hm);have e2:=jW gg (show 0<=many by exact cZ hm);have:=h (gg.fmod many) t (gg.fdiv many) (by refine rA e1 ?_;exact Int.emod_nonneg _ (by exact wP hm)) (by refine rA e1 ?_;exact Int.emod_lt_of_pos _ hm) P.t0 (by exact Lz [] [_] (Gz Z0 (Pz Z0 (Kz 1))) rfl) (by refine rA e2 ?_;exact Int.ediv_nonneg P.g0 (by exact cZ hm));exact dO this
 ·refine bT (j:=1) (bv P.pp) rfl (by decide) ?_;refine lL (j:=1) P.pp rfl (aq rfl) (by decide) ?_;refine⟨.of_left (by decide),?_⟩;have hL1:upd H p (.lst [.ref L,.int (t+1),.int gg]) L=some (iV cs):=(bE (Ne.symm P.ne)).trans P.ll;have hcl:(cs.map V.int).length<1000000:=by have:=P.cs;rw[ae];exact nr this
  refine bT (j:=0) (x:=.ref L) (bv aw) rfl (by decide) ?_;intro B hB0;have hB:upd H p (.lst [.ref L,.int (t+1),.int gg]) B=none:=hB0;clear hB0;have hBL:L≠B:=fun z=>by rw[←z,hL1]at hB;exact nS hB.symm
  have hBp:p≠B:=fun z=>by rw[←z,aw]at hB;exact nS hB.symm
  have hpB:upd (upd H p (.lst [.ref L,.int (t+1),.int gg])) B (.lst []) p=some (.lst [.ref L,.int (t+1),.int gg]):=(bE hBp).trans aw;have hLB:upd (upd H p (.lst [.ref L,.int (t+1),.int gg])) B (.lst []) L=some (iV cs):=(bE hBL).trans hL1;have subB:Sub (upd H p (.lst [.ref L,.int (t+1),.int gg])) (upd (upd H p (.lst [.ref L,.int (t+1),.int gg])) B (.lst [])):=Sub.refl.upd hB;have subG:∀x,Sub (upd H p x) (upd (upd (upd H p (.lst [.ref L,.int (t+1),.int gg])) B (.lst [])) p x):=fun x b y e=>by
   by_cases z:b=p
   ·subst z;rw[aw]at e ⊢;exact e
   ·rw[bE z]at e ⊢;have hB2:H B=none:=(d4 hB).2;have zb:b≠B:=fun w=>by rw[w,hB2]at e;exact nS e
    refine rA (bE zb) (rA (bE z) ?_);exact e
  refine fY (ns:=cs) (ms:=[]) (bv hLB) (bv aw) ?_;refine dY (fun q2=>?_) (fun q2=>?_)
  ·have hcs:0<cs.length:=by cases cs with
    |nil=>exact nB q2
    |cons a l=>simp
   have hcs2:((cs.length:Nat):Int)≠0:=by exact wP (qz hcs)
   refine ex (FN t hcs) fun c hc=>?_;have hc2:(cs.map V.int)[(t.fmod (cs.length:Nat)).toNat]?=some (.int c):=by refine rA ar (rA hc ?_);rfl
   have hc3:=(fH t (b:=(cs.length:Nat)) (by exact qz hcs)).1;have hc4:=Dl t hcs P.cs;refine bT (j:=0) (x:=.ref L) (bv hpB) rfl (by decide) ?_;refine c8 ?_;refine bT (j:=0) (x:=.ref L) (bv hpB) rfl (by decide) ?_;refine eZ (n:=cs.length) (bv hLB) (ae _) (by have:=P.cs;exact nr this) ?_;refine⟨hcs2,?_⟩;refine i9 (x:=.int c) (bv hLB) hc3 hc2 hc4 ?_;refine bT (j:=0) (x:=.ref L) (bv hpB) rfl (by decide) ?_;refine eZ (n:=cs.length) (bv hLB) (ae _) (by have:=P.cs;exact nr this) ?_;refine dY (fun q3=>?_) (fun q3=>?_)
   ·refine sN ?_;refine⟨by decide,?_⟩;refine dY (fun q4=>?_) (fun q4=>?_)
    ·refine sN ?_;refine⟨by decide,?_⟩;have q4:(10:Int)^(18:Int).toNat<=(if c<0 then -(c)else c):=of_decide_eq_true q4;refine c8 ?_;refine⟨⟨by exact wP hm,by exact oz6 hm hm2⟩,?_⟩;refine lL (j:=2) hpB rfl (aq rfl) (by decide) ?_;refine c8 ?_;refine⟨by exact wP hm,?_⟩;exact⟨_,upd H p (.lst [.ref L,.int (t+1),.int (((if c<0 then -(c)else c)-(10:Int)^(18:Int).toNat).fdiv many)]),subG _,.same _,h _ (t+1) _ (fH _ hm).1 (fH _ hm).2 (by have:=P.t0;exact Dy t0) (by exact cJ _) (Cm hm (by(rename_i FW;exact Lz [] [_,_] (Sa Z0 Z1 (Gz (Kz 0) (Mz Z1 Z0))) rfl (of_decide_eq_true FW))))⟩
    ·skip
     have r1:=fH (c) (b:=2147483549) (by decide);refine c8 ?_;refine⟨by decide,?_⟩;refine⟨.of_left (by decide),?_⟩;refine⟨⟨by decide,by decide,sZ r1.1 r1.2 P.t0 ht⟩,?_⟩;refine c8 ?_;have r2:=fH (((c).fmod 2147483549+51907*t+3389)^(5:Int).toNat) (b:=2147483647) (by decide);refine⟨by decide,?_⟩;refine⟨.of_left (by decide),?_⟩;refine⟨.of_left (lq (by exact BG r2.1 r2.2)),?_⟩;refine⟨.of_left (by decide),?_⟩;refine⟨.of_right (lq (by exact BG t0 ht)),?_⟩;refine⟨⟨by decide,by decide,s7 r2.1 r2.2 P.t0 ht⟩,?_⟩;refine c8 ?_;refine⟨by decide,?_⟩;refine⟨by decide,?_⟩;refine c8 ?_;refine⟨by exact wP hm,?_⟩;exact⟨_,upd H p (.lst [.ref L,.int (t+1),.int gg]),subB,.same _,h _ (t+1) gg (fH _ hm).1 (fH _ hm).2 (by exact Dy t0) (by exact cJ _) P.g0⟩
   ·skip
    have r1:=fH (c) (b:=2147483549) (by decide);refine c8 ?_;refine⟨by decide,?_⟩;refine⟨.of_left (by decide),?_⟩;refine⟨⟨by decide,by decide,sZ r1.1 r1.2 P.t0 ht⟩,?_⟩;refine c8 ?_;have r2:=fH (((c).fmod 2147483549+51907*t+3389)^(5:Int).toNat) (b:=2147483647) (by decide);refine⟨by decide,?_⟩;refine⟨.of_left (by decide),?_⟩;refine⟨.of_left (lq (by exact BG r2.1 r2.2)),?_⟩;refine⟨.of_left (by decide),?_⟩;refine⟨.of_right (lq (by exact BG t0 ht)),?_⟩;refine⟨⟨by decide,by decide,s7 r2.1 r2.2 P.t0 ht⟩,?_⟩;refine c8 ?_;refine⟨by decide,?_⟩;refine⟨by decide,?_⟩;refine c8 ?_;refine⟨by exact wP hm,?_⟩;exact⟨_,upd H p (.lst [.ref L,.int (t+1),.int gg]),subB,.same _,h _ (t+1) gg (fH _ hm).1 (fH _ hm).2 (by exact Dy t0) (by exact cJ _) P.g0⟩
  ·skip
   refine bT (j:=0) (x:=.ref L) (bv hpB) rfl (by decide) ?_;refine eZ (n:=cs.length) (bv hLB) (ae _) (by have:=P.cs;exact nr this) ?_;refine dY (fun q3=>?_) (fun q3=>?_)
   ·refine sN ?_;refine⟨by decide,?_⟩;refine dY (fun q4=>?_) (fun q4=>?_)
    ·refine sN ?_;refine⟨by decide,?_⟩;have q4:(10:Int)^(18:Int).toNat<=(if(90023*t+7919)<0 then -((90023*t+7919))else(90023*t+7919)):=of_decide_eq_true q4;refine c8 ?_;refine⟨⟨by exact wP hm,by exact oz6 hm hm2⟩,?_⟩;refine lL (j:=2) hpB rfl (aq rfl) (by decide) ?_;refine c8 ?_;refine⟨by exact wP hm,?_⟩;exact⟨_,upd H p (.lst [.ref L,.int (t+1),.int (((if(90023*t+7919)<0 then -((90023*t+7919))else(90023*t+7919))-(10:Int)^(18:Int).toNat).fdiv many)]),subG _,.same _,h _ (t+1) _ (fH _ hm).1 (fH _ hm).2 (by have:=P.t0;exact Dy t0) (by exact cJ _) (Cm hm (by(rename_i FW;exact Lz [] [_,_] (Sa Z0 Z1 (Gz (Kz 0) (Mz Z1 Z0))) rfl (of_decide_eq_true FW))))⟩
    ·skip
     have r1:=fH ((90023*t+7919)) (b:=2147483549) (by decide);refine c8 ?_;refine⟨by decide,?_⟩;refine⟨.of_left (by decide),?_⟩;refine⟨⟨by decide,by decide,sZ r1.1 r1.2 P.t0 ht⟩,?_⟩;refine c8 ?_;have r2:=fH ((((90023*t+7919)).fmod 2147483549+51907*t+3389)^(5:Int).toNat) (b:=2147483647) (by decide);refine⟨by decide,?_⟩;refine⟨.of_left (by decide),?_⟩;refine⟨.of_left (lq (by exact BG r2.1 r2.2)),?_⟩;refine⟨.of_left (by decide),?_⟩;refine⟨.of_right (lq (by exact BG t0 ht)),?_⟩;refine⟨⟨by decide,by decide,s7 r2.1 r2.2 P.t0 ht⟩,?_⟩;refine c8 ?_;refine⟨by decide,?_⟩;refine⟨by decide,?_⟩;refine c8 ?_;refine⟨by exact wP hm,?_⟩;exact⟨_,upd H p (.lst [.ref L,.int (t+1),.int gg]),subB,.same _,h _ (t+1) gg (fH _ hm).1 (fH _ hm).2 (by exact Dy t0) (by exact cJ _) P.g0⟩
   ·skip
    have r1:=fH ((90023*t+7919)) (b:=2147483549) (by decide);refine c8 ?_;refine⟨by decide,?_⟩;refine⟨.of_left (by decide),?_⟩;refine⟨⟨by decide,by decide,sZ r1.1 r1.2 P.t0 ht⟩,?_⟩;refine c8 ?_;have r2:=fH ((((90023*t+7919)).fmod 2147483549+51907*t+3389)^(5:Int).toNat) (b:=2147483647) (by decide);refine⟨by decide,?_⟩;refine⟨.of_left (by decide),?_⟩;refine⟨.of_left (lq (by exact BG r2.1 r2.2)),?_⟩;refine⟨.of_left (by decide),?_⟩;refine⟨.of_right (lq (by exact BG t0 ht)),?_⟩;refine⟨⟨by decide,by decide,s7 r2.1 r2.2 P.t0 ht⟩,?_⟩;refine c8 ?_;refine⟨by decide,?_⟩;refine⟨by decide,?_⟩;refine c8 ?_;refine⟨by exact wP hm,?_⟩;exact⟨_,upd H p (.lst [.ref L,.int (t+1),.int gg]),subB,.same _,h _ (t+1) gg (fH _ hm).1 (fH _ hm).2 (by exact Dy t0) (by exact cJ _) P.g0⟩
end
noncomputable def Ab(p:Int×Int):PyData:=.tuple [.int p.1,.int p.2]
theorem BI(p q:Int×Int):cj (Ab p) (Ab q)=decide (p=q):=by
 obtain⟨a,b⟩:=p;obtain⟨c,d⟩:=q;unfold Ab;simp only[cj,eM]
 by_cases h1:a=c <;> by_cases h2:b=d <;> simp[h1,h2]
theorem xr(ps:List (Int×Int))(p:Int×Int):((ps.map Ab).any fun y=>cj y (Ab p))=decide (p∈ps):=by
 induction ps with
 |nil=>simp
 |cons q ps ih=>
  rw[aB,kS,ih,BI]
  by_cases h:q=p
  ·subst h;simp
  ·have h2:¬p=q:=fun e=>h e.symm;simp[h,h2]
theorem xL(ps:List (Int×Int)):bf (ps.map Ab)=true:=by
 induction ps with
 |nil=>simp[bf]
 |cons p ps ih=>simp[bf,bX,Ab,ih]
theorem Aa{H:HH}(ps:List (Int×Int)):jv H (.vs (ps.map dN) (ps.map Ab)):=by
 induction ps with
 |nil=>exact .nil
 |cons p ps ih=>exact .cons (.tup (.cons (.int _) (.cons (.int _) .nil))) ih
inductive Wd
 |branch|mov|jump|wide|exit|far
deriving DecidableEq
noncomputable def Wd.s:Wd->Str
 |.branch=>"branch"|.mov=>"mov"|.jump=>"jump"|.wide=>"wide"|.exit=>"exit"|.far=>"far"
noncomputable def Wd.falls:Wd->Bool
 |.branch|.mov|.wide=>true
 |_=>false
noncomputable def Wd.leads:Wd->Bool
 |.branch|.jump|.far=>true
 |_=>false
theorem xF(w:Wd):(([.str "branch",.str "mov",.str "wide"]:List PyData).any fun y=>cj y (.str w.s))=w.falls:=by cases w <;> decide +kernel
theorem xN(w:Wd):(([.str "branch",.str "jump",.str "far"]:List PyData).any fun y=>cj y (.str w.s))=w.leads:=by cases w <;> decide +kernel
noncomputable def mJ:Wd->Bool
 |.mov|.wide=>true
 |_=>false
theorem xY(w:Wd):(([.str "mov",.str "wide"]:List PyData).any fun y=>cj y (.str w.s))=mJ w:=by cases w <;> decide +kernel
theorem AC(w:Wd):PyData.strOk w.s=true:=by cases w <;> decide +kernel
theorem xJ:bf [.str "branch",.str "mov",.str "wide"]=true:=by decide +kernel
theorem xK:bf [.str "branch",.str "jump",.str "far"]=true:=by decide +kernel
theorem xM:bf [.str "mov",.str "wide"]=true:=by decide +kernel
noncomputable def iw(acc:List (Int×Int))(at_:Int)(w:Wd):List (Int×Int):=if w.falls then acc++[(at_,at_+1)]else acc
noncomputable def m8(acc:List (Int×Int))(at_:Int)(w:Wd)(gl:Int):List (Int×Int):=if 0<=gl/\(at_,gl)∉iw acc at_ w then iw acc at_ w++[(at_,gl)]else iw acc at_ w
noncomputable def bY(ws:List (Wd×Int))(i:Nat):List (Int×Int):=(ws.zipIdx.take i).foldl (fun acc p=>m8 acc (p.2:Int) p.1.1 p.1.2) []
noncomputable def bA(ws:List (Wd×Int)):List (Int×Int):=bY ws ws.length
theorem iU{ws:List (Wd×Int)}{i:Nat}{w:Wd}{gl:Int}(h:ws[i]?=some (w,gl)):bY ws (i+1)=m8 (bY ws i) i w gl:=by
 unfold bY;have:ws.zipIdx[i]?=some ((w,gl),i):=by refine rA eK (rA h ?_);simp
 refine rA aT (rA this (rA dh ?_));rfl
theorem t8{acc:List (Int×Int)}{a:Int}{w:Wd}{gl:Int}:(m8 acc a w gl).length<=acc.length+2/\(iw acc a w).length<=acc.length+1:=by
 have h:(iw acc a w).length<=acc.length+1:=by unfold iw;split <;> simp
 refine⟨?_,h⟩;unfold m8;split
 ·simp;exact h
 ·exact vF h
set_option tactic.hygienic true in
theorem lv{ws:List (Wd×Int)}:∀{i:Nat},i<=ws.length->(bY ws i).length<=2*i
 |0,_=>ax _
 |i+1,h=>by
  refine rA (iU (w:=(ws[i]'h).1) (gl:=(ws[i]'h).2) (ac h)) ?_;have:=lv (ws:=ws) (i:=i) (by exact iy h);have:=(t8 (acc:=bY ws i) (a:=i) (w:=(ws[i]'h).1) (gl:=(ws[i]'h).2)).1
  (rename_i FW;exact L3 (Ra N0 (Tn 2 N1) (Ra N2 (Pn N0 (Kn 2)) (Gn N2 (Tn 2 M1)))) rfl FW this)
noncomputable def AF(ws:List (Wd×Int)):V:=.lst (ws.map fun p=>.str p.1.s)
noncomputable def ym(ws:List (Wd×Int)):V:=.lst (ws.map fun p=>.int p.2)
section
variable {g:GX}{k:Nat}{X:XP}{Q:VP}{H:HH}{G:GC}
theorem mj{p:Int×Int}{l:V}{ps:List (Int×Int)}(e:con H l=.lst (ps.map dN))(h:Q (.bool (!decide (p∈ps))) H):VT G k (gu .NotIn) [dN p,l] H Q X :=
 r9 (d:=Ab p) (.tup (.cons (.int _) (.cons (.int _) .nil))) (.of_con e (.lst (Aa ps)) rfl) (by simp[bX,bf,Ab]) (xL ps) (by simp[cu,cg,Ab]) (by rw[xr];exact h)
theorem u2{w:Wd}(h:Q (.bool w.falls) H):VT G k (gu .In) [.str w.s,.tup [.str "branch",.str "mov",.str "wide"]] H Q X :=
 u5 (.str _) (.tup (.cons (.str _) (.cons (.str _) (.cons (.str _) .nil)))) (by simp[bX,AC]) xJ (by simp[cu]) (by rw[xF];exact h)
theorem u3{w:Wd}(h:Q (.bool w.leads) H):VT G k (gu .In) [.str w.s,.tup [.str "branch",.str "jump",.str "far"]] H Q X :=
 u5 (.str _) (.tup (.cons (.str _) (.cons (.str _) (.cons (.str _) .nil)))) (by simp[bX,AC]) xK (by simp[cu]) (by rw[xN];exact h)
theorem u4{w:Wd}(h:Q (.bool (mJ w)) H):VT G k (gu .In) [.str w.s,.tup [.str "mov",.str "wide"]] H Q X :=
 u5 (.str _) (.tup (.cons (.str _) (.cons (.str _) .nil))) (by simp[bX,AC]) xM (by simp[cu]) (by rw[xY];exact h)
noncomputable abbrev yB(ws:List (Wd×Int))(P:ah):List (Str×V):=[("words",AF ws),("goals",ym ws),("pairs",.ref P)]
noncomputable abbrev En(H:HH)(ws:List (Wd×Int))(P:ah):List V->St->Prop:=fun r σ=>X1 fun(i:Nat)=>A3 (i<=ws.length) (r=((ws.drop i).zipIdx i).map (fun p=>.tup [.int (p.2:Int),.str p.1.1.s])) (σ=⟨yB ws P,upd H P (.lst ((bY ws i).map dN))⟩)
theorem At{ws:List (Wd×Int)}(hn:ws.length<60)(h:Q (.lst ((bA ws).map dN)) H)(hk:10<=k):CT g.gc k (.ref 491) [AF ws,ym ws] H Q X:=by
 refine gK (dcs:=[]) rfl (fun zz zz zz=>rfl) rfl ?_ (gG hk);intro P hP;have hP:H P=none:=hP;refine⟨⟨yB ws P,upd H P (.lst [])⟩,ci 3,?_⟩;refine⟨rfl,_,rfl,?_⟩;refine⟨En H ws P,⟨0,aH _,?_,rfl⟩,?_,?_⟩
 ·refine rA mK ?_;have:∀(l:List (Wd×Int)) (n:Nat),(((l.map fun p=>V.str p.1.s).zipIdx n).map fun p=>V.tup [.int (p.2:Int),p.1])=(l.zipIdx n).map (fun p=>.tup [.int (p.2:Int),.str p.1.1.s]):=by
   intro l
   induction l with
   |nil=>intro n;rfl
   |cons a l ih=>intro n;rw[aB,gx,gx,aB,aB,ih]
  exact this ws 0
 ·refine kj fun i hi hr=>?_;have hi:i=ws.length:=by
   have:=congrArg bG hr;simp at this;exact ao (L2 (Ra N0 N1 (Gn N0 N1)) rfl hi) (L3 (Rc (Kn 0) N0 (Ra N1 (Pn N0 N2) (Gn N1 N2))) rfl this jF)
  subst hi;exact frz hP (.same _) h
 ·intro v r;refine kj fun i hi hr=>?_;have hi:i<ws.length:=by
   have:=congrArg bG hr;simp at this;exact L4 (Rb M0 N1 (Rb (Pn N1 N2) N3 (Gn M2 N3))) rfl this (iE (L2 (Ra N0 N1 (Gn N0 N1)) rfl hi))
  rw[dq hi,gx,aB]at hr;obtain⟨rfl,rfl⟩:=aV hr;have ho:=ac hi;generalize ws[i]=p at ho;obtain⟨w,gl⟩:=p;have hs:=iU ho;have hl:=lv (bn hi);have hl1:=(t8 (acc:=bY ws i) (a:=(i:Int)) (w:=w) (gl:=gl)).2;have hg:(ws.map fun p=>V.int p.2)[i]?=some (.int gl):=by refine rA ar (rA ho ?_);rfl
  have fin:∀acc,m8 (bY ws i) i w gl=acc->∀{m:List (Str×V)}{HH':HH},m.lookup ("words":Str)=some (AF ws)->m.lookup ("goals":Str)=some (ym ws)->m.lookup ("pairs":Str)=some (.ref P)->HH'=upd H P (.lst (acc.map dN))->Ds (fun σ=>X1 fun(i':Nat)=>A3 (i'<=ws.length) (((ws.drop (i+1)).zipIdx (i+1)).map (fun p:(Wd×Int)×Nat=>V.tup [.int (p.2:Int),.str p.1.1.s])=((ws.drop i').zipIdx i').map (fun p=>.tup [.int (p.2:Int),.str p.1.1.s])) (σ=⟨yB ws P,upd H P (.lst ((bY ws i').map dN))⟩)) ⟨m,HH'⟩:=fun acc e m HH' m1 m2 m3 eH=>by
   subst eH;exact⟨_,AD (m':=[("words",AF ws),("goals",ym ws),("pairs",.ref P)]) ⟨⟨_,m1,.same _⟩,⟨_,m2,.same _⟩,⟨_,m3,.same _⟩,trivial⟩,i+1,hi,rfl,by exact rA hs (rA e rfl)⟩
  refine⟨_,rfl,rfl,rfl,?_⟩;refine u2 ?_;have e1:iw (bY ws i) i w=if w.falls then bY ws i++[((i:Int),(i:Int)+1)]else bY ws i:=rfl
  refine dY (fun q=>?_) (fun q=>?_)
  ·rw[q,if_pos rfl]at e1;refine⟨_,MT.append (bv aw),trivial,?_⟩;refine VT.append aw (by rw[ae];exact FE hl hi hn) ?_;have e2:(bY ws i).map dN++[dN ((i:Int),(i:Int)+1)]=(iw (bY ws i) i w).map dN:=by refine rA e1 ?_;simp
   refine bT (j:=i) (xs:=ws.map fun p=>.int p.2) rfl hg (by exact lC hi hn) ?_;refine dY (fun q2=>?_) (fun q2=>?_)
   ·have q2:0<=gl:=of_decide_eq_true q2;refine bT (j:=i) (xs:=ws.map fun p=>.int p.2) rfl hg (by exact lC hi hn) ?_;refine mj (p:=((i:Int),gl)) (ps:=iw (bY ws i) i w) (bv (by refine rB e2 ?_;exact aw)) ?_;refine dY (fun q3=>?_) (fun q3=>?_)
    ·have q3:((i:Int),gl)∉iw (bY ws i) i w:=by simpa using q3
     refine⟨_,MT.append (bv aw),trivial,?_⟩;refine bT (j:=i) (xs:=ws.map fun p=>.int p.2) rfl hg (by exact lC hi hn) ?_;refine VT.append aw (by simp;exact L3 (Ra M0 (Kn 60) (Ra M0 (Kn 60) (Ra M1 N0 (Ra M1 N0 (Ra N2 (Tn 2 N1) (Gn (Pn M2 (Kn 1)) (Kn 1000000))))))) rfl hn hn hi hi hl) ?_;exact fin _ rfl rfl rfl rfl (by unfold m8;refine rA (if_pos ⟨q2,q3⟩) (rA eU (rA eU (rA ai (rB e2 ?_))));rfl)
    ·have q3:((i:Int),gl)∈iw (bY ws i) i w:=by simpa using q3
     exact fin _ rfl rfl rfl rfl (by unfold m8;refine rA (if_neg (fun z=>z.2 q3)) (rA eU (rB e2 ?_));rfl)
   ·have q2:¬0<=gl:=of_decide_eq_false q2;exact fin _ rfl rfl rfl rfl (by unfold m8;refine rA (if_neg (fun z=>q2 z.1)) (rA eU (rB e2 ?_));rfl)
  ·rw[q,if_neg (by decide)]at e1;refine bT (j:=i) (xs:=ws.map fun p=>.int p.2) rfl hg (by exact lC hi hn) ?_;refine dY (fun q2=>?_) (fun q2=>?_)
   ·have q2:0<=gl:=of_decide_eq_true q2;refine bT (j:=i) (xs:=ws.map fun p=>.int p.2) rfl hg (by exact lC hi hn) ?_;refine mj (p:=((i:Int),gl)) (ps:=bY ws i) (bv aw) ?_;refine dY (fun q3=>?_) (fun q3=>?_)
    ·have q3:((i:Int),gl)∉iw (bY ws i) i w:=by refine rA e1 ?_;simpa using q3
     refine⟨_,MT.append (bv aw),trivial,?_⟩;refine bT (j:=i) (xs:=ws.map fun p=>.int p.2) rfl hg (by exact lC hi hn) ?_;refine VT.append aw (by rw[ae];exact FE hl hi hn) ?_;exact fin _ rfl rfl rfl rfl (by unfold m8;refine rA (if_pos ⟨q2,q3⟩) (rA eU (rA e1 (rA ai ?_)));rfl)
    ·have q3:((i:Int),gl)∈iw (bY ws i) i w:=by refine rA e1 ?_;simpa using q3
     exact fin _ rfl rfl rfl rfl (by unfold m8;exact rA (if_neg (fun z=>z.2 q3)) (rA e1 rfl))
   ·have q2:¬0<=gl:=of_decide_eq_false q2;exact fin _ rfl rfl rfl rfl (by unfold m8;exact rA (if_neg (fun z=>q2 z.1)) (rA e1 rfl))
end
noncomputable def eE(es:List (Int×Int))(u:Int):List Int:=(es.filter fun p=>decide (p.1=u)).map (·.2)
theorem nR{es:List (Int×Int)}{u v:Int}:v∈eE es u↔(u,v)∈es:=by
 unfold eE;rw[aJ];constructor
 ·refine fun FW=>bx FW fun FY h FZ=>?_;clear FW;obtain⟨a,b⟩:=FY;subst FZ;refine ea (bh.mp h) fun h1 h2=>?_;have:a=u:=of_decide_eq_true h2;subst this;exact h1
 ·intro h;exact⟨(u,v),bh.mpr ⟨h,by simp⟩,rfl⟩
noncomputable def ta(f:Int->Bool)(t:Int)(b:Bool):Int->Bool:=fun s=>if s=t then b else f s
theorem wu{f:Int->Bool}{n j:Nat}{b:Bool}:(kq f n).set j (.bool b)=kq (ta f j b) n:=by
 refine eJ fun i=>?_;unfold kq;refine rA ie (rA ar (rA ar ?_))
 by_cases q:j=i
 ·subst q;refine rA (if_pos rfl) ?_
  by_cases h:j<n
  ·refine rA (bK h) ?_;simp[ta,h]
  ·refine rA (b8 (by simp;exact aW h)) ?_;simp;exact aW h
 ·refine rA (if_neg q) ?_
  by_cases h:i<n
  ·refine rA (bK h) ?_;have:(i:Int)≠j:=by exact fun z3'=>q (ao (L2 (Sd C0 C1 (Gn N1 N0)) rfl z3') (L2 (Sb C0 C1 (Gn N0 N1)) rfl z3'))
   simp[ta,this]
  ·refine rA (b8 (by simp;exact aW h)) ?_;rfl
theorem xC(a b:List Bool):eM (a.map mh) (b.map mh)=decide (a=b):=by
 induction a generalizing b with
 |nil=>cases b <;> simp[eM]
 |cons x a ih=>
  cases b with
  |nil=>simp[eM]
  |cons y b=>
   rw[aB,aB,eM,ih];cases x <;> cases y <;> simp[cj]
theorem sh(ns:List Bool):bf (ns.map mh)=true/\cg (ns.map mh)=0:=by
 induction ns with
 |nil=>simp[bf,cg]
 |cons n ns ih=>simp[bf,bX,cg,cu,ih]
theorem wz:∀l:List Int,nE (fun zz=>1) (fun zz=>0) l=l.length
 |[]=>rfl
 |s::l=>by
  have e:nE (fun zz=>1) (fun zz=>0) (s::l)=((1:Int)-0).toNat+nE (fun zz=>1) (fun zz=>0) l:=rfl;refine rA e (rA (wz l) (rA aF ?_));have:((1:Int)-0).toNat=1:=by decide
  exact ao (L2 (Sb C0 (Mz (Kz 1) (Kz 0)) (Gn (Pn N0 N1) M1)) rfl (aY (Lz [] [] (Gz (Kz 0) (Mz (Kz 1) (Kz 0))) rfl))) (L2 (Sa (Mz (Kz 1) (Kz 0)) C0 (Gn M1 (Pn N0 N1))) rfl wJ)
section
variable {g:GX}{k:Nat}{X:XP}{Q:VP}{H:HH}{G:GC}
theorem u0{a b:V}{ns ms:List Bool}(ea:con H a=.lst (ns.map V.bool))(eb:con H b=.lst (ms.map V.bool))(h:Q (.bool (decide (ns=ms))) H):VT G k (gu .Eq) [a,b] H Q X :=
 pA (.of_con ea (.lst (.bools ns)) rfl) (.of_con eb (.lst (.bools ms)) rfl) (by simp[eG,bX,sh,cu]) (by simp[eG,bX,sh,cu]) (by rw[cj,xC];exact h)
theorem zE{f:Int->Bool}{n:Nat}:kq f n=((aQ n).map fun(j:Nat)=>f j).map V.bool:=by unfold kq;refine rA bz ?_;rfl
theorem C6{f f':Int->Bool}{n:Nat}(hm:∀v,f v=true->f' v=true)(hne:¬((aQ n).map fun(j:Nat)=>f' j)=((aQ n).map fun(j:Nat)=>f j)):nE (fun zz=>1) (nQ f') (bW n)<nE (fun zz=>1) (nQ f) (bW n):=by
 have⟨j,hj,hd⟩:∃j,j<n/\f' j≠f (j:Nat):=by
  apply aG;intro h;refine hne (cy fun j hj=>?_);apply aG;intro z;exact h ⟨j,bZ.mp hj,z⟩
 have hf:f j=false:=by
  cases e:f j with
  |false=>rfl
  |true=>rw[e,hm j e]at hd;exact absurd rfl hd
 have hf':f' j=true:=by
  cases e:f' j with
  |true=>rfl
  |false=>rw[e,hf]at hd;exact absurd rfl hd
 refine qm (t:=j) (fun s zz=>?_) (dj.mpr ⟨j,rfl,hj⟩) ?_ ?_
 ·unfold nQ;cases e:f s with
  |true=>refine rA (hm s e) ?_;simp
  |false=>simp;split <;> lia
 ·unfold nQ;simp[hf,hf']
 ·unfold nQ;simp[hf']
noncomputable abbrev Eo(H:HH)(many:Nat):ah->List V->List V->HH->Prop:=fun D r acc H'=>X1 fun(i:Nat)=>A4 (i<=many) (r=br i many) (acc=kq (fun s=>decide (s=0)) i) (H'=upd H D (.lst acc))
noncomputable abbrev yC(es:List (Int×Int))(many:Nat)(D:ah):List (Str×V):=[("edges",.lst (es.map dN)),("many",.int many),("flags",.ref D)]
noncomputable abbrev Ep(H:HH)(es:List (Int×Int))(many:Nat)(D:ah):List V->St->Prop:=fun r σ=>X2 fun(i:Nat) (f:Int->Bool)=>A6 (i<=many) (r=br i many) (f 0=true) (∀v,f v=true->v=0∨gY (eE es) 0 v) (nE (fun zz=>1) (nQ f) (bW many)+i+1<=many) (σ=⟨yC es many D,upd H D (.lst (kq f many))⟩)
noncomputable abbrev v8(es:List (Int×Int))(many:Nat)(D:ah)(B:ah):List (Str×V):=[("edges",.lst (es.map dN)),("many",.int many),("flags",.ref D),("before",.ref B)]
noncomputable abbrev Er(H:HH)(es:List (Int×Int))(many:Nat)(D:ah)(f:Int->Bool)(B:ah):List V->St->Prop:=fun r σ=>X3 fun(pre l:List (Int×Int)) (f':Int->Bool)=>A6 (es=pre++l) (r=l.map dN) (∀v,f v=true->f' v=true) (∀v,f' v=true->v=0∨gY (eE es) 0 v) (∀p∈pre,f p.1=true->f' p.2=true) (σ=⟨v8 es many D B,HL H [B,D] [.lst (kq f many),.lst (kq f' many)]⟩)
noncomputable abbrev Et(H:HH)(many:Nat)(D:ah)(f:Int->Bool)(B:ah)(f':Int->Bool):ah->List V->List V->HH->Prop:=fun E r acc H'=>X1 fun(i:Nat)=>A5 (i<=many) (r=br i many) (acc=((bW i).filter f').map .int) (H'=HL H [E,B,D] [.lst acc,.lst (kq f many),.lst (kq f' many)]) (cw H [E,B,D])
set_option tactic.hygienic true in
theorem vV{es:List (Int×Int)}{many:Nat}(hn:many<60)(h0:0<many)(he:∀p∈es,(∃j:Nat,p.1=j/\j<many)/\∃j:Nat,p.2=j/\j<many)
  (h:∀f:Int->Bool,(∀j:Nat,j<many->(f j=true↔j=0∨gY (eE es) 0 j))->Q (iV ((bW many).filter f)) H) (hk:10<=k):CT g.gc k (.ref 496) [.lst (es.map dN),.int many] H Q X:=by
 refine gK (dcs:=[]) rfl (fun zz zz zz=>rfl) rfl ?_ (gG hk);refine wk (fun env e=>by cases env;cases e;rfl) ?_ (dn hk);refine ct (by exact vI hn) ?_;refine⟨Eo H many,fun D hD=>⟨⟨0,aH _,rfl,rfl,rfl⟩,?_,?_⟩⟩
 ·refine AH fun i hi hr=>?_;have hD:H D=none:=hD;cases fy hi hr;refine⟨⟨yC es many D,upd H D (.lst (kq (fun s=>decide (s=0)) many))⟩,ci 3,?_⟩;refine ct (by exact vI hn) ?_;refine⟨Ep H es many D,
   ⟨0,fun s=>decide (s=0),aH _,rfl,rfl,fun v hv=>.inl (of_decide_eq_true hv),?_,rfl⟩,?_,?_⟩
  ·have:=qm (dep:=fun zz=>1) (c:=fun zz=>0) (c':=nQ fun s=>decide (s=0)) (t:=0) (l:=bW many) (fun s zz=>by unfold nQ;split <;> lia) (dj.mpr ⟨0,rfl,h0⟩) (by simp[nQ]) (by simp[nQ]);have e:nE (fun zz=>1) (fun zz=>0) (bW many)=many:=by rw[wz,gP]
   exact L3 (Ra M0 N1 (Rb N1 N2 (Gn (Pn (Pn N0 (Kn 0)) (Kn 1)) N2))) rfl this e
  ·rintro σ ⟨i,f,hi,hr,-,-,hg,-⟩;cases fy hi hr
   lia
  ·rintro v r σ ⟨i,f,hi,hr,f0,fs,hg,rfl⟩;refine jc (er hi hr) fun hi FW FY=>?_;subst FW;subst FY;have ef:kq f many=((aQ many).map fun(j:Nat)=>f j).map V.bool:=zE;refine lp (xs:=kq f many) (bv aw) (by refine rA gS ?_;exact rC hn) fun B hB0=>?_;have hB:upd H D (.lst (kq f many)) B=none:=hB0;clear hB0;have O:cw H [B,D]:=cw.push (vs:=[.lst (kq f many)]) (cw.push (vs:=[]) cw.nil hD) hB;refine⟨⟨v8 es many D B,HL H [B,D] [.lst (kq f many),.lst (kq f many)]⟩,sA rfl,?_⟩;refine⟨Er H es many D f B,
    ⟨[],es,f,rfl,rfl,fun zz h=>h,fs,fun p hp=>(nomatch hp),rfl⟩,?_,?_⟩
   ·refine B6 fun pre l f' e hl p1 p2 p3=>?_;cases l with
    |cons a l=>exact nL hl
    |nil=>
     rw[bt]at e;subst e;refine u0 (ns:=(aQ many).map fun(j:Nat)=>f' j) (ms:=(aQ many).map fun(j:Nat)=>f j) (by exact rA (O.con 1 rfl rfl) (rA zE rfl)) (by exact rA (O.con 0 rfl rfl) (rA zE rfl)) ?_;refine dY (fun q=>?_) (fun q=>?_)
     ·have q:=of_decide_eq_true q;have ff:∀j:Nat,j<many->f' j=f j:=fun j hj=>by
       have:=congrArg (·[j]?) q;simp only[ar,bK hj,lh,my]at this;exact this
      have key:∀a b,gY (eE es) a b->∀i:Nat,a=i->i<many->f' i=true->f' b=true:=by
       intro a b hab
       induction hab with
       |one e=>
        intro i hi hl hf;subst hi;rw[ff i hl]at hf;exact p3 _ (nR.mp e) hf
       |more e _ ih=>
        intro i hi hl hf;subst hi;refine xB (he _ (nR.mp e)) fun zz m hm1 hm=>?_;dsimp only at hm1;subst hm1;rw[ff i hl]at hf;exact ih m rfl hm (p3 _ (nR.mp e) hf)
      have hf':∀j:Nat,j<many->(f' j=true↔j=0∨gY (eE es) 0 j):=fun j hj=>by
       refine⟨fun z=>(p2 j z).imp (fun w=>by exact_mod_cast w) id,fun z=>?_⟩;rcases z with rfl|z
       ·exact p1 0 f0
       ·exact key 0 j z 0 rfl h0 (p1 0 f0)
      refine ct (by exact vI hn) ?_;refine⟨Et H many D f B f',fun E hE=>⟨⟨0,aH _,rfl,rfl,rfl,O.push hE⟩,?_,?_⟩⟩
      ·refine cRf fun O3=>?_;exact ut O3 (O3.rfy 0 rfl rfl (.same _)) (h f' hf')
      ·refine cRs fun i hi O3=>?_;have hs:(bW (i+1)).filter f'=(bW i).filter f'++(if f' i then [(i:Int)]else []):=by
        unfold bW;rw[ch,ai,bu];simp only[aB,gw,bO,dk]
       have hl:((bW i).filter f').length<=i:=by have:=bp f' (bW i);rw[gP]at this;exact this
       refine⟨.put .refl rfl,?_⟩;refine bT (j:=i) (O3.con 2 rfl rfl) (nb hi) (by exact lC hi hn) ?_;refine dY (fun z=>?_) (fun z=>?_)
       ·rw[z,if_pos rfl]at hs;exact⟨.int i,_,.refl,.same _,O3.get 0 rfl rfl,by rw[ae];exact FD hl hi hn,i+1,hi,rfl,by refine rA hs (rA ai ?_);rfl,HL.set 0 O3.nd rfl rfl,O3⟩
       ·rw[z,if_neg (by decide),bt]at hs;exact⟨_,.refl,i+1,hi,rfl,by exact rA hs rfl,rfl,O3⟩
     ·have q:=of_decide_eq_false q;have:=C6 p1 q;refine⟨⟨yC es many D,upd H D (.lst (kq f' many))⟩,.of ?_ ⟨⟨_,rfl,.same _⟩,⟨_,rfl,.same _⟩,⟨_,rfl,.same _⟩,trivial⟩,i+1,f',hi,rfl,p1 0 f0,p2,by exact L4 (Ra (Pn (Pn N0 N1) (Kn 1)) N2 (Ra (Pn N3 (Kn 1)) N0 (Gn (Pn (Pn N3 M1) (Kn 1)) N2))) rfl hg this,rfl⟩;exact Sub.refl.upd (by
       have:=O.nd;have hh:=(d4 hB).2;show upd H D _ B=none;refine rA (bE (d4 hB).1) ?_;exact hh)
   ·intro v r;refine B6 fun pre l f' e hl p1 p2 p3=>?_;cases l with
    |nil=>exact nL hl.symm
    |cons p l=>
     refine ea (aV hl) fun FZ F7=>?_;subst FZ;subst F7;have hm:p∈es:=by refine rA e ?_;simp
     obtain⟨a,b⟩:=p;refine xB (he _ hm) fun F8 y hy hy2=>?_;refine bx F8 fun x hx hx2=>?_;dsimp only at hx hy;subst hx hy;have fin:∀bb:Bool,(bb=(f' y||f' x))->X3 fun(pre' l':List (Int×Int)) (f'':Int->Bool)=>A6 (es=pre'++l') (l.map dN=l'.map dN) (∀v,f v=true->f'' v=true) (∀v,f'' v=true->v=0∨gY (eE es) 0 v) (∀p∈pre',f p.1=true->f'' p.2=true) ((⟨v8 es many D B,HL H [B,D] [.lst (kq f many),.lst (kq (ta f' y bb) many)]⟩:St)=⟨v8 es many D B,HL H [B,D] [.lst (kq f many),.lst (kq f'' many)]⟩):=fun bb hbb=>by
      have up:∀v,f' v=true->ta f' y bb v=true:=fun v hv=>by
       unfold ta;split
       ·rename_i z;subst z;refine rA hbb (rA hv ?_);rfl
       ·exact hv
      refine⟨pre++[((x:Int),(y:Int))],l,ta f' y bb,by refine rA e ?_;simp,rfl,fun v hv=>up v (p1 v hv),fun v hv=>?_,fun p hp hfp=>?_,rfl⟩
      ·unfold ta at hv;split at hv
       ·rename_i z;subst z;rw[hbb,lT]at hv;rcases hv with hv|hv
        ·exact p2 _ hv
        ·rcases p2 _ hv with w|w
         ·exact .inr (.one (nR.mpr (by refine rB w ?_;exact hm)))
         ·exact .inr (w.snoc (nR.mpr hm))
       ·exact p2 v hv
      ·rcases ak.mp hp with z|z
       ·exact up _ (p3 p z hfp)
       ·rw[ag.mp z]at hfp ⊢;unfold ta;refine rA (if_pos rfl) (rA hbb ?_);dsimp only at hfp;rw[p1 _ hfp,Bool.or_true]
     refine⟨_,rfl,rfl,rfl,?_⟩;refine bT (j:=y) (O.con 1 rfl rfl) (nb hy2) (by exact lC hy2 hn) ?_;refine dY (fun q=>?_) (fun q=>?_)
     ·refine mW (j:=y) O 1 rfl rfl (by refine rA gS ?_;exact wW hy2) (by refine rA gS ?_;exact hy2) (by exact oz2 hy2 hn) ?_;refine rA wu ?_;refine⟨_,?_,fin (f' y) (by refine rA q ?_;rfl)⟩;exact ci 4
     ·refine bT (j:=x) (O.con 1 rfl rfl) (nb hx2) (by exact lC hx2 hn) ?_;refine mW (j:=y) O 1 rfl rfl (by refine rA gS ?_;exact wW hy2) (by refine rA gS ?_;exact hy2) (by exact oz2 hy2 hn) ?_;refine rA wu ?_;refine⟨_,?_,fin (f' x) (by refine rA q ?_;rfl)⟩;exact ci 4
 ·refine bRs fun i hi=>?_;refine⟨.put .refl rfl,?_⟩;exact⟨.bool (decide ((i:Int)=0)),_,.refl,.same _,aw,by refine rA gS ?_;exact lC hi hn,i+1,hi,rfl,by unfold kq;refine rA ch (rA ai ?_);rfl,by exact rA eU rfl⟩
end
theorem wj(n:Nat):(bW n).Pairwise (·<·):=by
 unfold bW;rw[List.pairwise_map];exact lF.imp fun h=>by exact qz h
theorem ue{l:List Int}(h:l.Pairwise (·<·)):l.Nodup:=h.imp fun h=>by exact fun z'=>Lz [] [_,_] (Sa (Pz Z0 (Kz 1)) Z1 (Sd Z0 Z1 Fa)) rfl h z'
theorem kQ{l m:List Int}(hn:l.Nodup)(hm:m.Pairwise (·<·))(h:∀x,x∈l↔x∈m):eT l=m:=by
 refine(uF ((List.perm_ext_iff_of_nodup (ue hm) hn).mpr fun x=>(h x).symm) (hm.imp fun h=>by exact cZ h)).symm
theorem oA{f:Int->V}:∀{l:List Int}{acc:List (Int×V)},(∀y∈l,y∉acc.map (·.1))->l.Nodup->(l.map fun y=>(y,f y)).foldl (fun a p=>ix a p.1 p.2) acc=acc++l.map fun y=>(y,f y)
 |[],acc,_,_=>by simp
 |a::l,acc,h2,h3=>by
  refine rA aB (rA fE (rA (jd (h2 a (.head _))) ?_));have h3:=ba.mp h3;rw[oA (acc:=acc++[(a,f a)]) (fun y hy=>?_) h3.2]
  ·simp
  ·rw[ai,ak];rintro(h|h)
   ·exact h2 y (.tail _ hy) h
   ·simp at h;subst h;exact h3.1 hy
noncomputable def oz(xs:List V)(i:Nat):List V:=((xs.drop i).zipIdx i).map fun p=>.tup [.int (p.2:Int),p.1]
theorem nV{xs:List V}{i:Nat}{v:V}{r:List V}(h:v::r=oz xs i):∃x,xs[i]?=some x/\v=.tup [.int (i:Int),x]/\r=oz xs (i+1)/\i<xs.length:=by
 unfold oz at h ⊢;have hi:i<xs.length:=by
  have:=congrArg bG h;simp at this;exact Nat.lt_of_sub_eq_succ this.symm
 rw[dq hi,gx,aB]at h;refine ea (aV h) fun FW FY=>?_;subst FW;subst FY;exact⟨_,ac hi,rfl,rfl,hi⟩
theorem qj{xs:List V}{i:Nat}(hi:i<=xs.length)(h:[]=oz xs i):i=xs.length:=by
 have:=congrArg bG h;simp[oz]at this;exact ao (L2 (Ra N0 N1 (Gn N0 N1)) rfl hi) (L3 (Rc (Kn 0) N0 (Ra N1 (Pn N0 N2) (Gn N1 N2))) rfl this jF)
theorem Br{l:List Int}(h:l.Nodup)(i:Nat)(hi:i<l.length):l.idxOf l[i]=i:=h.idxOf_getElem i hi
section
variable {g:GX}{k:Nat}{X:XP}{Q:VP}{H:HH}{G:GC}
noncomputable abbrev Eu(H:HH)(ds:DS)(D:ah):ah->List V->List V->HH->Prop:=fun D2 r acc H'=>X1 fun(i:Nat)=>A5 (i<=ds.post.length) (r=oz (ds.post.map V.int) i) (acc=iJ ((ds.post.take i).map fun y=>(y,.int (ds.post.idxOf y:Nat)))) (H'=HL H [D2,D] [.lst acc,.lst ((eT ds.post).map V.int)]) (cw H [D2,D])
noncomputable abbrev Ev(H:HH)(es:List (Int×Int))(rl:List Int)(ds:DS)(D:ah)(D2:ah)(D3:ah):ah->List V->List V->HH->Prop:=fun D4 r acc H'=>X2 fun pre l=>A5 (es=pre++l) (r=l.map dN) (acc=((pre.filter fun p=>decide (p.1∈rl)&&decide (ds.post.idxOf p.1<=ds.post.idxOf p.2)).map fun p=>V.int p.2)) (H'=HL H [D4,D3,D2,D] [.lst acc,.dct (ds.post.map fun y=>(y,V.int (ds.post.idxOf y:Nat))),.lst (iJ ((ds.post.take (ds.post.map V.int).length).map fun y=>(y,.int (ds.post.idxOf y:Nat)))),.lst ((eT ds.post).map V.int)]) (cw H [D4,D3,D2,D])
noncomputable abbrev Ew(H:HH)(os:List bq)(es:List (Int×Int))(rl:List Int)(ds:DS)(D:ah)(D2:ah)(D3:ah)(D4:ah):ah->List V->List V->HH->Prop:=fun D5 r acc H'=>X1 fun(i:Nat)=>A5 (i<=os.length) (r=br i os.length) (acc=((bW i).filter fun v=>decide (v∈(es.filter fun p=>decide (p.1∈rl)&&decide (ds.post.idxOf p.1<=ds.post.idxOf p.2)).map (·.2))).map .int) (H'=HL H [D5,D4,D3,D2,D] [.lst acc,.lst ((es.filter fun p=>decide (p.1∈rl)&&decide (ds.post.idxOf p.1<=ds.post.idxOf p.2)).map fun p=>V.int p.2),.dct (ds.post.map fun y=>(y,V.int (ds.post.idxOf y:Nat))),.lst (iJ ((ds.post.take (ds.post.map V.int).length).map fun y=>(y,.int (ds.post.idxOf y:Nat)))),.lst ((eT ds.post).map V.int)]) (cw H [D5,D4,D3,D2,D])
theorem rO{os:List bq}{es:List (Int×Int)}{rl:List Int}(hn:os.length<60)(N:i8 os)(hs:ay os=[0])(h0:0<os.length)(hE:∀u v,u∈bW os.length->(v∈sE os u↔(u,v)∈es))
  (hr:rl.Pairwise (·<·)) (hr2:∀v,v∈rl↔v=0∨gY (sE os) 0 v) (hel:es.length<200) (h:Q (.bool true) H) (hk:110<=k):CT g.gc k (.ref 501) [c5 os,.lst (es.map dN),iV rl] H Q X:=by
 refine gK (dcs:=[]) rfl (fun zz zz zz zz=>rfl) rfl ?_ (gG hk);refine mw (names:=["post","heads"]) (fun env e=>by cases env;cases e;rfl) ?_ (dn hk);refine aE (rN (s:=0) hn N h0 (fun ds hw=>?_) (dn hk));refine aE (rM hn N hs h0 (fun ds' hw'=>?_) (dn hk));cases hw.one hw';clear hw';refine jc hw fun way I zz=>?_;have hline:ds.line=ds.post:=by unfold DS.line;refine rA way ?_;simp
 have nd:ds.post.Nodup:=hline▸I.i.nd;have hexm:∀u v,yl (sE os) ds.post ds.way u v↔u∈ds.post/\v∈sE os u:=fun u v=>or_iff_left fun z=>z.elim fun zz z=>by have:=z.1;rw[way]at this;cases this
 have hlast:ds.post.getLast?=some 0:=hline▸I.i.last;have h0m:(0:Int)∈ds.post:=List.mem_of_getLast? hlast;have clo:∀u∈ds.post,∀v∈sE os u,v∈ds.post:=fun u hu v hv=>hline▸I.i.met u v ((hexm u v).mpr ⟨hu,hv⟩);have hmem:∀v,v∈ds.post↔v∈rl:=fun v=>by
  rw[hr2];refine⟨fun z=>I.i.rch v (hline▸z),fun z=>?_⟩;rcases z with rfl|z
  ·exact h0m
  ·have:∀a b,gY (sE os) a b->a∈ds.post->b∈ds.post:=fun a b hab=>by
    induction hab with
    |one e=>exact fun ha=>clo _ ha _ e
    |more e _ ih=>exact fun ha=>ih (clo _ ha _ e)
   exact this 0 v z h0m
 have hsp:eT ds.post=rl:=kQ nd hr hmem;have hrng:∀v∈ds.post,v∈bW os.length:=fun v hv=>by
  rcases I.i.rch v (hline▸hv)with rfl|z
  ·exact dj.mpr ⟨0,rfl,h0⟩
  ·have:∀a b,gY (sE os) a b->b∈bW os.length:=fun a b hab=>by
    induction hab with
    |one e=>exact dj.mpr (qC N _ e)
    |more e _ ih=>exact ih
   exact this _ _ z
 have pl:=hZ nd hrng;rw[gP]at pl;refine⟨rfl,aq rfl,?_⟩;refine ja (ns:=ds.post) rfl (by exact pG pl hn) fun D hD=>?_;have hD:H D=none:=hD;refine fY (ns:=eT ds.post) (ms:=rl) (bv aw) rfl ?_;have e1:(!decide (eT ds.post=rl))=false:=by simp[hsp]
 refine ex (List.getLast?_eq_some_iff.mp hlast) fun pw hpw=>?_;have e2:(ds.post.map V.int)[((-1:Int)+((ds.post.map V.int).length:Nat)).toNat]?=some (.int 0):=by refine rA hpw (rA ai ?_);exact qq
 have e3:-((ds.post.map V.int).length:Int)<=-1:=by refine rA hpw ?_;simp;exact L1 (Gz (Kz 1) (Pz C0 (Kz 1))) rfl
 refine dY (fun q=>by rw[e1]at q;exact nB q) (fun q=>?_);refine pZ (xs:=ds.post.map V.int) (x:=.int 0) rfl (by decide) e3 e2 (by decide) ?_;have O:cw H [D]:=cw.push (vs:=[]) cw.nil hD;refine⟨rfl,_,rfl,?_⟩;refine⟨Eu H ds D,fun D2 hD2=>⟨⟨0,aH _,rfl,rfl,rfl,O.push (vs:=[.lst ((eT ds.post).map V.int)]) hD2⟩,?_,?_⟩⟩
 ·refine yk fun i hi hr' O2=>?_;cases qj (by simpa using hi) hr';have kl:∀v∈ds.post,dF (ds.post.map fun y=>(y,V.int (ds.post.idxOf y:Nat))) v=some (.int (ds.post.idxOf v:Nat)):=fun v hv=>f7 hv;have hfold:=oA (f:=fun y=>V.int (ds.post.idxOf y:Nat)) (l:=ds.post) (acc:=[]) (fun zz zz z=>nomatch z) nd;refine yW (kvs:=ds.post.map fun y=>(y,.int (ds.post.idxOf y:Nat))) (by rw[O2.con 0 rfl rfl,ae,cz]) (by rw[ae];exact pG pl hn) fun D3 hD3=>?_;have hD3:HL H [D2,D] [.lst (iJ ((ds.post.take (ds.post.map V.int).length).map fun y=>(y,.int (ds.post.idxOf y:Nat)))),.lst ((eT ds.post).map V.int)] D3=none:=hD3;rw[hfold,List.nil_append];have O3:=O2.push hD3;refine wk (fun env e=>by cases env;cases e;rfl) ?_ (dn hk);refine⟨Ev H es rl ds D D2 D3,fun D4 hD4=>⟨⟨[],es,rfl,rfl,rfl,rfl,O3.push (vs:=[.dct (ds.post.map fun y=>(y,V.int (ds.post.idxOf y:Nat))),.lst (iJ ((ds.post.take (ds.post.map V.int).length).map fun y=>(y,.int (ds.post.idxOf y:Nat)))),.lst ((eT ds.post).map V.int)]) hD4⟩,?_,?_⟩⟩
  ·refine Du fun O4=>?_;refine aE (eR hn ?_ (dn hk));refine ct (by exact vI hn) ?_;have fl:(es.filter fun p=>decide (p.1∈rl)&&decide (ds.post.idxOf p.1<=ds.post.idxOf p.2)).length<=es.length:=bp _ _;refine⟨Ew H os es rl ds D D2 D3 D4,
    fun D5 hD5=>⟨⟨0,aH _,rfl,rfl,rfl,O4.push (vs:=[.lst ((es.filter fun p=>decide (p.1∈rl)&&decide (ds.post.idxOf p.1<=ds.post.idxOf p.2)).map fun p=>V.int p.2),.dct (ds.post.map fun y=>(y,V.int (ds.post.idxOf y:Nat))),.lst (iJ ((ds.post.take (ds.post.map V.int).length).map fun y=>(y,.int (ds.post.idxOf y:Nat)))),.lst ((eT ds.post).map V.int)]) hD5⟩,?_,?_⟩⟩
   ·refine cRf fun O5=>?_;refine j5 (ns:=eT ds.heads) (ms:=(bW os.length).filter fun v=>decide (v∈(es.filter fun p=>decide (p.1∈rl)&&decide (ds.post.idxOf p.1<=ds.post.idxOf p.2)).map (·.2))) rfl (O5.con 0 rfl rfl) ?_;have e9:eT ds.heads=(bW os.length).filter fun v=>decide (v∈(es.filter fun p=>decide (p.1∈rl)&&decide (ds.post.idxOf p.1<=ds.post.idxOf p.2)).map (·.2)):=by
     refine kQ I.i.hnd ((wj _).filter _) fun v=>?_;rw[I.i.hd,bh];constructor
     ·refine fun FW=>bx FW fun u hu hb=>?_;refine ea ((hexm u v).mp hu) fun h1 h2=>?_;refine⟨hrng v (clo u h1 v h2),decide_eq_true (aJ.mpr ⟨(u,v),bh.mpr ⟨(hE u v (hrng u h1)).mp h2,?_⟩,rfl⟩)⟩;unfold yr at hb;rw[hline]at hb;rw[bI];exact⟨decide_eq_true ((hmem u).mp h1),decide_eq_true (aW hb)⟩
     ·refine fun FY=>ea FY fun zz h2=>?_;refine bx (aJ.mp (of_decide_eq_true h2)) fun FZ h3 F7=>?_;obtain⟨u,v'⟩:=FZ;subst F7;refine ea (bh.mp h3) fun h4 h5=>?_;refine ea (aP.mp h5) fun h6 h7=>?_;refine⟨u,(hexm u _).mpr ⟨(hmem u).mpr (of_decide_eq_true h6),(hE u _ (hrng u ((hmem u).mpr (of_decide_eq_true h6)))).mpr h4⟩,?_⟩;unfold yr;refine rA hline ?_;exact lc (of_decide_eq_true h7)
    refine rA (decide_eq_true e9) ?_;exact ut O5 (.same _) h
   ·refine cRs fun i hi O5=>?_;refine⟨.put .refl rfl,?_⟩;refine i6 (ns:=(es.filter fun p=>decide (p.1∈rl)&&decide (ds.post.idxOf p.1<=ds.post.idxOf p.2)).map (·.2)) (by refine rA (O5.con 1 rfl rfl) (rA bz ?_);rfl) ?_;have hs:(bW (i+1)).filter (fun v=>decide (v∈(es.filter fun p=>decide (p.1∈rl)&&decide (ds.post.idxOf p.1<=ds.post.idxOf p.2)).map (·.2)))=(bW i).filter (fun v=>decide (v∈(es.filter fun p=>decide (p.1∈rl)&&decide (ds.post.idxOf p.1<=ds.post.idxOf p.2)).map (·.2)))++(if decide ((i:Int)∈(es.filter fun p=>decide (p.1∈rl)&&decide (ds.post.idxOf p.1<=ds.post.idxOf p.2)).map (·.2))then [(i:Int)]else []):=by
     unfold bW;rw[ch,ai,bu];simp only[aB,gw,bO,dk]
    have hl:((bW i).filter fun v=>decide (v∈(es.filter fun p=>decide (p.1∈rl)&&decide (ds.post.idxOf p.1<=ds.post.idxOf p.2)).map (·.2))).length<=i:=by
     have:=bp (fun v=>decide (v∈(es.filter fun p=>decide (p.1∈rl)&&decide (ds.post.idxOf p.1<=ds.post.idxOf p.2)).map (·.2))) (bW i);rw[gP]at this;exact this
    refine dY (fun z=>?_) (fun z=>?_)
    ·rw[z,if_pos rfl]at hs;exact⟨.int i,_,.refl,.same _,O5.get 0 rfl rfl,by rw[ae];exact FD hl hi hn,i+1,hi,rfl,by refine rA hs (rA ai ?_);rfl,HL.set 0 O5.nd rfl rfl,O5⟩
    ·rw[z,if_neg (by decide),bt]at hs;exact⟨_,.refl,i+1,hi,rfl,by exact rA hs rfl,rfl,O5⟩
  ·refine Dv fun pre p l e O4=>?_;obtain⟨a,b⟩:=p;have hm:(a,b)∈es:=by refine rA e ?_;simp
   have hpl:pre.length<200:=by rw[e]at hel;simp at hel;exact um hel
   have hfl:=bp (fun p:Int×Int=>decide (p.1∈rl)&&decide (ds.post.idxOf p.1<=ds.post.idxOf p.2)) pre;refine⟨_,rfl,rfl,rfl,.put (.put .refl rfl) rfl,?_⟩;refine i6 (ns:=rl) rfl ?_;have skip:(decide (a∈rl)&&decide (ds.post.idxOf a<=ds.post.idxOf b))=false->(((pre++[(a,b)]).filter fun p=>decide (p.1∈rl)&&decide (ds.post.idxOf p.1<=ds.post.idxOf p.2)).map fun p=>V.int p.2)=((pre.filter fun p=>decide (p.1∈rl)&&decide (ds.post.idxOf p.1<=ds.post.idxOf p.2)).map fun p=>V.int p.2):=fun z=>by
    rw[bu];simp only[bO,z,dk];simp
   have take:(decide (a∈rl)&&decide (ds.post.idxOf a<=ds.post.idxOf b))=true->((pre.filter fun p=>decide (p.1∈rl)&&decide (ds.post.idxOf p.1<=ds.post.idxOf p.2)).map fun p=>V.int p.2)++[.int b]=(((pre++[(a,b)]).filter fun p=>decide (p.1∈rl)&&decide (ds.post.idxOf p.1<=ds.post.idxOf p.2)).map fun p=>V.int p.2):=fun z=>by
    rw[bu];simp only[bO,z,dk];simp
   have es':es=(pre++[(a,b)])++l:=by refine rA e ?_;simp
   refine dY (fun z=>?_) (fun z=>?_)
   ·have ha:=(hmem a).mpr (of_decide_eq_true z);have hb:=clo a ha b ((hE a b (hrng a ha)).mpr hm);refine dK (x:=.int (ds.post.idxOf b:Nat)) (O4.con 1 rfl rfl) (kl b hb) ?_;refine dK (x:=.int (ds.post.idxOf a:Nat)) (O4.con 1 rfl rfl) (kl a ha) ?_;refine dY (fun z2=>?_) (fun z2=>?_)
    ·have z3:(decide (a∈rl)&&decide (ds.post.idxOf a<=ds.post.idxOf b))=true:=by
      rw[bI];exact⟨z,decide_eq_true (by exact_mod_cast of_decide_eq_true z2)⟩
     exact⟨.int b,_,.refl,.same _,O4.get 0 rfl rfl,by rw[ae];exact pG hfl hpl,pre++[(a,b)],l,es',rfl,take z3,HL.set 0 O4.nd rfl rfl,O4⟩
    ·have z3:(decide (a∈rl)&&decide (ds.post.idxOf a<=ds.post.idxOf b))=false:=by
      rw[Bool.and_eq_false_iff];exact .inr (decide_eq_false fun w=>of_decide_eq_false z2 (by exact_mod_cast w))
     exact⟨_,.refl,pre++[(a,b)],l,es',rfl,(skip z3).symm,rfl,O4⟩
   ·have z3:(decide (a∈rl)&&decide (ds.post.idxOf a<=ds.post.idxOf b))=false:=by
     rw[Bool.and_eq_false_iff];exact .inl z
    exact⟨_,.refl,pre++[(a,b)],l,es',rfl,(skip z3).symm,rfl,O4⟩
 ·intro v r;refine yk fun i hi hr' O2=>?_;refine kZ (nV hr') fun x hx F8 F9 hi=>?_;subst F8;subst F9;rw[ae]at hi;rw[ar,ac hi]at hx;obtain rfl:=aj hx;refine⟨_,rfl,rfl,rfl,.put (.put .refl rfl) rfl,?_⟩;have e:iJ ((ds.post.take i).map fun y=>(y,V.int (ds.post.idxOf y:Nat)))++[.tup [.int ds.post[i],.int (i:Int)]]=iJ ((ds.post.take (i+1)).map fun y=>(y,V.int (ds.post.idxOf y:Nat))):=by
   unfold iJ;rw[aT,ac hi,jA,ai,ai];simp only[aB,gw,Br nd i hi]
  refine⟨.tup [.int ds.post[i],.int (i:Int)],_,.refl,.same _,O2.get 0 rfl rfl,?_,i+1,hi,rfl,e,HL.set 0 O2.nd rfl rfl,O2⟩;unfold iJ;rw[ae,ae,cT];exact L3 (Ra M0 (Kn 60) (Ra N1 N0 (Ra N2 N1 (Gn M2 (Kn 1000000))))) rfl hn pl (bP _ _)
end
section
variable {G:GC}{k:Nat}{X:XP}{Q:VP}{H:HH}{sc:Sc}
theorem zu{tg elt}{KH:HH->Prop}{D:ah}{m:List (Str×V)}{J:List V->List V->HH->Prop}{JJ:St->Prop}(hJ:∀σ:St,iP m σ.m->KH σ.H->JJ σ)(h0:∀acc H,J [] acc H->KH H)
  (h1:∀x r acc H,J (x::r) acc H->TA G k sc tg x ⟨m,H⟩ (fun σ1=>iP m σ1.m/\TE G k sc elt σ1 (rX J D r acc) NX) NX) (xs:List V) :
  ∀acc (σ:St),iP m σ.m->J xs acc σ.H->f9 G k sc tg [] (AI G k sc elt D) JJ xs σ:=by
 induction xs with
 |nil=>exact fun acc σ hm h=>hJ σ hm (h0 acc _ h)
 |cons x xs ih=>
  intro acc σ hm h;refine TA.weakM hm ((h1 x xs acc _ h).imp fun σ1 h2=>kD.nil ?_);refine TE.imp h2.2 fun v H3 z=>?_;obtain⟨v',H4,a,b,c,d,e⟩:=z;exact⟨acc,v',H4,a,b,c,d,ih _ _ h2.1 e⟩
inductive C2I(G:GC)(k:Nat)(sc:Sc)(t2 elt:Expr)(D:ah)(J:List V->List V->HH->Prop)(r acc:List V)(m:Mm)(ys:List V)(H2:HH):Prop
 |mk (J2:List V->List V->HH->Prop) (h0:J2 ys acc H2) (h1:∀acc H,J2 [] acc H->J r acc H)
  (h2:∀y q acc H,J2 (y::q) acc H->TA G k sc t2 y ⟨m,H⟩ (fun σ2=>iP m σ2.m/\TE G k sc elt σ2 (rX J2 D q acc) NX) NX)
theorem zs{t1 t2 i2 elt}{K:HH->Prop}{D:ah}{m:List (Str×V)}{J:List V->List V->HH->Prop}(h0:∀acc H,J [] acc H->K H)
  (h1:∀x r acc H,J (x::r) acc H->TA G k sc t1 x ⟨m,H⟩ (fun σ1=>iP m σ1.m/\TI G k sc t2 i2 σ1 (C2I G k sc t2 elt D J r acc σ1.m) NX) NX) (xs:List V) :
  ∀acc H,J xs acc H->f9 G k sc t1 [] (em2 G k sc t2 i2 [] elt D) (fun σc=>K σc.H) xs ⟨m,H⟩:=by
 induction xs with
 |nil=>exact h0
 |cons x xs ih=>
  intro acc H h;refine(h1 x xs acc H h).imp fun σ1 h2=>kD.nil ?_;refine TI.imp h2.2 fun ys H2 z=>?_;obtain⟨J2,a,b,c⟩:=z;exact zu (KH:=fun H=>∃acc,J xs acc H) (fun σ hm z=>z.elim fun acc hj=>f9.weakM (fun zz zz zz x=>x) (m:=m) (h2.1.trans hm) (ih acc _ hj)) (fun acc H z=>⟨acc,b acc H z⟩) c ys acc ⟨σ1.m,H2⟩ iP.refl a
end
section
variable {g:GX}{k:Nat}{X:XP}{Q:VP}{H:HH}{G:GC}
inductive L2A(ih:Tk->Prop)(cs:Sc)(elt:Expr)(m0:Mm)(J:List V->List V->HH->Prop)(D:ah)(q acc:List V)(σ2:St):Prop
 |mk (s:iP m0 σ2.m) (h:ih (.E cs NX elt σ2 (rX J D q acc)))
inductive L2I(ih:Tk->Prop)(cs:Sc)(t2 elt:Expr)(J:List V->List V->HH->Prop)(D:ah)(r acc:List V)(m1:Mm)(ys:List V)(H2:HH):Prop
 |mk (J2:List V->List V->HH->Prop) (h0:J2 ys acc H2) (h1:∀acc H,J2 [] acc H->J r acc H) (h2:∀y q acc H,J2 (y::q) acc H->ih (.A cs t2 y ⟨m1,H⟩ (L2A ih cs elt m1 J2 D q acc)))
inductive L2T(ih:Tk->Prop)(cs:Sc)(t2 i2 elt:Expr)(m0:Mm)(J:List V->List V->HH->Prop)(D:ah)(r acc:List V)(σ1:St):Prop
 |mk (s:iP m0 σ1.m) (h:ih (.I cs NX t2 i2 σ1 (L2I ih cs t2 elt J D r acc σ1.m)))
inductive L2D(ih:Tk->Prop)(cs:Sc)(t1 t2 i2 elt:Expr)(m0:Mm)(K:ah->HH->Prop)(J:List V->List V->HH->Prop)(D:ah)(xs:List V)(H1:HH):Prop
 |mk (h0:J xs [] (upd H1 D (.lst []))) (h1:∀acc H,J [] acc H->K D H) (h2:∀x r acc H,J (x::r) acc H->ih (.A cs t1 x ⟨m0,H⟩ (L2T ih cs t2 i2 elt m0 J D r acc)))
inductive L2C(ih:Tk->Prop)(cs:Sc)(t1 t2 i2 elt:Expr)(m0:Mm)(K:ah->HH->Prop)(xs:List V)(H1:HH):Prop
 |mk (J:ah->List V->List V->HH->Prop) (h:∀D,H1 D=none->L2D ih cs t1 t2 i2 elt m0 K (J D) D xs H1)
theorem lc2{elt t1 i1 t2 i2 scope pos}{sc:Sc}{m:Mm}
  (h:vc g.gc g.tab k 50 (.I sc X t1 i1 ⟨m,H⟩ (L2C (vc g.gc g.tab k 50) (eQ sc scope) t1 t2 i2 elt (rq scope m) (BO Q)))) (hk3:3<=k)
  (co:autoParam ((kE i1 !=2&&kE i2 !=2&&lr sc scope&&(eC scope).all (fun x=>(m.lookup x).isSome))=true) aR)
  (he:autoParam (∀env,fu (.ListComp elt [⟨t1,i1,[],0⟩,⟨t2,i2,[],0⟩] scope pos) env=jB (.ListComp elt [⟨t1,i1,[],0⟩,⟨t2,i2,[],0⟩] scope pos) scope env (mQ [⟨t1,i1,[],0⟩,⟨t2,i2,[],0⟩] pos) (newList []) false (fu i1 env) none) aI) :
  TE g.gc k sc (.ListComp elt [⟨t1,i1,[],0⟩,⟨t2,i2,[],0⟩] scope pos) ⟨m,H⟩ Q X:=by
 simp only[bI]at co;refine ea co fun FW h3=>?_;refine ea FW fun FY h2=>?_;obtain⟨h1,h4⟩:=FY;have hih:=fun t=>vc.ok (T:=g.tab) hk3 50 t;refine xj (TI.imp (hih _ h) fun xs H1 ⟨J,hJ⟩ D hD=>?_) h2 h3 (fun env x=>se h1 env x) (fun env x=>se h4 env x) he hk3;obtain⟨j0,j1,j2⟩:=hJ D hD;exact zs (K:=fun H=>Q (.ref D) H) (J:=J D) (fun acc H=>j1 acc H) (fun x r acc H hj=>(hih _ (j2 x r acc H hj):TA ..).imp fun σ1 z=>by obtain⟨s,z⟩:=z;exact⟨s,TI.imp (hih _ z) fun ys H2 z=>by obtain⟨J2,a,b,c⟩:=z;exact⟨J2,a,b,fun y q acc H hj2=>(hih _ (c y q acc H hj2):TA ..).imp fun σ2 z2=>by obtain⟨s2,z2⟩:=z2;exact⟨s2,hih _ z2⟩⟩⟩) xs [] _ j0
end
theorem Bm(n:Nat):br 0 n=(bW n).map .int:=by
 unfold br bW;refine rA bz ?_;simp only[Int.sub_zero,bw];exact cy fun j zz=>by simp
structure sL(L:List Int)(m n:Nat):Prop where
 len:L.length=m+1
 hd:L[0]?=some 0
 last:L[m]?=some (n:Int)
 lt:∀i,i<m->∃a b:Nat,L[i]?=some (a:Int)/\L[i+1]?=some (b:Int)/\a<b/\b<=n
theorem zB{l:List Int}{n:Nat}(nd:l.Nodup)(h0:(0:Int)∈l)(hl:∀x∈l,x∈bW n):sL (eT l++[(n:Int)]) l.length n:=by
 have hp:=fq l;have hs:(eT l).Pairwise (·<·):=by
  have h1:=ib l;have h2:(eT l).Nodup:=hp.nodup_iff.mpr nd;exact(h1.and h2).imp fun z'=>by refine ea z' fun a b=>?_;exact dH.mpr ⟨Lz [] [_,_] (Sa Z0 Z1 (Gz Z0 Z1)) rfl a,b⟩
 have hm:∀x,x∈eT l↔x∈l:=fun x=>hp.mem_iff;have hsl:=fN l;have hs2:(eT l++[(n:Int)]).Pairwise (·<·):=by
  rw[gj];refine⟨hs,by simp,fun a ha b hb=>?_⟩;refine rA (ag.mp hb) ?_;refine bx (dj.mp (hl a ((hm a).mp ha))) fun j e h=>?_;exact oz28 e h
 have pos:∀x∈eT l++[(n:Int)],0<=x/\x<=n:=fun x hx=>by
  rcases ak.mp hx with h|h
  ·refine bx (dj.mp (hl x ((hm x).mp h))) fun j e h=>?_;exact⟨Lz [_] [_] (Sd Z0 C0 (Gz (Kz 0) Z0)) rfl e,Lz [_,_] [_] (Sb Z0 C0 (Ra M0 N1 (Gz Z0 C1))) rfl e h⟩
  ·refine rA (ag.mp h) ?_;exact⟨L1 (Gz (Kz 0) C0) rfl,L1 (Gz C0 C0) rfl⟩
 refine⟨by simp[hsl],?_,?_,fun i hi=>?_⟩
 ·cases e:eT l with
  |nil=>rw[←hm,e]at h0;cases h0
  |cons a r=>
   show some a=some 0;rw[e]at hs;have ha:=pos a (by refine rA e ?_;simp);have:=(hm 0).mpr h0;rw[e]at this;rcases aA.mp this with h|h
   ·exact rB h rfl
   ·have:=(jV.mp hs).1 0 h;lia
 ·refine rB hsl ?_;simp
 ·have h1:i<(eT l++[(n:Int)]).length:=by simp;exact L3 (Rc N0 N1 (Ra M2 N1 (Gn M2 M0))) rfl hsl hi
  have h2:i+1<(eT l++[(n:Int)]).length:=by simp;exact mI hi hsl
  have p1:=pos _ (cS h1);have p2:=pos _ (cS h2);have lt:=gB.mp hs2 i (i+1) h1 h2 (by exact dC _);exact⟨((eT l++[(n:Int)])[i]).toNat,((eT l++[(n:Int)])[i+1]).toNat,by exact rA (ac h1) (rA (aY p1.1) rfl),by exact rA (ac h2) (rA (aY p2.1) rfl),by exact Lz [_,_] [_,_] (Sa (Pz Z0 (Kz 1)) Z1 (Sb C0 Z0 (Sa Z1 C1 (Gn M0 N1)))) rfl lt (aY (Lz [] [_] (Sa (Kz 0) Z0 (Gz (Kz 0) Z0)) rfl p1.1)) wJ,by exact Lz [_,_] [_] (Sa Z0 C0 (Sb C1 Z0 (Gn N1 N0))) rfl p2.2 (aY (Lz [] [_] (Sa (Kz 0) Z0 (Gz (Kz 0) Z0)) rfl p2.1))⟩
theorem nU{L:List Int}{m n i:Nat}(E:sL L m n)(h:i<m):∃a b:Nat,((L.zip L.tail).map dN)[i]?=some (dN ((a:Int),(b:Int)))/\L[i]?=some (a:Int)/\L[i+1]?=some (b:Int)/\a<b/\b<=n:=by
 refine cq (E.lt i h) fun a b h1 h2 FW=>?_;refine ea FW fun h3 h4=>?_;refine⟨a,b,?_,h1,h2,h3,h4⟩;refine rA ar ?_;have:(L.zip L.tail)[i]?=some ((a:Int),(b:Int)):=tA.mpr ⟨h1,by refine rA List.getElem?_tail ?_;exact h2⟩;refine rA this ?_;rfl
noncomputable def pH(es:List (Int×Int))(i:Int)(w:Wd):Bool:=decide (eE es (i-1)=[i])&&(decide ((es.filter fun p=>decide (p.2=i)).map (·.1)=[i-1])&&mJ w)
section
variable {g:GX}{k:Nat}{X:XP}{Q:VP}{H:HH}{G:GC}
theorem nN{a b:Bool}(h:Q (.bool (decide (a=b))) H):VT G k (gu .Eq) [.bool a,.bool b] H Q X :=
 pA (.bool a) (.bool b) (by simp[eG,bX,cu]) (by simp[eG,bX,cu]) (by
  have:cj (.bool a) (.bool b)=decide (a=b):=by cases a <;> cases b <;> simp[cj]
  refine rA this ?_;exact h)
noncomputable abbrev Ex(H:HH)(os:List bq)(L:List Int)(m:Nat):ah->List V->List V->HH->Prop:=fun D r acc H'=>X2 fun(i a:Nat)=>A7 (i<=m) (L[i]?=some (a:Int)) (a<=os.length) (r=((L.zip L.tail).map dN).drop i) (acc=(bW a).map .int) (H'=upd H D (.lst acc)) (H D=none)
noncomputable abbrev Ey(H:HH)(os:List bq)(L:List Int)(m:Nat)(D:ah)(B:ah):ah->List V->List V->HH->Prop:=fun D2 r acc H'=>X1 fun(i:Nat)=>A5 (i<=m) (r=((L.zip L.tail).map dN).drop i) (acc=[]) (H'=HL H [D2,B,D] [.lst acc,.lst (br 0 os.length),.lst ((bW os.length).map V.int)]) (cw H [D2,B,D])
noncomputable abbrev Ez(H:HH)(os:List bq)(L:List Int)(m:Nat)(D:ah)(B:ah)(D2:ah)(N:ah):ah->List V->List V->HH->Prop:=fun C r acc H'=>X1 fun(i:Nat)=>A5 (i<=m) (r=((L.zip L.tail).map dN).drop i) (acc=(L.take i).map .int) (H'=HL H [C,N,D2,B,D] [.lst acc,.lst [],.lst [],.lst (br 0 os.length),.lst ((bW os.length).map V.int)]) (cw H [C,N,D2,B,D])
noncomputable abbrev tH(os:List bq)(ws:List (Wd×Int))(es:List (Int×Int))(L:List Int)(m:Nat):List (Str×V):=[("program",c5 os),("words",AF ws),("goals",ym ws),("edges",.lst (es.map dN)),("told",.lst ((L.zip L.tail).map dN)),("begins",iV (L.take m))]
noncomputable abbrev EA(H:HH)(os:List bq)(ws:List (Wd×Int))(es:List (Int×Int))(L:List Int)(m:Nat):List V->St->Prop:=fun r σ=>X1 fun(i:Nat)=>A4 (1<=i) (i<=os.length) (r=br i os.length) (σ=⟨tH os ws es L m,H⟩)
noncomputable abbrev EB(H:HH)(es:List (Int×Int))(j:Nat):ah->List V->List V->HH->Prop:=fun A r acc H'=>X2 fun pre l=>A5 (es=pre++l) (r=l.map dN) (acc=(eE pre (j:Nat)).map .int) (H'=HL H [A] [.lst acc]) (cw H [A])
noncomputable abbrev EC(H:HH)(es:List (Int×Int))(j:Nat)(A:ah):ah->List V->List V->HH->Prop:=fun B2 r acc H'=>X2 fun pre l=>A5 (es=pre++l) (r=l.map dN) (acc=((pre.filter fun p=>decide (p.2=(j:Int)+1)).map (·.1)).map .int) (H'=HL H [B2,A] [.lst acc,.lst ((eE es (j:Nat)).map .int)]) (cw H [B2,A])
noncomputable abbrev ED(H:HH)(D:ah)(b:Nat):List V->List V->HH->Prop:=fun r acc H'=>X1 fun(c:Nat)=>A4 (c<=b) (r=br c b) (acc=(bW c).map .int) (H'=upd H D (.lst acc))
theorem pd{os:List bq}{ws:List (Wd×Int)}{es:List (Int×Int)}(hn:os.length<60)(hl:ws.length=os.length)(hel:es.length<200)(h0:0<os.length)(hs:∀s∈ay os,s∈bW os.length)(hs0:(0:Int)∈ay os)(hsl:(ay os).length<60)(T:∀i o,os[i]?=some o->cI o=true∨bN o=true->tgt os i o=some (tg os i o))
  (hP:∀(i:Nat) w gl,ws[i]?=some (w,gl)->i+1<os.length->pH es ((i:Int)+1) w=!decide ((i:Int)+1∈bR os os.length)) (h:Q (.bool true) H) (hk:70<=k):CT g.gc k (.ref 506) [c5 os,AF ws,ym ws,.lst (es.map dN)] H Q X:=by
 refine gK (dcs:=[]) rfl (fun zz zz zz zz zz=>rfl) rfl ?_ (gG hk);have bk:=nP hs (fun i o ho hq=>(qV (T i o ho hq)).1) (ax os.length);have E:sL (cE os) (bR os os.length).length os.length:=zB bk.1 (by
  have:∀i,i<=os.length->(0:Int)∈bR os i:=by
   intro i
   induction i with
   |zero=>intro _;exact oj.mpr (.inr hs0)
   |succ i ih=>
    intro hi;have:=ih (by exact iy hi);refine rA (jC (ac (show i<os.length by exact jz (qz hi)))) ?_;unfold hU;dsimp only;split <;> (try split) <;> simp_all [fK]
  exact this _ (ax _)) bk.2
 have bl:(bR os os.length).length<=os.length:=by
  have:=hZ bk.1 bk.2;rw[gP]at this;exact this
 generalize hL:cE os=L at E;have hbL:∀x,x∈bR os os.length↔x∈L.take (bR os os.length).length:=fun x=>by
  refine rB hL ?_;unfold cE;rw[List.take_append_of_le_length (by rw[fN];exact ax _),fw (by rw[fN];exact ax _)];exact((fq _).mem_iff).symm
 generalize hm:(bR os os.length).length=m at E hbL bl;have zl:((L.zip L.tail).map dN).length=m:=by rw[ae,List.length_zip,List.length_tail,E.len];lia
 have hm0:0<m:=by
  apply aG;intro z;have:m=0:=by exact io (aW z)
  subst this;have:=E.hd.symm.trans E.last;simp at this;exact L1 (Ra (Pn (Kn 0) (Kn 1)) N0 (Sd (Kz 0) C0 Fa)) rfl h0 this
 refine aE (ye hn hs hsl T ?_ (dn hk));unfold wn;refine rA hL ?_;refine lc2 ?_ (dn hk);refine⟨Ex H os L m,fun D hD=>⟨⟨0,0,aH _,E.hd,aH _,rfl,rfl,rfl,hD⟩,?_,?_⟩⟩
 ·rintro acc H' ⟨i,a,hi,ha,-,hr,rfl,rfl,hD⟩;have:=pF (by refine rA zl ?_;exact hi) hr;rw[zl]at this;have:=this.symm;subst this;have ha:a=os.length:=by have:=ha.symm.trans E.last;simp at this;exact_mod_cast this
  subst ha;refine eZ (n:=os.length) (xs:=ws.map fun p=>.str p.1.s) rfl (by rw[ae];exact hl) (by exact rC hn) ?_;refine ct (by exact vI hn) ?_;refine tL rfl (by exact L1 (Ra M0 (Kn 60) (Gz (Pz (Mz C0 (Kz 0)) (Kz 1)) (Kz 1000000))) rfl hn) (fun B hB=>?_) (dn hk);have hB:upd H D (.lst ((bW os.length).map V.int)) B=none:=hB;have O:cw H [B,D]:=cw.push (vs:=[.lst ((bW os.length).map V.int)]) (cw.push (vs:=[]) cw.nil hD) hB;refine fY (ns:=bW os.length) (ms:=bW os.length) (O.con (vs:=[.lst (br 0 os.length),.lst ((bW os.length).map V.int)]) 1 rfl rfl) ((O.con (vs:=[.lst (br 0 os.length),.lst ((bW os.length).map V.int)]) 0 rfl rfl).trans (congrArg V.lst (Bm _))) ?_;have e1:(!decide (bW os.length=bW os.length))=false:=by simp
  refine dY (fun q=>by rw[e1]at q;exact nB q) (fun q=>?_);clear q e1;have O1:=O;refine⟨Ey H os L m D B,fun D2 hD2=>⟨⟨0,aH _,rfl,rfl,rfl,O.push (vs:=[.lst (br 0 os.length),.lst ((bW os.length).map V.int)]) hD2⟩,?_,?_⟩⟩
  ·refine yk fun i hi hr O2=>?_;intro N hN;have hN:HL H [D2,B,D] [.lst [],.lst (br 0 os.length),.lst ((bW os.length).map V.int)] N=none:=hN;have O3:=O2.push hN;refine fY (ns:=[]) (ms:=[]) (O3.con (vs:=[.lst [],.lst [],.lst (br 0 os.length),.lst ((bW os.length).map V.int)]) 1 rfl rfl) (O3.con (vs:=[.lst [],.lst [],.lst (br 0 os.length),.lst ((bW os.length).map V.int)]) 0 rfl rfl) ?_;refine Ba (fun env e=>by cases env;cases e;rfl) ?_ (dn hk);refine⟨Ez H os L m D B D2 N,fun C hC=>⟨⟨0,aH _,rfl,rfl,rfl,O3.push (vs:=[.lst [],.lst [],.lst (br 0 os.length),.lst ((bW os.length).map V.int)]) hC⟩,?_,?_⟩⟩
   ·refine yk fun i hi hr O4=>?_;have:=pF (by refine rA zl ?_;exact hi) hr;rw[zl]at this;have:=this.symm;subst this;refine⟨⟨tH os ws es L m,H⟩,.of (cw.sub O4.fr O4.nd) ⟨⟨_,rfl,.same _⟩,⟨_,rfl,.same _⟩,⟨_,rfl,.same _⟩,⟨_,rfl,.same _⟩,⟨_,rfl,.same _⟩,⟨_,rfl,O4.rfy 0 rfl rfl (.same _)⟩,trivial⟩,?_⟩;refine eZ (n:=os.length) (xs:=ws.map fun p=>.str p.1.s) rfl (by rw[ae];exact hl) (by exact rC hn) ?_;refine j6 (by exact AK (Lz [] [] (Gz (Kz 0) (Kz 1)) rfl) (Lz [] [] (Gz (Pz (Kz 1) (Kz 1)) (Cz (Kn (2^62)))) rfl)) (by exact vI hn) ?_;refine⟨EA H os ws es L m,⟨1,ax _,h0,rfl,rfl⟩,?_,?_⟩
    ·refine B5 fun i hi1 hi hr=>?_;have e0:((L.take m).map V.int)[0]?=some (.int 0):=by refine rA ar (rA (List.getElem?_take_of_lt hm0) (rA E.hd ?_));rfl
     refine bT (j:=0) (xs:=(L.take m).map V.int) rfl e0 (by decide) ?_;exact dO h
    ·intro v r;refine B5 fun i hi1 hi hr=>?_;refine jc (er hi hr) fun hi FW FY=>?_;subst FW;subst FY;obtain⟨j,rfl⟩:∃j,i=j+1:=⟨i-1,by exact ao (L2 (Ra N0 M1 (Gn N0 M1)) rfl jF) (L2 (Rb M0 N1 (Gn M0 N1)) rfl (iE (L1 (Ra (Kn 1) N0 (Gn (Kn 1) N0)) rfl hi1)))⟩;have hwj:ws[j]?=some (ws[j]'(by exact L3 (Rc N0 N1 (Ra (Pn M2 (Kn 1)) N1 (Gn M2 N0))) rfl hl hi)):=ac (by exact L3 (Rc N0 N1 (Ra (Pn M2 (Kn 1)) N1 (Gn M2 N0))) rfl hl hi);generalize ws[j]'(by exact L3 (Rc N0 N1 (Ra (Pn M2 (Kn 1)) N1 (Gn M2 N0))) rfl hl hi)=wg at hwj;obtain⟨w,gl⟩:=wg;have hpj:=hP j w gl hwj hi;have ew:(ws.map fun p=>V.str p.1.s)[j]?=some (.str w.s):=by refine rA ar (rA hwj ?_);rfl
     refine mw (names:=["behind","ahead"]) (fun env e=>by cases env;cases e;rfl) ?_ (dn hk);refine⟨EB H es j,fun A hA=>⟨⟨[],es,rfl,rfl,rfl,rfl,cw.push (vs:=[]) cw.nil hA⟩,?_,?_⟩⟩
     ·refine Du fun OA=>?_;refine⟨EC H es j A,fun B2 hB2=>⟨⟨[],es,rfl,rfl,rfl,rfl,OA.push (vs:=[.lst ((eE es (j:Nat)).map .int)]) hB2⟩,?_,?_⟩⟩
      ·refine Du fun OB=>?_;have ej:((j+1:Nat):Int)=(j:Int)+1:=by push_cast;rfl
       have hpk:(decide (eE es (j:Nat)=[((j+1:Nat):Int)])&&(decide ((es.filter fun p=>decide (p.2=(j:Int)+1)).map (·.1)=[((j+1:Nat):Int)-1])&&mJ w))=!decide (((j+1:Nat):Int)∈L.take m):=by
        have hd:decide (((j+1:Nat):Int)∈bR os os.length)=decide (((j+1:Nat):Int)∈L.take m):=decide_eq_decide.mpr (hbL _);refine rB hd (rA ej (rB hpj ?_));unfold pH;exact rA (show(j:Int)+1-1=(j:Nat) by exact bi (L1 (Gz (Mz (Pz C0 (Kz 1)) (Kz 1)) C0) rfl) (L1 (Gz C0 (Mz (Pz C0 (Kz 1)) (Kz 1))) rfl)) rfl
       refine⟨rfl,aq rfl,?_⟩;intro N hN;have hN:HL H [B2,A] [.lst (((es.filter fun p:Int×Int=>decide (p.2=(j:Int)+1)).map (fun p:Int×Int=>p.1)).map V.int),.lst ((eE es (j:Nat)).map .int)] N=none:=hN;have ON:=OB.push hN;have c1:=ON.con (vs:=[.lst [.int ((j+1:Nat):Int)],.lst (((es.filter fun p:Int×Int=>decide (p.2=(j:Int)+1)).map (fun p:Int×Int=>p.1)).map V.int),.lst ((eE es (j:Nat)).map .int)]) 2 rfl rfl;have c2:=ON.con (vs:=[.lst [.int ((j+1:Nat):Int)],.lst (((es.filter fun p:Int×Int=>decide (p.2=(j:Int)+1)).map (fun p:Int×Int=>p.1)).map V.int),.lst ((eE es (j:Nat)).map .int)]) 0 rfl rfl;refine j5 (ns:=eE es (j:Nat)) (ms:=[((j+1:Nat):Int)]) c1 c2 ?_;refine dY (fun q1=>?_) (fun q1=>?_)
       ·intro N2 hN2;have hN2:HL H [N,B2,A] [.lst [.int ((j+1:Nat):Int)],.lst (((es.filter fun p:Int×Int=>decide (p.2=(j:Int)+1)).map (fun p:Int×Int=>p.1)).map V.int),.lst ((eE es (j:Nat)).map .int)] N2=none:=hN2;have ON2:=ON.push hN2;have d1:=ON2.con (vs:=[.lst [.int (((j+1:Nat):Int)-1)],.lst [.int ((j+1:Nat):Int)],.lst (((es.filter fun p:Int×Int=>decide (p.2=(j:Int)+1)).map (fun p:Int×Int=>p.1)).map V.int),.lst ((eE es (j:Nat)).map .int)]) 2 rfl rfl;have d2:=ON2.con (vs:=[.lst [.int (((j+1:Nat):Int)-1)],.lst [.int ((j+1:Nat):Int)],.lst (((es.filter fun p:Int×Int=>decide (p.2=(j:Int)+1)).map (fun p:Int×Int=>p.1)).map V.int),.lst ((eE es (j:Nat)).map .int)]) 0 rfl rfl;refine j5 (ns:=(es.filter fun p=>decide (p.2=(j:Int)+1)).map (·.1)) (ms:=[((j+1:Nat):Int)-1]) d1 d2 ?_;refine dY (fun q2=>?_) (fun q2=>?_)
        ·have ew2:(ws.map fun p=>V.str p.1.s)[(((j+1:Nat):Int)-1).toNat]?=some (.str w.s):=by refine rA (show(((j+1:Nat):Int)-1).toNat=j by exact ao (L2 (Sb C0 (Mz (Cz M1) (Kz 1)) (Gn N0 N1)) rfl (aY (L1 (Gz (Kz 0) (Mz (Cz M0) (Kz 1))) rfl))) (L2 (Sa (Mz (Cz M0) (Kz 1)) C1 (Gn N0 N1)) rfl wJ)) ?_;exact ew
         refine i9 (xs:=ws.map fun p=>V.str p.1.s) (x:=.str w.s) rfl (by exact L1 (Gz (Kz 0) (Mz (Cz M0) (Kz 1))) rfl) ew2 (by exact L2 (Ra M0 (Kn 60) (Ra (Pn M1 (Kn 1)) N0 (Gz (Pz (Mz (Cz M1) (Kz 1)) (Kz 1)) (Kz (2^62))))) rfl hn hi) ?_;refine u4 ?_;refine i6 (ns:=L.take m) rfl ?_;refine nN ?_;have hpe:∀b,b=mJ w->b=decide (((j+1:Nat):Int)∈L.take m)->False:=fun b zb z=>by
          rw[q1,q2,gN,gN,←z,zb]at hpk;revert hpk;cases mJ w <;> simp
         refine dY (fun q=>(hpe _ rfl (of_decide_eq_true q)).elim) (fun q=>?_);refine⟨⟨tH os ws es L m,H⟩,?_,j+1+1,by exact dU _ _,by exact l9 (jy hi),rfl,rfl⟩;exact .of (cw.sub (vs:=[.lst [.int (((j+1:Nat):Int)-1)],.lst [.int ((j+1:Nat):Int)],.lst (((es.filter fun p:Int×Int=>decide (p.2=(j:Int)+1)).map (fun p:Int×Int=>p.1)).map V.int),.lst ((eE es (j:Nat)).map .int)]) ON2.fr ON2.nd) ⟨⟨_,rfl,.same _⟩,⟨_,rfl,.same _⟩,⟨_,rfl,.same _⟩,⟨_,rfl,.same _⟩,⟨_,rfl,.same _⟩,⟨_,rfl,.same _⟩,trivial⟩
        ·skip
         refine i6 (ns:=L.take m) rfl ?_;refine nN ?_;have hpe:∀b,b=false->b=decide (((j+1:Nat):Int)∈L.take m)->False:=fun b zb z=>by
          rw[q1,q2,gN,Bool.false_and,←z,zb]at hpk;revert hpk;cases false <;> simp
         refine dY (fun q=>(hpe _ q2 (of_decide_eq_true q)).elim) (fun q=>?_);refine⟨⟨tH os ws es L m,H⟩,?_,j+1+1,by exact dU _ _,by exact l9 (jy hi),rfl,rfl⟩;exact .of (cw.sub (vs:=[.lst [.int (((j+1:Nat):Int)-1)],.lst [.int ((j+1:Nat):Int)],.lst (((es.filter fun p:Int×Int=>decide (p.2=(j:Int)+1)).map (fun p:Int×Int=>p.1)).map V.int),.lst ((eE es (j:Nat)).map .int)]) ON2.fr ON2.nd) ⟨⟨_,rfl,.same _⟩,⟨_,rfl,.same _⟩,⟨_,rfl,.same _⟩,⟨_,rfl,.same _⟩,⟨_,rfl,.same _⟩,⟨_,rfl,.same _⟩,trivial⟩
       ·skip
        refine i6 (ns:=L.take m) rfl ?_;refine nN ?_;have hpe:∀b,b=false->b=decide (((j+1:Nat):Int)∈L.take m)->False:=fun b zb z=>by
         rw[q1,Bool.false_and,←z,zb]at hpk;revert hpk;cases false <;> simp
        refine dY (fun q=>(hpe _ q1 (of_decide_eq_true q)).elim) (fun q=>?_);refine⟨⟨tH os ws es L m,H⟩,?_,j+1+1,by exact dU _ _,by exact l9 (jy hi),rfl,rfl⟩;exact .of (cw.sub (vs:=[.lst [.int ((j+1:Nat):Int)],.lst (((es.filter fun p:Int×Int=>decide (p.2=(j:Int)+1)).map (fun p:Int×Int=>p.1)).map V.int),.lst ((eE es (j:Nat)).map .int)]) ON.fr ON.nd) ⟨⟨_,rfl,.same _⟩,⟨_,rfl,.same _⟩,⟨_,rfl,.same _⟩,⟨_,rfl,.same _⟩,⟨_,rfl,.same _⟩,⟨_,rfl,.same _⟩,trivial⟩
      ·refine Dv fun pre p l e OB=>?_;obtain⟨a,b⟩:=p;have es':es=(pre++[(a,b)])++l:=by refine rA e ?_;simp
       have hpl:pre.length<200:=by rw[e]at hel;simp at hel;exact um hel
       have hfl:=bp (fun p:Int×Int=>decide (p.2=(j:Int)+1)) pre;refine⟨_,rfl,rfl,rfl,.put (.put .refl rfl) rfl,?_⟩;refine dY (fun z=>?_) (fun z=>?_)
       ·have z:b=(j:Int)+1:=by have:=of_decide_eq_true z;push_cast at this;exact this
        exact⟨.int a,_,.refl,.same _,OB.get 0 rfl rfl,by rw[ae,ae];exact pG hfl hpl,pre++[(a,b)],l,es',rfl,by rw[bu];simp[z],HL.set 0 OB.nd rfl rfl,OB⟩
       ·have z:b≠(j:Int)+1:=by have:=of_decide_eq_false z;push_cast at this;exact this
        exact⟨_,.refl,pre++[(a,b)],l,es',rfl,by rw[bu];simp[z],rfl,OB⟩
     ·refine Dv fun pre p l e OA=>?_;obtain⟨a,b⟩:=p;have es':es=(pre++[(a,b)])++l:=by refine rA e ?_;simp
      have hpl:pre.length<200:=by rw[e]at hel;simp at hel;exact um hel
      have hfl:(eE pre (j:Nat)).length<=pre.length:=by unfold eE;rw[ae];exact bp _ _
      refine⟨_,rfl,rfl,rfl,.put (.put .refl rfl) rfl,?_⟩;refine dY (fun z=>?_) (fun z=>?_)
      ·have z:a=(j:Nat):=by have:=of_decide_eq_true z;push_cast at this;lia
       exact⟨.int b,_,.refl,.same _,OA.get 0 rfl rfl,by rw[ae];exact pG hfl hpl,pre++[(a,b)],l,es',rfl,by unfold eE;rw[bu];simp[z],HL.set 0 OA.nd rfl rfl,OA⟩
      ·have z:a≠(j:Nat):=by have:=of_decide_eq_false z;push_cast at this;lia
       exact⟨_,.refl,pre++[(a,b)],l,es',rfl,by unfold eE;rw[bu];simp[z],rfl,OA⟩
   ·intro v r;refine yk fun i hi hr O4=>?_;refine jc (lz hr) fun hv FZ hi=>?_;subst FZ;rw[zl]at hi;refine cq (nU E hi) fun a' b h1 h2 F7=>?_;refine jc F7 fun h3 h4 h5=>?_;cases hv.symm.trans h1;refine⟨_,rfl,rfl,rfl,.put (.put .refl rfl) rfl,?_⟩;exact⟨.int a',_,.refl,.same _,O4.get 0 rfl rfl,by rw[ae,cT];exact L4 (Ra M0 (Kn 60) (Ra N1 N0 (Ra M2 N1 (Ra N3 N2 (Gn (Pn N3 (Kn 1)) (Kn 1000000)))))) rfl hn bl hi (jp _ _),i+1,hi,rfl,by refine rA aT (rA h2 (rA ai ?_));rfl,HL.set 0 O4.nd rfl rfl,O4⟩
  ·intro v r;refine yk fun i hi hr O2=>?_;refine jc (lz hr) fun hv F8 hi=>?_;subst F8;rw[zl]at hi;refine cq (nU E hi) fun a' b h1 h2 F9=>?_;refine jc F9 fun h3 h4 h5=>?_;cases hv.symm.trans h1;refine⟨_,rfl,rfl,rfl,.put (.put .refl rfl) rfl,?_⟩;refine dY (fun q=>?_) (fun q=>?_)
   ·have:=of_decide_eq_true q;exact absurd this (by simp;exact h4)
   ·exact⟨_,.refl,i+1,hi,rfl,rfl,rfl,O2⟩
 ·rintro v r acc H' ⟨i,a,hi,ha,han,hr,rfl,rfl,hD⟩;refine jc (lz hr) fun hv Ga hi=>?_;subst Ga;rw[zl]at hi;refine cq (nU E hi) fun a' b h1 h2 Gb=>?_;refine jc Gb fun h3 h4 h5=>?_;have:a'=a:=by have:=h2.symm.trans ha;simp at this;exact_mod_cast this
  subst this;cases hv.symm.trans h1;refine⟨_,rfl,rfl,rfl,.put (.put .refl rfl) rfl,?_⟩;refine j6 (by lia) (by exact oz3 h5 hn) ?_;refine⟨ED H D b,⟨a',by exact bn h4,rfl,rfl,rfl⟩,?_,?_⟩
  ·refine AH fun c hc hr=>?_;cases fy hc hr;exact⟨i+1,b,hi,h3,h5,rfl,rfl,rfl,hD⟩
  ·intro v r;refine AH fun c hc hr=>?_;refine jc (er hc hr) fun hc Gc Gd=>?_;subst Gc;subst Gd;refine⟨.put .refl rfl,?_⟩;exact⟨.int c,_,.refl,.same _,aw,by rw[ae,gP];exact FB hc h5 hn,c+1,hc,rfl,by unfold bW;refine rA ch (rA ai (rA ai ?_));rfl,by exact rA eU rfl⟩
end
noncomputable def qA(L:ah)(t g:Int):V:=.lst [.ref L,.int t,.int g]
noncomputable def PH(H:HH)(p L:ah)(t g:Int):HH:=upd H p (qA L t g)
theorem PH.at{H:HH}{p L:ah}{t g:Int}:PH H p L t g p=some (qA L t g):=aw
theorem PH.pen{H H':HH}{p L:ah}{cs:List Int}{t0 g0 t g:Int}(P:tw H p L cs t0 g0)(s:Sub (PH H p L t g) H')(ht:0<=t)(hg:0<=g):tw H' p L cs t g :=
 ⟨s _ _ PH.at,s _ _ ((bE P.ne.symm).trans P.ll),P.ne,P.cs,ht,hg⟩
theorem PH.none{H:HH}{p L a:ah}{cs:List Int}{t0 g0 t g:Int}(P:tw H p L cs t0 g0)(h:PH H p L t g a=none)(t' g':Int):PH H p L t' g' a=none/\a≠p:=by
 have hn:a≠p:=fun z=>by rw[z,PH.at]at h;exact nS h.symm
 exact⟨by refine rB h ?_;show upd H p _ a=upd H p _ a;exact rA (bE hn) (rA (bE hn) rfl),hn⟩
theorem PH.sub{H H':HH}{p L:ah}{t g t' g':Int}(s:Sub (PH H p L t g) H'):Sub (PH H p L t' g') (upd H' p (qA L t' g')):=fun b x e=>by
 by_cases z:b=p
 ·subst z;rw[PH.at]at e;refine rA aw ?_;exact e
 ·refine rA (bE z) ?_;refine s b x ?_;refine rB e ?_;show upd H p _ b=upd H p _ b;exact rA (bE z) (rA (bE z) rfl)
theorem Rows.pen{H H':HH}{p L D:ah}{bs:List ah}{ls:List (List V)}{cs:List Int}{t0 g0 t g:Int}(P:tw H p L cs t0 g0)(R:Rows (PH H p L t g) H' D bs ls)(t' g':Int):Rows (PH H p L t' g') (upd H' p (qA L t' g')) D bs ls:=by
 have np:∀a∈D::bs,a≠p:=fun a ha=>(PH.none P (R.fr a ha) t' g').2;refine⟨by refine rA (bE (np D (.head _))) ?_;exact R.top,R.len,fun j b l h1 h2=>by refine rA (bE (np b (.tail _ (aS h1)))) ?_;exact R.row j b l h1 h2,R.nd,fun a ha=>(PH.none P (R.fr a ha) t' g').1,PH.sub R.sub⟩
theorem PH.self{H:HH}{p L:ah}{cs:List Int}{t g:Int}(P:tw H p L cs t g):PH H p L t g=H:=by
 funext b
 show upd H p _ b=H b
 by_cases z:b=p
 ·subst z;refine rA aw ?_;exact P.pp.symm
 ·exact rA (bE z) rfl
noncomputable def dP(rs:List (List Int)):List (List V):=rs.map fun r=>r.map .int
theorem xZ{rs:List (List Int)}:(dP rs).length=rs.length:=by unfold dP;simp
noncomputable def l6(rs:List (List Int))(j:Nat)(s:Nat):List (List Int):=rs.set j (rs.getD j []++[(s:Int)])
theorem lQ{rs:List (List Int)}{j s:Nat}:dP (l6 rs j s)=(dP rs).set j ((rs.getD j []).map .int++[.int s]):=by unfold dP l6;refine rA List.map_set (rA ai ?_);rfl
theorem gL{rs:List (List Int)}{j:Nat}(h:j<rs.length):(dP rs)[j]?=some ((rs.getD j []).map .int):=by
 unfold dP;refine rA ar (rA (ac h) (rA bH (rA (ac h) ?_)));rfl
structure uW(rs:List (List Int))(n m:Nat):Prop where
 len:rs.length=n
 rng:∀r∈rs,∀s∈r,∃j:Nat,s=j/\j<n
 size:(rs.map bG).sum<=m
noncomputable def wb(rs:List (List Int))(i:Nat):Prop:=∀x,0<x->x<i->∃j,j<x/\(x:Int)∈rs.getD j []
theorem BZ{rs:List (List Int)}{j:Nat}{l:List Int}{x:Int}(h:j<rs.length)(e:rs.getD j []=l):((rs.set j (l++[x])).map bG).sum=(rs.map bG).sum+1:=by
 induction rs generalizing j with
 |nil=>cases h
 |cons a rs ih=>
  cases j with
  |zero=>
   have:a=l:=e;subst this;simp;exact ao (L2 (Gn (Pn M0 N1) (Pn (Pn N0 N1) (Kn 1))) rfl) (L2 (Gn (Pn (Pn N0 N1) (Kn 1)) (Pn M0 N1)) rfl)
  |succ j=>
   have:=ih (j:=j) (by simpa using h) e;refine rA List.set_cons_succ (rA aB (rA aB (rA cn (rA cn (rA this ?_)))));exact ao (L2 (Gn (Pn N0 M1) (Pn (Pn N0 N1) (Kn 1))) rfl) (L2 (Gn (Pn (Pn N0 N1) (Kn 1)) (Pn N0 M1)) rfl)
theorem tM{rs:List (List Int)}{j s i:Nat}(h:j<rs.length):(l6 rs j s).getD i []=if i=j then rs.getD j []++[(s:Int)]else rs.getD i []:=by
 unfold l6;refine rA bH (rA ie ?_)
 by_cases q:j=i
 ·subst q;simp[h]
 ·have:¬i=j:=fun z=>q z.symm;simp[q,this]
theorem uW.add{rs:List (List Int)}{n m j s:Nat}(h:uW rs n m)(hj:j<n)(hs:s<n):uW (l6 rs j s) n (m+1):=by
 have hl:=h.len;refine⟨by unfold l6;simp[hl],fun r hr x hx=>?_,?_⟩
 ·unfold l6 at hr;rcases tB hr with q|q
  ·exact h.rng r q x hx
  ·subst q;rcases ak.mp hx with q|q
   ·rw[bH,ac (by exact mI hj hl)]at q;exact h.rng _ (cS (by exact mI hj hl)) x q
   ·exact⟨s,ag.mp q,hs⟩
 ·unfold l6;refine rA (BZ (by exact mI hj hl) rfl) ?_;have:=h.size;exact lg this
set_option tactic.hygienic true in
theorem wb.add{rs:List (List Int)}{i j s:Nat}(h:wb rs i)(hj:j<rs.length):wb (l6 rs j s) i:=fun x h1 h2=>by
 refine bx (h x h1 h2) fun y h3 h4=>?_;refine⟨y,h3,?_⟩;refine rA (tM hj) ?_;split
 ·rename_i q;subst q;exact aC _ h4
 ·exact h4
theorem wb.next{rs:List (List Int)}{i j:Nat}(h:wb rs i)(hj:j<rs.length)(hji:j<i):wb (l6 rs j i) (i+1):=fun x h1 h2=>by
 by_cases q:x<i
 ·exact h.add hj x h1 q
 ·have:x=i:=by exact zZ h2 q
  subst this;exact⟨j,hji,by refine rA (tM hj) (rA (if_pos rfl) ?_);simp⟩
theorem De{l:List Nat}{a:Nat}(h:a∈l):a<=l.sum:=by
 induction l with
 |nil=>cases h
 |cons b l ih=>
  refine rA cn ?_;rcases aA.mp h with rfl|h
  ·exact b6 _ _
  ·have:=ih h;lia
theorem uW.one{rs:List (List Int)}{n m j:Nat}(h:uW rs n m):(rs.getD j []).length<=m:=by
 refine rA bH ?_;cases e:rs[j]? with
 |none=>simp
 |some r=>
  have:=h.size;have h2:r.length<=(rs.map bG).sum:=De (aJ.mpr ⟨r,aS e,rfl⟩);simp;exact a8 h2 this
section
variable {g:GX}{k:Nat}{X:XP}{Q:VP}{H H':HH}{G:GC}
theorem gJ{p L D:ah}{bs:List ah}{ls:List (List V)}{cs:List Int}{t0 g0 t gg many:Int}(P:tw H p L cs t0 g0)(R:Rows (PH H p L t gg) H' D bs ls)(t1:0<=t)(t2:t<100000)(g1:0<=gg)(hm:0<many)(hm2:many<1000)
  (h:∀(d:Nat) t' g',d<many->0<=t'->t'<=t+1->0<=g'->Rows (PH H p L t' g') (upd H' p (qA L t' g')) D bs ls->Q (.int d) (upd H' p (qA L t' g'))) (hk:10<=k):CT g.gc k (.ref 428) [.ref p,.int many] H' Q X :=
 lR (PH.pen P R.sub t1 g1) hm hm2 t2 (fun d t' g' a b c d' e=>by
  refine ex (fh a) fun n FW=>?_;subst FW;exact h n t' g' b c d' e (R.pen P t' g')) hk
noncomputable abbrev EF(H:HH)(p:ah)(L:ah)(t1:Int)(g1:Int)(n:Nat):ah->List V->List V->HH->Prop:=fun D r acc H'=>X1 fun bs=>A4 (acc=bs.map .ref) (r=br bs.length n) (bs.length<=n) (Rows (PH H p L t1 g1) H' D bs (dP (d9 bs.length [])))
noncomputable abbrev v9(p:ah)(n:Nat)(D:ah):List (Str×V):=[("pen",.ref p),("many",.int n),("rows",.ref D)]
noncomputable abbrev EG(H:HH)(p:ah)(L:ah)(t1:Int)(n:Nat)(D:ah)(bs:List ah):List V->St->Prop:=fun r σ=>X5 fun(i:Nat) (rs:List (List Int)) (t2 g2:Int) (H':HH)=>A10 (1<=i) (i<=n) (r=br i n) (0<=t2) (t2<=t1+i) (0<=g2) (uW rs n (i-1)) (wb rs i) (Rows (PH H p L t2 g2) H' D bs (dP rs)) (σ=⟨v9 p n D,H'⟩)
noncomputable abbrev EH(H:HH)(p:ah)(L:ah)(n:Nat)(D:ah)(bs:List ah)(t2:Int):List V->St->Prop:=fun r σ=>X5 fun(i:Nat) (rs:List (List Int)) (t3 g3:Int) (H':HH)=>A9 (i<=n-1) (r=br i (n-1:Nat)) (0<=t3) (t3<=t2+2*i) (0<=g3) (uW rs n (n-1+i)) (wb rs n) (Rows (PH H p L t3 g3) H' D bs (dP rs)) (σ=⟨v9 p n D,H'⟩)
set_option tactic.hygienic true in
theorem Aq{p L:ah}{cs:List Int}{t gg:Int}(P:tw H p L cs t gg)(ht:t<90000)
  (h:∀rs t' g',2<=rs.length->rs.length<=6->uW rs rs.length 11->wb rs rs.length->0<=t'->t'<=t+30->0<=g'->Q (.lst ((dP rs).map .lst)) (PH H p L t' g')) (hk:20<=k):CT g.gc k (.ref 440) [.ref p] H Q X:=by
 have pt:=P.t0;have pg:=P.g0;refine gK (dcs:=[]) rfl (fun zz zz=>rfl) rfl ?_ (gG hk);refine aE (lR P (by decide) (by decide) (by exact BD ht) (fun d t1 g1 d0 d1 a1 a2 a3=>?_) (dn hk));refine ex (fh d0) fun dn' FW=>?_;subst FW;obtain⟨n,hn⟩:∃n:Nat,(2:Int)+(dn':Nat)=n:=⟨2+dn',by push_cast;rfl⟩;have hn2:2<=n/\n<=6:=by exact⟨L2 (Sb (Pz (Kz 2) C0) C1 (Gn (Kn 2) N1)) rfl hn,L2 (Sa (Pz C0 (Kz 1)) (Kz 5) (Sd (Pz (Kz 2) C0) C1 (Gn N1 (Kn 6)))) rfl d1 hn⟩
 refine Ba (fun env e=>by cases env;cases e;rfl) ?_ (dn hk);refine ct (by exact AK (L1 (Gz (Kz 0) (Pz (Kz 2) C0)) rfl) (L1 (Sa (Pz C0 (Kz 1)) (Kz 5) (Gz (Pz (Pz (Kz 2) C0) (Kz 1)) (Cz (Kn (2^62))))) rfl d1)) ?_;refine⟨EF H p L t1 g1 n,fun D hD=>⟨⟨[],rfl,by refine rA hn ?_;rfl,aH _,.nil hD⟩,?_,?_⟩⟩
 ·rintro acc H' ⟨bs,rfl,hr,hb,R⟩;have hb:=fy hb hr;rw[hb]at R;refine⟨⟨v9 p n D,H'⟩,AD ⟨⟨_,rfl,.same _⟩,⟨_,rfl,hn▸.same _⟩,⟨_,rfl,.same _⟩,trivial⟩,?_⟩;refine j6 (by exact AK (Lz [] [] (Gz (Kz 0) (Kz 1)) rfl) (Lz [] [] (Gz (Pz (Kz 1) (Kz 1)) (Cz (Kn (2^62)))) rfl)) (by exact L2 (Sa (Pz C0 (Kz 1)) (Kz 5) (Sd (Pz (Kz 2) C0) C1 (Gn M1 (Kn (2^62))))) rfl d1 hn) ?_;have rb0:uW (d9 n []) n 0:=⟨by simp,fun r hr s hs=>(by rw[uO hr]at hs;cases hs),by simp⟩;refine⟨EG H p L t1 n D bs,
   ⟨1,d9 n [],t1,g1,H',ax _,by exact L2 (Sb (Pz (Kz 2) C0) C1 (Gn (Kn 1) N1)) rfl hn,rfl,a1,by exact Lz [] [_] (Gz Z0 (Pz Z0 (Cz (Kn 1)))) rfl,a3,rb0,fun x h1 h2=>by lia,R,rfl⟩,?_,?_⟩
  ·rintro σ ⟨i,rs,t2,g2,H',i1,i2,hr,b1,b2,b3,B,C,R,rfl⟩;have:=(fy i2 hr).symm;subst this;have hn1:(n:Int)-1=((n-1:Nat):Int):=by exact bi (L2 (Ra N0 M1 (Gz (Mz C0 (Kz 1)) C1)) rfl jF) (L2 (Rb M0 N1 (Gz C0 (Mz C1 (Kz 1)))) rfl (iE (L2 (Sb (Pz (Kz 2) C0) C1 (Gn (Kn 1) N1)) rfl hn)))
   refine⟨⟨v9 p n D,H'⟩,ci 3,?_⟩;refine ct (n:=(n:Int)-1) (by exact AK (L2 (Sb (Pz (Kz 2) C0) C1 (Gz (Kz 0) (Mz C1 (Kz 1)))) rfl hn) (L2 (Sa (Pz C0 (Kz 1)) (Kz 5) (Sd (Pz (Kz 2) C0) C1 (Gz (Pz (Mz C1 (Kz 1)) (Kz 1)) (Cz (Kn (2^62)))))) rfl d1 hn)) ?_;refine⟨EH H p L n D bs t2,
    ⟨0,rs,t2,g2,H',aH _,by refine rB hn1 ?_;rfl,b1,by exact Lz [] [_] (Gz Z0 (Pz Z0 (Tz 2 (Cz (Kn 0))))) rfl,b3,B,C,R,rfl⟩,?_,?_⟩
   ·rintro σ ⟨i,rs,t3,g3,H',i2,hr,b1,b2',b3,B,C,R,rfl⟩;have:=fy i2 hr;refine aE (gJ P R b1 (by exact Lz [_,_,_,_] [_,_,_,_] (Sa Z0 (Pz Z1 (Tz 2 C0)) (Rb N0 N1 (Rb N0 N1 (Sd (Mz C2 (Kz 1)) C1 (Sd (Mz C2 (Kz 1)) C1 (Sd (Pz (Kz 2) (Cz N3)) C2 (Sd (Pz (Kz 2) (Cz N3)) C2 (Sa (Pz (Cz N3) (Kz 1)) (Kz 5) (Sa (Pz (Cz N3) (Kz 1)) (Kz 5) (Sa Z1 (Pz (Xz 2) C2) (Sd (Pz (Kz 2) (Cz N3)) C2 (Sa (Pz (Cz N3) (Kz 1)) (Kz 5) (Sa (Xz 2) (Pz (Xz 3) (Kz 1)) (Sa (Pz (Xz 3) (Kz 1)) (Kz 90000) (Gz (Pz Z0 (Kz 1)) (Kz 100000)))))))))))))))) rfl b2' this this hn1 hn1 hn hn d1 d1 b2 hn d1 a2 ht) b3 (by exact Lz [] [] (Gz (Pz (Kz 0) (Kz 1)) (Kz 4)) rfl) (by exact Lz [] [] (Gz (Pz (Kz 4) (Kz 1)) (Kz 1000)) rfl) (fun d t4 g4 d1 c1 c2 c3 R2=>?_) (dn hk));refine dY (fun q=>?_) (fun q=>?_)
    ·refine aE (gJ P R2 c1 (by(rename_i FY FZ F7 F8 F9 Ga Gb Gc Gd Ge Gf Gg Gh Gi;exact Lz [_,_,_,_] [_,_,_,_,_] (Sa Z0 (Pz Z1 (Kz 1)) (Sa Z1 (Pz (Xz 2) (Tz 2 C0)) (Rb N0 N1 (Rb N0 N1 (Sd (Mz C2 (Kz 1)) C1 (Sd (Mz C2 (Kz 1)) C1 (Sd (Pz (Kz 2) (Cz N3)) C2 (Sd (Pz (Kz 2) (Cz N3)) C2 (Sa (Pz (Cz N3) (Kz 1)) (Kz 5) (Sa (Pz (Cz N3) (Kz 1)) (Kz 5) (Sa (Xz 2) (Pz (Xz 3) C2) (Sd (Pz (Kz 2) (Cz N3)) C2 (Sa (Pz (Cz N3) (Kz 1)) (Kz 5) (Sa (Xz 3) (Pz (Xz 4) (Kz 1)) (Sa (Pz (Xz 4) (Kz 1)) (Kz 90000) (Gz (Pz Z0 (Kz 1)) (Kz 100000))))))))))))))))) rfl c2 b2' this this hn1 hn1 hn hn FY FY b2 hn FY a2 ht)) c3 (by exact L2 (Sb (Pz (Kz 2) C0) C1 (Gz (Pz (Kz 0) (Kz 1)) C1)) rfl hn) (by(rename_i FY FZ F7 F8 F9 Ga Gb Gc Gd Ge Gf Gg Gh Gi;exact L2 (Sa (Pz C0 (Kz 1)) (Kz 5) (Sd (Pz (Kz 2) C0) C1 (Gz (Pz C1 (Kz 1)) (Kz 1000)))) rfl FY hn)) (fun d t5 g5 d1 e1 e2 e3 R3=>?_) (dn hk));have hdb:d<bs.length:=by refine rA hb ?_;exact jz d1
     have hrow:=R3.row d bs[d] _ (ac hdb) (gL (rs:=rs) (by refine rA B.len ?_;exact jz d1));refine bT (j:=d) (x:=.ref bs[d]) (bv R3.top) (by refine rA ar (rA (ac hdb) ?_);rfl) (by(rename_i FY FZ F7 F8 F9 Ga Gb Gc Gd Ge Gf Gg Gh Gi Gj Gk;exact L3 (Sa (Pz C0 (Kz 1)) (Kz 5) (Sd (Pz (Kz 2) C0) C1 (Sa (Pz C2 (Kz 1)) C1 (Gn M2 (Kn 1000000))))) rfl FY hn d1)) ?_;refine⟨_,MT.append (bv hrow),trivial,?_⟩;refine aE (gJ P R3 e1 (by(rename_i FY FZ F7 F8 F9 Ga Gb Gc Gd Ge Gf Gg Gh Gi Gj Gk;exact Lz [_,_,_,_] [_,_,_,_,_,_] (Sa Z0 (Pz Z1 (Kz 1)) (Sa Z1 (Pz (Xz 2) (Kz 1)) (Sa (Xz 2) (Pz (Xz 3) (Tz 2 C0)) (Rb N0 N1 (Rb N0 N1 (Sd (Mz C2 (Kz 1)) C1 (Sd (Mz C2 (Kz 1)) C1 (Sd (Pz (Kz 2) (Cz N3)) C2 (Sd (Pz (Kz 2) (Cz N3)) C2 (Sa (Pz (Cz N3) (Kz 1)) (Kz 5) (Sa (Pz (Cz N3) (Kz 1)) (Kz 5) (Sa (Xz 3) (Pz (Xz 4) C2) (Sd (Pz (Kz 2) (Cz N3)) C2 (Sa (Pz (Cz N3) (Kz 1)) (Kz 5) (Sa (Xz 4) (Pz (Xz 5) (Kz 1)) (Sa (Pz (Xz 5) (Kz 1)) (Kz 90000) (Gz (Pz Z0 (Kz 1)) (Kz 100000)))))))))))))))))) rfl e2 c2 b2' this this hn1 hn1 hn hn FY FY b2 hn FY a2 ht)) e3 (by exact L2 (Sb (Pz (Kz 2) C0) C1 (Gz (Pz (Kz 0) (Kz 1)) C1)) rfl hn) (by(rename_i FY FZ F7 F8 F9 Ga Gb Gc Gd Ge Gf Gg Gh Gi Gj Gk;exact L2 (Sa (Pz C0 (Kz 1)) (Kz 5) (Sd (Pz (Kz 2) C0) C1 (Gz (Pz C1 (Kz 1)) (Kz 1000)))) rfl FY hn)) (fun x t6 g6 x1 f1 f2 f3 R4=>?_) (dn hk));have hrow:=R4.row d bs[d] _ (ac hdb) (gL (rs:=rs) (by refine rA B.len ?_;exact jz d1));have hone:=B.one (j:=d);refine VT.append hrow (by rw[ae];(rename_i FY FZ F7 F8 F9 Ga Gb Gc Gd Ge Gf Gg Gh Gi Gj Gk Gl;exact L5 (Sa (Pz C0 (Kz 1)) (Kz 5) (Sa (Pz C0 (Kz 1)) (Kz 5) (Sd (Pz (Kz 2) C0) C1 (Sd (Pz (Kz 2) C0) C1 (Sd (Mz C1 (Kz 1)) C2 (Sd (Mz C1 (Kz 1)) C2 (Rb N3 N2 (Ra (Xn 4) (Pn N2 N3) (Gn (Pn (Xn 4) (Kn 1)) (Kn 1000000)))))))))) rfl FY FY hn hn hn1 hn1 this hone)) ?_;have R5:=R4.app (l:=(rs.getD d []).map .int++[.int x]) (ac hdb);rw[←lQ]at R5;have B2:=B.add (j:=d) (s:=x) (by exact jz d1) (by exact jz x1);exact⟨_,_,R5.sub,R5.rfy,h (l6 rs d x) t6 g6 (by refine rA B2.len ?_;exact L2 (Sb (Pz (Kz 2) C0) C1 (Gn (Kn 2) N1)) rfl hn) (by refine rA B2.len ?_;(rename_i FY FZ F7 F8 F9 Ga Gb Gc Gd Ge Gf Gg Gh Gi Gj Gk Gl;exact L2 (Sa (Pz C0 (Kz 1)) (Kz 5) (Sd (Pz (Kz 2) C0) C1 (Gn N1 (Kn 6)))) rfl FY hn)) (by refine rA B2.len ?_;exact⟨B2.len,B2.rng,by have:=B2.size;(rename_i FY FZ F7 F8 F9 Ga Gb Gc Gd Ge Gf Gg Gh Gi Gj Gk Gl Gm;exact L5 (Sa (Pz C0 (Kz 1)) (Kz 5) (Sa (Pz C0 (Kz 1)) (Kz 5) (Sd (Pz (Kz 2) C0) C1 (Sd (Pz (Kz 2) C0) C1 (Sd (Mz C1 (Kz 1)) C2 (Sd (Mz C1 (Kz 1)) C2 (Rb N3 N2 (Ra (Xn 4) (Pn (Pn N2 N3) (Kn 1)) (Gn (Xn 4) (Kn 11)))))))))) rfl FY FY hn hn hn1 hn1 Gj this)⟩) (by refine rA B2.len ?_;exact C.add (by refine rA B.len ?_;exact jz d1)) f1 (by(rename_i FY FZ F7 F8 F9 Ga Gb Gc Gd Ge Gf Gg Gh Gi Gj Gk Gl;exact Lz [_,_,_,_] [_,_,_,_,_,_,_] (Sa Z0 (Pz Z1 (Kz 1)) (Sa (Xz 2) (Pz (Xz 3) (Kz 1)) (Sa (Xz 4) (Pz (Xz 2) C0) (Sd (Pz (Kz 2) C1) C0 (Sa (Pz C1 (Kz 1)) (Kz 5) (Sa (Xz 5) (Pz (Xz 4) (Tz 2 C2)) (Rb N2 N3 (Rb N2 N3 (Sd (Mz C0 (Kz 1)) (Cz N3) (Sd (Mz C0 (Kz 1)) (Cz N3) (Sd (Pz (Kz 2) C1) C0 (Sd (Pz (Kz 2) C1) C0 (Sa (Pz C1 (Kz 1)) (Kz 5) (Sa (Pz C1 (Kz 1)) (Kz 5) (Sa (Xz 6) (Pz (Xz 5) (Kz 1)) (Sa Z1 (Pz (Xz 6) (Kz 1)) (Gz Z0 (Pz (Xz 3) (Kz 30))))))))))))))))))) rfl f2 a2 b2 hn FY b2' this this hn1 hn1 hn hn FY FY c2 e2)) f3⟩
    ·exact⟨_,_,R2.sub,R2.rfy,h rs t4 g4 (by refine rA B.len ?_;exact L2 (Sb (Pz (Kz 2) C0) C1 (Gn (Kn 2) N1)) rfl hn) (by refine rA B.len ?_;(rename_i FY FZ F7 F8 F9 Ga Gb Gc Gd Ge Gf Gg Gh Gi;exact L2 (Sa (Pz C0 (Kz 1)) (Kz 5) (Sd (Pz (Kz 2) C0) C1 (Gn N1 (Kn 6)))) rfl FY hn)) (by refine rA B.len ?_;exact⟨B.len,B.rng,by have:=B.size;(rename_i FY FZ F7 F8 F9 Ga Gb Gc Gd Ge Gf Gg Gh Gi Gj;exact L5 (Sa (Pz C0 (Kz 1)) (Kz 5) (Sa (Pz C0 (Kz 1)) (Kz 5) (Sd (Pz (Kz 2) C0) C1 (Sd (Pz (Kz 2) C0) C1 (Sd (Mz C1 (Kz 1)) C2 (Sd (Mz C1 (Kz 1)) C2 (Rb N3 N2 (Ra (Xn 4) (Pn N2 N3) (Gn (Xn 4) (Kn 11)))))))))) rfl FY FY hn hn hn1 hn1 Gj this)⟩) (by refine rA B.len ?_;exact C) c1 (by(rename_i FY FZ F7 F8 F9 Ga Gb Gc Gd Ge Gf Gg Gh Gi;exact Lz [_,_,_,_] [_,_,_,_,_] (Sa Z0 (Pz Z1 (Kz 1)) (Sa (Xz 2) (Pz (Xz 3) (Kz 1)) (Sa (Xz 4) (Pz (Xz 2) C0) (Sd (Pz (Kz 2) C1) C0 (Sa (Pz C1 (Kz 1)) (Kz 5) (Sa Z1 (Pz (Xz 4) (Tz 2 C2)) (Rb N2 N3 (Rb N2 N3 (Sd (Mz C0 (Kz 1)) (Cz N3) (Sd (Mz C0 (Kz 1)) (Cz N3) (Sd (Pz (Kz 2) C1) C0 (Sd (Pz (Kz 2) C1) C0 (Sa (Pz C1 (Kz 1)) (Kz 5) (Sa (Pz C1 (Kz 1)) (Kz 5) (Gz Z0 (Pz (Xz 3) (Kz 30))))))))))))))))) rfl c2 a2 b2 hn FY b2' this this hn1 hn1 hn hn FY FY)) c3⟩
   ·rintro v r σ ⟨i,rs,t3,g3,H',i2,hr,b1,b2',b3,B,C,R,rfl⟩;refine jc (er i2 hr) fun hi Go Gp=>?_;subst Go;subst Gp;have hdb:i<bs.length:=by refine rA hb ?_;exact L3 (Sd (Mz C0 (Kz 1)) C1 (Ra M2 N1 (Gn M2 N0))) rfl hn1 hi
    have hrow:=R.row i bs[i] _ (ac hdb) (gL (rs:=rs) (by refine rA B.len ?_;exact L3 (Sd (Mz C0 (Kz 1)) C1 (Ra M2 N1 (Gn M2 N0))) rfl hn1 hi));have hone:=B.one (j:=i);have hln:((rs.getD i []).map V.int).length<1000000:=by rw[ae];exact L5 (Sa (Pz C0 (Kz 1)) (Kz 5) (Sa (Pz C0 (Kz 1)) (Kz 5) (Sd (Pz (Kz 2) C0) C1 (Sd (Pz (Kz 2) C0) C1 (Sd (Mz C1 (Kz 1)) C2 (Sd (Mz C1 (Kz 1)) C2 (Ra (Pn N3 (Kn 1)) N2 (Ra (Xn 4) (Pn N2 N3) (Gn (Pn (Xn 4) (Kn 1)) (Kn 1000000)))))))))) rfl d1 d1 hn hn hn1 hn1 hi hone
    refine bT (j:=i) (x:=.ref bs[i]) (bv R.top) (by refine rA ar (rA (ac hdb) ?_);rfl) (by exact L4 (Sa (Pz C0 (Kz 1)) (Kz 5) (Sd (Pz (Kz 2) C0) C1 (Sd (Mz C1 (Kz 1)) C2 (Ra (Pn N3 (Kn 1)) N2 (Gn (Pn N3 (Kn 1)) (Kn 1000000)))))) rfl d1 hn hn1 hi) ?_;refine VT.len (bv hrow) hln ?_;refine dY (fun q=>?_) (fun q=>?_)
    ·refine aE (gJ P R b1 (by exact Lz [_,_,_,_] [_,_,_,_] (Sa Z0 (Pz Z1 (Tz 2 C0)) (Ra M0 N1 (Ra M0 N1 (Sd (Mz C2 (Kz 1)) C1 (Sd (Mz C2 (Kz 1)) C1 (Sd (Pz (Kz 2) (Cz N3)) C2 (Sd (Pz (Kz 2) (Cz N3)) C2 (Sa (Pz (Cz N3) (Kz 1)) (Kz 5) (Sa (Pz (Cz N3) (Kz 1)) (Kz 5) (Sa Z1 (Pz (Xz 2) C2) (Sd (Pz (Kz 2) (Cz N3)) C2 (Sa (Pz (Cz N3) (Kz 1)) (Kz 5) (Sa (Xz 2) (Pz (Xz 3) (Kz 1)) (Sa (Pz (Xz 3) (Kz 1)) (Kz 90000) (Gz (Pz Z0 (Kz 1)) (Kz 100000)))))))))))))))) rfl b2' hi hi hn1 hn1 hn hn d1 d1 b2 hn d1 a2 ht) b3 (by exact Lz [] [] (Gz (Pz (Kz 0) (Kz 1)) (Kz 2)) rfl) (by exact Lz [] [] (Gz (Pz (Kz 2) (Kz 1)) (Kz 1000)) rfl) (fun d t4 g4 d1 c1 c2 c3 R2=>?_) (dn hk));refine dY (fun q=>?_) (fun q=>?_)
     ·have hrow:=R2.row i bs[i] _ (ac hdb) (gL (rs:=rs) (by refine rA B.len ?_;exact L3 (Sd (Mz C0 (Kz 1)) C1 (Ra M2 N1 (Gn M2 N0))) rfl hn1 hi));refine bT (j:=i) (x:=.ref bs[i]) (bv R2.top) (by refine rA ar (rA (ac hdb) ?_);rfl) (by(rename_i FY FZ F7 F8 F9 Ga Gb Gc Gd Ge Gf Gg Gh Gi Gj Gk;exact L4 (Sa (Pz C0 (Kz 1)) (Kz 5) (Sd (Pz (Kz 2) C0) C1 (Sd (Mz C1 (Kz 1)) C2 (Ra (Pn N3 (Kn 1)) N2 (Gn (Pn N3 (Kn 1)) (Kn 1000000)))))) rfl FY hn hn1 hi)) ?_;refine⟨_,MT.append (bv hrow),trivial,?_⟩;refine aE (gJ P R2 c1 (by(rename_i FY FZ F7 F8 F9 Ga Gb Gc Gd Ge Gf Gg Gh Gi Gj Gk;exact Lz [_,_,_,_] [_,_,_,_,_] (Sa Z0 (Pz Z1 (Kz 1)) (Sa Z1 (Pz (Xz 2) (Tz 2 C0)) (Ra M0 N1 (Ra M0 N1 (Sd (Mz C2 (Kz 1)) C1 (Sd (Mz C2 (Kz 1)) C1 (Sd (Pz (Kz 2) (Cz N3)) C2 (Sd (Pz (Kz 2) (Cz N3)) C2 (Sa (Pz (Cz N3) (Kz 1)) (Kz 5) (Sa (Pz (Cz N3) (Kz 1)) (Kz 5) (Sa (Xz 2) (Pz (Xz 3) C2) (Sd (Pz (Kz 2) (Cz N3)) C2 (Sa (Pz (Cz N3) (Kz 1)) (Kz 5) (Sa (Xz 3) (Pz (Xz 4) (Kz 1)) (Sa (Pz (Xz 4) (Kz 1)) (Kz 90000) (Gz (Pz Z0 (Kz 1)) (Kz 100000))))))))))))))))) rfl c2 b2' hi hi hn1 hn1 hn hn FY FY b2 hn FY a2 ht)) c3 (by exact L3 (Sd (Mz C0 (Kz 1)) C1 (Ra M2 N1 (Gz (Pz (Kz 0) (Kz 1)) (Mz (Mz C0 C2) (Kz 1))))) rfl hn1 hi) (by(rename_i FY FZ F7 F8 F9 Ga Gb Gc Gd Ge Gf Gg Gh Gi Gj Gk;exact L3 (Sa (Pz C0 (Kz 1)) (Kz 5) (Sd (Pz (Kz 2) C0) C1 (Gz (Pz (Mz (Mz C1 C2) (Kz 1)) (Kz 1)) (Kz 1000)))) rfl FY hn)) (fun x t5 g5 x1 e1 e2 e3 R3=>?_) (dn hk));have hrow:=R3.row i bs[i] _ (ac hdb) (gL (rs:=rs) (by refine rA B.len ?_;exact L3 (Sd (Mz C0 (Kz 1)) C1 (Ra M2 N1 (Gn M2 N0))) rfl hn1 hi));refine VT.append hrow hln ?_;have R5:=R3.app (l:=(rs.getD i []).map .int++[.int ((i:Int)+1+(x:Nat))]) (ac hdb);have hl:(dP rs).set i ((rs.getD i []).map .int++[.int ((i:Int)+1+(x:Nat))])=dP (l6 rs i (i+1+x)):=by refine rA lQ ?_;push_cast;rfl
      rw[hl]at R5;have B2:=B.add (j:=i) (s:=i+1+x) (by exact L3 (Sd (Mz C0 (Kz 1)) C1 (Ra M2 N1 (Gn M2 N0))) rfl hn1 hi) (by exact L3 (Sa (Pz C0 (Kz 1)) (Mz (Mz C1 C2) (Kz 1)) (Gn (Pn (Pn M2 N0) (Kn 1)) N1)) rfl x1);refine⟨_,?w,i+1,l6 rs i (i+1+x),t5,g5,_,by exact l9 (jy hi),rfl,e1,by push_cast;exact Lz [_] [_,_,_,_] (Sa Z0 (Pz Z1 (Tz 2 C0)) (Sa (Xz 2) (Pz Z0 (Kz 1)) (Sa (Xz 3) (Pz (Xz 2) (Kz 1)) (Gz (Xz 3) (Pz Z1 (Tz 2 (Pz C0 (Kz 1)))))))) rfl b2' c2 e2,e3,B2,C.add (by refine rA B.len ?_;exact L3 (Sd (Mz C0 (Kz 1)) C1 (Ra M2 N1 (Gn M2 N0))) rfl hn1 hi),R5,rfl⟩
      case w=>exact ci 3
     ·refine⟨_,?w,i+1,rs,t4,g4,_,by exact l9 (jy hi),rfl,c1,by push_cast;exact Lz [_] [_,_,_] (Sa Z0 (Pz Z1 (Tz 2 C0)) (Sa (Xz 2) (Pz Z0 (Kz 1)) (Gz (Xz 2) (Pz Z1 (Tz 2 (Pz C0 (Kz 1))))))) rfl b2' c2,c3,⟨B.len,B.rng,by have:=B.size;exact vF this⟩,C,R2,rfl⟩
      case w=>exact ci 3
    ·refine⟨_,?w,i+1,rs,t3,g3,_,by exact l9 (jy hi),rfl,b1,by push_cast;exact Lz [_] [_,_] (Sa Z0 (Pz Z1 (Tz 2 C0)) (Gz Z0 (Pz Z1 (Tz 2 (Pz C0 (Kz 1)))))) rfl b2',b3,⟨B.len,B.rng,by have:=B.size;exact vF this⟩,C,R,rfl⟩
     case w=>exact ci 3
  ·rintro v r σ ⟨i,rs,t2,g2,H',i1,i2,hr,b1,b2,b3,B,C,R,rfl⟩;refine jc (er i2 hr) fun hi Gq Gs=>?_;subst Gq;subst Gs;refine aE (gJ P R b1 (by exact Lz [_,_,_] [_,_,_] (Sa (Pz Z0 (Kz 1)) (Kz 90000) (Sa Z1 (Pz Z0 (Kz 1)) (Sa (Pz C0 (Kz 1)) (Kz 5) (Sd (Pz (Kz 2) C0) C1 (Sa (Xz 2) (Pz Z1 C2) (Ra M2 N1 (Gz (Pz (Xz 2) (Kz 1)) (Kz 100000)))))))) rfl ht a2 d1 hn b2 hi) b3 (by exact(qz i1)) (by exact L3 (Sa (Pz C0 (Kz 1)) (Kz 5) (Sd (Pz (Kz 2) C0) C1 (Ra M2 N1 (Gz (Pz C2 (Kz 1)) (Kz 1000))))) rfl d1 hn hi) (fun d t3 g3 d1 c1 c2 c3 R2=>?_) (dn hk));have hdb:d<bs.length:=by refine rA hb ?_;exact be (jz d1) (bn hi)
   have hrow:=R2.row d bs[d] _ (ac hdb) (gL (rs:=rs) (by refine rA B.len ?_;exact BB hdb hb));refine bT (j:=d) (x:=.ref bs[d]) (bv R2.top) (by refine rA ar (rA (ac hdb) ?_);rfl) (by(rename_i FY FZ F7 F8 F9;exact L4 (Sa (Pz C0 (Kz 1)) (Kz 5) (Sd (Pz (Kz 2) C0) C1 (Ra M2 N1 (Sa (Pz (Cz N3) (Kz 1)) C2 (Gn (Pn N3 (Kn 1)) (Kn 1000000)))))) rfl FY hn hi d1)) ?_;refine⟨_,MT.append (bv hrow),trivial,?_⟩;have hone:=B.one (j:=d);refine VT.append hrow (by rw[ae];(rename_i FY FZ F7 F8 F9;exact L5 (Sa (Pz C0 (Kz 1)) (Kz 5) (Sd (Pz (Kz 2) C0) C1 (Ra M2 N1 (Ra N3 (Xn 4) (Rb (Pn (Xn 4) (Kn 1)) N2 (Gn (Pn N3 (Kn 1)) (Kn 1000000))))))) rfl FY hn hi hone (iE (L1 (Ra (Kn 1) N0 (Gn (Kn 1) N0)) rfl i1)))) ?_;have R3:=R2.app (l:=(rs.getD d []).map .int++[.int i]) (ac hdb);rw[←lQ]at R3;have B2:=B.add (j:=d) (s:=i) (by exact BB hdb hb) hi;rw[show i-1+1=i+1-1 by exact ao (L3 (Rb M0 N1 (Ra M1 M2 (Gn M0 N2))) rfl (iE (L1 (Ra (Kn 1) N0 (Gn (Kn 1) N0)) rfl i1)) jF) (L3 (Rb M0 M1 (Ra N1 M2 (Gn N0 M2))) rfl (iE (L1 (Gn (Kn 1) M0) rfl)) jF)]at B2;refine⟨_,?w,i+1,l6 rs d i,t3,g3,_,by exact dU _ _,hi,rfl,c1,by push_cast;exact Dj c2 b2,c3,B2,C.next (by refine rA B.len ?_;exact BB hdb hb) (by exact jz d1),R3,rfl⟩
   case w=>exact ci 3
 ·rintro v r acc H' ⟨bs,rfl,hr,hb,R⟩;refine jc (er hb hr) fun hi Gu Gv=>?_;subst Gu;subst Gv;refine⟨.put .refl rfl,?_⟩;intro b hb';have hb':H' b=none:=hb';exact⟨.ref b,_,.refl,.same _,by refine rA (bE (fun z=>by subst z;rw[R.top]at hb';exact nS hb'.symm)) ?_;exact R.top,by simp;exact L3 (Sa (Pz C0 (Kz 1)) (Kz 5) (Sd (Pz (Kz 2) C0) C1 (Ra M2 N1 (Gn M2 (Kn 1000000))))) rfl d1 hn hi,bs++[b],by simp,by simp,by simp;exact l9 (jy hi),by
   have:=R.more (l:=[]) hb';refine rA az (rA b9 (rA List.replicate_succ' ?_));unfold dP at this ⊢;refine rA ai ?_;exact this⟩
end
theorem Rows.cat{H H':HH}{D b D2 D3:ah}{bs:List ah}{ls:List (List V)}{l:List V}{x:V}(R:Rows H H' D bs ls)(hb:H' b=none)(h2:upd H' b (.lst l) D2=none)(h3:upd (upd H' b (.lst l)) D2 x D3=none) :
  Rows H (upd (upd (upd H' b (.lst l)) D2 x) D3 (.lst (bs.map .ref++[.ref b]))) D3 (bs++[b]) (ls++[l]):=by
 refine ea (d4 h2) fun n2 h2'=>?_;refine ea (d4 h3) fun n3 h3'=>?_;refine ea (d4 h3') fun n4 h4'=>?_;have base:∀a,H' a=none->H a=none:=fun a ha=>by
  cases q:H a with
  |none=>rfl
  |some v=>rw[R.sub a v q]at ha;exact nS ha.symm
 have nl:∀a∈bs,a≠b/\a≠D2/\a≠D3:=fun a ha=>by
  refine ex (R.live a (.tail _ ha)) fun v e=>?_;exact⟨fun z=>(by rw[z,hb]at e;exact nS e),fun z=>(by rw[z,h2']at e;exact nS e),fun z=>(by rw[z,h4']at e;exact nS e)⟩
 refine⟨by refine rA aw ?_;simp,by simp[R.len],fun j c m e1 e2=>?_,?_,fun a ha=>?_,((R.sub.upd (base b hb)).upd (base D2 h2')).upd (base D3 h4')⟩
 ·by_cases hj:j<bs.length
  ·rw[du hj]at e1;rw[du (by refine rB R.len ?_;exact hj)]at e2;refine jc (nl c (aS e1)) fun z1 z2 z3=>?_;refine rA (bE z3) (rA (bE z2) (rA (bE z1) ?_));exact R.row j c m e1 e2
  ·rw[cR (by exact aW hj)]at e1;rw[cR (by refine rB R.len ?_;exact aW hj)]at e2;obtain⟨z3,z4⟩:j-bs.length=0/\c=b:=by
    cases q:j-bs.length with
    |zero=>rw[q]at e1;exact⟨rfl,(aj e1).symm⟩
    |succ z=>rw[q]at e1;simp at e1
   rw[←R.len,z3]at e2;obtain rfl:=aj e2;subst z4;refine rA (bE (Ne.symm n4)) (rA (bE (Ne.symm n2)) ?_);exact aw
 ·refine ba.mpr ⟨fun z=>?_,?_⟩
  ·rcases ak.mp z with z|z
   ·exact(nl _ z).2.2 rfl
   ·exact n4 (ag.mp z)
  ·rw[cB];exact⟨(ba.mp R.nd).2,by simp,fun a ha c hc=>by refine rA (ag.mp hc) ?_;exact(nl a ha).1⟩
 ·rcases aA.mp ha with rfl|ha
  ·exact base _ h4'
  ·rcases ak.mp ha with q|q
   ·exact R.fr _ (.tail _ q)
   ·refine rA (ag.mp q) ?_;exact base _ hb
noncomputable def iI(i:Nat):List (List Int):=(aQ i).map fun j=>[((j+1:Nat):Int)]
theorem zp{n:Nat}(h:0<n):uW (iI (n-1)++[[]]) n (n-1)/\wb (iI (n-1)++[[]]) n:=by
 refine⟨⟨by unfold iI;simp;exact ao (L2 (Rb M0 N1 (Gn M0 N1)) rfl (iE (L1 (Ra (Pn (Kn 0) (Kn 1)) N0 (Gn (Kn 1) N0)) rfl h))) (L2 (Ra N0 M1 (Gn N0 M1)) rfl jF),fun r hr s hs=>?_,?_⟩,fun x h1 h2=>⟨x-1,by exact L2 (Rb M0 N1 (Gn M0 N1)) rfl (iE (L1 (Ra (Pn (Kn 0) (Kn 1)) N0 (Gn (Kn 1) N0)) rfl h1)),?_⟩⟩
 ·rcases ak.mp hr with q|q
  ·refine bx (aJ.mp q) fun j hj FW=>?_;subst FW;have:=bZ.mp hj;exact⟨j+1,ag.mp hs,by exact L3 (Ra M0 N1 (Rb M1 N2 (Gn (Pn M0 (Kn 1)) N2))) rfl this (iE (L1 (Ra (Pn (Kn 0) (Kn 1)) N0 (Gn (Kn 1) N0)) rfl h))⟩
  ·rw[ag.mp q]at hs;cases hs
 ·have:∀i,((iI i).map bG).sum=i:=fun i=>by
   induction i with
   |zero=>rfl
   |succ i ih=>
    unfold iI at ih ⊢;refine rA ch (rA ai (rA ai (rA eD (rA ih ?_))));rfl
  rw[ai,eD,this];simp
 ·refine rA bH (rA (du (by unfold iI;simp;exact L4 (Ra M0 N1 (Rb M2 N0 (Ra N1 (Pn N3 (Kn 1)) (Gn M2 N3)))) rfl h2 (iE (L1 (Ra (Pn (Kn 0) (Kn 1)) N0 (Gn (Kn 1) N0)) rfl h1)) jF)) ?_);unfold iI;refine rA ar (rA (bK (by exact L4 (Ra M0 N1 (Rb M2 N0 (Ra N1 (Pn N3 (Kn 1)) (Gn M2 N3)))) rfl h2 (iE (L1 (Ra (Pn (Kn 0) (Kn 1)) N0 (Gn (Kn 1) N0)) rfl h1)) jF)) ?_);show(x:Int)∈[((x-1+1:Nat):Int)];refine rA (show x-1+1=x by exact ao (L2 (Rb M0 N1 (Gn M0 N1)) rfl (iE (L1 (Ra (Pn (Kn 0) (Kn 1)) N0 (Gn (Kn 1) N0)) rfl h1))) (L2 (Ra N0 M1 (Gn N0 M1)) rfl jF)) ?_;simp
section
variable {g:GX}{k:Nat}{X:XP}{Q:VP}{H H':HH}{G:GC}
noncomputable abbrev EI(H:HH)(p:ah)(L:ah)(t1:Int)(g1:Int)(n:Nat):ah->List V->List V->HH->Prop:=fun D r acc H'=>X1 fun bs=>A4 (acc=bs.map .ref) (r=br bs.length (n-1:Nat)) (bs.length<=n-1) (Rows (PH H p L t1 g1) H' D bs (dP (iI bs.length)))
set_option tactic.hygienic true in
theorem Ar{p L:ah}{cs:List Int}{t gg:Int}(P:tw H p L cs t gg)(ht:t<90000)
  (h:∀rs t' g',2<=rs.length->rs.length<=9->uW rs rs.length 11->wb rs rs.length->0<=t'->t'<=t+30->0<=g'->Q (.lst ((dP rs).map .lst)) (PH H p L t' g')) (hk:20<=k):CT g.gc k (.ref 445) [.ref p] H Q X:=by
 have pt:=P.t0;have pg:=P.g0;refine gK (dcs:=[]) rfl (fun zz zz=>rfl) rfl ?_ (gG hk);refine aE (lR P (by decide) (by decide) (by exact BD ht) (fun d t1 g1 d0 d1 a1 a2 a3=>?_) (dn hk));refine ex (fh d0) fun dn' FW=>?_;subst FW;obtain⟨n,hn⟩:∃n:Nat,(8:Int)+(dn':Nat)=n:=⟨8+dn',by push_cast;rfl⟩;have hn2:8<=n/\n<=9:=by exact⟨L2 (Sb (Pz (Kz 8) C0) C1 (Gn (Kn 8) N1)) rfl hn,L2 (Sa (Pz C0 (Kz 1)) (Kz 2) (Sd (Pz (Kz 8) C0) C1 (Gn N1 (Kn 9)))) rfl d1 hn⟩
 have hn1:(8:Int)+(dn':Nat)-1=((n-1:Nat):Int):=by exact bi (L3 (Sb (Pz (Kz 8) C0) C1 (Ra N1 M2 (Gz (Mz (Pz (Kz 8) C0) (Kz 1)) C2))) rfl hn jF) (L3 (Sd (Pz (Kz 8) C0) C1 (Rb M2 N1 (Gz C2 (Mz (Pz (Kz 8) C0) (Kz 1))))) rfl hn (iE (L2 (Sb (Pz (Kz 8) C0) C1 (Gn (Kn 1) N1)) rfl hn)))
 refine ct (by exact AK (L1 (Gz (Kz 0) (Mz (Pz (Kz 8) C0) (Kz 1))) rfl) (L1 (Sa (Pz C0 (Kz 1)) (Kz 2) (Gz (Pz (Mz (Pz (Kz 8) C0) (Kz 1)) (Kz 1)) (Cz (Kn (2^62))))) rfl d1)) ?_;refine⟨EI H p L t1 g1 n,fun D hD=>⟨⟨[],rfl,by refine rA hn1 ?_;rfl,aH _,.nil hD⟩,?_,?_⟩⟩
 ·rintro acc H' ⟨bs,rfl,hr,hb,R⟩;have hb:=fy hb hr;rw[hb]at R;intro b hb0;have hb0:H' b=none:=hb0;intro D2 h2;have h2:upd H' b (.lst []) D2=none:=h2;have c1:con (upd (upd H' b (.lst [])) D2 (.lst [.ref b])) (.ref D)=.lst (bs.map .ref):=by
   refine ea (d4 h2) fun n2 h2'=>?_;refine bv ?_;refine rA (bE (fun z=>by subst z;rw[R.top]at h2';exact nS h2'.symm)) (rA (bE (fun z=>by subst z;rw[R.top]at hb0;exact nS hb0.symm)) ?_);exact R.top
  refine pz c1 (bv aw) (by rw[ae];simp;exact L3 (Sa (Pz C0 (Kz 1)) (Kz 2) (Sd (Mz (Pz (Kz 8) C0) (Kz 1)) C1 (Rb N2 N1 (Gn (Pn M2 (Kn 1)) (Kn 1000000))))) rfl d1 hn1 hb) fun D3 h3=>?_;have h3:upd (upd H' b (.lst [])) D2 (.lst [.ref b]) D3=none:=h3;have R:=R.cat hb0 h2 h3;have e:dP (iI (n-1))++[[]]=dP (iI (n-1)++[[]]):=by unfold dP;refine rA ai ?_;rfl
  rw[e]at R;refine ea (zp (n:=n) (by exact L2 (Sb (Pz (Kz 8) C0) C1 (Gn (Pn (Kn 0) (Kn 1)) N1)) rfl hn)) fun B C=>?_;generalize iI (n-1)++[[]]=rs at R B C;have hb2:(bs++[b]).length=n:=by simp;exact ao (L4 (Sb (Pz (Kz 8) C0) C1 (Sd (Mz (Pz (Kz 8) C0) (Kz 1)) C2 (Rb N3 N2 (Gn (Pn N3 (Kn 1)) N1)))) rfl hn hn1 hb) (L4 (Sd (Pz (Kz 8) C0) C1 (Sb (Mz (Pz (Kz 8) C0) (Kz 1)) C2 (Rc N3 N2 (Gn N1 (Pn N3 (Kn 1)))))) rfl hn hn1 hb)
  generalize bs++[b]=bs at R hb2;refine aE (gJ P R a1 (by exact Lz [] [_,_] (Sa (Pz Z0 (Kz 1)) (Kz 90000) (Sa Z1 (Pz Z0 (Kz 1)) (Gz (Pz Z1 (Kz 1)) (Kz 100000)))) rfl ht a2) a3 (by exact Lz [] [] (Gz (Pz (Kz 0) (Kz 1)) (Kz 2)) rfl) (by exact Lz [] [] (Gz (Pz (Kz 2) (Kz 1)) (Kz 1000)) rfl) (fun d t4 g4 d1 c1 c2 c3 R2=>?_) (dn hk));refine dY (fun q=>?_) (fun q=>?_)
  ·refine aE (gJ P R2 c1 (by exact Lz [] [_,_,_] (Sa (Pz Z0 (Kz 1)) (Kz 90000) (Sa Z1 (Pz Z0 (Kz 1)) (Sa (Xz 2) (Pz Z1 (Kz 1)) (Gz (Pz (Xz 2) (Kz 1)) (Kz 100000))))) rfl ht a2 c2) c3 (by exact L1 (Gz (Pz (Kz 0) (Kz 1)) (Mz (Pz (Kz 8) C0) (Kz 2))) rfl) (by(rename_i FY FZ F7 F8 F9 Ga Gb Gc;exact L1 (Sa (Pz C0 (Kz 1)) (Kz 2) (Gz (Pz (Mz (Pz (Kz 8) C0) (Kz 2)) (Kz 1)) (Kz 1000))) rfl FY)) (fun d t5 g5 d1 e1 e2 e3 R3=>?_) (dn hk));have hdb:d<bs.length:=by exact L4 (Sb (Pz (Kz 8) C0) C1 (Rc N2 N1 (Sa (Pz (Cz N3) (Kz 1)) (Mz (Pz (Kz 8) C0) (Kz 2)) (Gn (Pn N3 (Kn 1)) N2)))) rfl hn hb2 d1
   have hrow:=R3.row d bs[d] _ (ac hdb) (gL (rs:=rs) (by refine rA B.len ?_;exact L3 (Sb (Pz (Kz 8) C0) C1 (Sa (Pz C2 (Kz 1)) (Mz (Pz (Kz 8) C0) (Kz 2)) (Gn M2 N1))) rfl hn d1));refine bT (j:=d) (x:=.ref bs[d]) (bv R3.top) (by refine rA ar (rA (ac hdb) ?_);rfl) (by(rename_i FY FZ F7 F8 F9 Ga Gb Gc Gd Ge;exact L2 (Sa (Pz C0 (Kz 1)) (Kz 2) (Sa (Pz C1 (Kz 1)) (Mz (Pz (Kz 8) C0) (Kz 2)) (Gn M1 (Kn 1000000)))) rfl FY d1)) ?_;refine⟨_,MT.append (bv hrow),trivial,?_⟩;have hone:=B.one (j:=d);refine VT.append hrow (by rw[ae];(rename_i FY FZ F7 F8 F9 Ga Gb Gc Gd Ge;exact L3 (Sa (Pz C0 (Kz 1)) (Kz 2) (Sd (Mz (Pz (Kz 8) C0) (Kz 1)) C1 (Ra N2 N1 (Gn M2 (Kn 1000000))))) rfl FY hn1 hone)) ?_;have R5:=R3.app (l:=(rs.getD d []).map .int++[.int ((8:Int)+(dn':Nat)-1)]) (ac hdb);have hl:(dP rs).set d ((rs.getD d []).map .int++[.int ((8:Int)+(dn':Nat)-1)])=dP (l6 rs d (n-1)):=by exact rA lQ (rA hn1 rfl)
   rw[hl]at R5;have B2:=B.add (j:=d) (s:=n-1) (by exact L3 (Sb (Pz (Kz 8) C0) C1 (Sa (Pz C2 (Kz 1)) (Mz (Pz (Kz 8) C0) (Kz 2)) (Gn M2 N1))) rfl hn d1) (by exact L3 (Sb (Pz (Kz 8) C0) C1 (Sd (Mz (Pz (Kz 8) C0) (Kz 1)) C2 (Gn M2 N1))) rfl hn hn1);exact⟨_,_,R5.sub,R5.rfy,h (l6 rs d (n-1)) t5 g5 (by refine rA B2.len ?_;exact L2 (Sb (Pz (Kz 8) C0) C1 (Gn (Kn 2) N1)) rfl hn) (by refine rA B2.len ?_;(rename_i FY FZ F7 F8 F9 Ga Gb Gc Gd Ge;exact L2 (Sa (Pz C0 (Kz 1)) (Kz 2) (Sd (Pz (Kz 8) C0) C1 (Gn N1 (Kn 9)))) rfl FY hn)) (by refine rA B2.len ?_;exact⟨B2.len,B2.rng,by have:=B2.size;(rename_i FY FZ F7 F8 F9 Ga Gb Gc Gd Ge;exact L3 (Sa (Pz C0 (Kz 1)) (Kz 2) (Sd (Mz (Pz (Kz 8) C0) (Kz 1)) C1 (Ra N2 M1 (Gn N2 (Kn 11))))) rfl FY hn1 this)⟩) (by refine rA B2.len ?_;exact C.add (by refine rA B.len ?_;exact L3 (Sb (Pz (Kz 8) C0) C1 (Sa (Pz C2 (Kz 1)) (Mz (Pz (Kz 8) C0) (Kz 2)) (Gn M2 N1))) rfl hn d1)) e1 (by exact Lz [] [_,_,_,_] (Sa Z0 (Pz Z1 (Kz 1)) (Sa (Xz 2) (Pz Z0 (Kz 1)) (Sa (Xz 3) (Pz (Xz 2) (Kz 1)) (Gz (Xz 3) (Pz Z1 (Kz 30)))))) rfl a2 c2 e2) e3⟩
  ·exact⟨_,_,R2.sub,R2.rfy,h rs t4 g4 (by refine rA B.len ?_;exact L2 (Sb (Pz (Kz 8) C0) C1 (Gn (Kn 2) N1)) rfl hn) (by refine rA B.len ?_;(rename_i FY FZ F7 F8 F9 Ga Gb Gc;exact L2 (Sa (Pz C0 (Kz 1)) (Kz 2) (Sd (Pz (Kz 8) C0) C1 (Gn N1 (Kn 9)))) rfl FY hn)) (by refine rA B.len ?_;exact⟨B.len,B.rng,by have:=B.size;(rename_i FY FZ F7 F8 F9 Ga Gb Gc;exact L3 (Sa (Pz C0 (Kz 1)) (Kz 2) (Sd (Mz (Pz (Kz 8) C0) (Kz 1)) C1 (Ra N2 N1 (Gn N2 (Kn 11))))) rfl FY hn1 this)⟩) (by refine rA B.len ?_;exact C) c1 (by exact Lz [] [_,_,_] (Sa Z0 (Pz Z1 (Kz 1)) (Sa (Xz 2) (Pz Z0 (Kz 1)) (Gz (Xz 2) (Pz Z1 (Kz 30))))) rfl a2 c2) c3⟩
 ·rintro v r acc H' ⟨bs,rfl,hr,hb,R⟩;refine jc (er hb hr) fun hi Gf Gg=>?_;subst Gf;subst Gg;refine⟨.put .refl rfl,?_⟩;intro b hb';have hb':H' b=none:=hb';exact⟨.ref b,_,.refl,.same _,by refine rA (bE (fun z=>by subst z;rw[R.top]at hb';exact nS hb'.symm)) ?_;exact R.top,by simp;exact L3 (Sa (Pz C0 (Kz 1)) (Kz 2) (Sd (Mz (Pz (Kz 8) C0) (Kz 1)) C1 (Ra M2 N1 (Gn M2 (Kn 1000000))))) rfl d1 hn1 hi,bs++[b],by simp,by simp,by simp;exact l9 (jy hi),by
   have:=R.more (l:=[.int ((bs.length:Int)+1)]) hb';refine rA az (rA b9 ?_);unfold dP iI at this ⊢;refine rA ch (rA ai (rA ai ?_));exact this⟩
end
theorem cw.pen{H:HH}{p L:ah}{cs:List Int}{t0 g0 t g:Int}{ks:List ah}(P:tw H p L cs t0 g0)(O:cw (PH H p L t g) ks)(t' g':Int):cw (PH H p L t' g') ks/\p∉ks :=
 ⟨⟨O.nd,fun a ha=>(PH.none P (O.fr a ha) t' g').1⟩,fun z=>(PH.none P (O.fr p z) t' g').2 rfl⟩
theorem yK{A B:HH}(s:Sub A B)(a:ah)(v:V):Sub (Internal.upd A a v) (Internal.upd B a v):=fun b x e=>by
 by_cases z:b=a
 ·subst z;rw[aw]at e ⊢;exact e
 ·rw[bE z]at e ⊢;exact s b x e
theorem lJ{H:HH}:∀{k1 k2:List ah}{v1 v2:List V},cw H (k1++k2)->k1.length=v1.length->Sub (HL H k1 v1) (HL H (k1++k2) (v1++v2))
 |[],k2,[],v2,O,_=>cw.sub O.fr O.nd
 |[],k2,a::b,v2,O,h=>by cases h
 |a::k1,k2,[],v2,O,h=>by cases h
 |a::k1,k2,v::v1,v2,O,h=>yK (lJ (k1:=k1) ⟨(ba.mp O.nd).2,fun b hb=>O.fr b (.tail _ hb)⟩ (Nat.succ.inj h)) a v
theorem cw.drop1{H:HH}{a:ah}{ks:List ah}{v:V}{vs:List V}(O:cw H (a::ks)):Sub (HL H ks vs) (HL H (a::ks) (v::vs)) :=
 Sub.refl.upd ((HL.off (ba.mp O.nd).1).trans (O.fr a (.head _)))
theorem sd{α β:Type}{f:α->β}:∀{l:List α}{i:Nat},(l.map f).eraseIdx i=(l.eraseIdx i).map f
 |[],i=>by simp
 |a::l,0=>rfl
 |a::l,i+1=>by exact rA aB (rA gX (rA gX (rA aB (rA sd rfl))))
theorem qk{α:Type}:∀{l:List α}{i:Nat} (h:i<l.length),(l[i]::l.eraseIdx i).Perm l
 |[],i,h=>by cases h
 |a::l,0,h=>.refl _
 |a::l,i+1,h=>by
  rw[gX,List.getElem_cons_succ];exact(List.Perm.swap _ _ _).trans (List.Perm.cons a (qk (by simpa using h)))
noncomputable def nI(l:List Nat):List Int:=l.map fun(s:Nat)=>(s:Int)
theorem je{l:List Nat}:(nI l).length=l.length:=by unfold nI;simp
theorem vD{l:List Nat}{i:Nat}{x:Int}(h:(nI l)[i]?=some x):∃s,l[i]?=some s/\x=(s:Int):=by
 unfold nI at h;rw[ar]at h;refine bx (dg.mp h) fun s e r=>?_;exact⟨s,e,r.symm⟩
theorem Fi{n:Nat}:br 1 n=(nI (List.range' 1 (n-1))).map .int:=by
 unfold br nI;refine rA List.range'_eq_map_range (rA bz (rA bz (rA (show((n:Int)-1).toNat=n-1 from Int.toNat_sub n 1) ?_)));exact cy fun j zz=>by simp
noncomputable def dz(rs:List (List Int))(s:Nat):Nat:=2*(rs.getD s []).length+1
noncomputable def c9(rs:List (List Int))(tn:List Nat)(s:Nat):Nat:=((tn.take (tn.idxOf s)).map (dz rs)).sum
noncomputable def jw(rs:List (List Int))(tn:List Nat)(x:Int):Int:=(c9 rs tn x.toNat:Nat)
structure OA where
 os:List bq
 ps:List (Int×Int×Int)
noncomputable def g9(B:Int->Int)(s:Int)(a:OA)(x:Int):OA:=⟨a.os++[iW 3 s,fL (B x-((a.os.length+1:Nat):Int)-1)],a.ps++[(((a.os.length+1:Nat):Int),B s,B x)]⟩
noncomputable def nq(B:Int->Int)(rs:List (List Int))(a:OA)(s:Nat):OA:=⟨((rs.getD s []).foldl (g9 B s) a).os++[g8],((rs.getD s []).foldl (g9 B s) a).ps⟩
noncomputable def eI(rs:List (List Int))(tn:List Nat)(i:Nat):OA:=(tn.take i).foldl (nq (jw rs tn) rs) ⟨[],[]⟩
noncomputable def ey(p:Int×Int×Int):V:=.tup [.int p.1,.int p.2.1,.int p.2.2]
theorem n6{B:Int->Int}{s:Int}{l:List Int}:∀{a:OA},(l.foldl (g9 B s) a).os.length=a.os.length+2*l.length/\(l.foldl (g9 B s) a).ps.length=a.ps.length+l.length:=by
 induction l with
 |nil=>intro a;exact⟨rfl,rfl⟩
 |cons x l ih=>
  intro a;refine rA fE (rA ((ih (a:=g9 B s a x)).1) (rA ((ih (a:=g9 B s a x)).2) ?_));simp[g9];exact⟨ao (L2 (Gn (Pn (Pn N0 (Kn 2)) (Tn 2 N1)) (Pn N0 (Tn 2 M1))) rfl) (L2 (Gn (Pn N0 (Tn 2 M1)) (Pn (Pn N0 (Kn 2)) (Tn 2 N1))) rfl),ao (L2 (Gn (Pn M0 N1) (Pn N0 M1)) rfl) (L2 (Gn (Pn N0 M1) (Pn M0 N1)) rfl)⟩
theorem n5{rs:List (List Int)}{tn:List Nat}{i s:Nat}(h:tn[i]?=some s):eI rs tn (i+1)=nq (jw rs tn) rs (eI rs tn i) s:=by
 unfold eI;refine rA aT (rA h (rA dh ?_));rfl
theorem lA{rs:List (List Int)}{tn:List Nat}:∀{i:Nat},i<=tn.length->(eI rs tn i).os.length=((tn.take i).map (dz rs)).sum/\(eI rs tn i).ps.length<=((tn.take i).map (dz rs)).sum
 |0,_=>⟨rfl,ax _⟩
 |i+1,h=>by
  refine ea (lA (rs:=rs) (tn:=tn) (i:=i) (by exact iy h)) fun h1 h2=>?_;have hs:=ac (show i<tn.length from h);refine rA (n5 hs) (rA aT (rA hs (rA ai (rA eD ?_))));unfold nq;have e:=n6 (B:=jw rs tn) (s:=(tn[i]:Nat)) (l:=rs.getD tn[i] []) (a:=eI rs tn i);simp only[jA,aB,gw,cn,List.sum_nil,az,aF,cG];refine rA e.1 (rA h1 (rA (show dz rs tn[i]=2*(rs.getD tn[i] []).length+1 from rfl) (rA e.2 ?_)));exact⟨by exact ao (L2 (Gn (Pn (Pn N0 (Tn 2 N1)) (Pn (Kn 0) (Kn 1))) (Pn N0 (Pn (Pn (Tn 2 N1) (Kn 1)) (Kn 0)))) rfl) (L2 (Gn (Pn N0 (Pn (Pn (Tn 2 N1) (Kn 1)) (Kn 0))) (Pn (Pn N0 (Tn 2 N1)) (Pn (Kn 0) (Kn 1)))) rfl),by exact L3 (Ra N0 N1 (Gn (Pn N0 N2) (Pn N1 (Pn (Pn (Tn 2 N2) (Kn 1)) (Kn 0))))) rfl h2⟩
structure jN(tn:List Nat)(n:Nat):Prop where
 perm:tn.Perm (aQ n)
 hd:tn.head?=some 0
theorem jN.nd{tn:List Nat}{n:Nat}(T:jN tn n):tn.Nodup:=T.perm.nodup_iff.mpr List.nodup_range
theorem jN.len{tn:List Nat}{n:Nat}(T:jN tn n):tn.length=n:=by exact rA T.perm.length_eq (rA kw rfl)
theorem jN.mem{tn:List Nat}{n s:Nat}(T:jN tn n):s∈tn↔s<n:=by rw[T.perm.mem_iff,bZ]
theorem sR{rs:List (List Int)}{tn:List Nat}{i s:Nat}(nd:tn.Nodup)(h:tn[i]?=some s):c9 rs tn s=((tn.take i).map (dz rs)).sum:=by
 refine ex (au.mp h) fun hi FW=>?_;subst FW;unfold c9;rw[nd.idxOf_getElem]
theorem Dn{l:List Nat}{f:Nat->Nat}{m:Nat}(h:∀x,f x<=m):(l.map f).sum<=m*l.length:=by
 induction l with
 |nil=>simp
 |cons a l ih=>
  have:=h a;rw[aB,cn,aF,Nat.mul_add,Nat.mul_one,Nat.add_comm (m*_)];exact Nat.add_le_add this ih
section
variable {g:GX}{k:Nat}{X:XP}{Q:VP}{H H':HH}{G:GC}
theorem s8{p L:ah}{ks:List ah}{vs:List V}{cs:List Int}{t0 g0 t gg many:Int}(P:tw H p L cs t0 g0)(O:cw (PH H p L t gg) ks)(t1:0<=t)(t2:t<100000)(g1:0<=gg)(hm:0<many)(hm2:many<1000)
  (h:∀(d:Nat) t' g',d<many->0<=t'->t'<=t+1->0<=g'->cw (PH H p L t' g') ks->Q (.int d) (HL (PH H p L t' g') ks vs)) (hk:10<=k):CT g.gc k (.ref 428) [.ref p,.int many] (HL (PH H p L t gg) ks vs) Q X :=
 lR (PH.pen P (cw.sub O.fr O.nd) t1 g1) hm hm2 t2 (fun d t' g' a b c d' e=>by
  refine ex (fh a) fun n FW=>?_;subst FW;refine ea (O.pen P t' g') fun O2 hp=>?_;have:=h n t' g' b c d' e O2;have e2:upd (HL (PH H p L t gg) ks vs) p (qA L t' g')=HL (PH H p L t' g') ks vs:=by refine rA (HL.base hp) ?_;unfold PH;exact rA eU rfl
  rw[←e2]at this;exact this) hk
theorem Ff{t value pos}{sc:Sc}{m:Mm}{H:HH}{Q:SP}(hs:∀env:Env,env.scope=sc.scope->eV value (some t) pos.line env=pure false)(hw:∀env:Env,env.scope=sc.scope->fi [t] value env=pure none)
  (h:vc g.gc g.tab k 50 (.E sc X value ⟨m,H⟩ (C9 (vc g.gc g.tab k 50) sc t m Q))) (hk3:3<=k) (ht:autoParam (∀env,eF [t] env=[(false,assign t env)]) aI):TS g.gc k sc (.Assign [t] value pos) ⟨m,H⟩ Q X :=
 sz (TE.imp (vc.ok (t:=.E _ _ _ _ _) hk3 50 h) fun v H1 h1=>vc.ok (t:=.A _ _ _ _ _) hk3 50 h1) hs hw ht
noncomputable abbrev yD(p:ah)(rs:List (List Int))(A:ah)(Bl:ah):List (Str×V):=[("pen",.ref p),("rows",.lst ((dP rs).map .lst)),("turn",.ref A),("later",.ref Bl)]
noncomputable abbrev EJ(H:HH)(p:ah)(L:ah)(t:Int)(rs:List (List Int))(n:Nat)(A:ah)(Bl:ah):Nat->St->Prop:=fun m σ=>X4 fun(tn ltr:List Nat) (t2 g2:Int)=>A8 (m=ltr.length) (jN (tn++ltr) n) (tn.head?=some 0) (0<=t2) (t2+m<=t+n) (0<=g2) (cw (PH H p L t2 g2) [Bl,A]) (σ=⟨yD p rs A Bl,HL (PH H p L t2 g2) [Bl,A] [.lst ((nI ltr).map .int),.lst ((nI tn).map .int)]⟩)
noncomputable abbrev EO(p:ah)(rs:List (List Int))(tn:List Nat)(C:ah)(i:Nat):List (Str×V):=[("pen",.ref p),("rows",.lst ((dP rs).map .lst)),("turn",iV (nI tn)),("begins",.ref C),("here",.int (((tn.take i).map (dz rs)).sum:Nat))]
noncomputable abbrev EK(H:HH)(p:ah)(L:ah)(rs:List (List Int))(tn:List Nat)(t2:Int)(g2:Int)(C:ah):List V->St->Prop:=fun r σ=>X1 fun(i:Nat)=>A3 (i<=(nI tn).length) (r=((nI tn).drop i).map .int) (σ=⟨EO p rs tn C i,HL (PH H p L t2 g2) [C] [.dct ((tn.take i).map fun(s:Nat)=>((s:Int),V.int (c9 rs tn s:Nat)))]⟩)
noncomputable abbrev Cd(p:ah)(rs:List (List Int))(tn:List Nat)(Oo:ah)(Pp:ah):List (Str×V):=[("pen",.ref p),("rows",.lst ((dP rs).map .lst)),("turn",iV (nI tn)),("begins",.dct (tn.map fun(s:Nat)=>((s:Int),V.int (c9 rs tn s:Nat)))),("orders",.ref Oo),("pairs",.ref Pp)]
noncomputable abbrev EL(H:HH)(p:ah)(L:ah)(rs:List (List Int))(tn:List Nat)(t2:Int)(g2:Int)(Oo:ah)(Pp:ah):List V->St->Prop:=fun r σ=>X1 fun(i:Nat)=>A3 (i<=(nI tn).length) (r=((nI tn).drop i).map .int) (σ=⟨Cd p rs tn Oo Pp,HL (PH H p L t2 g2) [Pp,Oo] [.lst ((eI rs tn i).ps.map ey),.lst ((eI rs tn i).os.map cM)]⟩)
noncomputable abbrev EM(H:HH)(p:ah)(L:ah)(rs:List (List Int))(tn:List Nat)(t2:Int)(g2:Int)(Oo:ah)(Pp:ah):ah->List V->List V->HH->Prop:=fun D r acc H'=>X1 fun(i:Nat)=>A5 (i<=(nI tn).length) (r=((nI tn).drop i).map .int) (acc=(nI ((tn.take i).map (c9 rs tn))).map .int) (H'=HL (PH H p L t2 g2) [D,Pp,Oo] [.lst acc,.lst ((eI rs tn tn.length).ps.map ey),.lst ((eI rs tn tn.length).os.map cM)]) (cw (PH H p L t2 g2) [D,Pp,Oo])
noncomputable abbrev Ce(p:ah)(rs:List (List Int))(tn:List Nat)(Oo:ah)(Pp:ah)(s:Nat):List (Str×V):=[("pen",.ref p),("rows",.lst ((dP rs).map .lst)),("turn",iV (nI tn)),("begins",.dct (tn.map fun(s:Nat)=>((s:Int),V.int (c9 rs tn s:Nat)))),("orders",.ref Oo),("pairs",.ref Pp),("spot",.int s)]
noncomputable abbrev EN(H:HH)(p:ah)(L:ah)(rs:List (List Int))(tn:List Nat)(t2:Int)(g2:Int)(Oo:ah)(Pp:ah)(i:Nat)(s:Nat):List V->St->Prop:=fun r σ=>X3 fun(pre l:List Int) (a:OA)=>A4 (rs.getD s []=pre++l) (r=l.map .int) (a=pre.foldl (g9 (jw rs tn) s) (eI rs tn i)) (σ=⟨Ce p rs tn Oo Pp s,HL (PH H p L t2 g2) [Pp,Oo] [.lst (a.ps.map ey),.lst (a.os.map cM)]⟩)
noncomputable abbrev EP(p:ah)(rs:List (List Int))(tn:List Nat)(C:ah):List (Str×V):=[("pen",.ref p),("rows",.lst ((dP rs).map .lst)),("turn",iV (nI tn)),("begins",.ref C),("here",.int 0)]
noncomputable abbrev EQ(p:ah)(rs:List (List Int))(tn:List Nat)(C:ah)(i:Nat):List (Str×V):=[("pen",.ref p),("rows",.lst ((dP rs).map .lst)),("turn",iV (nI tn)),("begins",.ref C),("here",.int (((tn.take (i+1)).map (dz rs)).sum:Nat))]
theorem qJ{p L:ah}{cs:List Int}{t gg:Int}{rs:List (List Int)}{n:Nat}(P:tw H p L cs t gg)(ht:t<90000)(B:uW rs n 11)(hn:2<=n)(hn2:n<=9)
  (h:∀tn t' g',jN tn n->0<=t'->t'<=t+30->0<=g'->Q (.tup [fx (eI rs tn n).os,iV (eT (nI (tn.map (c9 rs tn)))),.lst ((eI rs tn n).ps.map ey)]) (PH H p L t' g')) (hk:40<=k):CT g.gc k (.ref 450) [.ref p,.lst ((dP rs).map .lst)] H Q X:=by
 have pt:=P.t0;have pg:=P.g0;have hrl:((dP rs).map V.lst).length=n:=by rw[ae,xZ,B.len]
 refine rB (PH.self P) ?_;refine gK (dcs:=[]) rfl (fun zz zz zz=>rfl) rfl ?_ (gG hk);refine mw (names:=["turn","later"]) (fun env e=>by cases env;cases e;rfl) ?_ (dn hk);intro A hA;have hA:PH H p L t gg A=none:=hA;have O1:cw (PH H p L t gg) [A]:=cw.push (vs:=[]) cw.nil hA;refine eZ (n:=n) (xs:=(dP rs).map V.lst) rfl hrl (by exact nr hn2) ?_;refine j6 (by exact AK (Lz [] [] (Gz (Kz 0) (Kz 1)) rfl) (Lz [] [] (Gz (Pz (Kz 1) (Kz 1)) (Cz (Kn (2^62)))) rfl)) (by exact oz4 hn2) ?_;refine tL rfl (by exact L1 (Ra N0 (Kn 9) (Gz (Pz (Mz C0 (Kz 1)) (Kz 1)) (Kz 1000000))) rfl hn2) (fun Bl hB=>?_) (dn hk);have hB:HL (PH H p L t gg) [A] [.lst [.int 0]] Bl=none:=hB;have O2:=O1.push hB;refine⟨rfl,aq rfl,?_⟩;refine⟨EJ H p L t rs n A Bl,n-1,
  ⟨⟨yD p rs A Bl,HL (PH H p L t gg) [Bl,A] [.lst (br 1 n),.lst [.int 0]]⟩,?_,[0],List.range' 1 (n-1),t,gg,by simp,⟨?_,rfl⟩,rfl,pt,by exact Lz [_,_] [_] (Rb M0 N1 (Gz (Pz Z0 C0) (Pz Z0 C1))) rfl (iE (L1 (Ra (Kn 2) N0 (Gn (Kn 1) N0)) rfl hn)),pg,O2,by refine rA Fi ?_;rfl⟩,?_⟩
 ·exact sA rfl
 ·have:[0]++List.range' 1 (n-1)=aQ n:=by
   refine rA List.range_eq_range' ?_;obtain⟨m,rfl⟩:∃m,n=m+1:=⟨n-1,by exact ao (L2 (Ra N0 M1 (Gn N0 M1)) rfl jF) (L2 (Rb M0 N1 (Gn M0 N1)) rfl (iE (L1 (Ra (Kn 2) N0 (Gn (Kn 1) N0)) rfl hn)))⟩
   rfl
  rw[this]
 ·rintro m σ ⟨tn,ltr,t2,g2,rfl,T,hd,b1,b2,b3,O,rfl⟩;refine lW fun R1 hR1=>?_;have hll:ltr.length<=n:=by have:=T.len;rw[az]at this;exact L3 (Rb (Pn N0 N1) N2 (Gn N1 N2)) rfl this
  intro N hN;have hN:HL (PH H p L t2 g2) [Bl,A] [.lst ((nI ltr).map .int),.lst ((nI tn).map .int)] N=none:=hN;have ON:=O.push hN;have d1:=ON.con (vs:=[.lst [],.lst ((nI ltr).map .int),.lst ((nI tn).map .int)]) 1 rfl rfl;have d2:=ON.con (vs:=[.lst [],.lst ((nI ltr).map .int),.lst ((nI tn).map .int)]) 0 rfl rfl;refine fY (ns:=nI ltr) (ms:=[]) d1 d2 ?_;refine dY (fun q=>?_) (fun q=>?_)
  ·have hl0:0<ltr.length:=by
    cases ltr with
    |nil=>exact absurd q (by decide)
    |cons a l=>simp
   refine⟨_,MT.append (ON.con (vs:=[.lst [],.lst ((nI ltr).map .int),.lst ((nI tn).map .int)]) 2 rfl rfl),trivial,?_⟩;refine⟨_,MT.pop d1,trivial,?_⟩;refine eZ (n:=ltr.length) d1 (by rw[ae,je]) (by exact oq5 hll hn2) ?_;refine aE (s8 (vs:=[.lst [],.lst ((nI ltr).map .int),.lst ((nI tn).map .int)]) P ON b1 (by exact Lz [_,_] [_,_] (Sa (Pz Z0 (Kz 1)) (Kz 90000) (Ra N0 (Kn 9) (Sa (Pz Z1 C1) (Pz Z0 C0) (Gz (Pz Z1 (Kz 1)) (Kz 100000))))) rfl ht hn2 b2) b3 (by exact qz hl0) (by exact L2 (Ra N0 (Kn 9) (Ra N1 N0 (Gz (Pz C1 (Kz 1)) (Kz 1000)))) rfl hn2 hll) (fun d t3 g3 e1 c1 c2 c3 ON2=>?_) (dn hk));have e1:d<ltr.length:=by exact jz e1
   have hx:((nI ltr).map V.int)[((d:Nat):Int).toNat]?=some (.int (ltr[d]:Nat)):=by
    rw[bw];unfold nI;refine rA bz (rA ar (rA (ac e1) ?_));rfl
   refine yY (ON2.get 1 rfl rfl) (by exact xU) hx (by rw[ae,je];exact oq5 hll hn2) ?_;have e2:((nI ltr).map V.int).eraseIdx ((d:Nat):Int).toNat=(nI (ltr.eraseIdx d)).map .int:=by
    rw[bw];unfold nI;exact rA bz (rA bz (rA sd rfl))
   refine rA e2 (rA (HL.set 1 ON2.nd rfl rfl) ?_);have tl:tn.length<=n:=by have:=T.len;rw[az]at this;exact L3 (Rb (Pn N0 N1) N2 (Gn N0 N2)) rfl this
   refine gA (xs:=(nI tn).map .int) ON2 2 rfl rfl (by rw[ae,je];exact oq5 tl hn2) ?_;have e3:(nI tn).map V.int++[.int (ltr[d]:Nat)]=(nI (tn++[ltr[d]])).map .int:=by unfold nI;refine rA ai (rA ai ?_);rfl
   refine rA e3 ?_;refine hR1 _ _ ⟨ltr.length-1,⟨yD p rs A Bl,HL (PH H p L t3 g3) [Bl,A] [.lst ((nI (ltr.eraseIdx d)).map .int),.lst ((nI (tn++[ltr[d]])).map .int)]⟩,by exact L2 (Rb M0 N1 (Gn M0 N1)) rfl (iE (L1 (Ra (Pn (Kn 0) (Kn 1)) N0 (Gn (Kn 1) N0)) rfl hl0)),?_,tn++[ltr[d]],ltr.eraseIdx d,t3,g3,by exact rA (List.length_eraseIdx_of_lt e1) rfl,⟨?_,?_⟩,?_,c1,by exact Lz [_,_,_] [_,_,_] (Sa (Pz Z0 C0) (Pz Z1 C1) (Sa (Xz 2) (Pz Z0 (Kz 1)) (Rb M2 N0 (Gz (Pz (Xz 2) C2) (Pz Z1 C1))))) rfl b2 c2 (iE (L1 (Ra (Pn (Kn 0) (Kn 1)) N0 (Gn (Kn 1) N0)) rfl hl0)),c3,(O.pen P t3 g3).1,rfl⟩
   ·exact w9 4 ON2.drop1
   ·refine List.Perm.trans ?_ T.perm;rw[fT];exact List.Perm.append_left tn (qk e1)
   ·cases tn with
    |nil=>exact nS hd
    |cons a r=>exact hd
   ·cases tn with
    |nil=>exact nS hd
    |cons a r=>exact hd
  ·have hl0:ltr=[]:=by
    cases ltr with
    |nil=>rfl
    |cons a l=>exact absurd q (by simp[nI])
   subst hl0;rw[bt]at T;refine Ff (fun env e=>by cases env;cases e;rfl) (fun env e=>by cases env;cases e;rfl) ?_ (dn hk);refine pX fun C hC=>?_;have hC:HL (PH H p L t2 g2) [N,Bl,A] [.lst [],.lst ((nI []).map .int),.lst ((nI tn).map .int)] C=none:=hC;have OC:=ON.push hC;refine⟨_,rfl,rfl,rfl,?_⟩;have O1:cw (PH H p L t2 g2) [C]:=⟨by simp,fun a ha=>by refine rA (ag.mp ha) ?_;exact OC.fr C (.head _)⟩;have hAC:HL (PH H p L t2 g2) [C] [.dct []] A=none:=by
    have:=OC.nd;refine rA (HL.off (by simp at this ⊢;exact fun z=>this.1.2.2 z.symm)) ?_;exact OC.fr A (by simp)
   refine⟨⟨EP p rs tn C,HL (PH H p L t2 g2) [C] [.dct []]⟩,.of (lJ (k1:=[C]) (k2:=[N,Bl,A]) (v1:=[.dct []]) (v2:=[.lst [],.lst ((nI []).map .int),.lst ((nI tn).map .int)]) OC rfl) ⟨⟨_,rfl,.same _⟩,⟨_,rfl,.same _⟩,⟨_,rfl,.ref (OC.get (vs:=[.dct [],.lst [],.lst ((nI []).map .int),.lst ((nI tn).map .int)]) 3 rfl rfl) hAC (.same _) rfl⟩,⟨_,rfl,.same _⟩,⟨_,rfl,.same _⟩,trivial⟩,?_⟩;have tl:=T.len;have kr:∀s:Nat,s<n->((dP rs).map V.lst)[((s:Nat):Int).toNat]?=some (iV (rs.getD s [])):=fun s hs=>by
    rw[bw,ar,gL (by refine rA B.len ?_;exact hs)];rfl
   have rl:∀s,(rs.getD s []).length<=11:=fun s=>B.one;refine⟨EK H p L rs tn t2 g2 C,⟨0,aH _,rfl,rfl⟩,?_,?_⟩
   ·refine lDf (by exact rA je rfl) ?_;refine rA cz ?_;refine mw (names:=["orders","pairs"]) (fun env e=>by cases env;cases e;rfl) ?_ (dn hk);intro Oo hO;have hO:HL (PH H p L t2 g2) [C] [.dct (tn.map fun(s:Nat)=>((s:Int),V.int (c9 rs tn s:Nat)))] Oo=none:=hO;have O2:=O1.push hO;intro Pp hPp;have hPp:HL (PH H p L t2 g2) [Oo,C] [.lst [],.dct (tn.map fun(s:Nat)=>((s:Int),V.int (c9 rs tn s:Nat)))] Pp=none:=hPp;have O3:=O2.push hPp;refine⟨rfl,aq rfl,?_⟩;have O4:cw (PH H p L t2 g2) [Pp,Oo]:=⟨by have:=O3.nd;simp at this ⊢;exact this.1.1,fun a ha=>O3.fr a (by simp at ha ⊢;rcases ha with z|z <;> simp[z])⟩;have hC4:HL (PH H p L t2 g2) [Pp,Oo] [.lst [],.lst []] C=none:=by
     have:=O3.nd;refine rA (HL.off (by simp at this ⊢;exact⟨fun z=>this.1.2 z.symm,fun z=>this.2 z.symm⟩)) ?_;exact O3.fr C (by simp)
    refine⟨⟨Cd p rs tn Oo Pp,HL (PH H p L t2 g2) [Pp,Oo] [.lst [],.lst []]⟩,.of (lJ (k1:=[Pp,Oo]) (k2:=[C]) (v1:=[.lst [],.lst []]) (v2:=[.dct (tn.map fun(s:Nat)=>((s:Int),V.int (c9 rs tn s:Nat)))]) O3 rfl) ⟨⟨_,rfl,.same _⟩,⟨_,rfl,.same _⟩,⟨_,rfl,.same _⟩,⟨_,rfl,.ref (O3.get (vs:=[.lst [],.lst [],.dct (tn.map fun(s:Nat)=>((s:Int),V.int (c9 rs tn s:Nat)))]) 2 rfl rfl) hC4 (.same _) rfl⟩,⟨_,rfl,.same _⟩,⟨_,rfl,.same _⟩,trivial⟩,?_⟩;have hsumB:∀i,((tn.take i).map (dz rs)).sum<=23*9:=fun i=>by
     have h1:=Dn (l:=tn.take i) (f:=dz rs) (m:=23) fun x=>by have:=rl x;unfold dz;exact L1 (Ra N0 (Kn 11) (Ra N0 (Kn 11) (Gn (Pn (Tn 2 N0) (Kn 1)) (Kn 23)))) rfl this this
     have h2:(tn.take i).length<=9:=by refine rA cT ?_;exact L3 (Ra N0 (Kn 9) (Rb N1 N0 (Ra N2 N1 (Gn N2 (Kn 9))))) rfl hn2 tl (bP _ _)
     have h3:23*(tn.take i).length<=23*9:=Nat.mul_le_mul_left _ h2;exact L2 (Ra N0 (Tn 23 N1) (Ra N1 (Kn 9) (Ra N1 (Kn 9) (Ra N1 (Kn 9) (Ra N1 (Kn 9) (Ra N1 (Kn 9) (Ra N1 (Kn 9) (Ra N1 (Kn 9) (Ra N1 (Kn 9) (Ra N1 (Kn 9) (Ra N1 (Kn 9) (Ra N1 (Kn 9) (Ra N1 (Kn 9) (Ra N1 (Kn 9) (Ra N1 (Kn 9) (Ra N1 (Kn 9) (Ra N1 (Kn 9) (Ra N1 (Kn 9) (Ra N1 (Kn 9) (Ra N1 (Kn 9) (Ra N1 (Kn 9) (Ra N1 (Kn 9) (Ra N1 (Kn 9) (Ra N1 (Kn 9) (Gn N0 (Tn 23 (Kn 9))))))))))))))))))))))))))) rfl h1 h2 h2 h2 h2 h2 h2 h2 h2 h2 h2 h2 h2 h2 h2 h2 h2 h2 h2 h2 h2 h2 h2 h2
    have kb:∀t:Nat,t<n->dF (tn.map fun(s:Nat)=>((s:Int),V.int (c9 rs tn s:Nat))) (t:Int)=some (.int (c9 rs tn t:Nat)):=fun t htn=>by
     have:=f7 (f:=fun x=>V.int (jw rs tn x)) (l:=nI tn) (x:=(t:Int)) (aJ.mpr ⟨t,T.mem.mpr htn,rfl⟩);unfold nI at this;rw[bz]at this;exact this
    refine⟨EL H p L rs tn t2 g2 Oo Pp,⟨0,aH _,rfl,rfl⟩,?_,?_⟩
    ·refine lDf (by exact rA je rfl) ?_;have hl0:=lA (rs:=rs) (tn:=tn) (i:=tn.length) (ax _);have hsi:=hsumB tn.length;refine⟨EM H p L rs tn t2 g2 Oo Pp,fun D hD=>⟨⟨0,aH _,rfl,rfl,rfl,O4.push (vs:=[.lst ((eI rs tn tn.length).ps.map ey),.lst ((eI rs tn tn.length).os.map cM)]) hD⟩,?_,?_⟩⟩
     ·refine cDf (by exact rA je rfl) fun O5=>?_;refine rA cz ?_;refine ja (ns:=nI (tn.map (c9 rs tn))) (O5.con 0 rfl rfl) (by rw[je,ae];exact FC tl hn2) (fun S hS=>?_) (dn hk);have O6:=O5.push (vs:=[.lst ((nI (tn.map (c9 rs tn))).map .int),.lst ((eI rs tn tn.length).ps.map ey),.lst ((eI rs tn tn.length).os.map cM)]) hS;have:=h tn t2 g2 T b1 (by exact Lz [_,_] [_,_] (Ra N0 (Kn 9) (Sa (Pz Z0 C1) (Pz Z1 C0) (Gz Z0 (Pz Z1 (Kz 30))))) rfl hn2 b2) b3;rw[←tl]at this;refine ut (vs:=[iV (eT (nI (tn.map (c9 rs tn)))),.lst ((nI (tn.map (c9 rs tn))).map .int),.lst ((eI rs tn tn.length).ps.map ey),.lst ((eI rs tn tn.length).os.map cM)]) O6 (.tup (.cons ?_ (.cons ?_ (.cons ?_ .nil)))) this
      ·exact O6.rfy 3 rfl rfl (.same _)
      ·exact O6.rfy 0 rfl rfl (.same _)
      ·exact O6.rfy 2 rfl rfl (.same _)
     ·refine cDs fun i s' hs' hi O5=>?_;refine bx (vD hs') fun s hst e=>?_;subst e;have hi:i<tn.length:=(au.mp hst).1;have hsn:s<n:=T.mem.mp (aS hst);refine⟨.put .refl rfl,?_⟩;refine dK (x:=.int (c9 rs tn s:Nat)) rfl (kb s hsn) ?_;exact⟨.int (c9 rs tn s:Nat),_,.refl,.same _,O5.get 0 rfl rfl,by rw[ae,je,ae,cT];exact L3 (Ra N0 (Kn 9) (Rb N1 N0 (Ra N2 N1 (Gn M2 (Kn 1000000))))) rfl hn2 tl (bP _ _),i+1,by refine rA je ?_;exact l9 (jy hi),rfl,by unfold nI;refine rA aT (rA hst (rA ai (rA ai (rA ai ?_))));rfl,HL.set 0 O5.nd rfl rfl,O5⟩
    ·refine lDs fun i s' hs' hi=>?_;refine lB fun R2 hR2=>?_;refine bx (vD hs') fun s hst e=>?_;subst e;have hi:i<tn.length:=(au.mp hst).1;have hsn:s<n:=T.mem.mp (aS hst);have hol:=lA (rs:=rs) (tn:=tn) (i:=i) (by exact bn hi);have hsi:=hsumB i;have hos:=n5 (rs:=rs) hst;have hrl:=rl s;refine⟨⟨Ce p rs tn Oo Pp s,HL (PH H p L t2 g2) [Pp,Oo] [.lst ((eI rs tn i).ps.map ey),.lst ((eI rs tn i).os.map cM)]⟩,ci 7,?_⟩;refine i9 (i:=(s:Nat)) (x:=iV (rs.getD s [])) rfl (by exact xU) (kr s hsn) (by exact L2 (Ra N0 (Kn 9) (Ra M1 N0 (Gz (Pz C1 (Kz 1)) (Kz (2^62))))) rfl hn2 hsn) ?_;refine⟨EN H p L rs tn t2 g2 Oo Pp i s,⟨[],_,_,rfl,rfl,rfl,rfl⟩,?_,?_⟩
     ·rintro σ ⟨pre,l,a,e,hl,ha,rfl⟩;cases l with
      |cons b l=>exact nL hl
      |nil=>
       rw[bt]at e;rw[←e]at ha;have hal:=(n6 (B:=jw rs tn) (s:=(s:Int)) (l:=rs.getD s []) (a:=eI rs tn i)).1;rw[←ha]at hal;refine⟨_,MT.append (O4.con 1 rfl rfl),trivial,?_⟩;refine aE (uC ?_ (dn hk));refine gA (xs:=a.os.map cM) O4 1 rfl rfl (by rw[ae];exact L4 (Rb N0 N1 (Ra N1 (Tn 23 (Kn 9)) (Ra N2 (Kn 11) (Ra N2 (Kn 11) (Rb N3 (Pn N0 (Tn 2 N2)) (Gn (Pn N3 (Kn 1)) (Kn 1000000))))))) rfl hol.1 hsi hrl hrl hal) ?_;have e1:a.os.map cM++[cM g8]=(eI rs tn (i+1)).os.map cM:=by refine rA hos ?_;unfold nq;refine rB ha (rA ai ?_);rfl
       have e2:a.ps.map ey=(eI rs tn (i+1)).ps.map ey:=by refine rA hos ?_;unfold nq;exact rB ha rfl
       refine rA e1 (rA e2 ?_);refine hR2 _ _ ⟨_,?_,i+1,by refine rA je ?_;exact l9 (jy hi),rfl,rfl⟩;exact ci 6
     ·rintro v r σ ⟨pre,l,a,e,hl,ha,rfl⟩;refine lB fun R3 hR3=>?_;cases l with
      |nil=>exact nL hl.symm
      |cons x l=>
       refine ea (aV hl) fun FW FY=>?_;subst FW;subst FY;obtain⟨j,rfl,hj⟩:∃j:Nat,x=j/\j<n:=by
        have hm:x∈rs.getD s []:=by refine rA e ?_;simp
        rw[bH]at hm;cases e9:rs[s]? with
        |none=>rw[e9]at hm;cases hm
        |some q=>rw[e9]at hm;exact B.rng q (aS e9) x hm
       have hpre:pre.length<=11:=by
        have:=congrArg bG e;rw[az]at this;exact L3 (Ra N0 (Kn 11) (Rc N0 (Pn N1 N2) (Gn N1 (Kn 11)))) rfl hrl this
       refine ea (n6 (B:=jw rs tn) (s:=(s:Int)) (l:=pre) (a:=eI rs tn i)) fun hal hap=>?_;rw[←ha]at hal hap;refine⟨_,MT.append (O4.con 1 rfl rfl),trivial,?_⟩;refine aE (qH ?_ (dn hk));refine gA (xs:=a.os.map cM) O4 1 rfl rfl (by rw[ae];exact L4 (Rb N0 N1 (Ra N1 (Tn 23 (Kn 9)) (Ra N2 (Kn 11) (Ra N2 (Kn 11) (Rb N3 (Pn N0 (Tn 2 N2)) (Gn (Pn N3 (Kn 1)) (Kn 1000000))))))) rfl hol.1 hsi hpre hpre hal) ?_;refine⟨_,MT.append (O4.con 0 rfl rfl),trivial,?_⟩;have c1:=O4.con (vs:=[.lst (a.ps.map ey),.lst (a.os.map cM++[cM (iW 3 s)])]) 1 rfl rfl;refine eZ (n:=a.os.length+1) c1 (by simp) (by exact L4 (Rb N0 N1 (Ra N1 (Tn 23 (Kn 9)) (Ra N2 (Kn 11) (Ra N2 (Kn 11) (Rb N3 (Pn N0 (Tn 2 N2)) (Gn (Pn (Pn N3 (Kn 1)) (Kn 1)) (Kn 1000000))))))) rfl hol.1 hsi hpre hpre hal) ?_;refine dK (x:=.int (c9 rs tn s:Nat)) rfl (kb s hsn) ?_;refine dK (x:=.int (c9 rs tn j:Nat)) rfl (kb j hj) ?_;refine gA (xs:=a.ps.map ey) O4 0 rfl rfl (by rw[ae];exact L4 (Ra N0 N1 (Ra N1 (Tn 23 (Kn 9)) (Ra N2 (Kn 11) (Rb N3 (Pn N0 N2) (Gn (Pn N3 (Kn 1)) (Kn 1000000)))))) rfl hol.2 hsi hpre hap) ?_;refine⟨_,MT.append (O4.con 1 rfl rfl),trivial,?_⟩;refine dK (x:=.int (c9 rs tn j:Nat)) rfl (kb j hj) ?_;refine eZ (n:=a.os.length+1) (O4.con 1 rfl rfl) (by simp) (by exact L4 (Rb N0 N1 (Ra N1 (Tn 23 (Kn 9)) (Ra N2 (Kn 11) (Ra N2 (Kn 11) (Rb N3 (Pn N0 (Tn 2 N2)) (Gn (Pn (Pn N3 (Kn 1)) (Kn 1)) (Kn 1000000))))))) rfl hol.1 hsi hpre hpre hal) ?_;refine aE (rL ?_ (dn hk));refine gA (xs:=a.os.map cM++[cM (iW 3 s)]) O4 1 rfl rfl (by simp;exact L4 (Rb N0 N1 (Ra N1 (Tn 23 (Kn 9)) (Ra N2 (Kn 11) (Ra N2 (Kn 11) (Rb N3 (Pn N0 (Tn 2 N2)) (Gn (Pn (Pn N3 (Kn 1)) (Kn 1)) (Kn 1000000))))))) rfl hol.1 hsi hpre hpre hal) ?_;have e1:a.os.map cM++[cM (iW 3 s)]++[cM (fL ((c9 rs tn j:Nat)-((a.os.length+1:Nat):Int)-1))]=(g9 (jw rs tn) s a (j:Int)).os.map cM:=by unfold g9;rw[ai,fT];rfl
       have e2:a.ps.map ey++[.tup [.int ((a.os.length+1:Nat):Int),.int (c9 rs tn s:Nat),.int (c9 rs tn j:Nat)]]=(g9 (jw rs tn) s a (j:Int)).ps.map ey:=by unfold g9;refine rA ai ?_;rfl
       refine rA e1 (rA e2 ?_);refine hR3 _ _ ⟨_,?_,pre++[(j:Int)],l,g9 (jw rs tn) s a (j:Int),by refine rA e ?_;simp,rfl,by refine rA dh (rB ha ?_);rfl,rfl⟩;exact ci 7
   ·refine lDs fun i s' hs' hi=>?_;refine lB fun R4 hR4=>?_;refine bx (vD hs') fun s hst e=>?_;subst e;have hi:i<tn.length:=(au.mp hst).1;have hsn:s<n:=T.mem.mp (aS hst);have hb:=sR (rs:=rs) T.nd hst;refine mV (xs:=(tn.take i).map fun(s:Nat)=>((s:Int),V.int (c9 rs tn s:Nat))) O1 0 rfl rfl (by simp;exact L3 (Ra N0 (Kn 9) (Rb N1 N0 (Ra N2 N1 (Gn M2 (Kn 1000000))))) rfl hn2 tl (bP _ _)) ?_;have hrl:=rl s;refine i9 (x:=iV (rs.getD s [])) rfl (by exact xU) (kr s hsn) (by exact L2 (Ra N0 (Kn 9) (Ra M1 N0 (Gz (Pz C1 (Kz 1)) (Kz (2^62))))) rfl hn2 hsn) ?_;refine eZ (n:=(rs.getD s []).length) rfl (ae _) (by exact nr hrl) ?_;refine⟨.of_left (by decide),?_⟩;have hkp:ix ((tn.take i).map fun(s:Nat)=>((s:Int),V.int (c9 rs tn s:Nat))) (s:Int) (.int (((tn.take i).map (dz rs)).sum:Nat))=(tn.take (i+1)).map fun(s:Nat)=>((s:Int),V.int (c9 rs tn s:Nat)):=by
     rw[jd,aT,hst,ai,←hb]
     ·rfl
     ·refine rA bz ?_;intro z;refine bx (aJ.mp z) fun y hy e=>?_;have e:y=s:=by have e:(y:Int)=s:=e;exact tm e
      subst e;refine ex (di hy) fun j FZ=>?_;refine ex FZ fun hj e2=>?_;rw[List.getElem_take]at e2;rw[cT]at hj;have:=(au.mp hst).2;have:=(List.getElem_inj (h₀:=by exact L3 (Ra M0 N1 (Ra N1 N2 (Gn M0 N2))) rfl hj (bP _ _)) (h₁:=by exact hi) T.nd).mp (e2.trans this.symm);exact L3 (Ra M0 N1 (Rc N0 N2 (Ra N1 N2 Fa))) rfl hj this (jp _ _)
    have hsum:(((tn.take i).map (dz rs)).sum:Nat)+2*((rs.getD s []).length:Int)+1=(((tn.take (i+1)).map (dz rs)).sum:Nat):=by
     refine rA aT (rA hst (rA ai (rA eD ?_)));simp only[jA,aB,gw,cn,List.sum_nil];unfold dz;push_cast;exact bi (L2 (Gz (Pz (Pz C0 (Tz 2 C1)) (Kz 1)) (Pz C0 (Pz (Pz (Tz 2 C1) (Kz 1)) (Kz 0)))) rfl) (L2 (Gz (Pz C0 (Pz (Pz (Tz 2 C1) (Kz 1)) (Kz 0))) (Pz (Pz C0 (Tz 2 C1)) (Kz 1))) rfl)
    have sb:Sub (HL (PH H p L t2 g2) [C] [.dct ((tn.take (i+1)).map fun(s:Nat)=>((s:Int),V.int (c9 rs tn s:Nat)))]) (HL (PH H p L t2 g2) [C] [.dct (ix ((tn.take i).map fun(s:Nat)=>((s:Int),V.int (c9 rs tn s:Nat))) (s:Int) (.int (((tn.take i).map (dz rs)).sum:Nat)))]):=by refine rA hkp ?_;exact Sub.refl
    refine hR4 _ _ ⟨⟨EQ p rs tn C i,HL (PH H p L t2 g2) [C] [.dct ((tn.take (i+1)).map fun(s:Nat)=>((s:Int),V.int (c9 rs tn s:Nat)))]⟩,.of sb ⟨⟨_,rfl,.same _⟩,⟨_,rfl,.same _⟩,⟨_,rfl,.same _⟩,⟨_,rfl,.same _⟩,⟨_,rfl,hsum▸.same _⟩,trivial⟩,i+1,by refine rA je ?_;exact l9 (jy hi),rfl,rfl⟩
end
noncomputable abbrev iZ:=Int×Int×Int
noncomputable def eP(ps:List iZ)(u:Int):List Int:=(ps.filter fun p=>decide (p.2.1=u)).map (·.2.2)
theorem jO{ps:List iZ}{u v:Int}:v∈eP ps u↔∃a,(a,u,v)∈ps:=by
 unfold eP;rw[aJ];constructor
 ·rintro⟨⟨a,b,c⟩,h,rfl⟩;refine ea (bh.mp h) fun h1 h2=>?_;have:b=u:=of_decide_eq_true h2;subst this;exact⟨a,h1⟩
 ·refine fun FW=>ex FW fun a h=>?_;exact⟨(a,u,v),bh.mpr ⟨h,by simp⟩,rfl⟩
inductive Av(E:Int->List Int)(W:List Int):Int->Int->Prop
 |one {u v}:v∈E u->Av E W u v
 |more {u w v}:Av E W u w->w∉W->v∈E w->Av E W u v
theorem AL{E:Int->List Int}{W:List Int}{b x v:Int}(h1:x∈E b)(h2:x∉W)(h:Av E (W++[x]) x v):Av E W b v:=by
 induction h with
 |one e=>exact .more (.one h1) h2 e
 |more _ hw e ih=>exact .more ih (fun z=>hw (aC _ z)) e
theorem Av.rch{E:Int->List Int}{W:List Int}{b v:Int}(h:Av E W b v):gY E b v:=by
 induction h with
 |one e=>exact .one e
 |more _ _ e ih=>exact ih.snoc e
set_option tactic.hygienic true in
theorem Av.of{E:Int->List Int}{b v:Int}(h:gY E b v):Av E [b] b v:=by
 have key:∀a c,gY E a c->a=b∨Av E [b] b a->Av E [b] b c:=fun a c h=>by
  induction h with
  |one e=>
   rintro(rfl|z)
   ·exact .one e
   ·rename_i s t
    by_cases q:s=b
    ·subst q;exact .one e
    ·exact .more z (by simpa using q) e
  |more e _ ih=>
   rintro(rfl|z)
   ·exact ih (.inr (.one e))
   ·rename_i s t u _
    by_cases q:s=b
    ·subst q;exact ih (.inr (.one e))
    ·exact ih (.inr (.more z (by simpa using q) e))
 exact key b v h (.inl rfl)
structure nM(ps:List iZ)(W:List Int)(b:Int)(pre:List iZ)(fl:List Int):Prop where
 nd:fl.Nodup
 av:∀v∈fl,Av (eP ps) W b v
 met:∀p∈pre,p.2.1=b->p.2.2∈fl
 clo:∀v∈fl,v∉W->∀w∈eP ps v,w∈fl
section
variable {ps pre:List iZ}{W fl lf:List Int}{b:Int}{p:iZ}
theorem nM.fin(I:nM ps W b ps fl)(v:Int):v∈fl↔Av (eP ps) W b v:=by
 refine⟨I.av v,fun h=>?_⟩
 induction h with
 |one e=>refine ex (jO.mp e) fun a ha=>?_;exact I.met _ ha rfl
 |more _ hw e ih=>exact I.clo _ ih hw _ e
theorem nM.skip(I:nM ps W b pre fl)(h:p.2.1=b->p.2.2∈fl):nM ps W b (pre++[p]) fl :=
 ⟨I.nd,I.av,fun q hq e=>(ak.mp hq).elim (fun z=>I.met q z e) fun z=>by rw[ag.mp z]at e ⊢;exact h e,I.clo⟩
theorem nM.flat(I:nM ps W b pre fl)(hp:p∈ps)(h:p.2.1=b)(hn:p.2.2∉fl)(hw:p.2.2∈W):nM ps W b (pre++[p]) (fl++[p.2.2]):=by
 have he:p.2.2∈eP ps b:=jO.mpr ⟨p.1,by refine rB h ?_;exact hp⟩;refine⟨cB.mpr ⟨I.nd,by simp,fun a ha c hc=>by refine rA (ag.mp hc) ?_;rintro rfl;exact hn ha⟩,fun v hv=>?_,fun q hq e=>?_,fun v hv hvw w hw'=>?_⟩
 ·rcases ak.mp hv with z|z
  ·exact I.av v z
  ·refine rA (ag.mp z) ?_;exact .one he
 ·rcases ak.mp hq with z|z
  ·exact aC _ (I.met q z e)
  ·refine rA (ag.mp z) ?_;simp
 ·rcases ak.mp hv with z|z
  ·exact aC _ (I.clo v z hvw w hw')
  ·rw[ag.mp z]at hvw;exact absurd hw hvw
theorem nM.deep(I:nM ps W b pre fl)(hp:p∈ps)(h:p.2.1=b)(hn:p.2.2∉fl)(hw:p.2.2∉W)(hl:lf.Nodup)(hm:∀v,v∈lf↔Av (eP ps) (W++[p.2.2]) p.2.2 v) :
  nM ps W b (pre++[p]) (fl++[p.2.2]++lf.filter fun v=>!decide (v∈fl++[p.2.2])):=by
 have he:p.2.2∈eP ps b:=jO.mpr ⟨p.1,by refine rB h ?_;exact hp⟩;have hin:∀v,v∈lf->v∈fl++[p.2.2]++lf.filter fun v=>!decide (v∈fl++[p.2.2]):=fun v hv=>by
  by_cases q:v∈fl++[p.2.2]
  ·exact aC _ q
  ·exact aO _ (bh.mpr ⟨hv,by simp only[q];rfl⟩)
 refine⟨cB.mpr ⟨cB.mpr ⟨I.nd,by simp,fun a ha c hc=>by refine rA (ag.mp hc) ?_;rintro rfl;exact hn ha⟩,hl.filter _,fun a ha c hc=>?_⟩,fun v hv=>?_,fun q hq e=>?_,fun v hv hvw w hw'=>?_⟩
 ·rintro rfl;have:=(bh.mp hc).2;simp only[ha]at this;exact nB this
 ·rcases ak.mp hv with z|z
  ·rcases ak.mp z with z|z
   ·exact I.av v z
   ·refine rA (ag.mp z) ?_;exact .one he
  ·exact AL he hw ((hm v).mp (bh.mp z).1)
 ·rcases ak.mp hq with z|z
  ·exact aC _ (aC _ (I.met q z e))
  ·refine rA (ag.mp z) ?_;simp
 ·rcases ak.mp hv with z|z
  ·rcases ak.mp z with z|z
   ·exact aC _ (aC _ (I.clo v z hvw w hw'))
   ·rw[ag.mp z]at hw';exact hin w ((hm w).mpr (.one hw'))
  ·refine ea (bh.mp z) fun z1 z2=>?_;refine hin w ((hm w).mpr (.more ((hm v).mp z1) (fun y=>?_) hw'));rcases ak.mp y with y|y
   ·exact hvw y
   ·have:v∈fl++[p.2.2]:=aO _ y;simp only[this]at z2;exact nB z2
end
section
variable {g:GX}{k:Nat}{X:XP}{Q:VP}{H H':HH}{G:GC}
noncomputable abbrev yE(ps:List iZ)(b:Int)(wa:ah)(F:ah):List (Str×V):=[("pairs",.lst (ps.map ey)),("begin",.int b),("way",.ref wa),("found",.ref F)]
noncomputable abbrev ER(ps:List iZ)(H:HH)(b:Int)(way:List Int)(wa:ah):List V->St->Prop:=fun r σ=>X4 fun(pre l:List iZ) (fl:List Int) (F:ah)=>A5 (ps=pre++l) (r=l.map ey) (nM ps way b pre fl) (H F=none) (σ=⟨yE ps b wa F,upd H F (.lst (fl.map .int))⟩)
noncomputable abbrev ES(H:HH)(way:List Int)(fl:List Int)(F:ah)(p:iZ)(N:ah)(W:ah)(lf:List Int):ah->List V->List V->HH->Prop:=fun D r acc H'=>X2 fun(pre2 l2:List Int)=>A5 (lf=pre2++l2) (r=l2.map .int) (acc=(pre2.filter fun v=>!decide (v∈fl++[p.2.2])).map .int) (H'=HL H [D,W,N,F] [.lst acc,.lst (way.map .int++[.int p.2.2]),.lst [.int p.2.2],.lst ((fl++[p.2.2]).map .int)]) (cw H [D,W,N,F])
noncomputable abbrev ET(ps:List iZ)(b:Int)(wa:ah)(R:ah):List (Str×V):=[("pairs",.lst (ps.map ey)),("begin",.int b),("way",.ref wa),("found",.ref R)]
theorem uB{ps:List iZ}(hps:ps.length<60)(m:Nat):∀{k:Nat}{Q:VP}{H:HH}{b:Int}{way:List Int}{wa:ah},H wa=some (iV way)->left (fun zz=>[]) (ps.map (·.2.2)) way<=m->way.length+m<1000 ->
  (∀l,l.Nodup->(∀v,v∈l↔Av (eP ps) way b v)->l.length<=ps.length->Q (iV l) H)->10+10*m<=k->CT g.gc k (.ref 455) [.lst (ps.map ey),.int b,.ref wa] H Q X:=by
 induction m using Nat.strongRecOn with
 |ind m ih=>
  intro k Q H b way wa hw hm hl h hk;have flen:∀{fl:List Int}{pre:List iZ},nM ps way b pre fl->fl.length<=ps.length:=fun{fl pre} I=>by
   have:=hZ (m:=ps.map (·.2.2)) I.nd fun v hv=>by
    have:∀u v,Av (eP ps) way u v->v∈ps.map (·.2.2):=fun u v h=>by
     cases h with
     |one e=>refine ex (jO.mp e) fun a ha=>?_;exact aJ.mpr ⟨_,ha,rfl⟩
     |more _ _ e=>refine ex (jO.mp e) fun a ha=>?_;exact aJ.mpr ⟨_,ha,rfl⟩
    exact this _ _ (I.av v hv)
   rw[ae]at this;exact this
  refine gK (dcs:=[]) rfl (fun zz zz zz zz=>rfl) rfl ?_ (by exact L2 (Ra (Pn (Kn 10) (Tn 10 N0)) N1 (Gn (Kn 4) N1)) rfl hk);have hk3:3<=k-1:=by exact L3 (Ra (Pn (Kn 10) (Tn 10 N0)) N1 (Ra N1 M2 (Gn (Kn 3) N2))) rfl hk jF
  intro F hF;have hF:H F=none:=hF;refine⟨⟨yE ps b wa F,upd H F (.lst [])⟩,ci 4,?_⟩;refine⟨ER ps H b way wa,⟨[],ps,[],F,rfl,rfl,⟨by simp,(fun zz h=>nomatch h),(fun zz h=>nomatch h),(fun zz h=>nomatch h)⟩,hF,rfl⟩,?_,?_⟩
  ·rintro σ ⟨pre,l,fl,F,e,hl',I,hF,rfl⟩;cases l with
   |cons a l=>exact nL hl'
   |nil=>
    rw[bt]at e;subst e;exact frz hF (.same _) (h fl I.nd I.fin (flen I))
  ·rintro v r σ ⟨pre,l,fl,F,e,hl',I,hF,rfl⟩;refine lB fun R2 hR2=>?_;cases l with
   |nil=>exact nL hl'.symm
   |cons p l=>
    obtain⟨rfl,rfl⟩:=aV hl';have hp:p∈ps:=by refine rA e ?_;simp
    have e':ps=(pre++[p])++l:=by refine rA e ?_;simp
    have hfl:=flen I;have O:cw H [F]:=cw.push (vs:=[]) cw.nil hF;refine⟨_,rfl,rfl,rfl,?_⟩;refine dY (fun q=>?_) (fun q=>?_)
    ·have q:p.2.1=b:=of_decide_eq_true q;refine iQ (ns:=fl) (bv aw) ?_;refine dY (fun q2=>?_) (fun q2=>?_)
     ·have q2:p.2.2∉fl:=by simpa using q2
      refine⟨_,MT.append (bv aw),trivial,?_⟩;refine VT.append aw (by rw[ae];exact pG hfl hps) ?_;have hwF:wa≠F:=fun z=>by rw[z,hF]at hw;exact nS hw
      have hcw:∀u v,upd (upd H F u) F v wa=some (iV way):=fun u v=>by refine rA eU (rA (bE hwF) ?_);exact hw
      refine iQ (ns:=way) (bv (hcw _ _)) ?_;refine dY (fun q3=>?_) (fun q3=>?_)
      ·have q3:p.2.2∉way:=by simpa using q3
       have hlp:left (fun zz=>[]) (ps.map (·.2.2)) (way++[p.2.2])+1<=m:=by
        have:=qr (E:=fun zz=>[]) q3 (l:=ps.map (·.2.2));rw[if_pos (aJ.mpr ⟨p,hp,rfl⟩)]at this;unfold cO at this;rw[if_neg q3]at this;simp at this;exact a8 this hm
       intro N hN;have O1:cw H [F]:=O;have e1:upd (upd H F (.lst (fl.map .int))) F (.lst (fl.map .int++[.int p.2.2]))=HL H [F] [.lst ((fl++[p.2.2]).map .int)]:=by refine rA eU (rA ai ?_);rfl
       have hN:upd (upd H F (.lst (fl.map .int))) F (.lst (fl.map .int++[.int p.2.2])) N=none:=hN;have hN':HL H [F] [.lst ((fl++[p.2.2]).map .int)] N=none:=by refine rB e1 ?_;exact hN
       have O2:=O1.push hN';have hwN:wa≠N:=fun z=>by rw[z]at hcw;rw[hcw]at hN;exact nS hN.symm
       refine pz (xs:=way.map .int) (ys:=[.int p.2.2]) (bv ((bE hwN).trans (hcw _ _))) (bv aw) (by rw[ae];simp;exact L2 (Ra (Pn (Pn N0 N1) (Kn 1)) (Kn 1000) (Gn (Pn M0 (Kn 1)) (Kn 1000000))) rfl hl) fun W hW=>?_;have hW:upd (upd (upd H F (.lst (fl.map .int))) F (.lst (fl.map .int++[.int p.2.2]))) N (.lst [.int p.2.2]) W=none:=hW;rw[e1]at hW;have O3:=O2.push (vs:=[.lst [.int p.2.2],.lst ((fl++[p.2.2]).map .int)]) hW;have ew:way.map V.int++[.int p.2.2]=(way++[p.2.2]).map V.int:=by refine rA ai ?_;rfl
       have e4:upd (upd (upd (upd H F (.lst (fl.map .int))) F (.lst (fl.map .int++[.int p.2.2]))) N (.lst [.int p.2.2])) W (.lst (way.map .int++[.int p.2.2]))=HL H [W,N,F] [.lst (way.map .int++[.int p.2.2]),.lst [.int p.2.2],.lst ((fl++[p.2.2]).map .int)]:=by refine rA e1 ?_;rfl
       refine aE (ih (m-1) (by exact L2 (Rb M0 N1 (Gn M0 N1)) rfl (iE (L2 (Ra M0 N1 (Gn (Kn 1) N1)) rfl hlp))) (way:=way++[p.2.2]) (aw.trans (congrArg (fun l=>some (V.lst l)) ew)) (by exact L3 (Ra M0 N1 (Ra N1 M2 (Gn N0 N2))) rfl hlp jF) (by simp;exact L3 (Ra (Pn (Pn N0 N1) (Kn 1)) (Kn 1000) (Rb M2 N1 (Gn (Pn (Pn M0 N2) (Kn 1)) (Kn 1000)))) rfl hl (iE (L2 (Ra M0 N1 (Gn (Kn 1) N1)) rfl hlp))) (fun lf l1 l2 l3=>?_) (by exact L4 (Rb M0 N1 (Rb M0 N1 (Rb M0 N1 (Rb M0 N1 (Rb M0 N1 (Rb M0 N1 (Rb M0 N1 (Rb M0 N1 (Rb M0 N1 (Rb M0 N1 (Ra (Pn (Kn 10) (Tn 10 N1)) N2 (Ra N2 (Pn N3 (Kn 1)) (Gn (Pn (Kn 10) (Tn 10 N0)) N3))))))))))))) rfl (iE (L2 (Ra M0 N1 (Gn (Kn 1) N1)) rfl hlp)) (iE (L2 (Ra M0 N1 (Gn (Kn 1) N1)) rfl hlp)) (iE (L2 (Ra M0 N1 (Gn (Kn 1) N1)) rfl hlp)) (iE (L2 (Ra M0 N1 (Gn (Kn 1) N1)) rfl hlp)) (iE (L2 (Ra M0 N1 (Gn (Kn 1) N1)) rfl hlp)) (iE (L2 (Ra M0 N1 (Gn (Kn 1) N1)) rfl hlp)) (iE (L2 (Ra M0 N1 (Gn (Kn 1) N1)) rfl hlp)) (iE (L2 (Ra M0 N1 (Gn (Kn 1) N1)) rfl hlp)) (iE (L2 (Ra M0 N1 (Gn (Kn 1) N1)) rfl hlp)) (iE (L2 (Ra M0 N1 (Gn (Kn 1) N1)) rfl hlp)) hk jF));refine⟨ES H way fl F p N W lf,fun D hD=>?_⟩;have hD:upd (upd (upd (upd H F (.lst (fl.map .int))) F (.lst (fl.map .int++[.int p.2.2]))) N (.lst [.int p.2.2])) W (.lst (way.map .int++[.int p.2.2])) D=none:=hD;rw[e4]at hD;have O4:=O3.push (vs:=[.lst (way.map .int++[.int p.2.2]),.lst [.int p.2.2],.lst ((fl++[p.2.2]).map .int)]) hD;refine⟨⟨[],lf,rfl,rfl,rfl,?_,O4⟩,?_,?_⟩
       ·show upd (upd (upd (upd (upd H F _) F _) N _) W _) D _=_;refine rA e4 ?_;rfl
       ·rintro acc H' ⟨pre2,l2',e2,hr,rfl,rfl,O5⟩;cases l2' with
        |cons a b=>exact nL hr
        |nil=>
         rw[bt]at e2;subst e2;have I2:=I.deep hp q q2 q3 l1 l2;have hfl2:=flen I2;rw[az]at hfl2;refine pz (O5.con 3 rfl rfl) (O5.con 0 rfl rfl) (by rw[ae,ae];exact pG hfl2 hps) fun R hR=>?_;have hR:HL H [D,W,N,F] [.lst ((lf.filter fun v=>!decide (v∈fl++[p.2.2])).map .int),.lst (way.map .int++[.int p.2.2]),.lst [.int p.2.2],.lst ((fl++[p.2.2]).map .int)] R=none:=hR;have O6:=O5.push hR;have e5:(fl++[p.2.2]).map V.int++(lf.filter fun v=>!decide (v∈fl++[p.2.2])).map .int=(fl++[p.2.2]++lf.filter fun v=>!decide (v∈fl++[p.2.2])).map .int:=by exact rB ai rfl
         have sb:Sub (upd H R (.lst ((fl++[p.2.2]++lf.filter fun v=>!decide (v∈fl++[p.2.2])).map .int))) (HL H [R,D,W,N,F] [.lst ((fl++[p.2.2]).map V.int++(lf.filter fun v=>!decide (v∈fl++[p.2.2])).map .int),.lst ((lf.filter fun v=>!decide (v∈fl++[p.2.2])).map .int),.lst (way.map .int++[.int p.2.2]),.lst [.int p.2.2],.lst ((fl++[p.2.2]).map .int)]):=by
          refine rB e5 ?_;exact lJ (k1:=[R]) (k2:=[D,W,N,F]) (v1:=[.lst ((fl++[p.2.2]).map V.int++(lf.filter fun v=>!decide (v∈fl++[p.2.2])).map .int)]) O6 rfl
         exact hR2 _ _ ⟨⟨ET ps b wa R,upd H R (.lst ((fl++[p.2.2]++lf.filter fun v=>!decide (v∈fl++[p.2.2])).map .int))⟩,w9 4 sb,pre++[p],l,_,R,e',rfl,I2,O6.fr R (.head _),rfl⟩
       ·rintro v r acc H' ⟨pre2,l2',e2,hr,rfl,rfl,O5⟩;cases l2' with
        |nil=>exact nL hr.symm
        |cons x l2'=>
         obtain⟨rfl,rfl⟩:=aV hr;have hpl:pre2.length<60:=by have:=congrArg bG e2;rw[az,aF]at this;exact L4 (Ra M0 (Kn 60) (Ra N1 N0 (Rc N1 (Pn N2 (Pn N3 (Kn 1))) (Gn M2 (Kn 60))))) rfl hps l3 this
         have hff:=bp (fun v=>!decide (v∈fl++[p.2.2])) pre2;have e2':lf=(pre2++[x])++l2':=by refine rA e2 ?_;simp
         refine⟨.put .refl rfl,?_⟩;refine iQ (ns:=fl++[p.2.2]) (O5.con 3 rfl rfl) ?_;have hs:(pre2++[x]).filter (fun v=>!decide (v∈fl++[p.2.2]))=pre2.filter (fun v=>!decide (v∈fl++[p.2.2]))++(if !decide (x∈fl++[p.2.2])then [x]else []):=by rw[bu];simp only[bO,dk]
         refine dY (fun z=>?_) (fun z=>?_)
         ·rw[z,if_pos rfl]at hs;exact⟨.int x,_,.refl,.same _,O5.get 0 rfl rfl,by rw[ae];exact pG hff hpl,pre2++[x],l2',e2',rfl,by refine rA hs (rA ai ?_);rfl,HL.set 0 O5.nd rfl rfl,O5⟩
         ·rw[z,if_neg (by decide),bt]at hs;exact⟨_,.refl,pre2++[x],l2',e2',rfl,by exact rA hs rfl,rfl,O5⟩
      ·have q3:p.2.2∈way:=by simpa using q3
       refine hR2 _ _ ⟨⟨yE ps b wa F,upd H F (.lst ((fl++[p.2.2]).map .int))⟩,.of ?_ ⟨⟨_,rfl,.same _⟩,⟨_,rfl,.same _⟩,⟨_,rfl,.same _⟩,⟨_,rfl,.same _⟩,trivial⟩,pre++[p],l,_,F,e',rfl,I.flat hp q q2 q3,hF,rfl⟩;show Sub _ (upd (upd H F _) F _);refine rA eU (rA ai ?_);exact .refl
     ·have q2:p.2.2∈fl:=by simpa using q2
      refine hR2 _ _ ⟨_,?_,pre++[p],l,fl,F,e',rfl,I.skip fun zz=>q2,hF,rfl⟩;exact ci 4
    ·have q:¬p.2.1=b:=of_decide_eq_false q;refine hR2 _ _ ⟨_,?_,pre++[p],l,fl,F,e',rfl,I.skip fun z=>absurd z q,hF,rfl⟩;exact ci 4
end
structure Dq(ps:List iZ)(dep:Int->Int):Prop where
 pos:∀b,1<=dep b
 step:∀p∈ps,dep p.2.1+1<=dep p.2.2
 least:∀b,dep b=1∨∃p∈ps,p.2.2=b/\dep b=dep p.2.1+1
noncomputable def preds(ps:List iZ)(dep:Int->Int)(b:Int):List Int:=(ps.filter fun p=>decide (p.2.2=b)).map fun p=>dep p.2.1
theorem Dq.top{ps:List iZ}{dep:Int->Int}(D:Dq ps dep){b M:Int}(h1:M∈0::preds ps dep b)(h2:∀a∈0::preds ps dep b,a<=M):1+M=dep b:=by
 have hm:∀p∈ps,p.2.2=b->dep p.2.1∈0::preds ps dep b:=fun p hp e=>.tail _ (aJ.mpr ⟨p,bh.mpr ⟨hp,decide_eq_true e⟩,rfl⟩);have low:1+M<=dep b:=by
  rcases aA.mp h1 with rfl|h
  ·have:=D.pos b;exact Lz [] [_] (Sa (Kz 1) Z0 (Gz (Pz (Kz 1) (Kz 0)) Z0)) rfl this
  ·refine bx (aJ.mp h) fun p hp FW=>?_;subst FW;refine ea (bh.mp hp) fun hp e=>?_;have e:p.2.2=b:=of_decide_eq_true e;have:=D.step p hp;rw[e]at this;exact Lz [] [_,_] (Sa (Pz Z0 (Kz 1)) Z1 (Gz (Pz (Kz 1) Z0) Z1)) rfl this
 rcases D.least b with e|⟨p,hp,e1,e2⟩
 ·have:=h2 0 (.head _);exact bi (Lz [] [_,_] (Sa (Pz (Kz 1) Z0) Z1 (Gz (Pz (Kz 1) Z0) Z1)) rfl low) (Lz [] [_,_] (Sb Z0 (Kz 1) (Sa (Kz 0) Z1 (Gz Z0 (Pz (Kz 1) Z1)))) rfl e this)
 ·have:=h2 _ (hm p hp e1);exact bi (Lz [] [_,_] (Sa (Pz (Kz 1) Z0) Z1 (Gz (Pz (Kz 1) Z0) Z1)) rfl low) (Lz [] [_,_,_] (Sb Z0 (Pz Z1 (Kz 1)) (Sa Z1 (Xz 2) (Gz Z0 (Pz (Kz 1) (Xz 2))))) rfl e2 this)
section
variable {g:GX}{k:Nat}{X:XP}{Q:VP}{H H':HH}{G:GC}
noncomputable abbrev EU(ps:List iZ)(dep:Int->Int)(H:HH)(b:Int)(N:ah):ah->List V->List V->HH->Prop:=fun D r acc H'=>X2 fun(pre l:List iZ)=>A5 (ps=pre++l) (r=l.map ey) (acc=(preds pre dep b).map .int) (H'=HL H [D,N] [.lst acc,.lst [.int 0]]) (cw H [D,N])
theorem uy{ps:List iZ}{dep:Int->Int}(hps:ps.length<60)(Dp:Dq ps dep)(m:Nat):∀{k:Nat}{X:XP}{Q:VP}{H:HH}{b:Int},(dep b).toNat<=m->Q (.int (dep b)) H->10+10*m<=k->CT g.gc k (.ref 460) [.lst (ps.map ey),.int b] H Q X:=by
 induction m with
 |zero=>intro k X Q H b hm;have:=Dp.pos b;lia
 |succ m ih=>
  intro k X Q H b hm h hk;refine gK (dcs:=[]) rfl (fun zz zz zz=>rfl) rfl ?_ (by exact FG hk);intro N hN;have hN:H N=none:=hN;have O1:cw H [N]:=cw.push (vs:=[]) cw.nil hN;refine⟨EU ps dep H b N,fun D hD=>⟨⟨[],ps,rfl,rfl,rfl,rfl,O1.push (vs:=[.lst [.int 0]]) hD⟩,?_,?_⟩⟩
  ·refine Du fun O2=>?_;have hpl:(preds ps dep b).length<=ps.length:=by unfold preds;rw[ae];exact bp _ _
   refine pz (O2.con 1 rfl rfl) (O2.con 0 rfl rfl) (by rw[ae];simp;exact L2 (Ra M0 (Kn 60) (Ra N1 N0 (Gn (Pn (Pn (Kn 1) N1) (Kn 1)) (Kn 1000000)))) rfl hps hpl) fun R hR=>?_;have O3:=O2.push (vs:=[.lst ((preds ps dep b).map .int),.lst [.int 0]]) hR;refine VT.max (ns:=0::preds ps dep b) (O3.con (vs:=[.lst ([V.int 0]++(preds ps dep b).map V.int),.lst ((preds ps dep b).map V.int),.lst [.int 0]]) 0 rfl rfl) (by simp) (fun M h1 h2=>?_) (by exact L3 (Ra (Pn (Kn 10) (Tn 10 M0)) N1 (Ra N1 M2 (Gn (Kn 3) N2))) rfl hk jF);have:=Dp.top h1 h2;rw[←this]at h;exact ut (vs:=[.lst ([V.int 0]++(preds ps dep b).map V.int),.lst ((preds ps dep b).map V.int),.lst [.int 0]]) O3 (.same _) h
  ·refine Dv fun pre p l e O2=>?_;have hp:p∈ps:=by refine rA e ?_;simp
   have e':ps=(pre++[p])++l:=by refine rA e ?_;simp
   have hpr:pre.length<60:=by have:=congrArg bG e;rw[az,aF]at this;exact L3 (Ra M0 (Kn 60) (Rc N0 (Pn N1 M2) (Gn M1 (Kn 60)))) rfl hps this
   have hpl:(preds pre dep b).length<=pre.length:=by unfold preds;rw[ae];exact bp _ _
   have hs:preds (pre++[p]) dep b=preds pre dep b++(if decide (p.2.2=b)then [dep p.2.1]else []):=by
    unfold preds;rw[bu,ai];simp only[bO,dk];split <;> rfl
   refine⟨_,rfl,rfl,rfl,.put (.put (.put .refl rfl) rfl) rfl,?_⟩;refine dY (fun z=>?_) (fun z=>?_)
   ·have z':p.2.2=b:=of_decide_eq_true z;have hst:=Dp.step p hp;rw[z']at hst;rw[if_pos z]at hs;refine aE (ih (k:=k-1) (b:=p.2.1) (by exact Int.toNat_le.mpr (Lz [_,_] [_,_] (Ra N0 M1 (Sa (Pz Z0 (Kz 1)) Z1 (Sa Z1 C0 (Gz Z0 C1)))) rfl hm hst wJ)) ?_ (by exact L3 (Ra (Pn (Kn 10) (Tn 10 M0)) N1 (Ra N1 M2 (Gn (Pn (Kn 10) (Tn 10 N0)) N2))) rfl hk jF));exact⟨.int (dep p.2.1),_,.refl,.same _,O2.get 0 rfl rfl,by rw[ae];exact pG hpl hpr,pre++[p],l,e',rfl,by refine rA hs (rA ai ?_);rfl,HL.set 0 O2.nd rfl rfl,O2⟩
   ·rw[z,if_neg (by decide),bt]at hs;exact⟨_,.refl,pre++[p],l,e',rfl,by exact rA hs rfl,rfl,O2⟩
end
noncomputable def mi(ps:List iZ)(p:iZ):Prop:=p.2.1=p.2.2∨gY (eP ps) p.2.2 p.2.1
structure DB(ps:List iZ)(Q:V->Prop):Prop where
 ring:∀pre p post,ps=pre++p::post->(∀q∈pre,¬mi ps q)->mi ps p->Q (.tup [.str Ag,.int p.1])
 deep:(∀q∈ps,¬mi ps q)->∃dep,Dq ps dep/\(∀b,dep b<=20)/\(∀pre p post,ps=pre++p::post->(∀q∈pre,¬8<=dep q.2.1)->8<=dep p.2.1->Q (.tup [.str Ck,.int p.1]))/\((∀q∈ps,¬8<=dep q.2.1)->Q .none)
theorem wF{ps:List iZ}{w:List Int}:left (fun zz=>[]) (ps.map (·.2.2)) w<=ps.length:=by
 have:=wE (E:=fun zz=>[]) (l:=ps.map (·.2.2)) (seen:=w) (m:=0) fun zz zz=>ax _;rw[ae]at this;lia
theorem zi{ps:List iZ}{l:List Int}{b v:Int}(h:∀v,v∈l↔Av (eP ps) [b] b v):v∈l↔gY (eP ps) b v:=(h v).trans ⟨Av.rch,Av.of⟩
section
variable {g:GX}{k:Nat}{X:XP}{Q:VP}{H H':HH}{G:GC}
noncomputable abbrev EV(H:HH)(ps:List iZ):List V->St->Prop:=fun r σ=>X2 fun(pre l:List iZ)=>A4 (ps=pre++l) (r=l.map ey) (∀q∈pre,¬mi ps q) (σ=⟨[("pairs",.lst (ps.map ey))],H⟩)
noncomputable abbrev EW(H:HH)(ps:List iZ)(dep:Int->Int):List V->St->Prop:=fun r σ=>X2 fun(pre l:List iZ)=>A4 (ps=pre++l) (r=l.map ey) (∀q∈pre,¬8<=dep q.2.1) (σ=⟨[("pairs",.lst (ps.map ey))],H⟩)
set_option tactic.hygienic true in
theorem Au{ps:List iZ}(hps:ps.length<=20)(h:DB ps (fun v=>Q v H))(hk:230<=k):CT g.gc k (.ref 467) [.lst (ps.map ey)] H Q X:=by
 refine gK (dcs:=[]) rfl (fun zz zz=>rfl) rfl ?_ (gG hk);refine⟨_,.refl,?_⟩;refine⟨EV H ps,⟨[],ps,rfl,rfl,(fun zz h=>nomatch h),rfl⟩,?_,?_⟩
 ·refine uM fun pre l e hl hr=>?_;cases l with
  |cons a l=>exact nL hl
  |nil=>
   rw[bt]at e;subst e;refine kZ (h.deep hr) fun dep Dp db h1 h2=>?_;refine⟨_,.refl,?_⟩;refine⟨EW H ps dep,⟨[],ps,rfl,rfl,(fun zz h=>nomatch h),rfl⟩,?_,?_⟩
   ·refine uM fun pre l e hl hr=>?_;cases l with
    |cons a l=>exact nL hl
    |nil=>
     rw[bt]at e;subst e;exact dO (h2 hr)
   ·intro v r;refine uM fun pre l e hl hr=>?_;cases l with
    |nil=>exact nL hl.symm
    |cons p l=>
     refine ea (aV hl) fun FW FY=>?_;subst FW;subst FY;refine⟨_,rfl,rfl,rfl,?_⟩;have:=db p.2.1;refine aE (uy (by exact nr hps) Dp 20 (by exact Int.toNat_le.mpr (Lz [] [_] (Sa Z0 (Kz 20) (Gz Z0 (Cz (Kn 20)))) rfl this)) ?_ (by exact L2 (Ra (Kn 230) N0 (Ra N0 M1 (Gn (Pn (Kn 10) (Tn 10 (Kn 20))) N1))) rfl hk jF));refine dY (fun q=>?_) (fun q=>?_)
     ·have q:7<dep p.2.1:=of_decide_eq_true q;exact dO (h1 pre p l e hr (by(rename_i FZ;exact Lz [] [_] (Sa (Pz (Kz 7) (Kz 1)) Z0 (Gz (Kz 8) Z0)) rfl (of_decide_eq_true FZ))))
     ·have q:¬7<dep p.2.1:=of_decide_eq_false q;refine⟨_,?_,pre++[p],l,by refine rA e ?_;simp,rfl,fun z hz=>(ak.mp hz).elim (hr z) fun y=>by refine rA (ag.mp y) ?_;(rename_i FZ;exact fun z'=>Lz [] [_] (Se (Pz (Kz 7) (Kz 1)) Z0 (Sa (Kz 8) Z0 Fa)) rfl (of_decide_eq_false FZ) z'),rfl⟩;exact ci 1
 ·intro v r;refine uM fun pre l e hl hr=>?_;cases l with
  |nil=>exact nL hl.symm
  |cons p l=>
   refine ea (aV hl) fun F7 F8=>?_;subst F7;subst F8;refine⟨_,rfl,rfl,rfl,?_⟩;refine dY (fun q=>?_) (fun q=>?_)
   ·exact dO (h.ring pre p l e hr (.inl (of_decide_eq_true q)))
   ·have q:¬p.2.1=p.2.2:=of_decide_eq_false q;intro N hN;have hN:H N=none:=hN;have hlp:=wF (ps:=ps) (w:=[p.2.2]);refine aE (uB (by exact nr hps) 20 (way:=[p.2.2]) aw (by exact xS hlp hps) (by simp) (fun lf l1 l2 l3=>?_) (by exact L2 (Ra (Kn 230) N0 (Ra N0 M1 (Gn (Pn (Kn 10) (Tn 10 (Kn 20))) N1))) rfl hk jF));refine i6 (ns:=lf) rfl ?_;have hra:=zi (v:=p.2.1) l2;refine dY (fun q2=>?_) (fun q2=>?_)
    ·refine⟨_,H,Sub.refl.upd hN,.same _,h.ring pre p l e hr (.inr (hra.mp (of_decide_eq_true q2)))⟩
    ·refine⟨⟨[("pairs",.lst (ps.map ey))],H⟩,w9 1 (Sub.refl.upd hN),pre++[p],l,by refine rA e ?_;simp,rfl,fun z hz=>(ak.mp hz).elim (hr z) fun y=>?_,rfl⟩;refine rA (ag.mp y) ?_;rintro(w|w)
     ·exact q w
     ·exact of_decide_eq_false q2 (hra.mpr w)
end
noncomputable def qe(B:Int->Int)(s:Int):Nat->List Int->List bq
 |_,[]=>[]
 |o,x::l=>iW 3 s::fL (B x-((o+1:Nat):Int)-1)::qe B s (o+2) l
noncomputable def BL(B:Int->Int)(s:Int):Nat->List Int->List iZ
 |_,[]=>[]
 |o,x::l=>(((o+1:Nat):Int),B s,B x)::BL B s (o+2) l
section
variable {B:Int->Int}{s:Int}
theorem ub:∀{l:List Int}{a:OA},(l.foldl (g9 B s) a).os=a.os++qe B s a.os.length l/\(l.foldl (g9 B s) a).ps=a.ps++BL B s a.os.length l
 |[],a=>⟨(bt _).symm,(bt _).symm⟩
 |x::l,a=>by
  refine ea (ub (l:=l) (a:=g9 B s a x)) fun h1 h2=>?_;have e:(g9 B s a x).os.length=a.os.length+2:=by simp[g9]
  refine rA fE (rA h1 (rA h2 (rA e ?_)));exact⟨fT _ _ _,fT _ _ _⟩
theorem tS:∀{l:List Int}{o:Nat},(qe B s o l).length=2*l.length
 |[],_=>rfl
 |x::l,o=>by show(iW 3 s::fL (B x-((o+1:Nat):Int)-1)::qe B s (o+2) l).length=_;refine rA aF (rA aF (rA tS (rA aF ?_)));exact ao (L1 (Gn (Pn (Pn (Tn 2 N0) (Kn 1)) (Kn 1)) (Tn 2 M0)) rfl) (L1 (Gn (Tn 2 M0) (Pn (Pn (Tn 2 N0) (Kn 1)) (Kn 1))) rfl)
theorem tR:∀{l:List Int}{o j:Nat}{x:Int},l[j]?=some x->(qe B s o l)[2*j]?=some (iW 3 s)/\(qe B s o l)[2*j+1]?=some (fL (B x-((o+2*j+1:Nat):Int)-1))
 |[],_,_,_,h=>by simp at h
 |y::l,o,0,x,h=>by obtain rfl:=aj h;exact⟨rfl,rfl⟩
 |y::l,o,j+1,x,h=>by
  refine ea (tR (l:=l) (o:=o+2) (j:=j) (x:=x) (by simpa using h)) fun h1 h2=>?_;refine rA (show 2*(j+1)=2*j+1+1 by exact ao (L1 (Gn (Tn 2 M0) (Pn (Pn (Tn 2 N0) (Kn 1)) (Kn 1))) rfl) (L1 (Gn (Pn (Pn (Tn 2 N0) (Kn 1)) (Kn 1)) (Tn 2 M0)) rfl)) ?_;refine⟨h1,?_⟩;refine rA (show o+(2*j+1+1)+1=o+2+2*j+1 by exact ao (L2 (Gn (Pn (Pn N0 (Pn (Pn (Tn 2 N1) (Kn 1)) (Kn 1))) (Kn 1)) (Pn (Pn (Pn N0 (Kn 2)) (Tn 2 N1)) (Kn 1))) rfl) (L2 (Gn (Pn (Pn (Pn N0 (Kn 2)) (Tn 2 N1)) (Kn 1)) (Pn (Pn N0 (Pn (Pn (Tn 2 N1) (Kn 1)) (Kn 1))) (Kn 1))) rfl)) ?_;exact h2
theorem wS{p:iZ}:∀{l:List Int}{o:Nat},p∈BL B s o l↔∃(j:Nat) (x:Int),l[j]?=some x/\p=(((o+2*j+1:Nat):Int),B s,B x)
 |[],o=>by show p∈[]↔_;simp
 |y::l,o=>by
  show _∈(((o+1:Nat):Int),B s,B y)::BL B s (o+2) l↔_;rw[aA,wS];constructor
  ·rintro(rfl|⟨j,x,h1,rfl⟩)
   ·exact⟨0,y,rfl,rfl⟩
   ·exact⟨j+1,x,by simpa using h1,by exact rA (show o+2*(j+1)+1=o+2+2*j+1 by exact ao (L2 (Gn (Pn (Pn N0 (Tn 2 M1)) (Kn 1)) (Pn (Pn (Pn N0 (Kn 2)) (Tn 2 N1)) (Kn 1))) rfl) (L2 (Gn (Pn (Pn (Pn N0 (Kn 2)) (Tn 2 N1)) (Kn 1)) (Pn (Pn N0 (Tn 2 M1)) (Kn 1))) rfl)) rfl⟩
  ·refine fun FW=>jx FW fun j x h1 FY=>?_;clear FW;subst FY;cases j with
   |zero=>obtain rfl:=aj h1;exact .inl rfl
   |succ j=>exact .inr ⟨j,x,by simpa using h1,by exact rA (show o+2*(j+1)+1=o+2+2*j+1 by exact ao (L2 (Gn (Pn (Pn N0 (Tn 2 M1)) (Kn 1)) (Pn (Pn (Pn N0 (Kn 2)) (Tn 2 N1)) (Kn 1))) rfl) (L2 (Gn (Pn (Pn (Pn N0 (Kn 2)) (Tn 2 N1)) (Kn 1)) (Pn (Pn N0 (Tn 2 M1)) (Kn 1))) rfl)) rfl⟩
theorem sr:∀{l:List Int}{o:Nat},(((qe B s o l).zipIdx o).filter fun p=>bD p.1).map (fun p=>(p.2:Int))=(BL B s o l).map (·.1)
 |[],_=>rfl
 |x::l,o=>by
  show(((iW 3 s::fL (B x-((o+1:Nat):Int)-1)::qe B s (o+2) l).zipIdx o).filter fun p=>bD p.1).map (fun p=>(p.2:Int))=((((o+1:Nat):Int),B s,B x)::BL B s (o+2) l).map (·.1);exact rA gx (rA gx (rA (List.filter_cons_of_neg (show ¬(false=true) by decide)) (rA (List.filter_cons_of_pos (by rfl)) (rA aB (rA aB (rA sr rfl))))))
end
theorem u9{a b:List bq}:cN (a++b)=cN a++((b.zipIdx a.length).filter fun p=>bD p.1).map (fun p=>(p.2:Int)):=by
 unfold cN;rw[List.zipIdx_append,bu,ai,Nat.zero_add]
theorem wH{α:Type}{a b:List α}{m:Nat}{x:α}(h:b[m]?=some x):(a++b)[a.length+m]?=some x:=by
 rw[cR (by exact b6 _ _),Nat.add_sub_cancel_left];exact h
structure AM(rs:List (List Int))(tn:List Nat)(S:List Nat)(a:OA):Prop where
 ex:∀s∈S,a.os[c9 rs tn s+2*(rs.getD s []).length]?=some g8
 mv:∀s∈S,∀(j:Nat) x,(rs.getD s [])[j]?=some x->a.os[c9 rs tn s+2*j]?=some (iW 3 s)/\a.os[c9 rs tn s+2*j+1]?=some (fL (jw rs tn x-((c9 rs tn s+2*j+1:Nat):Int)-1))
 cov:∀y,y<a.os.length->∃s∈S,c9 rs tn s<=y/\y<c9 rs tn s+dz rs s
 psm:∀p,p∈a.ps↔∃s∈S,∃(j:Nat) (x:Int),(rs.getD s [])[j]?=some x/\p=(((c9 rs tn s+2*j+1:Nat):Int),((c9 rs tn s:Nat):Int),jw rs tn x)
 psa:a.ps.map (·.1)=cN a.os
 pl:a.os.length=2*a.ps.length+S.length
theorem wR{B:Int->Int}{s:Int}:∀{l:List Int}{o:Nat},(BL B s o l).length=l.length
 |[],_=>rfl
 |x::l,o=>by show((((o+1:Nat):Int),B s,B x)::BL B s (o+2) l).length=_;exact rA aF (rA wR (rA aF rfl))
theorem ng{α:Type}{a b:List α}{i:Nat}{x:α}(h:a[i]?=some x):(a++b)[i]?=some x:=by
 refine rA (du (au.mp h).1) ?_;exact h
theorem AM.all{rs:List (List Int)}{tn:List Nat}(nd:tn.Nodup):∀{i:Nat},i<=tn.length->AM rs tn (tn.take i) (eI rs tn i)
 |0,_=>⟨fun zz h=>by simp at h,fun zz h=>by simp at h,fun zz h=>by simp[eI]at h,fun zz=>by simp[eI],rfl,rfl⟩
 |i+1,h=>by
  have I:=AM.all (rs:=rs) (tn:=tn) nd (i:=i) (by exact iy h);have hs:=ac (show i<tn.length from h);have hb:=sR (rs:=rs) nd hs;refine ea (lA (rs:=rs) (tn:=tn) (i:=i) (by exact iy h)) fun hl zz=>?_;rw[←hb]at hl;rw[n5 hs,aT,hs,jA];generalize tn[i]=s at *
  refine ea (ub (B:=jw rs tn) (s:=(s:Int)) (l:=rs.getD s []) (a:=eI rs tn i)) fun e1 e2=>?_;have eB:jw rs tn (s:Int)=(c9 rs tn s:Nat):=rfl;have hbl:=tS (B:=jw rs tn) (s:=(s:Int)) (l:=rs.getD s []) (o:=c9 rs tn s);have os':(nq (jw rs tn) rs (eI rs tn i) s).os=(eI rs tn i).os++(qe (jw rs tn) s (c9 rs tn s) (rs.getD s [])++[g8]):=by
   unfold nq;rw[e1,hl,fT]
  have ps':(nq (jw rs tn) rs (eI rs tn i) s).ps=(eI rs tn i).ps++BL (jw rs tn) s (c9 rs tn s) (rs.getD s []):=by
   unfold nq;exact rA e2 (rA hl rfl)
  refine⟨fun u hu=>?_,fun u hu j x hj=>?_,fun y hy=>?_,fun p=>?_,?_,?_⟩
  ·refine rA os' ?_;rcases ak.mp hu with z|z
   ·exact ng (I.ex u z)
   ·refine rA (ag.mp z) (rA (cR (by exact L3 (Rb N0 N1 (Gn N0 (Pn N1 (Tn 2 N2)))) rfl hl)) (rA hl (rA (cR (by exact L4 (Rb N0 (Tn 2 N1) (Ra (Pn N2 (Tn 2 N1)) (Pn N3 N2) (Gn N0 N3))) rfl hbl jF)) (rA (show c9 rs tn s+2*(rs.getD s []).length-c9 rs tn s-(qe (jw rs tn) s (c9 rs tn s) (rs.getD s [])).length=0 by lia) ?_))));rfl
  ·refine rA os' ?_;rcases ak.mp hu with z|z
   ·exact⟨ng (I.mv u z j x hj).1,ng (I.mv u z j x hj).2⟩
   ·rw[ag.mp z]at hj ⊢;refine ea (tR (B:=jw rs tn) (s:=(s:Int)) (o:=c9 rs tn s) hj) fun g1 g2=>?_;have r1:=wH (a:=(eI rs tn i).os) (ng (b:=[g8]) g1);have r2:=wH (a:=(eI rs tn i).os) (ng (b:=[g8]) g2);rw[hl]at r1 r2;exact⟨r1,r2⟩
  ·rw[os',az,az,hbl]at hy
   by_cases q:y<(eI rs tn i).os.length
   ·refine bx (I.cov y q) fun u h1 h2=>?_;exact⟨u,aC _ h1,h2⟩
   ·refine⟨s,by simp,by exact Dh (Eq.symm hl) (aW q),?_⟩;rw[b9]at hy;unfold dz;exact L4 (Rb N0 N1 (Ra M2 (Pn N0 (Pn (Tn 2 N3) (Kn 1))) (Gn M2 (Pn N1 (Pn (Tn 2 N3) (Kn 1)))))) rfl hl hy
  ·rw[ps',ak,I.psm,wS];constructor
   ·rintro(⟨u,h1,h2⟩|⟨j,x,h1,h2⟩)
    ·exact⟨u,aC _ h1,h2⟩
    ·exact⟨s,by simp,j,x,h1,h2⟩
   ·refine fun FW=>lw FW fun u h1 j x h2 h3=>?_;rcases ak.mp h1 with z|z
    ·exact .inl ⟨u,z,j,x,h2,h3⟩
    ·rw[ag.mp z]at h2 h3;exact .inr ⟨j,x,h2,h3⟩
  ·rw[os',ps',u9,ai,I.psa,List.zipIdx_append,bu,ai,hl,sr]
   congr 1
   have:(([g8].zipIdx (c9 rs tn s+(qe (jw rs tn) (s:Int) (c9 rs tn s) (rs.getD s [])).length)).filter fun p=>bD p.1)=[]:=rfl;refine rA this ?_;simp
  ·refine rA os' (rA ps' (rA az (rA az (rA az (rA az (rA hbl (rA wR (rA I.pl ?_))))))));simp;exact ao (L3 (Gn (Pn (Pn (Tn 2 N0) N1) (Pn (Tn 2 N2) (Kn 1))) (Pn (Tn 2 (Pn N0 N2)) M1)) rfl) (L3 (Gn (Pn (Tn 2 (Pn N0 N1)) M2) (Pn (Pn (Tn 2 N0) N2) (Pn (Tn 2 N1) (Kn 1)))) rfl)
structure ik(rs:List (List Int))(bg:Nat->Nat)(n:Nat)(os:List bq)(ps:List iZ):Prop where
 ex:∀s,s<n->os[bg s+2*(rs.getD s []).length]?=some g8
 mv:∀s,s<n->∀(j t:Nat),(rs.getD s [])[j]?=some (t:Int)->os[bg s+2*j]?=some (iW 3 s)/\os[bg s+2*j+1]?=some (fL ((bg t:Int)-((bg s+2*j+1:Nat):Int)-1))
 cov:∀y,y<os.length->∃s,s<n/\bg s<=y/\y<bg s+dz rs s
 psm:∀p,p∈ps↔∃s,s<n/\∃(j t:Nat),(rs.getD s [])[j]?=some (t:Int)/\p=(((bg s+2*j+1:Nat):Int),(bg s:Int),(bg t:Int))
 psa:ps.map (·.1)=cN os
 dis:∀s t,s<n->t<n->s≠t->bg s+dz rs s<=bg t∨bg t+dz rs t<=bg s
 bg0:bg 0=0
 small:os.length<60
 rb:uW rs n 11
 rr:wb rs n
 n2:2<=n
 n9:n<=9
 pl:ps.length<=11
theorem Ac{l m:List Nat}{f:Nat->Nat}(h:l.Perm m):(l.map f).sum=(m.map f).sum:=by
 induction h with
 |nil=>rfl
 |cons x _ ih=>simp[ih]
 |swap x y l=>simp;exact ao (L3 (Gn (Pn N0 (Pn N1 N2)) (Pn N1 (Pn N0 N2))) rfl) (L3 (Gn (Pn N0 (Pn N1 N2)) (Pn N1 (Pn N0 N2))) rfl)
 |trans _ _ h1 h2=>exact h1.trans h2
theorem Az{rs:List (List Int)}:((aQ rs.length).map (dz rs)).sum=2*(rs.map bG).sum+rs.length:=by
  have key:∀(l:List (List Int)),(l.map fun r:List Int=>2*r.length+1).sum=2*(l.map bG).sum+l.length:=fun l=>by
   induction l with
   |nil=>rfl
   |cons a l ih=>simp only[aB,cn,aF,ih];exact ao (L3 (Gn (Pn (Pn (Tn 2 N0) (Kn 1)) (Pn (Tn 2 N1) N2)) (Pn (Tn 2 (Pn N0 N1)) M2)) rfl) (L3 (Gn (Pn (Tn 2 (Pn N0 N1)) M2) (Pn (Pn (Tn 2 N0) (Kn 1)) (Pn (Tn 2 N1) N2))) rfl)
  rw[←key]
  congr 1
  refine eJ fun i=>?_;refine rA ar (rA ar ?_)
  by_cases q:i<rs.length
  ·refine rA (bK q) (rA (ac q) ?_);simp[dz,bH,ac q]
  ·refine rA (b8 (by simp;exact aW q)) (rA (b8 (by exact aW q)) ?_);rfl
theorem sy{l:List Nat}{i j:Nat}(h:i<=j):(l.take i).sum<=(l.take j).sum:=by
 refine ex (lb h) fun d FW=>?_;subst FW;refine rA List.take_add (rA eD ?_);exact b6 _ _
theorem Dd{rs:List (List Int)}{tn:List Nat}{n:Nat}(T:jN tn n)(B:uW rs n 11)(R:wb rs n)(n2:2<=n)(n9:n<=9):ik rs (c9 rs tn) n (eI rs tn n).os (eI rs tn n).ps:=by
 have I:=AM.all (rs:=rs) T.nd (ax tn.length);rw[cz,T.len]at I;have hm:∀s,s∈tn↔s<n:=fun s=>T.mem;have at_:∀s,s<n->∃i,i<tn.length/\tn[i]?=some s/\c9 rs tn s=((tn.take i).map (dz rs)).sum/\c9 rs tn s+dz rs s=((tn.take (i+1)).map (dz rs)).sum:=fun s hs=>by
  refine ex (di ((hm s).mpr hs)) fun i FW=>?_;refine ex FW fun hi e=>?_;have e:tn[i]?=some s:=by exact rA (ac hi) (rA e rfl)
  have hb:=sR (rs:=rs) T.nd e;refine⟨i,hi,e,hb,?_⟩;refine rA hb (rA aT (rA e (rA ai (rA eD ?_))));simp
 have hlen:(eI rs tn n).os.length=2*(rs.map bG).sum+n:=by
  have:=(lA (rs:=rs) (tn:=tn) (ax _)).1;rw[cz,T.len,Ac T.perm]at this;have h2:=Az (rs:=rs);rw[B.len]at h2;exact rA this (rA h2 rfl)
 refine⟨fun s hs=>I.ex s ((hm s).mpr hs),fun s hs j t h=>I.mv s ((hm s).mpr hs) j t h,fun y hy=>?_,fun p=>?_,I.psa,fun s t hs ht hne=>?_,?_,?_,B,R,n2,n9,?_⟩
 ·refine bx (I.cov y hy) fun s h1 h2=>?_;exact⟨s,(hm s).mp h1,h2⟩
 ·rw[I.psm];constructor
  ·refine fun FY=>lw FY fun s h1 j x h2 h3=>?_;have hx:x∈rs.getD s []:=aS h2;have:rs.getD s []∈rs:=by
    rw[bH,ac (by rw[B.len];exact(hm s).mp h1)];exact cS _
   refine bx (B.rng _ this x hx) fun t FZ zz=>?_;subst FZ;exact⟨s,(hm s).mp h1,j,t,h2,h3⟩
  ·refine fun F7=>lw F7 fun s h1 j t h2 h3=>?_;exact⟨s,(hm s).mpr h1,j,t,h2,h3⟩
 ·refine kZ (at_ s hs) fun i hi e1 e2 e3=>?_;refine kZ (at_ t ht) fun j hj f1 f2 f3=>?_;rcases pL i j with z|z|z
  ·left;refine rA e3 (rA f2 (rA iN (rA iN ?_)));exact sy z
  ·subst z;rw[e1]at f1;exact absurd (aj f1) hne
  ·right;refine rA f3 (rA e2 (rA iN (rA iN ?_)));exact sy z
 ·have hd:=T.hd;cases tn with
  |nil=>exact nS hd
  |cons a l=>obtain rfl:=aj hd;unfold c9;simp
 ·refine rA hlen ?_;have:=B.size;exact L2 (Ra N0 (Kn 9) (Ra N1 (Kn 11) (Ra N1 (Kn 11) (Gn (Pn (Pn (Tn 2 N1) N0) (Kn 1)) (Kn 60))))) rfl n9 this this
 ·have h2:=I.pl;rw[hlen,T.len]at h2;have:=B.size;have h3:2*(eI rs tn n).ps.length<=2*11:=by exact L3 (Rc (Pn (Tn 2 N0) N1) (Pn (Tn 2 N2) N1) (Ra N0 (Kn 11) (Ra N0 (Kn 11) (Gn (Tn 2 N2) (Tn 2 (Kn 11)))))) rfl h2 this this
  exact Nat.le_of_mul_le_mul_left h3 (by decide)
theorem sg(s:Int):gF (iW 3 s)=false/\cI (iW 3 s)=false/\bN (iW 3 s)=false/\dZ (iW 3 s)=false/\bD (iW 3 s)=false:=by
 have h:gF (iW 3 0)=false/\cI (iW 3 0)=false/\bN (iW 3 0)=false/\dZ (iW 3 0)=false/\bD (iW 3 0)=false:=by decide +kernel
 exact h
theorem nY(a:Int):gF (fL a)=false/\cI (fL a)=false/\bN (fL a)=false/\dZ (fL a)=false/\bD (fL a)=true:=by
 have h:gF (fL 0)=false/\cI (fL 0)=false/\bN (fL 0)=false/\dZ (fL 0)=false/\bD (fL 0)=true:=by decide +kernel
 exact h
theorem qo:gF g8=false/\cI g8=false/\bN g8=false/\dZ g8=true/\bD g8=false:=by decide +kernel
set_option tactic.hygienic true in
theorem u8{os:List bq}{v:Int}:v∈gQ os↔v=0∨∃(i:Nat) (o:bq) (t:Nat),os[i]?=some o/\bD o=true/\tgt os i o=some t/\v=t:=by
 rw[←j7];have key:∀m,m<=os.length->(v∈iR os m↔v=0∨∃(i:Nat) (o:bq) (t:Nat),i<m/\os[i]?=some o/\bD o=true/\tgt os i o=some t/\v=t):=by
  intro m
  induction m with
  |zero=>intro _;simp[iR]
  |succ m ih=>
   intro h;have ho:=ac (show m<os.length from h);generalize os[m]=o at ho;refine rA (j8 ho) ?_;have ih:=ih (by exact iy h);have old:(∃(i:Nat) (o:bq) (t:Nat),i<m/\os[i]?=some o/\bD o=true/\tgt os i o=some t/\v=t)->∃(i:Nat) (o:bq) (t:Nat),i<m+1/\os[i]?=some o/\bD o=true/\tgt os i o=some t/\v=t:=fun z'=>by refine iM z' fun i o t h1 h2=>?_;exact⟨i,o,t,by exact xR h1,h2⟩
   unfold fQ;dsimp only;constructor
   ·intro hv;split at hv
    ·rename_i hl;split at hv
     ·rename_i t ht;rcases fK.mp hv with z|z
      ·exact(ih.mp z).imp id old
      ·exact .inr ⟨m,o,t,by exact dC _,ho,hl,ht,z⟩
     ·exact(ih.mp hv).imp id old
    ·exact(ih.mp hv).imp id old
   ·intro hv;have up:v∈iR os m->v∈(if bD o then(match tgt os m o with|some t=>cO (iR os m) t|bc=>iR os m)else iR os m):=fun z=>by
     split
     ·split
      ·exact uD z
      ·exact z
     ·exact z
    rcases hv with z|⟨i,o',t,h1,h2,h3,h4,h5⟩
    ·exact up (ih.mpr (.inl z))
    ·by_cases q:i<m
     ·exact up (ih.mpr (.inr ⟨i,o',t,q,h2,h3,h4,h5⟩))
     ·have:i=m:=by exact zZ h1 q
      subst this;rw[ho]at h2;obtain rfl:=aj h2;refine rA (if_pos h3) (rA h4 ?_);exact fK.mpr (.inr h5)
 rw[key _ (ax _)];refine or_congr Iff.rfl ⟨fun z'=>by refine iM z' fun i o t zz h=>?_;exact⟨i,o,t,h⟩,fun⟨i,o,t,h⟩=>⟨i,o,t,(au.mp h.1).1,h⟩⟩
theorem Ay{os:List bq}{v:Int}:v∈ay os↔v=0∨∃(i:Nat) (o:bq) (t:Nat),os[i]?=some o/\bD o=true/\tgt os i o=some t/\v=t:=by
 unfold ay;rw[(fq _).mem_iff,u8]
set_option tactic.hygienic true in
theorem sS{os:List bq}{v:Int}{s:Nat}:∀{e:Nat},s<=e->e<=os.length->(v∈de os s e↔∃(i:Nat) (o:bq),s<=i/\i<e/\os[i]?=some o/\bD o=true/\v=tg os i o):=by
 intro e
 induction e with
 |zero=>
  intro h _;have:s=0:=by exact io h
  subst this;refine rA e8 ?_;simp
 |succ e ih=>
  intro h1 h2
  by_cases q:s=e+1
  ·subst q;refine rA e8 ?_;exact⟨fun z=>(nomatch z),fun z'=>by refine cq z' fun i o a b zz=>?_;lia⟩
  ·have ho:=ac (show e<os.length from h2);generalize os[e]=o at ho;refine rA (im ho (by exact ul h1 q)) ?_;have ih:=ih (by exact ul h1 q) (by exact iy h2);unfold jD;dsimp only;constructor
   ·intro hv;split at hv
    ·rename_i hl;rcases fK.mp hv with z|z
     ·refine cq (ih.mp z) fun i o' a b c=>?_;exact⟨i,o',a,by exact xR b,c⟩
     ·exact⟨e,o,by exact ul h1 q,by exact dC _,ho,hl,z⟩
    ·refine cq (ih.mp hv) fun i o' a b c=>?_;exact⟨i,o',a,by exact xR b,c⟩
   ·rintro⟨i,o',a,b,c,d,f⟩
    by_cases q2:i<e
    ·have:=ih.mpr ⟨i,o',a,q2,c,d,f⟩;split
     ·exact fK.mpr (.inl this)
     ·exact this
    ·have:i=e:=by exact zZ b q2
     subst this;rw[ho]at c;obtain rfl:=aj c;refine rA (if_pos d) ?_;exact fK.mpr (.inr f)
theorem tW{os:List bq}{s:Nat}:∀{e:Nat},s<=e->e<=os.length->(de os s e).Nodup:=by
 intro e
 induction e with
 |zero=>
  intro h _;have:s=0:=by exact io h
  subst this;refine rA e8 ?_;simp
 |succ e ih=>
  intro h1 h2
  by_cases q:s=e+1
  ·subst q;refine rA e8 ?_;simp
  ·refine rA (im (ac (show e<os.length from h2)) (by exact ul h1 q)) ?_;unfold jD;split
   ·exact lS (ih (by exact ul h1 q) (by exact iy h2))
   ·exact ih (by exact ul h1 q) (by exact iy h2)
theorem vX{l:List Int}(h:l.Nodup):(eT l).Pairwise (·<·) :=
 ((ib l).and ((fq l).nodup_iff.mpr h)).imp fun z'=>by refine ea z' fun a b=>?_;exact dH.mpr ⟨Lz [] [_,_] (Sa Z0 Z1 (Gz Z0 Z1)) rfl a,b⟩
section
variable {rs:List (List Int)}{bg:Nat->Nat}{n:Nat}{os:List bq}{ps:List iZ}
theorem ik.row(L:ik rs bg n os ps){s j:Nat}{x:Int}(hs:s<n)(h:(rs.getD s [])[j]?=some x):∃t:Nat,x=t/\t<n:=by
 have:rs.getD s []∈rs:=by
  rw[bH,ac (by rw[L.rb.len];exact hs)];exact cS _
 exact L.rb.rng _ this x (aS h)
theorem ik.kind(L:ik rs bg n os ps){y:Nat}{o:bq}(h:os[y]?=some o):∃s,s<n/\bg s<=y/\y<bg s+dz rs s/\((y=bg s+2*(rs.getD s []).length/\o=g8)∨∃j t:Nat,t<n/\(rs.getD s [])[j]?=some (t:Int) /\
  ((y=bg s+2*j/\o=iW 3 s)∨(y=bg s+2*j+1/\o=fL ((bg t:Int)-((bg s+2*j+1:Nat):Int)-1)))):=by
 refine cX (L.cov y (au.mp h).1) fun s hs h1 h2=>?_;refine⟨s,hs,h1,h2,?_⟩;unfold dz at h2
 by_cases q:y=bg s+2*(rs.getD s []).length
 ·left;have:=L.ex s hs;rw[←q,h]at this;exact⟨q,aj this⟩
 ·right;have e1:=Nat.div_add_mod (y-bg s) 2;have e2:(y-bg s) % 2<2:=Nat.mod_lt _ (by decide);have e3:=oK h1;generalize (y-bg s) / 2=i at e1;generalize (y-bg s) % 2=r at e1 e2;have h2:y<bg s+(2*(rs.getD s []).length+1):=h2;have hj:i<(rs.getD s []).length:=Nat.lt_of_mul_lt_mul_left (a:=2) (by lia);have hx:=ac hj;refine bx (L.row hs hx) fun t e ht=>?_;rw[e]at hx;refine ea (L.mv s hs _ t hx) fun m1 m2=>?_;refine⟨_,t,ht,hx,?_⟩
  by_cases p:r=0
  ·have:y=bg s+2*i:=by lia
   rw[this]at h;exact .inl ⟨this,aj (h.symm.trans m1)⟩
  ·have:y=bg s+2*i+1:=by lia
   rw[this]at h;exact .inr ⟨this,aj (h.symm.trans m2)⟩
theorem ik.cls(L:ik rs bg n os ps){y:Nat}{o:bq}(h:os[y]?=some o):gF o=false/\cI o=false/\bN o=false:=by
 obtain⟨s,-,-,-,⟨-,rfl⟩|⟨j,t,-,-,⟨-,rfl⟩|⟨-,rfl⟩⟩⟩:=L.kind h
 ·exact⟨qo.1,qo.2.1,qo.2.2.1⟩
 ·exact⟨(sg s).1,(sg s).2.1,(sg s).2.2.1⟩
 ·exact⟨(nY _).1,(nY _).2.1,(nY _).2.2.1⟩
theorem ik.slot(L:ik rs bg n os ps):∀{y:Nat},y<=os.length->cQ os y=y:=by
 intro y
 induction y with
 |zero=>intro _;simp[cQ]
 |succ y ih=>
  intro h;have ho:=ac (show y<os.length from h);refine rA (jI ho) (rA (ih (by exact iy h)) ?_);unfold B1;refine rA ((L.cls ho).1) ?_;push_cast;rfl
theorem ik.lt(L:ik rs bg n os ps){s:Nat}(h:s<n):bg s+dz rs s<=os.length:=by
 have:=(au.mp (L.ex s h)).1;unfold dz;exact l9 (jy this)
theorem fk{rs:List (List Int)}{s:Nat}:0<dz rs s:=by unfold dz;exact jL _
theorem ik.tgt(L:ik rs bg n os ps){y t:Nat}(hy:y<os.length)(ht:t<n):Internal.tgt os y (fL ((bg t:Int)-(y:Int)-1))=some (bg t):=by
 have hg:o6 os y (fL ((bg t:Int)-(y:Int)-1))=bg t:=by
  unfold o6;refine rA (L.slot (by exact bn hy)) ?_;have:zy (fL ((bg t:Int)-(y:Int)-1))=(bg t:Int)-(y:Int)-1:=rfl;refine rA this ?_;exact bi (L2 (Gz (Pz (Pz C0 (Kz 1)) (Mz (Mz C1 C0) (Kz 1))) C1) rfl) (L2 (Gz C0 (Pz (Pz C1 (Kz 1)) (Mz (Mz C0 C1) (Kz 1)))) rfl)
 have hl:=L.lt ht;have hp:=fk (rs:=rs) (s:=t);unfold Internal.tgt;refine rA hg ?_;cases e:(aQ os.length).find? fun j=>decide (cQ os j=(bg t:Int))with
 |none=>
  have:=on.mp e (bg t) (bZ.mpr (by exact L3 (Ra (Pn N0 N1) N2 (Ra (Pn (Kn 0) (Kn 1)) N1 (Gn M0 N2))) rfl hl hp));rw[L.slot (by exact iy hl)]at this;simp at this
 |some j=>
  have h1:=bZ.mp (eA e);have h2:=jm e;have h2:=of_decide_eq_true h2;rw[L.slot (by exact bn h1)]at h2
  congr 1;exact tm h2
theorem ik.call(L:ik rs bg n os ps){y:Nat}{o:bq}(h:os[y]?=some o)(hl:bD o=true):∃s j t:Nat,s<n/\t<n/\(rs.getD s [])[j]?=some (t:Int)/\y=bg s+2*j+1/\bg s<=y/\y<bg s+dz rs s/\Internal.tgt os y o=some (bg t):=by
 obtain⟨s,hs,h1,h2,⟨-,rfl⟩|⟨j,t,ht,hj,⟨-,rfl⟩|⟨hy,rfl⟩⟩⟩:=L.kind h
 ·exact nB hl
 ·exact nB hl
 ·refine⟨s,j,t,hs,ht,hj,hy,h1,h2,?_⟩;refine rB hy ?_;exact L.tgt (au.mp h).1 ht
theorem ik.site(L:ik rs bg n os ps){s j t:Nat}(hs:s<n)(h:(rs.getD s [])[j]?=some (t:Int)):∃o,os[bg s+2*j+1]?=some o/\bD o=true/\Internal.tgt os (bg s+2*j+1) o=some (bg t)/\bg s+2*j+1<bg s+dz rs s/\t<n:=by
 refine bx (L.row hs h) fun t' e ht=>?_;have:t'=t:=by exact Eq.symm (tm e)
 subst this;have h2:=(L.mv s hs j t' h).2;refine⟨_,h2,rfl,L.tgt (au.mp h2).1 ht,?_,ht⟩;have:=(au.mp h).1;unfold dz;exact L3 (Ra M0 N1 (Ra M0 N1 (Gn (Pn (Pn (Pn N2 (Tn 2 N0)) (Kn 1)) (Kn 1)) (Pn N2 (Pn (Tn 2 N1) (Kn 1)))))) rfl this this
theorem ik.subs(L:ik rs bg n os ps){v:Int}:v∈ay os↔∃s,s<n/\v=bg s:=by
 rw[Ay];constructor
 ·rintro(rfl|⟨i,o,t,h1,h2,h3,rfl⟩)
  ·exact⟨0,by have:=L.n2;exact L1 (Ra (Kn 2) N0 (Gn (Pn (Kn 0) (Kn 1)) N0)) rfl this,by refine rA L.bg0 ?_;rfl⟩
  ·refine fG (L.call h1 h2) fun s j t' hs ht zz zz zz zz e=>?_;rw[h3]at e;exact⟨t',ht,by exact rA (aj e) rfl⟩
 ·rintro⟨s,hs,rfl⟩
  by_cases q:s=0
  ·subst q;left;refine rA L.bg0 ?_;rfl
  ·refine bx (L.rr s (by exact oJ q) hs) fun j hj hm=>?_;obtain⟨i,hi,e⟩:=di hm;have e:(rs.getD j [])[i]?=some (s:Int):=by exact rA (ac hi) (rA e rfl)
   refine kZ (L.site (by exact dG hj hs) e) fun o h1 h2 h3 zz=>?_;exact .inr ⟨_,o,_,h1,h2,h3,rfl⟩
set_option tactic.hygienic true in
theorem ik.inj(L:ik rs bg n os ps){s t:Nat}(hs:s<n)(ht:t<n)(h:bg s=bg t):s=t:=by
 apply aG;intro q;have:=L.dis s t hs ht q;have:=fk (rs:=rs) (s:=s);have:=fk (rs:=rs) (s:=t)
 (rename_i FW FY;exact Or.elim (FW) (fun z3'=>L3 (Rc N0 N1 (Ra (Pn (Kn 0) (Kn 1)) N2 (Ra (Pn N0 N2) N1 Fa))) rfl h FY z3') (fun z3'=>L3 (Rb N0 N1 (Ra (Pn (Kn 0) (Kn 1)) N2 (Ra (Pn N1 N2) N0 Fa))) rfl h this z3'))
theorem ik.isSub(L:ik rs bg n os ps){s y:Nat}(hs:s<n)(h1:bg s<=y)(h2:y<bg s+dz rs s):mU os y (bg s):=by
 refine⟨L.subs.mpr ⟨s,hs,rfl⟩,by exact jy h1,fun b hb hby=>?_⟩;refine bx (L.subs.mp hb) fun t ht FW=>?_;subst FW
 by_cases q:s=t
 ·subst q;exact cJ _
 ·have:=L.dis s t hs ht q;have:=fk (rs:=rs) (s:=s);have:=fk (rs:=rs) (s:=t)
  lia
set_option tactic.hygienic true in
theorem ik.subEnd(L:ik rs bg n os ps){s:Nat}(hs:s<n):Internal.subEnd os (bg s)=((bg s+dz rs s:Nat):Int):=by
 unfold Internal.subEnd;have hl:=L.lt hs;have step:∀t,t<n->bg s<bg t->bg s+dz rs s<=bg t:=fun t ht h=>by
  by_cases q:s=t
  ·subst q;lia
  ·have:=L.dis s t hs ht q;have:=fk (rs:=rs) (s:=t)
   lia
 cases e:(ay os).find? fun b=>decide ((bg s:Int)<b)with
 |none=>
  refine rA Option.getD_none ?_;have no:=on.mp e;have:bg s+dz rs s=os.length:=by
   apply aG;intro q;refine cX (L.cov (bg s+dz rs s) (by exact z0 hl q)) fun t ht h1 h2=>?_
   by_cases z:bg s<bg t
   ·exact no (bg t) (L.subs.mpr ⟨t,ht,rfl⟩) (by simp;exact z)
   ·by_cases w:s=t
    ·subst w;exact FI h2 h2
    ·have:=L.dis s t hs ht w;have:=fk (rs:=rs) (s:=s)
     (rename_i FW;exact Or.elim (FW) (fun z3'=>L3 (Rd M0 N1 (Ra (Pn (Kn 0) (Kn 1)) N2 (Ra (Pn N0 N2) N1 Fa))) rfl z this z3') (fun z3'=>L4 (Ra (Pn (Pn N0 N1) (Kn 1)) (Pn N2 N3) (Ra (Pn N2 N3) N0 Fa)) rfl h2 z3'))
  exact rA this rfl
 |some b=>
  refine rA Option.getD_some ?_;have h1:=jm e;have h1:=of_decide_eq_true h1;refine bx (L.subs.mp (eA e)) fun t ht FY=>?_;subst FY;have h2:=step t ht (by exact jz h1);refine ea (List.find?_eq_some_iff_append.mp e) fun zz FZ=>?_;obtain⟨as,bs,e2,h3⟩:=FZ;have hlt:=vX (l:=gQ os) (by rw[←j7];exact sQ (ax _));have e2:eT (gQ os)=as++(bg t:Int)::bs:=e2;rw[e2,gj]at hlt
  by_cases q:bg s+dz rs s=bg t
  ·exact rA q rfl
  ·exfalso;have hlt':=L.lt ht;have:=fk (rs:=rs) (s:=t);refine cX (L.cov (bg s+dz rs s) (by exact L5 (Ra (Pn N0 N1) N2 (Ra (Pn N2 N3) (Xn 4) (Ra (Pn (Kn 0) (Kn 1)) N3 (Gn (Pn (Pn N0 N1) (Kn 1)) (Xn 4))))) rfl h2 hlt' this)) fun u hu g1 g2=>?_;have g3:bg u=bg s+dz rs s:=by
    by_cases z:bg s<bg u
    ·have:=step u hu z;exact oq28 g1 this
    ·by_cases w:s=u
     ·subst w;lia
     ·have:=L.dis s u hs hu w;have:=fk (rs:=rs) (s:=s)
      lia
   have hm:(bg u:Int)∈as++(bg t:Int)::bs:=by
    refine rB e2 ?_;exact L.subs.mpr ⟨u,hu,rfl⟩
   rcases ak.mp hm with z|z
   ·have:=h3 _ z;simp at this;have:=fk (rs:=rs) (s:=s)
    (rename_i F7;exact L3 (Rc N0 (Pn N1 N2) (Ra N0 N1 (Ra (Pn (Kn 0) (Kn 1)) N2 Fa))) rfl g3 F7 this)
   ·rcases aA.mp z with z|z
    ·exact q (ao (L3 (Ra (Pn N0 N1) N2 (Gn (Pn N0 N1) N2)) rfl h2) (L4 (Rb N0 (Pn N1 N2) (Sd C0 (Cz N3) (Gn N3 (Pn N1 N2)))) rfl g3 z))
    ·have:=(jV.mp hlt.2.1).1 _ z;exact L4 (Ra (Pn N0 N1) N2 (Rb N3 (Pn N0 N1) (Sa (Pz C2 (Kz 1)) (Cz N3) Fa))) rfl h2 g3 this
theorem ik.adj(L:ik rs bg n os ps){s:Nat}(hs:s<n){v:Int}:v∈Internal.adj os (bg s)↔v∈eP ps (bg s):=by
 unfold Internal.adj iS;rw[(fq _).mem_iff,L.subEnd hs,bw,bw,sS (by exact b6 _ _) (L.lt hs),jO];constructor
 ·rintro⟨i,o,h1,h2,h3,h4,rfl⟩;refine fG (L.call h3 h4) fun s' j t hs' ht hj FW g1 g2 g3=>?_;subst FW;have:s'=s:=by
   apply aG;intro q;have:=L.dis s' s hs' hs q;exact Or.elim (this) (fun z3'=>L4 (Ra N0 (Pn (Pn N1 (Tn 2 N2)) (Kn 1)) (Ra (Pn (Pn (Pn N1 (Tn 2 N2)) (Kn 1)) (Kn 1)) (Pn N1 N3) (Ra (Pn N1 N3) N0 Fa))) rfl h1 g2 z3') (fun z3'=>L4 (Ra (Pn (Pn (Pn N0 (Tn 2 N1)) (Kn 1)) (Kn 1)) (Pn N2 N3) (Ra (Pn N2 N3) N0 Fa)) rfl h2 z3')
  subst this;have:tg os (bg s'+2*j+1) o=bg t:=by unfold tg;refine rA g3 ?_;rfl
  refine rA this ?_;exact⟨((bg s'+2*j+1:Nat):Int),(L.psm _).mpr ⟨s',hs,j,t,hj,rfl⟩⟩
 ·rintro⟨a,h⟩;refine lw ((L.psm _).mp h) fun s' hs' j t hj e=>?_;simp only[Prod.mk.injEq]at e;refine jc e fun e1 e2 e3=>?_;have:s=s':=L.inj hs hs' (by exact tm e2);subst this;refine hV (L.site hs hj) fun o g1 g2 g3 g4 zz=>?_;refine⟨_,o,by exact L2 (Gn N0 (Pn (Pn N0 (Tn 2 N1)) (Kn 1))) rfl,g4,g1,g2,?_⟩;unfold tg;refine rA g3 ?_;exact e3
theorem ik.clo(L:ik rs bg n os ps){u v:Int}(h:v∈eP ps u):(∃s,s<n/\u=bg s)/\∃t,t<n/\v=bg t:=by
 obtain⟨a,h⟩:=jO.mp h;refine lw ((L.psm _).mp h) fun s hs j t hj e=>?_;simp only[Prod.mk.injEq]at e;refine hV (L.site hs hj) fun zz zz zz zz zz ht=>?_;exact⟨⟨s,hs,e.2.1⟩,t,ht,e.2.2⟩
theorem ik.rch(L:ik rs bg n os ps){s:Nat}(hs:s<n){v:Int}:gY (Internal.adj os) (bg s) v↔gY (eP ps) (bg s) v:=by
 constructor
 ·intro h;have key:∀a b,gY (Internal.adj os) a b->∀s,s<n->a=bg s->gY (eP ps) a b:=fun a b h=>by
   induction h with
   |one e=>rintro s hs rfl;exact .one ((L.adj hs).mp e)
   |more e _ ih=>
    rintro s hs rfl;have e':=(L.adj hs).mp e;refine bx ((L.clo e').2) fun t ht e2=>?_;exact .more e' (ih t ht e2)
  exact key _ _ h s hs rfl
 ·intro h;have key:∀a b,gY (eP ps) a b->∀s,s<n->a=bg s->gY (Internal.adj os) a b:=fun a b h=>by
   induction h with
   |one e=>rintro s hs rfl;exact .one ((L.adj hs).mpr e)
   |more e _ ih=>
    rintro s hs rfl;refine bx ((L.clo e).2) fun t ht e2=>?_;exact .more ((L.adj hs).mpr e) (ih t ht e2)
  exact key _ _ h s hs rfl
end
theorem zV{os:List bq}{y:Nat}{o:bq}(h:os[y]?=some o):sm os (y:Int)=nx os y o:=by
 unfold sm;rw[bw,h]
theorem qS{os:List bq}{y:Nat}{o:bq}(h1:dZ o=false)(h2:cI o=false)(h3:bN o=false):dT os y o=[(y:Int)+1]:=by
 unfold dT;refine rA h1 (rA h2 (rA h3 ?_));rfl
section
variable {rs:List (List Int)}{bg:Nat->Nat}{n:Nat}{os:List bq}{ps:List iZ}
theorem ik.own(L:ik rs bg n os ps){s t y:Nat}(hs:s<n)(ht:t<n)(h1:bg s<=y)(h2:y<bg s+dz rs s)(h3:bg t<=y)(h4:y<bg t+dz rs t):s=t:=by
 apply aG;intro q;have:=L.dis s t hs ht q;exact Or.elim (this) (fun z3'=>L4 (Ra M0 (Pn N1 N2) (Ra N3 N0 (Ra (Pn N1 N2) N3 Fa))) rfl h2 h3 z3') (fun z3'=>L4 (Ra N0 N1 (Ra M1 (Pn N2 N3) (Ra (Pn N2 N3) N0 Fa))) rfl h1 h4 z3')
theorem ik.succ(L:ik rs bg n os ps){s y:Nat}{o:bq}(ho:os[y]?=some o)(hs:s<n)(h1:bg s<=y)(h2:y+1<bg s+dz rs s):dT os y o=[(y:Int)+1]:=by
 obtain⟨s',hs',g1,g2,⟨h,rfl⟩|⟨j,t,-,-,⟨-,rfl⟩|⟨-,rfl⟩⟩⟩:=L.kind ho
 ·have:=L.own hs hs' h1 (by exact um h2) g1 g2;subst this;unfold dz at h2;exfalso;exact L3 (Ra (Pn M0 (Kn 1)) (Pn N1 (Pn (Tn 2 N2) (Kn 1))) (Rc N0 (Pn N1 (Tn 2 N2)) Fa)) rfl h2 h
 ·exact qS (sg s').2.2.2.1 (sg s').2.1 (sg s').2.2.1
 ·exact qS (nY _).2.2.2.1 (nY _).2.1 (nY _).2.2.1
theorem ik.reach(L:ik rs bg n os ps):∀y:Nat,y<os.length->y=0∨gY (sm os) 0 y:=by
 have step:∀(y v:Nat),(y=0∨gY (sm os) 0 y)->(v:Int)∈sm os y->v=0∨gY (sm os) 0 v:=fun y v h hv=>by
  rcases h with rfl|h
  ·exact .inr (.one hv)
  ·exact .inr (h.snoc hv)
 have inB:∀s,s<n->(bg s=0∨gY (sm os) 0 (bg s:Nat))->∀d,d<dz rs s->bg s+d=0∨gY (sm os) 0 (bg s+d:Nat):=fun s hs h d=>by
  induction d with
  |zero=>intro _;exact h
  |succ d ih=>
   intro hd;have hl:=L.lt hs;have ho:=ac (show bg s+d<os.length by exact L4 (Ra (Pn M0 (Kn 1)) N1 (Ra (Pn N2 N1) N3 (Gn (Pn (Pn N2 N0) (Kn 1)) N3))) rfl hd hl);refine step (bg s+d) _ (ih (by exact um hd)) ?_;refine rA (zV ho) ?_;unfold nx;refine rA (L.succ ho hs (by exact b6 _ _) (by exact L3 (Ra (Pn M0 (Kn 1)) N1 (Gn (Pn (Pn (Pn N2 N0) (Kn 1)) (Kn 1)) (Pn N2 N1))) rfl hd)) ?_;exact aC _ (by simp;exact bi (L2 (Gz (Pz C0 (Pz C1 (Kz 1))) (Pz (Pz C0 C1) (Kz 1))) rfl) (L2 (Gz (Pz (Pz C0 C1) (Kz 1)) (Pz C0 (Pz C1 (Kz 1)))) rfl))
 have heads:∀s,s<n->bg s=0∨gY (sm os) 0 (bg s:Nat):=fun s=>by
  induction s using Nat.strongRecOn with
  |ind s ih=>
   intro hs
   by_cases q:s=0
   ·subst q;exact .inl L.bg0
   ·refine bx (L.rr s (by exact oJ q) hs) fun j hj hm=>?_;obtain⟨i,hi,e⟩:=di hm;have e:(rs.getD j [])[i]?=some (s:Int):=by exact rA (ac hi) (rA e rfl)
    refine hV (L.site (by exact dG hj hs) e) fun o h1 h2 h3 h4 zz=>?_;have hr:=inB j (by exact dG hj hs) (ih j hj (by exact dG hj hs)) (2*i+1) (by exact L3 (Ra (Pn (Pn (Pn N0 (Tn 2 N1)) (Kn 1)) (Kn 1)) (Pn N0 N2) (Gn (Pn (Pn (Tn 2 N1) (Kn 1)) (Kn 1)) N2)) rfl h4);refine step (bg j+(2*i+1)) _ hr ?_;refine rA (zV (y:=bg j+(2*i+1)) h1) ?_;unfold nx tg;refine rA h2 (rA (if_pos rfl) ?_);refine aO _ ?_;have h3:Internal.tgt os (bg j+(2*i+1)) o=some (bg s):=h3;refine rA h3 ?_;simp
 intro y hy;refine cX (L.cov y hy) fun s hs h1 h2=>?_;have:=inB s hs (heads s hs) (y-bg s) (by exact L4 (Ra M0 (Pn N1 N2) (Rb (Pn N3 N1) N0 (Gn (Pn N3 (Kn 1)) N2))) rfl h2 (iE (L2 (Ra N0 N1 (Gn N0 N1)) rfl h1)))
 rwa [show bg s+(y-bg s)=y by exact ao (L3 (Rb (Pn N0 N1) N2 (Gn (Pn N1 N0) N2)) rfl (iE (L2 (Ra N0 N1 (Gn N0 N1)) rfl h1))) (L3 (Ra N0 (Pn N1 N2) (Gn N0 (Pn N2 N1))) rfl jF)]at this
theorem ik.callOk(L:ik rs bg n os ps):nK os:=fun i o ho hl=>by
 refine fG (L.call ho hl) fun s j t zz zz zz zz zz zz h=>?_;refine rA h ?_;unfold tg;refine rA h ?_;rfl
theorem ik.tgs(L:ik rs bg n os ps){i:Nat}{o:bq}(ho:os[i]?=some o)(hl:bD o=true):∃t,t<n/\tg os i o=bg t:=by
 refine fG (L.call ho hl) fun s j t zz ht zz zz zz zz h=>?_;exact⟨t,ht,by unfold tg;refine rA h ?_;rfl⟩
set_option tactic.hygienic true in
theorem ik.prog(L:ik rs bg n os ps):uV os where
 pos:=by have:=L.lt (s:=0) (by have:=L.n2;exact L1 (Ra (Kn 2) N0 (Gn (Pn (Kn 0) (Kn 1)) N0)) rfl this);have:=fk (rs:=rs) (s:=0);(rename_i FW;exact L3 (Ra (Pn N0 N1) N2 (Ra (Pn (Kn 0) (Kn 1)) N1 (Gn (Pn (Kn 0) (Kn 1)) N2))) rfl FW this)
 len:=L.small
 noj:=fun i o ho=>(L.cls ho).2
 ends:=fun s hs=>by
  refine bx (L.subs.mp hs) fun u hu FY=>?_;subst FY;exact⟨bg u+2*(rs.getD u []).length,g8,by refine rA (L.subEnd hu) ?_;unfold dz;push_cast;exact bi (L2 (Gz (Pz C0 (Pz (Tz 2 C1) (Kz 1))) (Pz (Pz C0 (Tz 2 C1)) (Kz 1))) rfl) (L2 (Gz (Pz (Pz C0 (Tz 2 C1)) (Kz 1)) (Pz C0 (Pz (Tz 2 C1) (Kz 1)))) rfl),L.ex u hu,qo.2.2.2.1⟩
 next:=by
  refine⟨⟨fun i o ho h=>?_,fun i o ho s hs=>?_⟩,L.callOk,fun i o ho hl=>?_⟩
  ·refine jc (L.cls ho) fun zz h1 h2=>?_;rw[h1,h2]at h;simp at h
  ·refine kZ (L.kind ho) fun u hu g1 g2 h=>?_;have hl:=L.lt hu;have key:i+1<bg u+dz rs u->∃j:Nat,s=j/\j<os.length:=fun q=>by
    rw[L.succ ho hu g1 q]at hs;exact⟨i+1,by refine rA (ag.mp hs) ?_;push_cast;rfl,by exact be q hl⟩
   rcases h with ⟨rfl,rfl⟩|⟨j,t,-,hj,h⟩
   ·unfold dT at hs;rw[qo.2.2.2.1,if_pos rfl]at hs;cases hs
   ·have:=(au.mp hj).1;refine key ?_;unfold dz;rcases h with ⟨rfl,-⟩|⟨rfl,-⟩
    ·exact L3 (Ra M0 N1 (Ra M0 N1 (Gn (Pn (Pn (Pn N2 (Tn 2 N0)) (Kn 1)) (Kn 1)) (Pn N2 (Pn (Tn 2 N1) (Kn 1)))))) rfl this this
    ·exact L3 (Ra M0 N1 (Ra M0 N1 (Gn (Pn (Pn (Pn (Pn N2 (Tn 2 N0)) (Kn 1)) (Kn 1)) (Kn 1)) (Pn N2 (Pn (Tn 2 N1) (Kn 1)))))) rfl this this
  ·refine bx (L.tgs ho hl) fun t ht e=>?_;have:=L.lt ht;have:=fk (rs:=rs) (s:=t)
   (rename_i FW;exact L4 (Rb N0 N1 (Ra (Pn N1 N2) N3 (Ra (Pn (Kn 0) (Kn 1)) N2 (Gn M0 N3)))) rfl e FW this)
 all:=L.reach
 graph:=by
  refine⟨L.callOk,fun s hs=>?_,fun s hs t ht=>?_,pJ os⟩
  ·refine bx (L.subs.mp hs) fun u hu FZ=>?_;subst FZ;exact⟨_,_,rfl,L.subEnd hu,by exact b6 _ _,L.lt hu⟩
  ·refine bx (L.subs.mp hs) fun u hu F7=>?_;subst F7;exact L.subs.mpr (L.clo ((L.adj hu).mp ht)).2
 tgs:=fun i o ho hl=>by
  refine bx (L.tgs ho hl) fun t ht e=>?_;refine rA e ?_;exact L.subs.mpr ⟨t,ht,rfl⟩
 slots:=by refine rA (L.slot (ax _)) ?_;have:=L.small;exact L1 (Ra M0 (Kn 60) (Gz C0 (Kz 4096))) rfl this
theorem ik.ring(L:ik rs bg n os ps){p:iZ}(hp:p∈ps):lm os p.1↔mi ps p:=by
 refine lw ((L.psm _).mp hp) fun s hs j t hj FW=>?_;subst FW;refine hV (L.site hs hj) fun o h1 h2 h3 h4 ht=>?_;have hsub:=L.isSub (y:=bg s+2*j+1) hs (by exact L2 (Gn N0 (Pn (Pn N0 (Tn 2 N1)) (Kn 1))) rfl) h4;have htg:tg os (bg s+2*j+1) o=bg t:=by unfold tg;refine rA h3 ?_;rfl
 unfold lm mi;dsimp only;constructor
 ·refine fun FY=>eN FY fun i o' s' ha ho hl FZ=>?_;obtain⟨hsu,h⟩:=FZ;have:i=bg s+2*j+1:=by exact Eq.symm (tm ha)
  subst this;rw[h1]at ho;obtain rfl:=aj ho;have:=hsu.eq hsub;subst this;rw[htg]at h;exact h.imp Eq.symm (L.rch ht).mp
 ·intro h;refine⟨_,o,_,rfl,h1,h2,hsub,?_⟩;refine rA htg ?_;exact h.imp Eq.symm (L.rch ht).mpr
theorem ik.deep(L:ik rs bg n os ps){dep:Int->Int}{p:iZ}(hp:p∈ps):mC os dep p.1↔8<=dep p.2.1:=by
 refine lw ((L.psm _).mp hp) fun s hs j t hj FW=>?_;subst FW;refine hV (L.site hs hj) fun o h1 h2 h3 h4 ht=>?_;have hsub:=L.isSub (y:=bg s+2*j+1) hs (by exact L2 (Gn N0 (Pn (Pn N0 (Tn 2 N1)) (Kn 1))) rfl) h4;constructor
 ·refine fun FY=>bx FY fun s' h h8=>?_;rw[h.eq hsub]at h8;exact h8
 ·intro h;exact⟨_,hsub,h⟩
theorem ik.depth(L:ik rs bg n os ps){dep:Int->Int}(D:Dq ps dep):tG os dep where
 pos:=D.pos
 step:=fun u v e=>by
  cases e with
  |@mk i o _ ho hl hsu=>
   refine fG (L.call ho hl) fun s j t hs ht hj hy h1 h2 h3=>?_;have:=hsu.eq (L.isSub hs h1 h2);subst this;have htg:tg os i o=bg t:=by unfold tg;refine rA h3 ?_;rfl
   refine rA htg ?_;exact D.step (((bg s+2*j+1:Nat):Int),(bg s:Int),(bg t:Int)) ((L.psm _).mpr ⟨s,hs,j,t,hj,rfl⟩)
 least:=fun t ht=>by
  refine(D.least t).imp id fun z'=>?_;refine cX z' fun p hp e1 e2=>?_;refine lw ((L.psm _).mp hp) fun s hs j t' hj FW=>?_;subst FW;refine hV (L.site hs hj) fun o h1 h2 h3 h4 zz=>?_;have htg:tg os (bg s+2*j+1) o=bg t':=by unfold tg;refine rA h3 ?_;rfl
  refine⟨bg s,?_,e2⟩;have:=xe.mk h1 h2 (L.isSub (y:=bg s+2*j+1) hs (by exact L2 (Gn N0 (Pn (Pn N0 (Tn 2 N1)) (Kn 1))) rfl) h4);rw[htg]at this;dsimp only at e1;refine rB e1 ?_;exact this
end
theorem ql{α:Type}{P:α->Prop}{b d:List α}{x y:α}(hx:P x)(hy:P y){a:List α}:∀{c:List α},a++x::b=c++y::d->(∀z∈a,¬P z)->(∀z∈c,¬P z)->x=y:=by
 induction a with
 |nil=>
  intro c h _ hc;cases c with
  |nil=>exact(aV h).1
  |cons u c=>exact absurd hx ((aV h).1▸hc _ (.head _))
 |cons u a ih=>
  intro c h ha hc;cases c with
  |nil=>exact absurd hy ((aV h).1▸ha _ (.head _))
  |cons v c=>exact ih (aV h).2 (fun z hz=>ha z (.tail _ hz)) fun z hz=>hc z (.tail _ hz)
noncomputable def kN:List Int->Int
 |[]=>0
 |a::l=>if kN l<a then a else kN l
theorem te:∀{l:List Int}{a:Int},a∈l->a<=kN l
 |b::l,a,h=>by
  show a<=if kN l<b then b else kN l
  rcases aA.mp h with rfl|h
  ·split
   ·exact cJ _
   ·exact Int.not_lt.mp ‹_›
  ·split
   ·exact Int.le_trans (te h) (cZ ‹_›)
   ·exact te h
theorem tf:∀{l:List Int},kN l=0∨kN l∈l
 |[]=>.inl rfl
 |b::l=>by
  show(if kN l<b then b else kN l)=0∨(if kN l<b then b else kN l)∈b::l;split
  ·exact .inr (.head _)
  ·exact(tf (l:=l)).imp id (.tail _)
noncomputable def kK(ps:List iZ):Nat->Int->Int
 |0,_=>1
 |m+1,b=>1+kN (preds ps (kK ps m) b)
open Classical in
noncomputable def Dt(ps:List iZ)(b:Int):Nat:=((ps.map (·.2.1)).filter fun u=>decide (gY (eP ps) u b)).length
theorem xG{l:List Int}{p q:Int->Bool}(h:∀x∈l,p x=true->q x=true){y:Int}(hy:y∈l)(h1:q y=true)(h2:p y=false):(l.filter p).length<(l.filter q).length:=by
 induction l with
 |nil=>cases hy
 |cons a l ih=>
  have le:(l.filter p).length<=(l.filter q).length:=by
   have:∀m:List Int,(∀x∈m,p x=true->q x=true)->(m.filter p).length<=(m.filter q).length:=fun m=>by
    induction m with
    |nil=>intro _;simp
    |cons b m ih=>
     intro hm;have:=ih fun x hx=>hm x (.tail _ hx);refine rA bO (rA bO ?_)
     by_cases e:p b=true
     ·refine rA (if_pos e) (rA (if_pos (hm b (.head _) e)) ?_);simp;exact this
     ·refine rA (if_neg e) ?_;split <;> simp <;> lia
   exact this l fun x hx=>h x (.tail _ hx)
  refine rA bO (rA bO ?_);rcases aA.mp hy with e|hy
  ·subst e;refine rA h1 (rA h2 (rA (if_pos rfl) (rA (if_neg (by decide)) (rA aF ?_))));exact kT le
  ·have:=ih (fun x hx=>h x (.tail _ hx)) hy
   by_cases e:p a=true
   ·refine rA (if_pos e) (rA (if_pos (h a (.head _) e)) ?_);simp;exact this
   ·refine rA (if_neg e) ?_;split <;> simp <;> lia
section
variable {ps:List iZ}
theorem acyc(h:∀p∈ps,¬mi ps p)(u:Int):¬gY (eP ps) u u:=fun z=>by
 cases z with
 |one e=>refine ex (jO.mp e) fun a ha=>?_;exact h _ ha (.inl rfl)
 |more e r=>refine ex (jO.mp e) fun a ha=>?_;exact h _ ha (.inr r)
open Classical in
theorem zc(h:∀p∈ps,¬mi ps p){p:iZ}(hp:p∈ps):Dt ps p.2.1<Dt ps p.2.2:=by
 have e:p.2.2∈eP ps p.2.1:=jO.mpr ⟨p.1,hp⟩;unfold Dt;refine xG (y:=p.2.1) (fun x zz hx=>decide_eq_true ((of_decide_eq_true hx).snoc e)) (aJ.mpr ⟨p,hp,rfl⟩) (decide_eq_true (.one e)) (decide_eq_false (acyc h _))
theorem wo{m:Nat}{b:Int}:1<=kK ps m b/\kK ps m b<=m+1:=by
 induction m generalizing b with
 |zero=>exact⟨cJ _,cJ _⟩
 |succ m ih=>
  show 1<=1+kN (preds ps (kK ps m) b)/\1+kN (preds ps (kK ps m) b)<=((m+1:Nat):Int)+1;rcases tf (l:=preds ps (kK ps m) b)with e|e
  ·refine rA e ?_;exact⟨Lz [] [] (Gz (Kz 1) (Pz (Kz 1) (Kz 0))) rfl,L1 (Gz (Pz (Kz 1) (Kz 0)) (Pz (Cz M0) (Kz 1))) rfl⟩
  ·refine bx (aJ.mp e) fun p hp e2=>?_;have:=ih (b:=p.2.1);rw[←e2];push_cast;exact⟨Lz [] [_] (Sa (Kz 1) Z0 (Gz (Kz 1) (Pz (Kz 1) Z0))) rfl this.1,Lz [_] [_] (Sa Z0 (Pz C0 (Kz 1)) (Gz (Pz (Kz 1) Z0) (Pz (Pz C0 (Kz 1)) (Kz 1)))) rfl this.2⟩
theorem xA(h:∀p∈ps,¬mi ps p):∀{m:Nat}{b:Int},Dt ps b<m->kK ps m b=kK ps (m+1) b:=by
 intro m
 induction m with
 |zero=>intro b hb;exact absurd hb (Nat.not_lt_zero _)
 |succ m ih=>
  intro b hb;show 1+kN (preds ps (kK ps m) b)=1+kN (preds ps (kK ps (m+1)) b)
  congr 2
  unfold preds;refine cy fun p hp=>?_;refine ea (bh.mp hp) fun h1 h2=>?_;have h2:p.2.2=b:=of_decide_eq_true h2;have:=zc h h1;rw[h2]at this;exact ih (by exact be this (dR hb))
set_option tactic.hygienic true in
theorem CY(hl:ps.length<=11)(h:∀p∈ps,¬mi ps p):∃dep,Dq ps dep/\∀b,dep b<=20:=by
 have ha:∀b,Dt ps b<=11:=fun b=>by
  unfold Dt;have:=bp (fun u=>@decide (gY (eP ps) u b) (Classical.propDecidable _)) (ps.map (·.2.1));rw[ae]at this;exact xS this hl
 have st:∀p∈ps,kK ps 11 p.2.1=kK ps 12 p.2.1:=fun p hp=>xA h (by have:=zc h hp;have:=ha p.2.2;(rename_i FW;exact L2 (Ra M0 N1 (Ra N1 (Kn 11) (Gn M0 (Kn 11)))) rfl FW this));refine⟨kK ps 12,⟨fun b=>wo.1,fun p hp=>?_,fun b=>?_⟩,fun b=>by have:=(wo (ps:=ps) (m:=12) (b:=b)).2;exact Lz [] [_] (Sa Z0 (Pz (Cz (Kn 12)) (Kz 1)) (Gz Z0 (Kz 20))) rfl this⟩
 ·refine rB (st p hp) ?_;have:kK ps 11 p.2.1<=kN (preds ps (kK ps 11) p.2.2):=te (aJ.mpr ⟨p,bh.mpr ⟨hp,by simp⟩,rfl⟩);show _<=1+kN (preds ps (kK ps 11) p.2.2);exact Lz [] [_,_] (Sa Z0 Z1 (Gz (Pz Z0 (Kz 1)) (Pz (Kz 1) Z1))) rfl this
 ·have e:kK ps 12 b=1+kN (preds ps (kK ps 11) b):=rfl;rcases tf (l:=preds ps (kK ps 11) b)with z|z
  ·left;refine rA e (rA z ?_);rfl
  ·refine bx (aJ.mp z) fun p hp e2=>?_;refine ea (bh.mp hp) fun h1 h2=>?_;right;refine⟨p,h1,of_decide_eq_true h2,?_⟩;rw[e,←e2,st p h1];exact bi (Lz [] [_] (Gz (Pz (Kz 1) Z0) (Pz Z0 (Kz 1))) rfl) (Lz [] [_] (Gz (Pz Z0 (Kz 1)) (Pz (Kz 1) Z0)) rfl)
end
theorem w7(os:List bq):(ay os).Pairwise (·<·):=((ib (gQ os)).and (pJ os)).imp fun z'=>by refine ea z' fun a b=>?_;exact dH.mpr ⟨Lz [] [_,_] (Sa Z0 Z1 (Gz Z0 Z1)) rfl a,b⟩
theorem ik.rchT{rs:List (List Int)}{bg:Nat->Nat}{n:Nat}{os:List bq}{ps:List iZ}(L:ik rs bg n os ps){u v:Int}(h:gY (eP ps) u v):∃t,t<n/\v=bg t:=by
 induction h with
 |one e=>exact(L.clo e).2
 |more _ _ ih=>exact ih
theorem ik.each{rs:List (List Int)}{bg:Nat->Nat}{n:Nat}{os:List bq}{ps:List iZ}(L:ik rs bg n os ps){σ0:St}{P:V->List V->St->Prop}(h:∀i u:Nat,u<n->(bg u:Int)∈ay os->i<(ay os).length->P (.int (bg u)) (((ay os).drop (i+1)).map .int) σ0) :
  ∀v r σ,(X1 fun i:Nat=>A3 (i<=(ay os).length) (v::r=((ay os).drop i).map .int) (σ=σ0))->P v r σ:=by
 refine lDs fun i s hs hi=>?_;have hsm:s∈ay os:=aS hs;refine bx (L.subs.mp hsm) fun u hu FW=>?_;subst FW;exact h i u hu hsm hi
theorem Bc{rs:List (List Int)}{tn:List Nat}{n:Nat}{os:List bq}{ps:List iZ}(T:jN tn n)(L:ik rs (c9 rs tn) n os ps):eT (nI (tn.map (c9 rs tn)))=ay os:=by
 refine kQ ?_ (w7 os) fun x=>?_
 ·unfold nI;refine rA bz ?_;unfold List.Nodup;rw[List.pairwise_map];refine T.nd.imp_of_mem fun{a b} ha hb hne e=>hne (L.inj (T.mem.mp ha) (T.mem.mp hb) ?_);have e:((c9 rs tn a:Nat):Int)=(c9 rs tn b:Nat):=e;exact tm e
 ·rw[L.subs];unfold nI;rw[bz,aJ];exact⟨fun z'=>by refine bx z' fun s h1 h2=>?_;exact⟨s,T.mem.mp h1,h2.symm⟩,fun z'=>by refine bx z' fun s h1 h2=>?_;exact⟨s,T.mem.mpr h1,h2.symm⟩⟩
theorem wG{l m:List Int}(hl:l.Pairwise (·<·))(hm:m.Pairwise (·<·))(h:∀x,x∈l↔x∈m):l=m :=
 (kQ (ue hl) hl fun zz=>Iff.rfl).symm.trans (kQ (ue hl) hm h)
section
variable {g:GX}{k:Nat}{X:XP}{Q:VP}{H H':HH}{G:GC}
theorem PH.two{p L:ah}{t g t' g':Int}:PH (PH H p L t g) p L t' g'=PH H p L t' g':=eU
theorem sO{t:List Value->Sem Value}{vs:List V}(h:VT G k t vs H (Frz Q) X):VT G k t vs H Q X:=fun A fs F s cs ok r vr=>
 aK (h A fs F s cs ok r vr) (fun c s1 z=>by
  obtain⟨H1,F1,r1,st1,v,vr1,v',H2,sb,rf,q⟩:=z;have d:=r1.drop sb;exact⟨H2,_,d.1,st1.trans d.2,⟨v',(kC r1 rf).1 c vr1,q⟩⟩) fun zz zz x=>x
theorem u6{t:List Value->Sem Value}{a:List V}(h:VT G k t a H Q NX):VT G k t a H Q X:=h.mono (ax _) (fun zz zz x=>x) fun zz zz zz x=>x.elim
theorem ifVT{b:Bool}{t1 t2:List Value->Sem Value}{a1 a2:List V}{R:VP}(h1:b=true->VT G k t1 a1 H R X)(h2:b=false->VT G k t2 a2 H R X)(m:∀v H',R v H'->Q v H'):gf b (VT G k t1 a1 H Q X) (VT G k t2 a2 H Q X):=by
 cases b
 ·exact(h2 rfl).imp2 m
 ·exact(h1 rfl).imp2 m
theorem rZ{x:Str}{i:Int}(hx:PyData.strOk x=true)(h:Q (.bool true) H):VT G k (gu .Eq) [.tup [.str x,.int i],.tup [.str x,.int i]] H Q X :=
 pA (.tup (.cons (.str _) (.cons (.int _) .nil))) (.tup (.cons (.str _) (.cons (.int _) .nil))) (by simp[eG,bX,bf,cu,cg,hx]) (by simp[eG,bX,bf,cu,cg,hx]) (by
  have:cj (.tuple [.str x,.int i]) (.tuple [.str x,.int i])=true:=by simp[cj,eM]
  refine rA this ?_;exact h)
noncomputable abbrev EX(H0:HH)(ps:List (Int×Int×Int)):ah->List V->List V->HH->Prop:=fun D r acc H'=>X2 fun(pre l:List iZ)=>A5 (ps=pre++l) (r=l.map ey) (acc=(pre.map (·.1)).map V.int) (H'=HL H0 [D] [.lst acc]) (cw H0 [D])
noncomputable abbrev Cf(p:ah)(os:List bq)(ps:List (Int×Int×Int))(dep:Int->Int)(Ls:List (Int×List Int)):List (Str×V):=[("pen",.ref p),("begins",iV (ay os)),("pairs",.lst (ps.map ey)),("told",c5 os),("onward",.dct (Ls.map fun p=>(p.1,.set p.2))),("frames",.dct (gU (ay os) dep))]
noncomputable abbrev EY(p:ah)(H0:HH)(os:List bq)(ps:List (Int×Int×Int))(dep:Int->Int)(Ls:List (Int×List Int)):List V->St->Prop:=fun r σ=>X1 fun(i:Nat)=>A3 (i<=(ay os).length) (r=((ay os).drop i).map .int) (σ=⟨Cf p os ps dep Ls,H0⟩)
noncomputable abbrev EZ(H0:HH)(ps:List (Int×Int×Int))(bg:Nat->Nat)(u:Nat):ah->List V->List V->HH->Prop:=fun D r acc H'=>X2 fun(pre l:List iZ)=>A5 (ps=pre++l) (r=l.map ey) (acc=(eP pre (bg u)).map V.int) (H'=HL H0 [D] [.lst acc]) (cw H0 [D])
noncomputable abbrev E0(H0:HH)(N:List Int):ah->List V->List V->HH->Prop:=fun D r acc H'=>X2 fun(c:Nat) (al:List Int)=>A8 (c<=N.length) (r=oz (N.map .int) c) (∀x,x∈al↔x∈N.take c) (al.Pairwise (·<·)) (al.length<=c) (acc=al.map .int) (H'=HL H0 [D] [.lst acc]) (cw H0 [D])
theorem qK{p L:ah}{cs:List Int}{t gg:Int}(P:tw H p L cs t gg)(ht:t<80000)
  (h:∀t' g',0<=t'->t'<=t+61->0<=g'->Q (.bool true) (PH H p L t' g')) (hk:250<=k):CT g.gc k (.ref 479) [.ref p] H Q X:=by
 have pt:=P.t0;have pg:=P.g0;refine gK (dcs:=[]) rfl (fun zz zz=>rfl) rfl ?_ (gG hk);refine aE (lR P (by decide) (by decide) (by exact BD ht) (fun d t1 g1 d0 d1 a1 a2 a3=>?_) (dn hk));have P1:tw (PH H p L t1 g1) p L cs t1 g1:=PH.pen P .refl a1 a3;refine ifVT (R:=fun v H'=>∃rs t2 g2,2<=rs.length/\rs.length<=9/\uW rs rs.length 11/\wb rs rs.length/\0<=t2/\t2<=t1+30/\0<=g2/\v=.lst ((dP rs).map .lst)/\H'=PH H p L t2 g2)
  (fun zz=>aE (Ar P1 (by exact Lz [] [_,_] (Sa (Pz Z0 (Kz 1)) (Kz 80000) (Sa Z1 (Pz Z0 (Kz 1)) (Gz (Pz Z1 (Kz 1)) (Kz 90000)))) rfl ht a2) (fun rs t2 g2 b1 b2 B C c1 c2 c3=>⟨rs,t2,g2,b1,b2,B,C,c1,c2,c3,rfl,PH.two⟩) (dn hk)))
  (fun zz=>aE (Aq P1 (by exact Lz [] [_,_] (Sa (Pz Z0 (Kz 1)) (Kz 80000) (Sa Z1 (Pz Z0 (Kz 1)) (Gz (Pz Z1 (Kz 1)) (Kz 90000)))) rfl ht a2) (fun rs t2 g2 b1 b2 B C c1 c2 c3=>⟨rs,t2,g2,b1,by exact z8 b2,B,C,c1,c2,c3,rfl,PH.two⟩) (dn hk))) ?_
 refine fun v H' FW=>fG FW fun rs t2 g2 n2 n9 B C c1 c2 FY=>?_;clear FW;obtain⟨c3,rfl,rfl⟩:=FY;have P2:tw (PH H p L t2 g2) p L cs t2 g2:=PH.pen P .refl c1 c3;refine aE (qJ P2 (by exact Lz [] [_,_,_] (Sa (Pz Z0 (Kz 1)) (Kz 80000) (Sa Z1 (Pz Z0 (Kz 1)) (Sa (Xz 2) (Pz Z1 (Kz 30)) (Gz (Pz (Xz 2) (Kz 1)) (Kz 90000))))) rfl ht a2 c2) B n2 n9 (fun tn t3 g3 T b1 b2 b3=>?_) (dn hk));refine rA PH.two ?_;have fin:Q (.bool true) (PH H p L t3 g3):=h t3 g3 b1 (by exact Lz [] [_,_,_,_] (Sa Z0 (Pz Z1 (Kz 1)) (Sa (Xz 2) (Pz Z0 (Kz 30)) (Sa (Xz 3) (Pz (Xz 2) (Kz 30)) (Gz (Xz 3) (Pz Z1 (Kz 61)))))) rfl a2 c2 b2) b3;have L':=Dd T B C n2 n9;refine rA (Bc T L') ?_;generalize PH H p L t3 g3=H0 at fin ⊢;generalize (eI rs tn rs.length).os=os at L' ⊢;generalize (eI rs tn rs.length).ps=ps at L' ⊢;generalize c9 rs tn=bg at L';clear h P P1 P2 T;have pl:=L'.pl;have pr:=L'.prog;have hmp:∀{pre post:List iZ}{q:iZ},ps=pre++q::post->q∈ps/\cN os=pre.map (·.1)++q.1::post.map (·.1):=fun{pre post q} e=>⟨by refine rA e ?_;simp,by refine rB L'.psa (rA e ?_);simp⟩;have hcm:∀a,a∈cN os->∃q∈ps,q.1=a:=fun a ha=>by rw[←L'.psa]at ha;exact aJ.mp ha
 have hno:∀{P:Int->Prop}{pre:List iZ},(∀q∈pre,¬P q.1)->∀a∈pre.map (·.1),¬P a:=fun{P pre} z a ha=>by refine bx (aJ.mp ha) fun q hq FZ=>?_;subst FZ;exact z q hq
 refine⟨_,rfl,rfl,rfl,?_⟩;refine mw (names:=["fault","told"]) (fun env e=>by cases env;cases e;rfl) ?_ (dn hk);refine aE (Au (by exact z8 pl) ⟨fun pre q post e h1 h2=>?_,fun hr=>?_⟩ (dn hk))
 ·refine ea (hmp e) fun hq e2=>?_;have hq1:=(L'.ring hq).mpr h2;have hpre:∀a∈pre.map (·.1),¬lm os a:=hno fun y hy z=>h1 y hy ((L'.ring (by refine rA e ?_;exact aC _ hy)).mp z);refine u6 (aE (qN (os:=os) pr rfl ⟨fun pre' i post' e' h1' h2'=>⟨rfl,rfl,_,_,rfl,rfl,rfl,?_⟩,fun z=>absurd hq1 (z q.1 (by refine rA e2 ?_;simp))⟩ (dn hk)));have hi:q.1=(i:Int):=ql hq1 h2' (e2.symm.trans e') hpre h1';refine rB hi ?_;refine⟨rfl,aq rfl,?_⟩;refine kG rfl ?_;refine rZ (by decide +kernel) ?_;exact dO fin
 ·refine bx (CY pl hr) fun dep Dp db=>?_;have hr':∀a∈cN os,¬lm os a:=fun a ha z=>by
   refine bx (hcm a ha) fun q hq F7=>?_;subst F7;exact hr q hq ((L'.ring hq).mp z)
  refine⟨dep,Dp,db,fun pre q post e h1 h2=>?_,fun hd=>?_⟩
  ·refine ea (hmp e) fun hq e2=>?_;have hq1:=(L'.deep hq).mpr h2;have hpre:∀a∈pre.map (·.1),¬mC os dep a:=hno fun y hy z=>h1 y hy ((L'.deep (by refine rA e ?_;exact aC _ hy)).mp z);refine u6 (aE (qN (os:=os) pr rfl ⟨fun pre' i post' e' h1' h2'=>absurd h2' (hr' i (by refine rA e' ?_;simp)),fun z=>⟨dep,L'.depth Dp,fun pre' i post' e' h1' h2'=>⟨rfl,rfl,_,_,rfl,rfl,rfl,?_⟩,fun z2=>absurd hq1 (z2 q.1 (by refine rA e2 ?_;simp))⟩⟩ (dn hk)));have hi:q.1=(i:Int):=ql hq1 h2' (e2.symm.trans e') hpre h1';refine rB hi ?_;refine⟨rfl,aq rfl,?_⟩;refine kG rfl ?_;refine rZ (by decide +kernel) ?_;exact dO fin
  ·have hd':∀a∈cN os,¬mC os dep a:=fun a ha z=>by
    refine bx (hcm a ha) fun q hq F8=>?_;subst F8;exact hd q hq ((L'.deep hq).mp z)
   refine u6 (aE (qN (os:=os) pr rfl ⟨fun pre' i post' e' h1' h2'=>absurd h2' (hr' i (by refine rA e' ?_;simp)),fun z=>⟨dep,L'.depth Dp,fun pre' i post' e' h1' h2'=>absurd h2' (hd' i (by refine rA e' ?_;simp)),fun z2=>?_⟩⟩ (dn hk)));refine⟨rfl,aq rfl,?_⟩;refine kG rfl ?_;refine xm rfl ?_;refine fY (ns:=ay os) (ms:=ay os) rfl rfl ?_;refine dY (fun q=>by simp at q) (fun zz=>?_);refine aE (jj pr.len ?_ (dn hk));refine⟨EX H0 ps,fun D hD=>⟨⟨[],ps,rfl,rfl,rfl,rfl,cw.push (vs:=[]) cw.nil hD⟩,?_,?_⟩⟩
   ·refine Du fun O=>?_;refine fY (ns:=cN os) (ms:=ps.map (·.1)) rfl (O.con 0 rfl rfl) ?_;refine dY (fun q=>by rw[L'.psa]at q;simp at q) (fun zz=>?_);refine mw (names:=["onward","frames"]) (fun env e=>by cases env;cases e;rfl) ?_ (dn hk);refine aE (nw pr.len pr.graph (fun Ls hL hLs=>?_) (dn hk));refine aE (k7 pr.len L'.callOk pr.tgs (L'.depth Dp) ?_ (dn hk));refine⟨rfl,aq rfl,?_⟩;have sl:=nz (os:=os);have plen:=pr.len;have hLl:Ls.length=(ay os).length:=by rw[←hL,ae]
    have es:eT (ay os)=ay os:=kQ (pJ os) (w7 os) fun zz=>Iff.rfl;have ek1:(Ls.map fun p=>(p.1,V.set p.2)).map (·.1)=ay os:=by refine rA bz ?_;exact hL
    have ek2:(gU (ay os) dep).map (·.1)=ay os:=by simp[gU,jJ]
    refine⟨⟨Cf p os ps dep Ls,H0⟩,FT (cw.sub O.fr O.nd) rfl,?_⟩;refine⟨EY p H0 os ps dep Ls,⟨0,aH _,rfl,rfl⟩,?_,L'.each (fun i u hu hsm hi=>?_)⟩
    ·refine kj fun i hi hr=>?_;refine qb (xs:=Ls.map fun p=>(p.1,.set p.2)) rfl (by rw[ae];exact L3 (Ra N0 M1 (Ra M1 (Kn 60) (Rb N2 N0 (Gn M2 (Kn 64))))) rfl sl plen hLl) (fun D1 h1=>?_) (dn hk);have h1:H0 D1=none:=h1;refine j5 (ns:=eT ((Ls.map fun p=>(p.1,V.set p.2)).map (·.1))) (ms:=ay os) (bv aw) rfl ?_;refine dY (fun zz=>?_) (fun q=>by rw[ek1,es]at q;simp at q);refine qb (xs:=gU (ay os) dep) rfl (by unfold gU;rw[ae];exact oq8 sl plen) (fun D2 h2=>?_) (dn hk);have h2:upd H0 D1 (.lst ((eT ((Ls.map fun p=>(p.1,V.set p.2)).map (·.1))).map .int)) D2=none:=h2;refine j5 (ns:=eT ((gU (ay os) dep).map (·.1))) (ms:=ay os) (bv aw) rfl ?_;refine rA ek2 (rA (decide_eq_true es) ?_);exact⟨_,H0,(Sub.refl.upd h1).upd (d4 h2).2,.same _,fin⟩
    ·refine⟨EZ H0 ps bg u,fun D hD=>⟨⟨[],ps,rfl,rfl,rfl,rfl,cw.push (vs:=[]) cw.nil hD⟩,?_,?_⟩⟩
     ·refine Du fun O=>?_;have hel:(eP ps (bg u)).length<=11:=by unfold eP;rw[ae];exact a8 (bp _ _) pl
      refine sO (ja (ns:=eP ps (bg u)) (O.con 0 rfl rfl) (by exact nr hel) (fun S hS=>?_) (dn hk));have O2:=O.push (vs:=[.lst ((eP ps (bg u)).map .int)]) hS;refine⟨iV (eT (eP ps (bg u))),H0,cw.sub (vs:=[iV (eT (eP ps (bg u))),.lst ((eP ps (bg u)).map .int)]) O2.fr O2.nd,O2.rfy (vs:=[iV (eT (eP ps (bg u))),.lst ((eP ps (bg u)).map .int)]) 0 rfl rfl (.same _),?_⟩;have hNs:=ib (eP ps (bg u));have hNm:∀v,v∈eT (eP ps (bg u))↔v∈eP ps (bg u):=fun v=>(fq _).mem_iff;have hNl:(eT (eP ps (bg u))).length<=11:=by refine rA ((fq _).length_eq) ?_;exact hel
      generalize eT (eP ps (bg u))=N at hNs hNm hNl ⊢;have hlt:=L'.lt hu;refine aE (oH (s:=bg u) (e:=bg u+dz rs u) pr.len L'.callOk (L'.subEnd hu) (by exact b6 _ _) hlt ?_ (dn hk));have hAm:∀v,v∈iS os (bg u) (bg u+dz rs u)↔v∈eP ps (bg u):=fun v=>by
       rw[←L'.adj hu];unfold Internal.adj;rw[L'.subEnd hu,bw,bw]
      have hAs:(iS os (bg u) (bg u+dz rs u)).Pairwise (·<·):=vX (tW (by exact b6 _ _) hlt);generalize iS os (bg u) (bg u+dz rs u)=A at hAm hAs ⊢;clear O O2 hS;refine⟨rfl,_,rfl,?_⟩;refine⟨E0 H0 N,fun D hD=>⟨⟨0,[],aH _,rfl,by simp,.nil,ax _,rfl,rfl,cw.push (vs:=[]) cw.nil hD⟩,?_,?_⟩⟩
      ·rintro acc H' ⟨c,al,hc,hr,ham,has,hal,rfl,rfl,O⟩;have hce:=qj (by simpa using hc) hr;rw[ae]at hce;subst hce;rw[cz]at ham;have eal:A=al:=wG hAs has fun x=>(hAm x).trans ((hNm x).symm.trans (ham x).symm);refine fY (ns:=A) (ms:=al) rfl (O.con 0 rfl rfl) ?_;refine dY (fun q=>by rw[eal]at q;simp at q) (fun zz=>?_);refine cX (qp (Ls:=Ls) (x:=(bg u:Int)) (by refine rA hL ?_;exact hsm)) fun q hq e1 e2=>?_;refine ea (hLs q hq) fun hqn hqm=>?_;rw[e1]at hqm;have hql:q.2.length<=(ay os).length:=hZ hqn fun v hv=>L'.subs.mpr (L'.rchT ((L'.rch hu).mp ((hqm v).mp hv)));refine dK (x:=.set q.2) rfl e2 ?_;refine sO (jb (ns:=q.2) rfl (by exact L3 (Ra N0 M1 (Ra M1 (Kn 60) (Ra N2 N0 (Gn M2 (Kn 64))))) rfl sl plen hql) (fun S hS=>?_) (dn hk));have O2:=O.push (vs:=[.lst (al.map .int)]) hS;refine⟨iV (eT q.2),H0,cw.sub (vs:=[iV (eT q.2),.lst (al.map .int)]) O2.fr O2.nd,O2.rfy (vs:=[iV (eT q.2),.lst (al.map .int)]) 0 rfl rfl (.same _),?_⟩;intro W hW;have hW:H0 W=none:=hW;refine aE (uB (by exact nr pl) 20 (way:=[(bg u:Int)]) aw (by have:=wF (ps:=ps) (w:=[(bg u:Int)]);exact xS this pl) (by simp) (fun lf l1 l2 l3=>?_) (by exact L2 (Ra (Kn 250) N0 (Ra N0 M1 (Gn (Pn (Kn 10) (Tn 10 (Kn 20))) N1))) rfl hk jF));refine sO (ja (ns:=lf) rfl (by exact oq5 l3 pl) (fun S hS=>?_) (dn hk));have O3:=(cw.push (vs:=[]) cw.nil hW).push (vs:=[iV [(bg u:Int)]]) hS;refine⟨iV (eT lf),H0,cw.sub (vs:=[iV (eT lf),iV [(bg u:Int)]]) O3.fr O3.nd,O3.rfy (vs:=[iV (eT lf),iV [(bg u:Int)]]) 0 rfl rfl (.same _),?_⟩;refine fY (ns:=eT q.2) (ms:=eT lf) rfl rfl ?_;have esl:eT q.2=eT lf:=kQ hqn (vX l1) fun v=>by rw[(fq lf).mem_iff,hqm,L'.rch hu,zi l2]
       refine dY (fun z=>by rw[esl]at z;simp at z) (fun zz=>?_);refine dK (x:=.int (dep (bg u))) rfl (f7 (f:=fun s=>V.int (dep s)) hsm) ?_;refine aE (uy (by exact nr pl) Dp 20 (by have:=db (bg u);exact Int.toNat_le.mpr (Lz [] [_] (Sa Z0 (Kz 20) (Gz Z0 (Cz (Kn 20)))) rfl this)) ?_ (by exact L2 (Ra (Kn 250) N0 (Ra N0 M1 (Gn (Pn (Kn 10) (Tn 10 (Kn 20))) N1))) rfl hk jF));refine dY (fun z=>absurd rfl (of_decide_eq_true z)) (fun zz=>?_);refine⟨_,?_,i+1,hi,rfl,rfl⟩;exact ci 6
      ·rintro v r acc H' ⟨c,al,hc,hr,ham,has,hal,rfl,rfl,O⟩;refine kZ (nV hr) fun x hx F9 Ga hc=>?_;subst F9;subst Ga;rw[ae]at hc;rw[ar,ac hc]at hx;obtain rfl:=aj hx;have tk:N.take (c+1)=N.take c++[N[c]]:=by refine rA aT (rA (ac hc) ?_);rfl
       have lo:∀a∈N.take c,a<=N[c]:=fun a ha=>by
        refine ex (di ha) fun j Gb=>?_;refine ex Gb fun hj Gc=>?_;clear Gb;subst Gc;refine rA List.getElem_take ?_;rw[cT]at hj;exact gB.mp hNs j c (by exact L3 (Ra M0 N1 (Ra N1 N2 (Gn M0 N2))) rfl hj (bP _ _)) hc (by exact L3 (Ra M0 N1 (Ra N1 N2 (Gn M0 N2))) rfl hj (jp _ _))
       generalize N[c]=y at tk lo ⊢;refine⟨_,rfl,rfl,rfl,.put (.put .refl rfl) rfl,?_⟩;refine .inr ⟨N.map .int,rfl,rfl,rfl,by rw[ae];exact nr hNl,fun b hb=>?_⟩;have hb:HL H0 [D] [.lst (al.map .int)] b=none:=hb;have cb:con (upd (HL H0 [D] [.lst (al.map .int)]) b (.lst (iA (N.map V.int) none (some (c:Int))))) (.ref b)=.lst ((N.take c).map .int):=by rw[bv aw,sq,iN]
       refine iQ (ns:=N.take c) cb ?_;refine dY (fun z=>?_) (fun z=>?_)
       ·have z:y∉N.take c:=by simpa using z
        refine⟨.int y,_,Sub.refl.upd hb,.same _,O.get 0 rfl rfl,by rw[ae];exact L3 (Ra N0 (Kn 11) (Ra N1 N2 (Ra M2 N0 (Gn M1 (Kn 1000000))))) rfl hNl hal hc,c+1,al++[y],hc,rfl,fun x=>?_,?_,by simp;exact hal,by refine rA ai ?_;rfl,HL.set 0 O.nd rfl rfl,O⟩
        ·rw[tk,ak,ak,ham]
        ·rw[gj];exact⟨has,List.pairwise_singleton _ _,fun a ha b hb=>by
          refine rA (ag.mp hb) ?_;have h1:=(ham a).mp ha;have h2:=lo a h1;have h3:a≠y:=fun e=>z (e▸h1);exact dH.mpr ⟨Lz [] [_,_] (Sa Z0 Z1 (Gz Z0 Z1)) rfl h2,h3⟩⟩
       ·have z:y∈N.take c:=by simpa using z
        refine⟨_,Sub.refl.upd hb,c+1,al,hc,rfl,fun x=>?_,has,by exact vF hal,rfl,rfl,O⟩;rw[tk,ak,ham];exact⟨.inl,fun w=>w.elim id fun w=>by refine rA (ag.mp w) ?_;exact z⟩
     ·refine Dv fun pre q l e O=>?_;have hpr:pre.length<60:=by have:=congrArg bG e;rw[az,aF]at this;lia
      have hpl:(eP pre (bg u)).length<=pre.length:=by unfold eP;rw[ae];exact bp _ _
      have hs2:eP (pre++[q]) (bg u)=eP pre (bg u)++(if decide (q.2.1=(bg u:Int))then [q.2.2]else []):=by
       unfold eP;rw[bu,ai];simp only[bO,dk];split <;> rfl
      refine⟨_,rfl,rfl,rfl,.put (.put (.put .refl rfl) rfl) rfl,?_⟩;refine dY (fun z=>?_) (fun z=>?_)
      ·rw[z,if_pos rfl]at hs2;exact⟨.int q.2.2,_,.refl,.same _,O.get 0 rfl rfl,by rw[ae];exact pG hpl hpr,pre++[q],l,by refine rA e ?_;simp,rfl,by refine rA hs2 (rA ai ?_);rfl,HL.set 0 O.nd rfl rfl,O⟩
      ·rw[z,if_neg (by decide),bt]at hs2;exact⟨_,.refl,pre++[q],l,by refine rA e ?_;simp,rfl,by exact rA hs2 rfl,rfl,O⟩
   ·refine Dv fun pre q l e O=>?_;have hpr:pre.length<60:=by have:=congrArg bG e;rw[az,aF]at this;lia
    refine⟨_,rfl,rfl,rfl,.put (.put (.put .refl rfl) rfl) rfl,?_⟩;exact⟨.int q.1,_,.refl,.same _,O.get 0 rfl rfl,by rw[ae,ae];exact rC hpr,pre++[q],l,by refine rA e ?_;simp,rfl,by refine rA ai (rA ai ?_);rfl,HL.set 0 O.nd rfl rfl,O⟩
end
noncomputable def AN(n:Nat)(q:Wd×Int):Prop:=(q.1.leads=true->0<=q.2/\q.2<n)/\(q.1.leads=false->q.2=-1)
structure bM(ws:List (Wd×Int)):Prop where
 lo:4<=ws.length
 hi:ws.length<=15
 gl:∀q∈ws,AN ws.length q
 last:∀q,ws.getLast?=some q->q.1.falls=false
noncomputable def isW:Wd->Bool
 |.wide=>true
 |_=>false
noncomputable def B3(w:Wd):Int:=if isW w then 2 else 1
noncomputable def jR(ws:List (Wd×Int))(i:Nat):Int:=((ws.take i).map fun q=>B3 q.1).sum
noncomputable def dS(ws:List (Wd×Int))(i:Nat)(gl:Int):Int:=if decide (0<=gl)then jR ws gl.toNat-jR ws i-1 else 0
noncomputable def dM(w:Wd)(a away:Int):bq:=match w with
 |.branch=>oLt 4 a away|.mov=>iW 4 a|.jump=>zW away|.wide=>zX 4 a|.exit=>g8|.far=>Dg away
noncomputable def bd(ws:List (Wd×Int)):List bq:=ws.zipIdx.map fun q=>dM q.1.1 (q.2:Int) (dS ws q.2 q.1.2)
noncomputable def iz(ws:List (Wd×Int))(i:Nat):List V:=(aQ (i+1)).map fun j=>V.int (jR ws j)
theorem Do(w:Wd):decide (w.s=("wide":Str))=isW w:=by cases w <;> decide +kernel
theorem su{ws:List (Wd×Int)}{i:Nat}{w:Wd}{gl:Int}(h:ws[i]?=some (w,gl)):jR ws (i+1)=jR ws i+B3 w:=by
 unfold jR;refine rA aT (rA h (rA ai (rA eD ?_)));simp
theorem yb{ws:List (Wd×Int)}{i:Nat}:iz ws (i+1)=iz ws i++[.int (jR ws (i+1))]:=by
 unfold iz;refine rA ch (rA ai ?_);rfl
theorem qF{ws:List (Wd×Int)}{i:Nat}:(iz ws i).length=i+1:=by unfold iz;simp
theorem ya{ws:List (Wd×Int)}{i:Nat}:iz ws i=((aQ i).map fun j=>V.int (jR ws j))++[.int (jR ws i)]:=by
 unfold iz;refine rA ch (rA ai ?_);rfl
theorem uw{ws:List (Wd×Int)}{i j:Nat}(h:j<=i):(iz ws i)[j]?=some (.int (jR ws j)):=by
 unfold iz;refine rA ar (rA (bK (by exact kT h)) ?_);rfl
theorem vH{ws:List (Wd×Int)}{i:Nat}{w:Wd}{gl:Int}(h:ws[i]?=some (w,gl)):(bd ws).take (i+1)=(bd ws).take i++[dM w i (dS ws i gl)]:=by
 refine rA aT ?_
 congr 1
 unfold bd;refine rA ar (rA eK (rA h ?_));simp
theorem cF{ws:List (Wd×Int)}:(bd ws).length=ws.length:=by unfold bd;simp
theorem FM{x:V}(h:x∈[V.str "branch",.str "mov",.str "branch",.str "jump",.str "wide",.str "exit",.str "branch",.str "far"]):∃w:Wd,x=.str w.s:=by
 simp only[aA,cH,or_false]at h;rcases h with rfl|rfl|rfl|rfl|rfl|rfl|rfl|rfl
 ·exact⟨.branch,rfl⟩
 ·exact⟨.mov,rfl⟩
 ·exact⟨.branch,rfl⟩
 ·exact⟨.jump,rfl⟩
 ·exact⟨.wide,rfl⟩
 ·exact⟨.exit,rfl⟩
 ·exact⟨.branch,rfl⟩
 ·exact⟨.far,rfl⟩
theorem FL{x:V}(h:x∈[V.str "exit",.str "jump",.str "far"]):∃w:Wd,x=.str w.s/\w.falls=false:=by
 simp only[aA,cH,or_false]at h;rcases h with rfl|rfl|rfl
 ·exact⟨.exit,rfl,rfl⟩
 ·exact⟨.jump,rfl,rfl⟩
 ·exact⟨.far,rfl,rfl⟩
section
variable {g:GX}{k:Nat}{X:XP}{Q:VP}{H H':HH}{G:GC}
theorem wY{p L a:ah}{ks:List ah}{vs xs:List V}{cs:List Int}{t0 g0 t gg:Int}(P:tw H p L cs t0 g0)(O:cw (PH H p L t gg) ks)(i:Nat)(i1:ks[i]?=some a)(i2:vs[i]?=some (.lst xs))(hx:0<xs.length)(hx2:xs.length<1000)(t1:0<=t)(t2:t<100000)(g1:0<=gg)
  (h:∀x t' g',x∈xs->0<=t'->t'<=t+1->0<=g'->cw (PH H p L t' g') ks->Q x (HL (PH H p L t' g') ks vs)) (hk:20<=k):CT g.gc k (.ref 435) [.ref p,.ref a] (HL (PH H p L t gg) ks vs) Q X:=by
 refine gK (dcs:=[]) rfl (fun zz zz zz=>rfl) rfl ?_ (gG hk);refine VT.len (O.con i i1 i2) (by exact rC hx2) ?_;refine aE (s8 P O t1 t2 g1 (by exact qz hx) (by exact qz hx2) (fun d t' g' a b c d' O2=>?_) (dn hk));have hd:d<xs.length:=by exact jz a
 refine bT (O2.con i i1 i2) (ac hd) (by exact lC (jz a) hx2) ?_;exact dO (h _ t' g' (cS hd) b c d' O2)
end
section
variable {g:GX}{k:Nat}{X:XP}{Q:VP}{H H':HH}{G:GC}
noncomputable def kTp2(sc:Sc)(keys:List (Option Expr))(vals:List Expr)(m:Mm)(Q:List (V×V)->HH->Prop)(X:XP)(a b:V)(H2:HH):Prop:=xl G k sc keys vals ⟨m,H2⟩ (fun ps H3=>Q ((a,b)::ps) H3) X
noncomputable def kTp(ih:Tk->Prop)(sc:Sc)(val:Expr)(keys:List (Option Expr))(vals:List Expr)(m:Mm)(Q:List (V×V)->HH->Prop)(X:XP)(a:V)(H1:HH):Prop:=ih (.E sc X val ⟨m,H1⟩ (kTp2 (G:=G) (k:=k) sc keys vals m Q X a))
theorem Dz{key val:Expr}{keys:List (Option Expr)}{vals:List Expr}{sc:Sc}{m:Mm}{H:HH}{Q:List (V×V)->HH->Prop}
  (h:vc g.gc g.tab k 50 (.E sc X key ⟨m,H⟩ (kTp (G:=g.gc) (k:=k) (vc g.gc g.tab k 50) sc val keys vals m Q X))) (hk3:3<=k):xl g.gc k sc (some key::keys) (val::vals) ⟨m,H⟩ Q X :=
 xl.cons (TE.imp (vc.ok (t:=.E _ _ _ _ _) hk3 50 h) fun a H1 h1=>TE.imp (vc.ok (t:=.E _ _ _ _ _) hk3 50 h1) fun b H2 h2=>h2)
theorem zk{a b c:Int}(e:a-b=c)(h:Q (.int c) H):xt G k X .Sub Q (.int a) (.int b) H:=by rw[←e]at h;exact h
theorem Fn{T:Dr G}{n u:Nat}{pos:Pos}{sc:Sc}{m:Mm}{op:oM}{a:V}{i:Int}(h:xt G k X op Q a (.int i) H):Fk G k (Nat.rec (motive:=fun zz=>Tk->Prop) (fun zz=>False) (fun zz ih=>step G T k ih) (n+1)) sc X op (.Constant (.int i) u pos) m Q a H:=h
theorem CW{T:Dr G}{n u:Nat}{pos:Pos}{sc:Sc}{m:Mm}{i c:Int}(e:i=c)(h:Q (.int c) H):Nat.rec (motive:=fun zz=>Tk->Prop) (fun zz=>False) (fun zz ih=>step G T k ih) (n+1) (Tk.E sc X (.Constant (.int i) u pos) ⟨m,H⟩ Q):=by rw[←e]at h;exact h
noncomputable def ka(a away:Int):List (Str×V):=[("branch",cM (oLt 4 a away)),("mov",cM (iW 4 a)),("jump",cM (zW away)),("wide",cM (zX 4 a)),("exit",cM g8),("far",cM (Dg away))]
theorem zx{a away:Int}:((ka a away).map (·.1)).Nodup:=by
 have:(ka a away).map (·.1)=([("branch":Str),"mov","jump","wide","exit","far"]:List Str):=rfl;refine rA this ?_;decide +kernel
theorem vg{w:Wd}{a away:Int}:dF (ka a away) w.s=some (cM (dM w a away)):=by
 cases w <;> rfl
noncomputable abbrev E1(H:HH)(p:ah)(L:ah)(t1:Int)(n:Nat):ah->List V->List V->HH->Prop:=fun D r acc H'=>X3 fun(wl:List Wd) (t2 g2:Int)=>A8 (acc=wl.map (fun w=>V.str w.s)) (r=br wl.length n) (wl.length<=n) (0<=t2) (t2<=t1+wl.length) (0<=g2) (H'=HL (PH H p L t2 g2) [D] [.lst acc]) (cw (PH H p L t2 g2) [D])
noncomputable abbrev E2(H:HH)(p:ah)(L:ah)(t3:Int)(vl:List Wd):ah->List V->List V->HH->Prop:=fun D r acc H'=>X3 fun(ws:List (Wd×Int)) (t4 g4:Int)=>A10 (ws.length<=vl.length) (ws.map (·.1)=vl.take ws.length) (∀q∈ws,AN vl.length q) (r=(vl.map fun w=>V.str w.s).drop ws.length) (acc=(ws.map fun q=>V.int q.2)) (0<=t4) (t4<=t3+ws.length) (0<=g4) (H'=HL (PH H p L t4 g4) [D] [.lst acc]) (cw (PH H p L t4 g4) [D])
noncomputable abbrev Cg(p:ah)(ws:List (Wd×Int))(S:ah):List (Str×V):=[("pen",.ref p),("words",AF ws),("goals",ym ws),("slots",.ref S)]
noncomputable abbrev E3(H:HH)(p:ah)(L:ah)(ws:List (Wd×Int))(t4:Int)(g4:Int)(S:ah):List V->St->Prop:=fun r σ=>X1 fun(i:Nat)=>A3 (i<=ws.length) (r=(ws.map fun q=>V.str q.1.s).drop i) (σ=⟨Cg p ws S,HL (PH H p L t4 g4) [S] [.lst (iz ws i)]⟩)
noncomputable abbrev yF(p:ah)(ws:List (Wd×Int))(R:ah):List (Str×V):=[("pen",.ref p),("words",AF ws),("goals",ym ws),("slots",.lst (iz ws ws.length)),("orders",.ref R)]
noncomputable abbrev E4(H:HH)(p:ah)(L:ah)(ws:List (Wd×Int))(t4:Int)(g4:Int)(R:ah):List V->St->Prop:=fun r σ=>X1 fun(i:Nat)=>A3 (i<=ws.length) (r=oz (ws.map fun q=>V.str q.1.s) i) (σ=⟨yF p ws R,HL (PH H p L t4 g4) [R] [.lst (((bd ws).take i).map cM)]⟩)
noncomputable abbrev E5(p:ah)(vl:List Wd):List (Str×V):=[("pen",.ref p),("words",.lst (vl.map fun w=>V.str w.s))]
set_option tactic.hygienic true in
theorem BR{p L:ah}{cs:List Int}{t gg:Int}(P:tw H p L cs t gg)(ht:t<90000)
  (h:∀ws t' g',bM ws->Q (.tup [fx (bd ws),AF ws,ym ws]) (PH H p L t' g')) (hk:50<=k):CT g.gc k (.ref 484) [.ref p] H Q X:=by
 have pt:=P.t0;have pg:=P.g0;refine gK (dcs:=[]) rfl (fun zz zz=>rfl) rfl ?_ (gG hk);refine wk (fun env e=>by cases env;cases e;rfl) ?_ (dn hk);refine aE (lR P (by decide) (by decide) (by exact BD ht) (fun d t1 g1 d0 d1 a1 a2 a3=>?_) (dn hk));refine ex (fh d0) fun dn' FW=>?_;subst FW;obtain⟨n,hn⟩:∃n:Nat,(3:Int)+(dn':Nat)=n:=⟨3+dn',by push_cast;rfl⟩;have hn2:3<=n/\n<=14:=by exact⟨L2 (Sb (Pz (Kz 3) C0) C1 (Gn (Kn 3) N1)) rfl hn,L2 (Sa (Pz C0 (Kz 1)) (Kz 12) (Sd (Pz (Kz 3) C0) C1 (Gn N1 (Kn 14)))) rfl d1 hn⟩
 refine ct (by exact AK (L1 (Gz (Kz 0) (Pz (Kz 3) C0)) rfl) (L1 (Sa (Pz C0 (Kz 1)) (Kz 12) (Gz (Pz (Pz (Kz 3) C0) (Kz 1)) (Cz (Kn (2^62))))) rfl d1)) ?_;refine⟨E1 H p L t1 n,fun D hD=>⟨⟨[],t1,g1,rfl,by refine rA hn ?_;rfl,aH _,a1,by simp,a3,rfl,cw.push (vs:=[]) cw.nil hD⟩,?_,?_⟩⟩
 ·rintro acc H' ⟨wl,t2,g2,rfl,hr,hw,b1,b2,b3,rfl,O⟩;have hwl:=fy hw hr;refine⟨_,MT.append (O.con 0 rfl rfl),trivial,?_⟩;intro W hW;have O2:=O.push (vs:=[.lst (wl.map fun w=>V.str w.s)]) hW;refine sO (aE (wY (xs:=[V.str "exit",.str "jump",.str "far"]) (vs:=[.lst [V.str "exit",.str "jump",.str "far"],.lst (wl.map fun w=>V.str w.s)]) P O2 0 rfl rfl (by decide) (by decide) b1 (by exact Lz [_,_,_] [_,_,_] (Sa (Pz Z0 (Kz 1)) (Kz 90000) (Sa Z1 (Pz Z0 (Kz 1)) (Sa (Pz C0 (Kz 1)) (Kz 12) (Sd (Pz (Kz 3) C0) C1 (Sa (Xz 2) (Pz Z1 C2) (Rb N2 N1 (Gz (Pz (Xz 2) (Kz 1)) (Kz 100000)))))))) rfl ht a2 d1 hn b2 hwl) b3 (fun x t3 g3 hx c1 c2 c3 O3=>?_) (dn hk)));refine bx (FL hx) fun w FY hwf=>?_;subst FY;have O4:cw (PH H p L t3 g3) [D]:=⟨by simp,fun a ha=>O3.fr a (.tail _ ha)⟩;refine⟨.str w.s,HL (PH H p L t3 g3) [D] [.lst (wl.map fun w=>V.str w.s)],O3.drop1,.same _,?_⟩;refine gA (xs:=wl.map fun w=>V.str w.s) O4 0 rfl rfl (by rw[ae];exact L3 (Sa (Pz C0 (Kz 1)) (Kz 12) (Sd (Pz (Kz 3) C0) C1 (Rb N2 N1 (Gn M2 (Kn 1000000))))) rfl d1 hn hwl) ?_;have e1:[V.lst (wl.map fun w=>V.str w.s)].set 0 (.lst ((wl.map fun w=>V.str w.s)++[.str w.s]))=[.lst ((wl++[w]).map fun w=>V.str w.s)]:=by refine rA ai ?_;rfl
  refine rA e1 ?_;have hvl:(wl++[w]).length=n+1:=by simp;exact hwl
  have hlast:∀u,(wl++[w]).getLast?=some u->u.falls=false:=fun u hu=>by simp at hu;subst hu;exact hwf
  generalize wl++[w]=vl at hvl hlast ⊢;clear e1 hwl hr O O2 O3 hW hx;refine TS.weak (σ':=⟨E5 p vl,PH H p L t3 g3⟩) ?_ (Ba (fun env e=>by cases env;cases e;rfl) ?_ (dn hk))
  ·exact .of (cw.sub O4.fr O4.nd) ⟨⟨_,rfl,.same _⟩,⟨_,rfl,O4.rfy (vs:=[.lst (vl.map fun w=>V.str w.s)]) 0 rfl rfl (.same _)⟩,trivial⟩
  refine⟨E2 H p L t3 vl,fun D hD=>⟨⟨[],t3,g3,aH _,rfl,(fun zz h=>nomatch h),rfl,rfl,c1,by simp,c3,rfl,cw.push (vs:=[]) cw.nil hD⟩,?_,?_⟩⟩
  ·rintro acc H' ⟨ws,t4,g4,h1,h2,h3,hr,rfl,b1',b2',b3',rfl,O⟩;have hl2:=pF (by rw[ae];exact h1) hr;rw[ae]at hl2;rw[hl2,cz]at h2;have F:bM ws:=⟨by exact L4 (Sb (Pz (Kz 3) C0) C1 (Rc N2 M1 (Rc N3 N2 (Gn (Kn 4) N3)))) rfl hn hvl hl2,by exact L4 (Sa (Pz C0 (Kz 1)) (Kz 12) (Sd (Pz (Kz 3) C0) C1 (Rb N2 M1 (Rb N3 N2 (Gn N3 (Kn 15)))))) rfl d1 hn hvl hl2,fun q hq=>hl2▸h3 q hq,fun q hq=>hlast _ (by refine rB h2 (rA List.getLast?_map (rA hq ?_));rfl)⟩;have hwv:V.lst (vl.map fun w=>V.str w.s)=AF ws:=by refine rB h2 ?_;unfold AF;refine rA bz ?_;rfl
   have hwl:ws.length<=15:=F.hi;have h:=h ws;clear hlast hr h1 h2 h3 hl2 hvl;intro S hS;have hS:HL (PH H p L t4 g4) [D] [ym ws] S=none:=hS;have O2:=O.push hS;have OS:cw (PH H p L t4 g4) [S]:=⟨by simp,fun a ha=>O2.fr a (by simp at ha ⊢;exact .inl ha)⟩;have hD:∀v,HL (PH H p L t4 g4) [S] [v] D=none:=fun v=>(bE fun z=>by have:=O2.nd;simp at this;exact this z.symm).trans (O2.fr D (by simp));refine⟨⟨Cg p ws S,HL (PH H p L t4 g4) [S] [.lst (iz ws 0)]⟩,.of (lJ (k1:=[S]) (k2:=[D]) (v1:=[.lst (iz ws 0)]) (v2:=[ym ws]) O2 rfl) ⟨⟨_,rfl,.same _⟩,⟨_,rfl,hwv▸.same _⟩,⟨_,rfl,.ref (O2.get (vs:=[.lst (iz ws 0),ym ws]) 1 rfl rfl) (hD _) (.same _) rfl⟩,⟨_,rfl,.same _⟩,trivial⟩,?_⟩;refine⟨E3 H p L ws t4 g4 S,⟨0,aH _,rfl,rfl⟩,?_,?_⟩
   ·refine kj fun i hi hr=>?_;have hie:=pF (by rw[ae];exact hi) hr;rw[ae]at hie;subst hie;intro R hR;have hR:HL (PH H p L t4 g4) [S] [.lst (iz ws ws.length)] R=none:=hR;have O3:=OS.push hR;have OR:cw (PH H p L t4 g4) [R]:=⟨by simp,fun a ha=>O3.fr a (by simp at ha ⊢;exact .inl ha)⟩;have hS2:∀v,HL (PH H p L t4 g4) [R] [v] S=none:=fun v=>(bE fun z=>by have:=O3.nd;simp at this;exact this z.symm).trans (O3.fr S (by simp));refine⟨⟨yF p ws R,HL (PH H p L t4 g4) [R] [.lst []]⟩,.of (lJ (k1:=[R]) (k2:=[S]) (v1:=[.lst []]) (v2:=[.lst (iz ws ws.length)]) O3 rfl) ⟨⟨_,rfl,.same _⟩,⟨_,rfl,.same _⟩,⟨_,rfl,.same _⟩,⟨_,rfl,.ref (O3.get (vs:=[.lst [],.lst (iz ws ws.length)]) 1 rfl rfl) (hS2 _) (.same _) rfl⟩,⟨_,rfl,.same _⟩,trivial⟩,?_⟩;refine⟨rfl,_,rfl,?_⟩;refine⟨E4 H p L ws t4 g4 R,⟨0,aH _,rfl,rfl⟩,?_,?_⟩
    ·refine kj fun i hi hr=>?_;have hie:=qj (by rw[ae];exact hi) hr;rw[ae]at hie;subst hie;have e9:(bd ws).take ws.length=bd ws:=by exact rB (cF (ws:=ws)) (rA cz rfl)
     refine rA e9 ?_;exact ut (vs:=[fx (bd ws)]) OR (.tup (.cons (OR.rfy (vs:=[fx (bd ws)]) 0 rfl rfl (.same _)) (.cons (.same _) (.cons (.same _) .nil)))) (h t4 g4 F)
    ·intro v r;refine kj fun i hi hr=>?_;refine kZ (nV hr) fun x hx FZ F7 hi=>?_;subst FZ;subst F7;rw[ae]at hi;have ho:=ac hi;have hgl:=F.gl _ (cS hi);generalize ws[i]=q at ho hgl;obtain⟨w,gl⟩:=q;rw[ar,ho]at hx;obtain rfl:=aj hx;have hos:=vH ho;have hg:(ws.map fun q=>V.int q.2)[i]?=some (.int gl):=by refine rA ar (rA ho ?_);rfl
     have hol:=List.length_take_le i (bd ws);refine⟨_,rfl,rfl,rfl,?_⟩;refine bT (j:=i) (x:=.int gl) rfl hg (by exact Dx hi hwl) ?_;have haw:dS ws i gl=if decide (0<=gl)then jR ws gl.toNat-jR ws i-1 else 0:=rfl
     have f1:decide (0<=gl)=true->0<=gl/\gl.toNat<=ws.length/\gl<2^62:=fun q=>by
      have q':0<=gl:=of_decide_eq_true q;cases hw:w.leads with
      |true=>have:=(hgl.1 hw).2;dsimp only at this;exact⟨Lz [] [_] (Sa (Kz 0) Z0 (Gz (Kz 0) Z0)) rfl (of_decide_eq_true q),⟨Lz [_,_] [_] (Sa (Pz Z0 (Kz 1)) C0 (Sb C1 Z0 (Gn N1 N0))) rfl this (aY (Lz [] [_] (Sa (Kz 0) Z0 (Gz (Kz 0) Z0)) rfl (of_decide_eq_true q))),Lz [_] [_] (Ra N0 (Kn 15) (Sa (Pz Z0 (Kz 1)) C0 (Gz (Pz Z0 (Kz 1)) (Kz (2^62))))) rfl hwl this⟩⟩
      |false=>have:=hgl.2 hw;dsimp only at this;exact⟨Lz [] [_] (Sa (Kz 0) Z0 (Gz (Kz 0) Z0)) rfl (of_decide_eq_true q),⟨Lz [_,_] [_] (Sb Z0 (Mz (Kz 0) (Kz 1)) (Sb C0 Z0 (Gn N0 N1))) rfl this (aY (Lz [] [_] (Sa (Kz 0) Z0 (Gz (Kz 0) Z0)) rfl (of_decide_eq_true q))),Lz [] [_] (Sb Z0 (Mz (Kz 0) (Kz 1)) (Gz (Pz Z0 (Kz 1)) (Kz (2^62)))) rfl this⟩⟩
     have f2:i<1000000:=by exact Dx hi hwl
     have f3:i<=ws.length:=by exact L2 (Ra M0 N1 (Gn N0 N1)) rfl hi
     have f4:decide (0<=gl)=true->jR ws gl.toNat-jR ws i-1=dS ws i gl:=fun q=>by exact rA haw (rA q (rA (if_pos rfl) rfl))
     have f5:decide (0<=gl)=false->0=dS ws i gl:=fun q=>by exact rA haw (rA q (rA (if_neg (by decide)) rfl))
     apply wB
     case h1=>
      intro q m;refine bT (j:=i) (x:=.int gl) rfl hg f2 ?_;refine i9 (i:=gl) (x:=.int (jR ws gl.toNat)) rfl (f1 q).1 (uw (f1 q).2.1) (f1 q).2.2 ?_;refine bT (j:=i) (x:=.int (jR ws i)) rfl (uw f3) f2 ?_;refine zk rfl ?_;refine Fn (T:=g.tab) (n:=87) ?_;refine zk (f4 q) ?_;exact m
     case h2=>
      intro q m;refine CW (G:=g.gc) (T:=g.tab) (n:=88) (k:=k-1) (f5 q) ?_;exact m
     case m=>
      refine⟨_,MT.append (OR.con 0 rfl rfl),trivial,?_⟩;refine yM (fun a ha=>?_);have ha:HL (PH H p L t4 g4) [R] [.lst (((bd ws).take i).map cM)] a=none:=ha;have O5:=OR.push ha;refine Dz ?_ (dn hk);refine aE (rI ?_ (dn hk));refine Dz ?_ (dn hk);refine aE (qH ?_ (dn hk));refine Dz ?_ (dn hk);refine aE (BS ?_ (dn hk));refine Dz ?_ (dn hk);refine aE (BW (w:=i) (by exact Dx hi hwl) ?_ (dn hk));refine Dz ?_ (dn hk);refine aE (uC ?_ (dn hk));refine Dz ?_ (dn hk);refine aE (uz ?_ (dn hk));refine xl.nil ⟨ka i (dS ws i gl),rfl,zx,aw,?_⟩;refine yX (xs:=ka i (dS ws i gl)) (x:=cM (dM w i (dS ws i gl))) (bv aw) vg ?_;have e2:upd (upd (HL (PH H p L t4 g4) [R] [.lst (((bd ws).take i).map cM)]) a (.dct [])) a (.sdct (ka i (dS ws i gl)))=HL (PH H p L t4 g4) [a,R] [.sdct (ka i (dS ws i gl)),.lst (((bd ws).take i).map cM)]:=eU;have eh:=O5.get (vs:=[.sdct (ka i (dS ws i gl)),.lst (((bd ws).take i).map cM)]) 1 rfl rfl;refine VT.append (xs:=((bd ws).take i).map cM) ?_ (by rw[ae];exact bU hol f2) ?_
      ·show upd (upd (HL (PH H p L t4 g4) [R] [.lst (((bd ws).take i).map cM)]) a (.dct [])) a (.sdct (ka i (dS ws i gl))) R=_;refine rA e2 ?_;exact eh
      ·have e3:((bd ws).take i).map cM++[cM (dM w i (dS ws i gl))]=((bd ws).take (i+1)).map cM:=by refine rA hos (rA ai ?_);rfl
       have e4:upd (upd (upd (HL (PH H p L t4 g4) [R] [.lst (((bd ws).take i).map cM)]) a (.dct [])) a (.sdct (ka i (dS ws i gl)))) R (.lst (((bd ws).take i).map cM++[cM (dM w i (dS ws i gl))]))=HL (PH H p L t4 g4) [a,R] [.sdct (ka i (dS ws i gl)),.lst (((bd ws).take (i+1)).map cM)]:=by
        refine rA e2 (rA e3 ?_);exact HL.set (vs:=[.sdct (ka i (dS ws i gl)),.lst (((bd ws).take i).map cM)]) 1 O5.nd rfl rfl
       refine⟨⟨yF p ws R,HL (PH H p L t4 g4) [R] [.lst (((bd ws).take (i+1)).map cM)]⟩,.of ?_ ⟨⟨_,rfl,.same _⟩,⟨_,rfl,.same _⟩,⟨_,rfl,.same _⟩,⟨_,rfl,.same _⟩,⟨_,rfl,.same _⟩,trivial⟩,i+1,hi,rfl,rfl⟩;show Sub _ (upd (upd (upd (HL (PH H p L t4 g4) [R] [.lst (((bd ws).take i).map cM)]) a (.dct [])) a (.sdct (ka i (dS ws i gl)))) R (.lst (((bd ws).take i).map cM++[cM (dM w i (dS ws i gl))])));refine rA e4 ?_;exact O5.drop1
   ·intro v r;refine kj fun i hi hr=>?_;refine jc (lz hr) fun hv F8 hi=>?_;subst F8;rw[ae]at hi;have ho:=ac hi;generalize ws[i]=q at ho;obtain⟨w,gl⟩:=q;rw[ar,ho]at hv;obtain rfl:=aj hv;have hs:=su ho;unfold B3 at hs;rw[←Do]at hs;have hsl:=yb (ws:=ws) (i:=i);refine⟨_,MT.append (OS.con 0 rfl rfl),trivial,?_⟩;refine pZ (xs:=iz ws i) (x:=.int (jR ws i)) (OS.con 0 rfl rfl) (by decide) (by refine rA qF ?_;lia) (by refine rA ya ?_;exact qq) (by decide) ?_;refine dY (fun q=>?_) (fun q=>?_)
    ·rw[q,if_pos rfl]at hs;refine gA (xs:=iz ws i) OS 0 rfl rfl (by refine rA qF ?_;exact L2 (Ra N0 (Kn 15) (Ra M1 N0 (Gn (Pn M1 (Kn 1)) (Kn 1000000)))) rfl hwl hi) ?_;have e2:[V.lst (iz ws i)].set 0 (.lst (iz ws i++[.int (jR ws i+2)]))=[.lst (iz ws (i+1))]:=by refine rA hsl (rA hs ?_);rfl
     refine rA e2 ?_;refine⟨_,?_,i+1,hi,rfl,rfl⟩;exact ci 4
    ·rw[q,if_neg (by decide)]at hs;refine gA (xs:=iz ws i) OS 0 rfl rfl (by refine rA qF ?_;exact L2 (Ra N0 (Kn 15) (Ra M1 N0 (Gn (Pn M1 (Kn 1)) (Kn 1000000)))) rfl hwl hi) ?_;have e2:[V.lst (iz ws i)].set 0 (.lst (iz ws i++[.int (jR ws i+1)]))=[.lst (iz ws (i+1))]:=by refine rA hsl (rA hs ?_);rfl
     refine rA e2 ?_;refine⟨_,?_,i+1,hi,rfl,rfl⟩;exact ci 4
  ·rintro v r acc H' ⟨ws,t4,g4,h1,h2,h3,hr,rfl,b1',b2',b3',rfl,O⟩;refine jc (lz hr) fun hv F9 hi=>?_;subst F9;rw[ae]at hi;rw[ar,ac hi]at hv;obtain rfl:=aj hv;have htk:vl.take (ws.length+1)=vl.take ws.length++[vl[ws.length]]:=by refine rA aT (rA (ac hi) ?_);rfl
   generalize vl[ws.length]=w at htk ⊢;refine⟨.put .refl rfl,?_⟩;refine u3 ?_;have next:∀gl:Int,AN vl.length (w,gl)->(ws++[(w,gl)]).length<=vl.length/\(ws++[(w,gl)]).map (·.1)=vl.take (ws++[(w,gl)]).length/\(∀q∈ws++[(w,gl)],AN vl.length q):=fun gl hg=>by
    refine rA az (rA b9 ?_);refine⟨hi,by refine rA htk (rA ai (rA h2 ?_));rfl,fun q hq=>(ak.mp hq).elim (h3 q) fun z=>by refine rA (ag.mp z) ?_;exact hg⟩
   refine dY (fun q=>?_) (fun q=>?_)
   ·refine eZ (n:=vl.length) rfl (ae _) (by exact L3 (Sa (Pz C0 (Kz 1)) (Kz 12) (Sd (Pz (Kz 3) C0) C1 (Rb N2 M1 (Gn M2 (Kn 1000000))))) rfl d1 hn hvl) ?_;refine aE (s8 P O b1' (by exact Lz [_,_,_,_,_] [_,_,_,_,_] (Sa Z0 (Pz Z1 C0) (Ra M0 N1 (Rb N1 M2 (Sd (Pz (Kz 3) (Cz N3)) C2 (Sa (Pz (Cz N3) (Kz 1)) (Kz 12) (Sa Z1 (Pz (Xz 2) (Kz 1)) (Sa (Xz 2) (Pz (Xz 3) (Cz (Xn 4))) (Ra (Xn 4) N2 (Sd (Pz (Kz 3) (Cz N3)) C2 (Sa (Pz (Cz N3) (Kz 1)) (Kz 12) (Sa (Xz 3) (Pz (Xz 4) (Kz 1)) (Sa (Pz (Xz 4) (Kz 1)) (Kz 90000) (Gz (Pz Z0 (Kz 1)) (Kz 100000)))))))))))))) rfl b2' hi hvl hn d1 c2 b2 hw hn d1 a2 ht) b3' (by exact L2 (Rc N0 M1 (Gz (Pz (Kz 0) (Kz 1)) C0)) rfl hvl) (by exact L3 (Sa (Pz C0 (Kz 1)) (Kz 12) (Sd (Pz (Kz 3) C0) C1 (Rb N2 M1 (Gz (Pz C2 (Kz 1)) (Kz 1000))))) rfl d1 hn hvl) (fun d t5 g5 d1 e1 e2 e3 O5=>?_) (dn hk));refine jc (next (d:Int) ⟨fun zz=>⟨by dsimp only;exact xU,by dsimp only;exact d1⟩,fun z=>by rw[show w.leads=true from q]at z;exact nB z.symm⟩) fun n1 n2 n3=>?_;exact⟨.int d,_,.refl,.same _,O5.get 0 rfl rfl,by rw[ae];(rename_i Ga Gb Gc Gd;exact L4 (Sa (Pz C0 (Kz 1)) (Kz 12) (Sd (Pz (Kz 3) C0) C1 (Rb N2 M1 (Ra (Pn N3 (Kn 1)) N2 (Gn (Pn N3 (Kn 1)) (Kn 1000000)))))) rfl Ga hn hvl hi),ws++[(w,(d:Int))],t5,g5,n1,n2,n3,by exact rA az (rA b9 rfl),by refine rA ai ?_;rfl,e1,by refine rA az (rA b9 ?_);push_cast;exact Dj e2 b2',e3,HL.set 0 O5.nd rfl rfl,O5⟩
   ·refine jc (next (-1) ⟨fun z=>absurd z (by refine rA (show w.leads=false from q) ?_;decide),fun zz=>rfl⟩) fun n1 n2 n3=>?_;exact⟨.int (-1),_,.refl,.same _,O.get 0 rfl rfl,by rw[ae];exact L4 (Sa (Pz C0 (Kz 1)) (Kz 12) (Sd (Pz (Kz 3) C0) C1 (Rb N2 M1 (Ra (Pn N3 (Kn 1)) N2 (Gn (Pn N3 (Kn 1)) (Kn 1000000)))))) rfl d1 hn hvl hi,ws++[(w,-1)],t4,g4,n1,n2,n3,by exact rA az (rA b9 rfl),by refine rA ai ?_;rfl,b1',by refine rA az (rA b9 ?_);push_cast;exact Lz [_] [_,_] (Sa Z0 (Pz Z1 C0) (Gz Z0 (Pz Z1 (Pz C0 (Kz 1))))) rfl b2',b3',HL.set 0 O.nd rfl rfl,O⟩
 ·rintro v r acc H' ⟨wl,t2,g2,rfl,hr,hw,b1,b2,b3,rfl,O⟩;refine jc (er hw hr) fun hi Ge Gf=>?_;subst Ge;subst Gf;refine⟨.put .refl rfl,?_⟩;intro W hW;have O2:=O.push (vs:=[.lst (wl.map fun w=>V.str w.s)]) hW;refine aE (wY (xs:=[V.str "branch",.str "mov",.str "branch",.str "jump",.str "wide",.str "exit",.str "branch",.str "far"]) (vs:=[.lst [V.str "branch",.str "mov",.str "branch",.str "jump",.str "wide",.str "exit",.str "branch",.str "far"],.lst (wl.map fun w=>V.str w.s)]) P O2 0 rfl rfl (by decide) (by decide) b1 (by exact Lz [_,_,_] [_,_,_] (Sa (Pz Z0 (Kz 1)) (Kz 90000) (Sa Z1 (Pz Z0 (Kz 1)) (Sa (Pz C0 (Kz 1)) (Kz 12) (Sd (Pz (Kz 3) C0) C1 (Sa (Xz 2) (Pz Z1 C2) (Ra M2 N1 (Gz (Pz (Xz 2) (Kz 1)) (Kz 100000)))))))) rfl ht a2 d1 hn b2 hi) b3 (fun x t3 g3 hx c1 c2 c3 O3=>?_) (dn hk));refine ex (FM hx) fun w Gg=>?_;subst Gg;have O4:cw (PH H p L t3 g3) [D]:=⟨by simp,fun a ha=>O3.fr a (.tail _ ha)⟩;exact⟨.str w.s,HL (PH H p L t3 g3) [D] [.lst (wl.map fun w=>V.str w.s)],O3.drop1,.same _,O4.get 0 rfl rfl,by rw[ae];exact L3 (Sa (Pz C0 (Kz 1)) (Kz 12) (Sd (Pz (Kz 3) C0) C1 (Ra M2 N1 (Gn M2 (Kn 1000000))))) rfl d1 hn hi,wl++[w],t3,g3,by refine rA ai ?_;rfl,by exact rA az (rA b9 rfl),by refine rA az (rA b9 ?_);exact l9 (jy hi),c1,by refine rA az (rA b9 ?_);push_cast;exact Dj c2 b2,c3,HL.set 0 O4.nd rfl rfl,O4⟩
end
noncomputable def zI:Wd->Bool
 |.jump|.far=>true
 |_=>false
noncomputable def AJ:Wd->Bool
 |.exit=>true
 |_=>false
noncomputable def zG:Wd->Bool
 |.branch=>true
 |_=>false
theorem ia(w:Wd)(a x:Int):gF (dM w a x)=isW w/\cI (dM w a x)=zI w/\bN (dM w a x)=zG w/\dZ (dM w a x)=AJ w/\bD (dM w a x)=false:=by
 cases w
 ·have h:gF (dM .branch 0 0)=false/\cI (dM .branch 0 0)=false/\bN (dM .branch 0 0)=true/\dZ (dM .branch 0 0)=false/\bD (dM .branch 0 0)=false:=by decide +kernel
  exact h
 ·have h:gF (dM .mov 0 0)=false/\cI (dM .mov 0 0)=false/\bN (dM .mov 0 0)=false/\dZ (dM .mov 0 0)=false/\bD (dM .mov 0 0)=false:=by decide +kernel
  exact h
 ·have h:gF (dM .jump 0 0)=false/\cI (dM .jump 0 0)=true/\bN (dM .jump 0 0)=false/\dZ (dM .jump 0 0)=false/\bD (dM .jump 0 0)=false:=by decide +kernel
  exact h
 ·have h:gF (dM .wide 0 0)=true/\cI (dM .wide 0 0)=false/\bN (dM .wide 0 0)=false/\dZ (dM .wide 0 0)=false/\bD (dM .wide 0 0)=false:=by decide +kernel
  exact h
 ·have h:gF (dM .exit 0 0)=false/\cI (dM .exit 0 0)=false/\bN (dM .exit 0 0)=false/\dZ (dM .exit 0 0)=true/\bD (dM .exit 0 0)=false:=by decide +kernel
  exact h
 ·have h:gF (dM .far 0 0)=false/\cI (dM .far 0 0)=true/\bN (dM .far 0 0)=false/\dZ (dM .far 0 0)=false/\bD (dM .far 0 0)=false:=by decide +kernel
  exact h
theorem xT{w:Wd}{a x:Int}(h:w.leads=true):zy (dM w a x)=x:=by
 cases w <;> first|rfl|exact nB h
section
variable {ws:List (Wd×Int)}
theorem qy{i:Nat}{w:Wd}{gl:Int}(h:ws[i]?=some (w,gl)):(bd ws)[i]?=some (dM w i (dS ws i gl)):=by
 unfold bd;refine rA ar (rA eK (rA h ?_));simp
theorem jf{i:Nat}{o:bq}(h:(bd ws)[i]?=some o):∃w gl,ws[i]?=some (w,gl)/\o=dM w i (dS ws i gl):=by
 have hi:=(au.mp h).1;rw[cF]at hi;have e:=qy (ac hi);exact⟨_,_,ac hi,aj (h.symm.trans e)⟩
theorem Cw:∀{i:Nat},i<=ws.length->cQ (bd ws) i=jR ws i:=by
 intro i
 induction i with
 |zero=>intro _;simp[cQ,jR]
 |succ i ih=>
  intro h;have e:=ac (show i<ws.length from h);refine rA (jI (qy e)) (rA (su e) (rA (ih (by exact iy h)) ?_));unfold B1 B3;exact rA ((ia _ _ _).1) rfl
theorem bM.gl'(F:bM ws){i:Nat}{w:Wd}{gl:Int}(h:ws[i]?=some (w,gl))(hl:w.leads=true):∃t:Nat,gl=t/\t<ws.length:=by
 have:=(F.gl _ (aS h)).1 hl;dsimp only at this;exact⟨gl.toNat,by exact bi (Lz [_] [_] (Sa Z0 C0 (Gz Z0 C0)) rfl wJ) (Lz [_] [_] (Sb C0 Z0 (Gz C0 Z0)) rfl (aY (Lz [] [_] (Sa (Kz 0) Z0 (Gz (Kz 0) Z0)) rfl this.1))),by exact Lz [_,_] [_] (Sa (Pz Z0 (Kz 1)) C0 (Sb C1 Z0 (Gn M1 N0))) rfl this.2 (aY (Lz [] [_] (Sa (Kz 0) Z0 (Gz (Kz 0) Z0)) rfl this.1))⟩
theorem bM.gn(F:bM ws){i:Nat}{w:Wd}{gl:Int}(h:ws[i]?=some (w,gl))(hl:w.leads=false):gl=-1:=(F.gl _ (aS h)).2 hl
theorem bM.falls(F:bM ws){i:Nat}{w:Wd}{gl:Int}(h:ws[i]?=some (w,gl))(hf:w.falls=true):i+1<ws.length:=by
 have hi:=(au.mp h).1;apply aG;intro q;have:ws.getLast?=some (w,gl):=by exact rA List.getLast?_eq_getElem? (rA (show ws.length-1=i by exact ao (L3 (Rd (Pn M0 (Kn 1)) N1 (Rb M2 N1 (Gn N2 N0))) rfl q (iE (L2 (Ra M0 N1 (Gn (Kn 1) N1)) rfl hi))) (L3 (Ra M0 N1 (Ra N1 M2 (Gn N0 N2))) rfl hi jF)) (rA h rfl))
 have:=F.last _ this;dsimp only at this;rw[hf]at this;exact nB this.symm
theorem bM.tgt(F:bM ws){i t:Nat}{w:Wd}(h:ws[i]?=some (w,(t:Int)))(hl:w.leads=true)(ht:t<ws.length):Internal.tgt (bd ws) i (dM w i (dS ws i t))=some t:=by
 have hi:=(au.mp h).1;have hol:=cF (ws:=ws);have hg:o6 (bd ws) i (dM w i (dS ws i t))=cQ (bd ws) t:=by
  unfold o6;refine rA (xT hl) (rA (Cw (by exact bn hi)) (rA (Cw (by exact bn ht)) ?_));unfold dS;rw[if_pos (by simp),bw];exact bi (Lz [] [_,_] (Gz (Pz (Pz Z0 (Kz 1)) (Mz (Mz Z1 Z0) (Kz 1))) Z1) rfl) (Lz [] [_,_] (Gz Z0 (Pz (Pz Z1 (Kz 1)) (Mz (Mz Z0 Z1) (Kz 1)))) rfl)
 unfold Internal.tgt;refine rA hg ?_;cases e:(aQ (bd ws).length).find? fun j=>decide (cQ (bd ws) j=cQ (bd ws) t)with
 |none=>
  have:=on.mp e t (bZ.mpr (by exact mI ht hol));simp at this
 |some j=>
  have h1:=bZ.mp (eA e);have h2:=jm e;have h2:=of_decide_eq_true h2;exact rA (qD (by exact bn h1) (by exact oq24 (bn ht) (Eq.symm hol)) h2) rfl
theorem Bv{w:Wd}(h:w.leads=true):zI w=true∨zG w=true:=by cases w <;> first|exact .inl rfl|exact .inr rfl|exact nB h
theorem bM.succ(F:bM ws){i:Nat}{w:Wd}{gl:Int}(h:ws[i]?=some (w,gl)):dT (bd ws) i (dM w i (dS ws i gl))=(if w.falls then [(i:Int)+1]else [])++(if w.leads&&!(w.falls&&decide (gl=i+1))then [gl]else []):=by
 refine t9 (ia w i (dS ws i gl)) fun zz k2 k3 k4 zz=>?_;have htg:w.leads=true->(tg (bd ws) i (dM w i (dS ws i gl)):Int)=gl:=fun hl=>by
  refine bx (F.gl' h hl) fun t FW ht=>?_;subst FW;unfold tg;refine rA (F.tgt h hl ht) ?_;rfl
 unfold dT;refine rA k2 (rA k3 (rA k4 ?_));cases w
 ·refine rA (htg rfl) ?_
  by_cases q:gl=i+1
  ·simp[AJ,zI,zG,Wd.falls,Wd.leads,q]
  ·simp[AJ,zI,zG,Wd.falls,Wd.leads,q]
 ·simp[AJ,zI,zG,Wd.falls,Wd.leads]
 ·refine rA (htg rfl) ?_;simp[AJ,zI,zG,Wd.falls,Wd.leads]
 ·simp[AJ,zI,zG,Wd.falls,Wd.leads]
 ·simp[AJ,zI,zG,Wd.falls,Wd.leads]
 ·refine rA (htg rfl) ?_;simp[AJ,zI,zG,Wd.falls,Wd.leads]
set_option tactic.hygienic true in
theorem bM.ok(F:bM ws):i8 (bd ws) where
 tgt:=fun i o ho hj=>by
  refine jx (jf ho) fun w gl h FW=>?_;subst FW;refine t9 (ia w i (dS ws i gl)) fun zz k2 k3 zz zz=>?_;rw[k2,k3]at hj;have hl:w.leads=true:=by cases w <;> first|rfl|(rcases hj with z|z <;> cases z)
  refine bx (F.gl' h hl) fun t FY ht=>?_;subst FY;refine rA (F.tgt h hl ht) ?_;rfl
 rng:=fun i o ho s hs=>by
  refine jx (jf ho) fun w gl h FZ=>?_;subst FZ;rw[F.succ h]at hs;refine rA cF ?_;rcases ak.mp hs with z|z
  ·split at z
   ·rename_i hf;exact⟨i+1,by refine rA (ag.mp z) ?_;push_cast;rfl,F.falls h hf⟩
   ·cases z
  ·split at z
   ·rename_i hf;refine bx (F.gl' h (aP.mp hf).1) fun t F7 ht=>?_;subst F7;exact⟨t,ag.mp z,ht⟩
   ·cases z
theorem bM.tg(F:bM ws):∀i o,(bd ws)[i]?=some o->cI o=true∨bN o=true->Internal.tgt (bd ws) i o=some (Internal.tg (bd ws) i o):=fun i o ho hj=>by
 have:=F.ok.tgt i o ho hj;unfold Internal.tg;cases e:Internal.tgt (bd ws) i o with
 |none=>rw[e]at this;exact nB this
 |some t=>rfl
theorem uI:ay (bd ws)=[0]:=by
 have:∀(l:List (bq×Nat)) (acc:List Int),(∀q∈l,bD q.1=false)->l.foldl (fQ (bd ws)) acc=acc:=fun l=>by
  induction l with
  |nil=>intro acc _;rfl
  |cons q l ih=>
   intro acc h;refine rA fE ?_;have:fQ (bd ws) acc q=acc:=by unfold fQ;exact rA (h q (.head _)) (rA (if_neg (by decide)) rfl)
   refine rA this ?_;exact ih acc fun r hr=>h r (.tail _ hr)
 unfold ay gQ;rw[this]
 ·exact kQ (by simp) (by simp) fun x=>Iff.rfl
 ·rintro⟨o,i⟩ hq;have:=List.mem_zipIdx hq;have ho:(bd ws)[i]?=some o:=by
   obtain⟨h1,h2,h3⟩:=this;rw[ac (by lia)];simp at h3;exact rA h3 rfl
  refine jx (jf ho) fun w gl zz FW=>?_;subst FW;exact(ia _ _ _).2.2.2.2
theorem bM.edge(F:bM ws):∀{i:Nat},i<=ws.length->∀p∈bY ws i,p.1<i:=by
 intro i
 induction i with
 |zero=>intro _ p hp;simp[bY]at hp
 |succ i ih=>
  intro h p hp;have e:=ac (show i<ws.length from h);generalize ws[i]=q at e;obtain⟨w,gl⟩:=q;rw[iU e]at hp;have:∀p∈m8 (bY ws i) i w gl,p∈bY ws i∨p.1=i:=fun p hp=>by
   have h1:∀p∈iw (bY ws i) i w,p∈bY ws i∨p.1=i:=fun p hp=>by
    unfold iw at hp;split at hp
    ·rcases ak.mp hp with z|z
     ·exact .inl z
     ·refine rA (ag.mp z) ?_;exact .inr rfl
    ·exact .inl hp
   unfold m8 at hp;split at hp
   ·rcases ak.mp hp with z|z
    ·exact h1 p z
    ·refine rA (ag.mp z) ?_;exact .inr rfl
   ·exact h1 p hp
  rcases this p hp with z|z
  ·have:=ih (by exact iy h) p z;exact Lz [_] [_] (Sa (Pz Z0 (Kz 1)) C0 (Gz (Pz Z0 (Kz 1)) (Cz M0))) rfl this
  ·exact Lz [_] [_] (Sb Z0 C0 (Gz (Pz Z0 (Kz 1)) (Cz M0))) rfl z
set_option tactic.hygienic true in
theorem bM.edges(F:bM ws){i:Nat}{o:bq}(ho:(bd ws)[i]?=some o):bY ws (i+1)=bY ws i++(dT (bd ws) i o).map fun v=>((i:Int),v):=by
 refine jx (jf ho) fun w gl h FW=>?_;subst FW;have hi:=(au.mp h).1;refine rA (iU h) (rA (F.succ h) ?_);have hlt:=F.edge (i:=i) (by exact bn hi);have hno:∀v,((i:Int),v)∉bY ws i:=fun v z=>by have:=hlt _ z;dsimp only at this;exact FI (jz this) (jz this)
 have hgn:w.leads=false->¬0<=gl:=fun z=>by refine rA (F.gn h z) ?_;decide
 have hgp:w.leads=true->0<=gl:=fun z=>by refine bx (F.gl' h z) fun t FY zz=>?_;subst FY;exact xU
 have e1:iw (bY ws i) i w=bY ws i++if w.falls then [((i:Int),(i:Int)+1)]else []:=by
  unfold iw;split <;> simp
 unfold m8;refine rA e1 ?_;have hin:((i:Int),gl)∈(bY ws i++if w.falls then [((i:Int),(i:Int)+1)]else [])↔w.falls=true/\gl=i+1:=by
  rw[ak];constructor
  ·rintro(z|z)
   ·exact absurd z (hno gl)
   ·split at z
    ·rename_i hf;exact⟨hf,by have:=ag.mp z;simpa using this⟩
    ·cases z
  ·refine fun FZ=>ea FZ fun hf F7=>?_;clear FZ;subst F7;right;refine rA (if_pos hf) ?_;simp
 cases hl:w.leads with
 |false=>
  refine rA (if_neg (fun z=>hgn hl z.1)) ?_;cases w.falls <;> simp
 |true=>
  by_cases q:w.falls=true/\gl=i+1
  ·refine rA (if_neg (fun z=>z.2 (hin.mpr q))) ?_;simp[q.1,q.2]
  ·refine rA (if_pos ⟨hgp hl,fun z=>q (hin.mp z)⟩) ?_;cases hf:w.falls with
   |false=>simp
   |true=>
    have:¬gl=i+1:=fun z=>q ⟨hf,z⟩;simp[this]
end
noncomputable def pE(es:List (Int×Int))(t:Int):List Int:=(es.filter fun p=>decide (p.2=t)).map (·.1)
theorem vJ{es:List (Int×Int)}{t u:Int}:u∈pE es t↔(u,t)∈es:=by
 unfold pE;rw[aJ];constructor
 ·rintro⟨⟨a,b⟩,h,rfl⟩;refine ea (bh.mp h) fun h1 h2=>?_;have:b=t:=of_decide_eq_true h2;subst this;exact h1
 ·intro h;exact⟨(u,t),bh.mpr ⟨h,by simp⟩,rfl⟩
theorem z9{a:List (Int×Int)}{l:List Int}{i t:Int}(h:l.Nodup):pE (a++l.map fun v=>(i,v)) t=pE a t++(if t∈l then [i]else []):=by
 unfold pE;rw[bu,ai]
 congr 1
 induction l with
 |nil=>rfl
 |cons x l ih=>
  have h:=ba.mp h;refine rA aB (rA bO ?_)
  by_cases q:x=t
  ·subst q;exact rA (if_pos (by simp)) (rA aB (rA (ih h.2) (rA (if_neg h.1) (rA (if_pos (.head _)) rfl))))
  ·refine rA (if_neg (by simp[q])) (rA (ih h.2) ?_);have:t∈x::l↔t∈l:=by
    rw[aA];exact⟨fun z=>z.resolve_left (fun w=>q w.symm),.inr⟩
   simp only[this]
theorem CZ{a:List (Int×Int)}{l:List Int}{i u:Int}:eE (a++l.map fun v=>(i,v)) u=eE a u++(if i=u then l else []):=by
 unfold eE;rw[bu,ai]
 congr 1
 by_cases q:i=u
 ·subst q;refine rA (if_pos rfl) (rA (List.filter_eq_self.mpr (by simp)) (rA bz ?_));exact List.map_id _
 ·refine rA (if_neg q) (rA (List.filter_eq_nil_iff.mpr (by simp[q])) ?_);rfl
theorem An{n j:Nat}{f:Nat->List V}{x:List V}:((aQ n).map f).set j x=(aQ n).map fun t=>if t=j then x else f t:=by
 refine eJ fun i=>?_;rw[ie,ar,ar,ae,kw]
 by_cases h:j=i
 ·subst h;refine rA (if_pos rfl) ?_
  by_cases hj:j<n
  ·refine rA (if_pos hj) (rA (bK hj) ?_);simp
  ·refine rA (if_neg hj) (rA (b8 (by simp;exact aW hj)) ?_);rfl
 ·refine rA (if_neg h) ?_
  by_cases hi:i<n
  ·refine rA (bK hi) ?_;have:¬i=j:=fun z=>h z.symm;simp[this]
  ·refine rA (b8 (by simp;exact aW hi)) ?_;rfl
theorem qd{n i:Nat}:∀{l:List Int}{f:Nat->List V},l.Nodup->(∀s∈l,∃j:Nat,s=j/\j<n)->iG ((aQ n).map f) i l=(aQ n).map fun(t:Nat)=>f t++(if(t:Int)∈l then [.int i]else [])
 |[],f,_,_=>by simp[iG]
 |s::l,f,hn,hs=>by
  refine bx (hs s (.head _)) fun j FW hj=>?_;subst FW;have hn:=ba.mp hn;have e:iG ((aQ n).map f) i ((j:Int)::l)=iG (((aQ n).map f).set j (f j++[.int i])) i l:=by
   show iG (((aQ n).map f).set (j:Int).toNat (((aQ n).map f).getD (j:Int).toNat []++[.int i])) i l=_;rw[bw,bH,ar,bK hj];rfl
  refine rA e (rA An (rA (qd hn.2 fun s h=>hs s (.tail _ h)) ?_));refine cy fun t zz=>?_
  by_cases q:t=j
  ·subst q;rw[if_pos rfl,if_neg hn.1,if_pos (.head _),bt]
  ·refine rA (if_neg q) ?_;have:(t:Int)∈(j:Int)::l↔(t:Int)∈l:=by
    rw[aA];exact⟨fun z=>z.resolve_left (fun w=>q (by exact tm w)),.inr⟩
   simp only[this]
section
variable {ws:List (Wd×Int)}
theorem bM.snd(F:bM ws){i:Nat}{o:bq}(ho:(bd ws)[i]?=some o):(dT (bd ws) i o).Nodup:=by
 refine jx (jf ho) fun w gl h FW=>?_;subst FW;refine rA (F.succ h) ?_;cases w.falls <;> cases w.leads <;> by_cases q:gl=i+1 <;> simp[q] <;> lia
theorem bM.mem(F:bM ws){u v:Int}:∀{m:Nat},m<=ws.length->((u,v)∈bY ws m↔∃(i:Nat) (o:bq),i<m/\(bd ws)[i]?=some o/\u=i/\v∈dT (bd ws) i o):=by
 intro m
 induction m with
 |zero=>intro _;simp[bY]
 |succ m ih=>
  intro h;have ho:=ac (show m<(bd ws).length by refine rA cF ?_;exact jz (qz h));rw[F.edges ho,ak,ih (by exact iy h)];constructor
  ·rintro(⟨i,o,a,b,c,d⟩|z)
   ·exact⟨i,o,by exact xR a,b,c,d⟩
   ·refine bx (aJ.mp z) fun v' hv e=>?_;cases e;exact⟨m,_,by exact dC _,ho,rfl,hv⟩
  ·refine fun FW=>cq FW fun i o a b FY=>?_;obtain⟨c,d⟩:=FY
   by_cases q:i<m
   ·exact .inl ⟨i,o,q,b,c,d⟩
   ·have:i=m:=by exact zZ a q
    subst this;rw[ho]at b;obtain rfl:=aj b;exact .inr (aJ.mpr ⟨v,d,by exact rA c rfl⟩)
theorem bM.mem'(F:bM ws){u v:Int}:(u,v)∈bA ws↔∃(i:Nat) (o:bq),(bd ws)[i]?=some o/\u=i/\v∈dT (bd ws) i o:=by
 unfold bA;rw[F.mem (ax _)];exact⟨fun z'=>by refine jx z' fun i o zz h=>?_;exact⟨i,o,h⟩,fun⟨i,o,h⟩=>⟨i,o,by have:=(au.mp h.1).1;rwa [cF]at this,h⟩⟩
theorem bM.eUp(F:bM ws){i:Nat}{o:bq}(ho:(bd ws)[i]?=some o):∀{m:Nat},m<=ws.length->eE (bY ws m) i=if i<m then dT (bd ws) i o else []:=by
 intro m
 induction m with
 |zero=>intro _;rfl
 |succ m ih=>
  intro h;have hm:=ac (show m<(bd ws).length by refine rA cF ?_;exact jz (qz h));refine rA (F.edges hm) (rA CZ (rA (ih (by exact iy h)) ?_))
  by_cases q:i<m
  ·rw[if_pos q,if_neg (by exact fun z'=>L2 (Ra M0 N1 (Sb C1 C0 Fa)) rfl q z'),if_pos (by exact xR q),bt]
  ·refine rA (if_neg q) ?_
   by_cases z:m=i
   ·subst z;rw[ho]at hm;refine rA (if_pos rfl) (rA (if_pos (by exact dC _)) (rB (aj hm) ?_));rfl
   ·refine rA (if_neg (by exact FJ z)) (rA (if_neg (by exact fun z3'=>z (ao (L2 (Rd M0 N1 (Gn N1 N0)) rfl q) (L2 (Ra M0 M1 (Gn N0 N1)) rfl z3')))) ?_);rfl
theorem bM.eS(F:bM ws){i:Nat}{o:bq}(ho:(bd ws)[i]?=some o):eE (bA ws) i=dT (bd ws) i o:=by
 have hi:=(au.mp ho).1;rw[cF]at hi;unfold bA;exact rA (F.eUp ho (ax _)) (rA (if_pos hi) rfl)
theorem bM.sE(F:bM ws){u:Int}(h:u∈bW (bd ws).length):sE (bd ws) u=eE (bA ws) u:=by
 refine bx (dj.mp h) fun i FW hi=>?_;subst FW;have ho:=ac hi;refine rA (F.eS ho) ?_;unfold Internal.sE;rw[bw,ho]
theorem bM.hE(F:bM ws)(u v:Int)(h:u∈bW (bd ws).length):v∈Internal.sE (bd ws) u↔(u,v)∈bA ws:=by rw[F.sE h,nR]
theorem bM.rng(F:bM ws):∀p∈bA ws,(∃j:Nat,p.1=j/\j<ws.length)/\∃j:Nat,p.2=j/\j<ws.length:=fun p hp=>by
 obtain⟨u,v⟩:=p;refine cq (F.mem'.mp hp) fun i o ho FW hv=>?_;subst FW;have hi:=(au.mp ho).1;have:=F.ok.rng i o ho v hv;rw[cF]at hi this;exact⟨⟨i,rfl,hi⟩,this⟩
theorem Af{E E':Int->List Int}{n:Nat}(h:∀u,u∈bW n->∀v,v∈E u->v∈E' u/\v∈bW n){a b:Int}(r:gY E a b):a∈bW n->gY E' a b:=by
 induction r with
 |one e=>intro ha;exact .one (h _ ha _ e).1
 |more e _ ih=>intro ha;exact .more (h _ ha _ e).1 (ih (h _ ha _ e).2)
theorem bM.rch(F:bM ws){v:Int}:gY (eE (bA ws)) 0 v↔gY (Internal.sE (bd ws)) 0 v:=by
 have h0:(0:Int)∈bW (bd ws).length:=dj.mpr ⟨0,rfl,by have:=F.lo;refine rA cF ?_;exact L1 (Ra (Kn 4) N0 (Gn (Pn (Kn 0) (Kn 1)) N0)) rfl this⟩;have key:∀u,u∈bW (bd ws).length->∀v,v∈Internal.sE (bd ws) u->v∈bW (bd ws).length:=fun u hu v hv=>dj.mpr (qC F.ok v hv);exact⟨fun z=>Af (fun u hu v hv=>by rw[←F.sE hu]at hv;exact⟨hv,key u hu v hv⟩) z h0,fun z=>Af (fun u hu v hv=>⟨by refine rB (F.sE hu) ?_;exact hv,key u hu v hv⟩) z h0⟩
set_option tactic.hygienic true in
theorem vj(F:bM ws):(bA ws).length<200:=by
 have:=lv (ax ws.length);have:=F.hi;unfold bA;(rename_i FW;exact L2 (Ra N0 (Tn 2 N1) (Ra N1 (Kn 15) (Ra N1 (Kn 15) (Gn M0 (Kn 200))))) rfl FW this this)
theorem bM.pLt(F:bM ws){t:Int}:∀{m:Nat},m<=ws.length->(pE (bY ws m) t).Pairwise (·<·):=by
 intro m
 induction m with
 |zero=>intro _;exact .nil
 |succ m ih=>
  intro h;have hm:=ac (show m<(bd ws).length by refine rA cF ?_;exact jz (qz h));rw[F.edges hm,z9 (F.snd hm),gj];refine⟨ih (by exact iy h),by split <;> simp,fun a ha b hb=>?_⟩;have h1:=F.edge (i:=m) (by exact iy h) _ (vJ.mp ha);dsimp only at h1;split at hb
  ·refine rA (ag.mp hb) ?_;exact h1
  ·cases hb
theorem bM.pSrt(F:bM ws){t:Int}:eT (pE (bA ws) t)=pE (bA ws) t:=kQ (ue (F.pLt (ax _))) (F.pLt (ax _)) fun zz=>Iff.rfl
theorem bM.preds(F:bM ws):∀{m:Nat},m<=ws.length->fb (bd ws) m=(aQ ws.length).map fun(t:Nat)=>(pE (bY ws m) t).map V.int:=by
 intro m
 induction m with
 |zero=>
  intro _;unfold fb;refine rA cF ?_;have:∀t:Nat,(pE (bY ws 0) t).map V.int=[]:=fun t=>rfl;simp only[this];refine eJ fun i=>?_;refine rA List.take_zero (rA List.foldl_nil (rA List.getElem?_replicate (rA ar ?_)))
  by_cases q:i<ws.length
  ·refine rA (if_pos q) (rA (bK q) ?_);rfl
  ·refine rA (if_neg q) (rA (b8 (by simp;exact aW q)) ?_);rfl
 |succ m ih=>
  intro h;have hm:=ac (show m<(bd ws).length by refine rA cF ?_;exact jz (qz h));refine rA (kP hm) (rA (ih (by exact iy h)) (rA (qd (F.snd hm) (fun s hs=>by have:=F.ok.rng m _ hm s hs;rwa [cF]at this)) (rA (F.edges hm) ?_)));refine cy fun t zz=>?_;refine rA (z9 (F.snd hm)) (rA ai ?_)
  congr 1
  split <;> rfl
theorem bM.preds'(F:bM ws):fb (bd ws) (bd ws).length=(aQ ws.length).map fun(t:Nat)=>(eT (pE (bA ws) t)).map V.int:=by
 refine rA cF (rA (F.preds (ax _)) ?_);refine cy fun t zz=>?_;refine rA F.pSrt ?_;rfl
theorem Bd{os:List bq}{v:Int}:∀{m:Nat},m<=os.length->(v∈bR os m↔v∈ay os∨∃(i:Nat) (o:bq),i<m/\os[i]?=some o/\(((cI o=true∨bN o=true)/\v=tg os i o)∨((cI o=true∨bN o=true∨dZ o=true)/\(i:Int)+1<os.length/\v=(i:Int)+1))):=by
 intro m
 induction m with
 |zero=>
  intro _;unfold bR;rw[List.take_zero,List.foldl_nil,oj];simp
 |succ m ih=>
  intro h;have ho:=ac (show m<os.length from h);generalize os[m]=o at ho;have split1:∀(A B:Prop) (acc:List Int) (b1 b2:Bool) (x y:Int),(b1=true↔A)->(b2=true↔B)->(v∈(if b2 then cO (if b1 then cO acc x else acc) y else(if b1 then cO acc x else acc))↔v∈acc∨(A/\v=x)∨(B/\v=y)):=fun A B acc b1 b2 x y hA hB=>by
   cases b1 <;> cases b2 <;> simp only[Bool.false_eq_true,false_iff,true_iff,if_true,if_false,fK]at hA hB ⊢ <;> simp[hA,hB] <;> simp[or_assoc]
  refine rA (jC ho) ?_;unfold hU;dsimp only;rw[split1 (cI o=true∨bN o=true) ((cI o=true∨bN o=true∨dZ o=true)/\(m:Int)+1<os.length) _ _ _ _ _ (by simp) (by simp),ih (by exact iy h)];constructor
  ·rintro((z|⟨i,o',a,b,c⟩)|z)
   ·exact .inl z
   ·exact .inr ⟨i,o',by exact xR a,b,c⟩
   ·exact .inr ⟨m,o,by exact dC _,ho,z.imp id fun z=>⟨z.1.1,z.1.2,z.2⟩⟩
  ·rintro(z|⟨i,o',a,b,c⟩)
   ·exact .inl (.inl z)
   ·by_cases q:i<m
    ·exact .inl (.inr ⟨i,o',q,b,c⟩)
    ·have:i=m:=by exact zZ a q
     subst this;rw[ho]at b;obtain rfl:=aj b;exact .inr (c.imp id fun z=>⟨⟨z.1,z.2.1⟩,z.2.2⟩)
theorem zY{l:List Int}{i:Int}(h:l.Pairwise (·<·))(hm:∀x,x∈l↔x=i):l=[i]:=wG h (by simp) fun x=>by rw[hm];simp
set_option tactic.hygienic true in
theorem bM.plain(F:bM ws)(i:Nat)(w:Wd)(gl:Int)(h:ws[i]?=some (w,gl))(hi:i+1<(bd ws).length):pH (bA ws) ((i:Int)+1) w=!decide ((i:Int)+1∈bR (bd ws) (bd ws).length):=by
 have ho:=qy h;refine t9 (ia w i (dS ws i gl)) fun zz k2 k3 k4 zz=>?_;have hb:=Bd (os:=bd ws) (v:=(i:Int)+1) (ax _);rw[uI]at hb;unfold pH;rw[Int.add_sub_cancel];cases hp:mJ w with
 |false=>
  have:(i:Int)+1∈bR (bd ws) (bd ws).length:=hb.mpr (.inr ⟨i,_,by exact um hi,ho,.inr ⟨by refine rA k2 (rA k3 (rA k4 ?_));cases w <;> first|(simp[zI,zG,AJ];done)|(exact nB hp.symm),by exact L2 (Ra (Pn M0 (Kn 1)) N1 (Gz (Pz (Pz C0 (Kz 1)) (Kz 1)) C1)) rfl hi,rfl⟩⟩);simp[this]
 |true=>
  have hfl:w.falls=true/\w.leads=false/\zI w=false/\zG w=false/\AJ w=false:=by cases w <;> first|exact⟨rfl,rfl,rfl,rfl,rfl⟩|exact nB hp
  have he:eE (bA ws) i=[(i:Int)+1]:=by
   refine rA (F.eS ho) (rA (F.succ h) (rA hfl.1 (rA hfl.2.1 ?_)));rfl
  rw[he,decide_eq_true rfl,gN,Bool.and_true];have hpm:∀u,u∈pE (bA ws) ((i:Int)+1)↔∃(k:Nat) (o:bq),(bd ws)[k]?=some o/\u=k/\(i:Int)+1∈dT (bd ws) k o:=fun u=>vJ.trans F.mem';have key:pE (bA ws) ((i:Int)+1)=[(i:Int)]↔¬(i:Int)+1∈bR (bd ws) (bd ws).length:=by
   rw[hb];constructor
   ·rintro e (z|⟨k,o,-,hk,z⟩)
    ·have:=ag.mp z;exact L1 (Sb (Pz C0 (Kz 1)) (Kz 0) Fa) rfl this
    ·refine jx (jf hk) fun w' gl' h' FW=>?_;subst FW;refine t9 (ia w' k (dS ws k gl')) fun zz j2 j3 j4 zz=>?_;rw[j2,j3,j4]at z;rcases z with ⟨z1,z2⟩|⟨z1,-,z2⟩
     ·have hl:w'.leads=true:=by cases w' <;> first|rfl|(rcases z1 with y|y <;> cases y)
      have hm:(i:Int)+1∈dT (bd ws) k (dM w' k (dS ws k gl')):=by
       refine bx (F.gl' h' hl) fun t FY ht=>?_;subst FY;have et:(i:Int)+1=t:=by
        refine rA z2 ?_;unfold Internal.tg;refine rA (F.tgt h' hl ht) ?_;rfl
       rw[F.succ h',hl,gN]
       by_cases q:w'.falls=true/\((t:Int)=k+1)
       ·refine rA q.1 (rA (if_pos rfl) ?_);exact aC _ (by refine rA et (rA q.2 ?_);simp)
       ·refine aO _ ?_;rw[if_pos,et]
        ·simp
        ·cases hf:w'.falls with
         |false=>rfl
         |true=>
          have:¬(t:Int)=k+1:=fun z=>q ⟨hf,z⟩;simp[this]
      have:=(hpm k).mpr ⟨k,_,hk,rfl,hm⟩;rw[e]at this;have:k=i:=by have:=ag.mp this;exact tm this
      subst this;rw[h]at h';cases h';rw[hfl.2.2.1,hfl.2.2.2.1]at z1;rcases z1 with y|y <;> cases y
     ·have:k=i:=by exact ao (L2 (Sd (Pz C0 (Kz 1)) (Pz C1 (Kz 1)) (Gn N1 N0)) rfl z2) (L2 (Sb (Pz C0 (Kz 1)) (Pz C1 (Kz 1)) (Gn N0 N1)) rfl z2)
      subst this;rw[h]at h';cases h';rw[hfl.2.2.1,hfl.2.2.2.1,hfl.2.2.2.2]at z1;rcases z1 with y|y|y <;> cases y
   ·intro hn;refine zY (F.pLt (ax _)) fun u=>?_;show u∈pE (bA ws) ((i:Int)+1)↔_;rw[hpm];constructor
    ·rintro⟨k,o,hk,rfl,hm⟩;refine jx (jf hk) fun w' gl' h' FZ=>?_;subst FZ;refine t9 (ia w' k (dS ws k gl')) fun zz j2 j3 j4 zz=>?_;rw[F.succ h']at hm;rcases ak.mp hm with z|z
     ·split at z
      ·have:=ag.mp z;exact bi (L2 (Sd (Pz C0 (Kz 1)) (Pz C1 (Kz 1)) (Gz C1 C0)) rfl this) (L2 (Sb (Pz C0 (Kz 1)) (Pz C1 (Kz 1)) (Gz C0 C1)) rfl this)
      ·cases z
     ·split at z
      ·rename_i hf;have hl:=(aP.mp hf).1;refine bx (F.gl' h' hl) fun t F7 ht=>?_;subst F7;refine absurd (.inr ⟨k,_,by have:=(au.mp hk).1;exact this,hk,.inl ⟨by refine rA j2 (rA j3 ?_);exact Bv hl,?_⟩⟩) hn;refine rA (ag.mp z) ?_;unfold Internal.tg;refine rA (F.tgt h' hl ht) ?_;rfl
      ·cases z
    ·rintro rfl;exact⟨i,_,ho,rfl,by refine rA (F.succ h) (rA hfl.1 (rA hfl.2.1 ?_));simp⟩
  show decide (pE (bA ws) ((i:Int)+1)=[(i:Int)])=_
  by_cases q:(i:Int)+1∈bR (bd ws) (bd ws).length
  ·refine rA (decide_eq_false (fun z=>key.mp z q)) (rA (decide_eq_true q) ?_);rfl
  ·refine rA (decide_eq_true (key.mpr q)) (rA (decide_eq_false q) ?_);rfl
end
noncomputable def rD(l:List Int):PyData:=.list (l.map .int)
theorem wV{H:HH}(L:List (List Int)):jv H (.vs (L.map iV) (L.map rD)):=by
 induction L with
 |nil=>exact .nil
 |cons l L ih=>exact .cons (.lst (.ints l)) ih
theorem Ah(L:List (List Int)):eM (L.map rD) (L.map rD)=true:=by
 induction L with
 |nil=>simp[eM]
 |cons l L ih=>rw[aB,eM,ih];unfold rD;rw[cj,ked_eqvAll];simp
theorem Ai(L:List (List Int)):bf (L.map rD)=true/\cg (L.map rD)<=1:=by
 induction L with
 |nil=>simp[bf,cg]
 |cons l L ih=>
  refine ea ih fun h1 h2=>?_;rw[aB,bf,cg,h1];refine⟨by simp[rD,bX,nh],?_⟩;have:cu (rD l)<=1:=by simp[rD,cu,qi]
  lia
theorem oF(L:List (List Int)):eG (.list (L.map rD))=true:=by
 refine ea (Ai L) fun h1 h2=>?_;simp[eG,bX,h1,cu];exact z8 h2
theorem cw.fresh1{H:HH}{a:ah}{ks:List ah}{vs:List V}(O:cw H (a::ks)):HL H ks vs a=none:=(HL.off (ba.mp O.nd).1).trans (O.fr a (.head _))
noncomputable def RJ(n:Nat)(A:Nat->List V)(B:HH)(ks:List ah)(vs:List V)(D:ah)(r acc:List V)(H':HH):Prop:=∃i:Nat,i<=n/\r=br i n/\acc=A i/\H'=HL B (D::ks) (.lst acc::vs)/\cw B (D::ks)
noncomputable def SJ{α:Type}(es:List α)(f:α->V)(A:List α->List V)(B:HH)(ks:List ah)(vs:List V)(D:ah)(r acc:List V)(H':HH):Prop:=∃pre l:List α,es=pre++l/\r=l.map f/\acc=A pre/\H'=HL B (D::ks) (.lst acc::vs)/\cw B (D::ks)
section
variable {n:Nat}{A:Nat->List V}{B:HH}{ks:List ah}{vs:List V}{D:ah}{α:Type}{es:List α}{f:α->V}{A2:List α->List V}
theorem RJ.init(O:cw B (D::ks))(h:A 0=[]):RJ n A B ks vs D (br 0 n) [] (upd (HL B ks vs) D (.lst [])):=⟨0,aH _,rfl,h.symm,rfl,O⟩
theorem RJ.fin{P:List V->HH->Prop}(h:cw B (D::ks)->P (A n) (HL B (D::ks) (.lst (A n)::vs))):∀acc H',RJ n A B ks vs D [] acc H'->P acc H':=by
 refine fun acc H' FW=>hV FW fun i hi hr FY FZ O=>?_;clear FW;subst FY;subst FZ;cases fy hi hr;exact h O
theorem RJ.step{P:V->List V->List V->HH->Prop}(h:∀i:Nat,i<n->cw B (D::ks)->P (.int i) (br ((i+1:Nat):Int) n) (A i) (HL B (D::ks) (.lst (A i)::vs))):∀x r acc H',RJ n A B ks vs D (x::r) acc H'->P x r acc H':=by
 refine fun v r acc H' FW=>hV FW fun i hi hr FY FZ O=>?_;clear FW;subst FY;subst FZ;refine jc (er hi hr) fun hi F7 F8=>?_;subst F7;subst F8;exact h i hi O
theorem RJ.next{i:Nat}{x:V}(hi:i<n)(O:cw B (D::ks))(h:A (i+1)=A i++[x]):RJ n A B ks vs D (br ((i+1:Nat):Int) n) (A i++[x]) (upd (HL B (D::ks) (.lst (A i)::vs)) D (.lst (A i++[x]))) :=
 ⟨i+1,hi,rfl,h.symm,HL.set 0 O.nd rfl rfl,O⟩
theorem SJ.init(O:cw B (D::ks))(h:A2 []=[]):SJ es f A2 B ks vs D (es.map f) [] (upd (HL B ks vs) D (.lst [])):=⟨[],es,rfl,rfl,h.symm,rfl,O⟩
theorem SJ.fin{P:List V->HH->Prop}(h:cw B (D::ks)->P (A2 es) (HL B (D::ks) (.lst (A2 es)::vs))):∀acc H',SJ es f A2 B ks vs D [] acc H'->P acc H':=by
 refine fun acc H' FW=>cq FW fun pre l e hl FY=>?_;clear FW;obtain⟨rfl,rfl,O⟩:=FY;cases l with
 |cons a l=>exact nL hl
 |nil=>
  rw[bt]at e;subst e;exact h O
theorem SJ.step{P:V->List V->List V->HH->Prop}(h:∀pre x l,es=pre++x::l->cw B (D::ks)->P (f x) (l.map f) (A2 pre) (HL B (D::ks) (.lst (A2 pre)::vs))):∀x r acc H',SJ es f A2 B ks vs D (x::r) acc H'->P x r acc H':=by
 refine fun v r acc H' FW=>cq FW fun pre l e hl FY=>?_;clear FW;obtain⟨rfl,rfl,O⟩:=FY;cases l with
 |nil=>exact nL hl.symm
 |cons q l=>
  refine ea (aV hl) fun FZ F7=>?_;subst FZ;subst F7;exact h pre q l e O
theorem SJ.next{pre l:List α}{q:α}{x:V}(e:es=pre++q::l)(O:cw B (D::ks))(h:A2 (pre++[q])=A2 pre++[x]):SJ es f A2 B ks vs D (l.map f) (A2 pre++[x]) (upd (HL B (D::ks) (.lst (A2 pre)::vs)) D (.lst (A2 pre++[x]))) :=
 ⟨pre++[q],l,by refine rA e ?_;simp,rfl,h.symm,HL.set 0 O.nd rfl rfl,O⟩
theorem SJ.skip{pre l:List α}{q:α}(e:es=pre++q::l)(O:cw B (D::ks))(h:A2 (pre++[q])=A2 pre):SJ es f A2 B ks vs D (l.map f) (A2 pre) (HL B (D::ks) (.lst (A2 pre)::vs)) :=
 ⟨pre++[q],l,by refine rA e ?_;simp,rfl,h.symm,rfl,O⟩
end
noncomputable def rE(es:List (Int×Int))(i:Nat):List V:=((aQ i).map fun(j:Nat)=>eE es j).map iV
noncomputable def rP(es:List (Int×Int))(i:Nat):List V:=((aQ i).map fun(j:Nat)=>eT (pE es j)).map iV
theorem wT{es:List (Int×Int)}{i:Nat}:rE es (i+1)=rE es i++[iV (eE es i)]:=by unfold rE;refine rA ch (rA ai (rA ai ?_));rfl
theorem BN{es:List (Int×Int)}{i:Nat}:rP es (i+1)=rP es i++[iV (eT (pE es i))]:=by unfold rP;refine rA ch (rA ai (rA ai ?_));rfl
theorem Ae{es:List (Int×Int)}{i:Nat}:(rE es i).length=i:=by unfold rE;simp
theorem Dk{es:List (Int×Int)}{i:Nat}:(rP es i).length=i:=by unfold rP;simp
theorem Bh{pre:List (Int×Int)}{a b:Int}{u:Int}:(eE (pre++[(a,b)]) u).map V.int=(eE pre u).map V.int++(if decide (a=u)then [.int b]else []):=by
 unfold eE;rw[bu,ai,ai];simp only[bO,dk];split <;> rfl
theorem BH{pre:List (Int×Int)}{a b:Int}{u:Int}:(pE (pre++[(a,b)]) u).map V.int=(pE pre u).map V.int++(if decide (b=u)then [.int a]else []):=by
 unfold pE;rw[bu,ai,ai];simp only[bO,dk];split <;> rfl
theorem bM.sub{ws:List (Wd×Int)}(F:bM ws):∀s∈ay (bd ws),s∈bW (bd ws).length:=fun s hs=>by
 rw[uI]at hs;refine rA (ag.mp hs) ?_;exact dj.mpr ⟨0,rfl,by refine rA cF ?_;have:=F.lo;exact L1 (Ra (Kn 4) N0 (Gn (Pn (Kn 0) (Kn 1)) N0)) rfl this⟩
theorem bM.reach{ws:List (Wd×Int)}(F:bM ws){f:Int->Bool}(hf:∀j:Nat,j<ws.length->(f j=true↔j=0∨gY (eE (bA ws)) 0 j))(v:Int):v∈(bW ws.length).filter f↔v=0∨gY (Internal.sE (bd ws)) 0 v:=by
 rw[bh];constructor
 ·refine fun FW=>ea FW fun h1 h2=>?_;refine bx (dj.mp h1) fun j FY hj=>?_;subst FY;exact((hf j hj).mp h2).imp (fun z=>by refine rA z ?_;rfl) F.rch.mp
 ·intro hv;have hm:v∈bW ws.length:=by
   rcases hv with rfl|z
   ·exact dj.mpr ⟨0,rfl,by have:=F.lo;exact L1 (Ra (Kn 4) N0 (Gn (Pn (Kn 0) (Kn 1)) N0)) rfl this⟩
   ·have:∀a b,gY (Internal.sE (bd ws)) a b->b∈bW ws.length:=fun a b r=>by
     induction r with
     |one e=>have:=dj.mpr (qC F.ok _ e);rwa [cF]at this
     |more _ _ ih=>exact ih
    exact this _ _ z
  refine⟨hm,?_⟩;refine bx (dj.mp hm) fun j FZ hj=>?_;subst FZ;exact(hf j hj).mpr (hv.imp (fun z=>by exact tm z) F.rch.mpr)
section
variable {g:GX}{k:Nat}{X:XP}{Q:VP}{H H':HH}{G:GC}
theorem r8{a b:V}{L:List (List Int)}(ea:con H a=.lst (L.map iV))(eb:con H b=.lst (L.map iV))(h:Q (.bool false) H):VT G k (gu .NotEq) [a,b] H Q X :=
 wf (.of_con ea (.lst (wV L)) rfl) (.of_con eb (.lst (wV L)) rfl) (oF L) (oF L) (by rw[cj,Ah];exact h)
theorem yf{ws:List (Wd×Int)}(F:bM ws)(h:Q (.lst (((aQ ws.length).map fun(j:Nat)=>eT (pE (bA ws) j)).map iV)) H)(hk:60<=k):CT g.gc k (.ref 311) [c5 (bd ws)] H Q X:=by
 refine pe (by have:=F.hi;refine rA cF ?_;exact nr this) F.ok ?_ hk;have e:(fb (bd ws) (bd ws).length).map V.lst=((aQ ws.length).map fun(j:Nat)=>eT (pE (bA ws) j)).map iV:=by refine rA F.preds' (rA bz (rA bz ?_));rfl
 refine rA e ?_;exact h
theorem Aw{ws:List (Wd×Int)}(F:bM ws){i:Nat}(hi:i<ws.length)(h:Q (iV (eE (bA ws) i)) H)(hk:50<=k):CT g.gc k (.ref 306) [c5 (bd ws),.int i] H Q X:=by
 have ho:=ac (show i<(bd ws).length by refine rA cF ?_;exact hi);refine gq ho (by have:=F.hi;refine rA cF ?_;exact nr this) (F.ok.tgt _ _ ho) ?_ hk;refine rB (F.eS ho) ?_;exact h
theorem Dm{cs:List Int}(hc:cs.length<=63)(h:∀H',Q (.bool true) H')(hk:300<=k):CT g.gc k (.ref 511) [iV cs] H Q X:=by
 refine gK (dcs:=[]) rfl (fun zz zz=>rfl) rfl ?_ (gG hk);refine .inr ⟨cs.map .int,rfl,rfl,rfl,by rw[ae];exact nr hc,fun b hb=>?_⟩;have hb:H b=none:=hb;refine lp (xs:=(cs.take 24).map .int) (by refine rA iN (rB (sq (cs.map V.int) 24) ?_);exact bv aw) (by rw[ae,cT];exact L1 (Ra N0 (Kn 24) (Gn M0 (Kn 1000000))) rfl (jp _ _)) (fun D hD=>?_);intro p hp;have hD:upd H b (.lst (iA (cs.map V.int) none (some 24))) D=none:=hD;have hp:upd (upd H b (.lst (iA (cs.map V.int) none (some 24)))) D (iV (cs.take 24)) p=none:=hp;have hpD:=(d4 hp).1;have P:tw (upd (upd (upd H b (.lst (iA (cs.map V.int) none (some 24)))) D (iV (cs.take 24))) p (qA D 0 0)) p D (cs.take 24) 0 0:=⟨aw,(bE hpD.symm).trans aw,hpD,by refine rA cT ?_;exact L1 (Ra N0 (Kn 24) (Gn N0 (Kn 24))) rfl (jp _ _),by decide,by decide⟩;refine aE (qK (H:=upd (upd (upd H b (.lst (iA (cs.map V.int) none (some 24)))) D (iV (cs.take 24))) p (qA D 0 0)) P (by decide) (fun t1 g1 a1 a2 a3=>?_) (dn hk));have P2:=PH.pen P .refl a1 a3;refine aE (BR (H:=PH (upd (upd (upd H b (.lst (iA (cs.map V.int) none (some 24)))) D (iV (cs.take 24))) p (qA D 0 0)) p D t1 g1) P2 (by exact Lz [] [_] (Sa Z0 (Pz (Kz 0) (Kz 61)) (Gz (Pz Z0 (Kz 1)) (Kz 90000))) rfl a2) (fun ws t2 g2 F=>?_) (dn hk));refine rA PH.two ?_;generalize PH (upd (upd (upd H b (.lst (iA (cs.map V.int) none (some 24)))) D (iV (cs.take 24))) p (qA D 0 0)) p D t2 g2=H2;clear P2 P hpD hp hD hb;have n1:=F.lo;have n2:=F.hi;have nl:=cF (ws:=ws);have hn:(bd ws).length<60:=by exact FC nl n2
 have h0:0<(bd ws).length:=by exact L2 (Ra (Kn 4) N0 (Rc N1 N0 (Gn (Pn (Kn 0) (Kn 1)) N1))) rfl n1 nl
 have hel:=vj F;refine⟨_,rfl,rfl,rfl,?_⟩;refine Ff (fun env e=>by cases env;cases e;rfl) (fun env e=>by cases env;cases e;rfl) ?_ (dn hk);refine aE (qG rfl hn ?_ (dn hk));refine aE (At (by exact nr n2) ?_ (dn hk));refine⟨_,rfl,rfl,rfl,?_⟩;have wl:(ws.map fun q=>V.str q.1.s).length=ws.length:=ae _;have e_len:∀u,(eE (bA ws) u).length<200:=fun u=>by unfold eE;rw[ae];exact bU (bp _ _) hel
 have p_len:∀u,(pE (bA ws) u).length<64:=fun u=>by
  have hnd:=ue (F.pLt (t:=u) (ax _));have:=hZ (m:=bW ws.length) hnd fun x hx=>by
   refine bx ((F.rng _ (vJ.mp hx)).1) fun j e hj=>?_;exact dj.mpr ⟨j,e,hj⟩
  rw[gP]at this;exact bU this (by exact nr n2)
 refine eZ (n:=ws.length) rfl wl (by exact nr n2) ?_;refine ct (by exact oz4 n2) ?_;refine⟨RJ ws.length (rE (bA ws)) H2 [] [],fun D hD=>⟨RJ.init (cw.push (vs:=[]) cw.nil hD) rfl,RJ.fin (fun O=>?_),RJ.step (fun i hi O=>?_)⟩⟩
 ·refine eZ (n:=ws.length) rfl wl (by exact nr n2) ?_;refine ct (by exact oz4 n2) ?_;refine⟨RJ ws.length (rE (bA ws)) H2 [D] [.lst (rE (bA ws) ws.length)],fun D2 hD2=>⟨RJ.init (O.push (vs:=[.lst (rE (bA ws) ws.length)]) hD2) rfl,RJ.fin (fun O2=>?_),RJ.step (fun i hi O2=>?_)⟩⟩
  ·refine r8 (L:=(aQ ws.length).map fun(j:Nat)=>eE (bA ws) j) (O2.con 1 rfl rfl) (O2.con 0 rfl rfl) ?_;refine aE (yf F ?_ (dn hk));refine eZ (n:=ws.length) rfl wl (by exact nr n2) ?_;refine ct (by exact oz4 n2) ?_;refine⟨RJ ws.length (rP (bA ws)) (HL H2 [D2,D] [.lst (rE (bA ws) ws.length),.lst (rE (bA ws) ws.length)]) [] [],fun D5 hD5=>⟨RJ.init (cw.push (vs:=[]) cw.nil hD5) rfl,RJ.fin (fun O3=>?_),RJ.step (fun i hi O3=>?_)⟩⟩
   ·refine r8 (L:=(aQ ws.length).map fun(j:Nat)=>eT (pE (bA ws) j)) rfl (O3.con 0 rfl rfl) ?_;refine eZ (n:=ws.length) rfl wl (by exact nr n2) ?_;refine aE (vV (by exact nr n2) (by exact L1 (Ra (Kn 4) N0 (Gn (Pn (Kn 0) (Kn 1)) N0)) rfl n1) F.rng (fun f hf=>?_) (dn hk));refine aE (rO hn F.ok uI h0 F.hE ((wj _).filter f) (F.reach hf) hel ?_ (dn hk));refine aE (pd hn nl.symm hel h0 F.sub (by refine rA uI ?_;simp) (by refine rA uI ?_;decide) F.tg F.plain ?_ (dn hk));exact dO (h _)
   ·refine⟨.put .refl rfl,?_⟩;refine⟨SJ (bA ws) dN (fun pre=>(pE pre i).map V.int) (HL H2 [D2,D] [.lst (rE (bA ws) ws.length),.lst (rE (bA ws) ws.length)]) [D5] [.lst (rP (bA ws) i)],fun D3 hD3=>⟨SJ.init (O3.push (vs:=[.lst (rP (bA ws) i)]) hD3) rfl,SJ.fin (fun O4=>?_),SJ.step (fun pre q l e O4=>?_)⟩⟩
    ·refine ja (ns:=pE (bA ws) i) (O4.con 0 rfl rfl) (p_len _) (fun S hS=>?_) (dn hk);have O5:=O4.push (vs:=[iV (pE (bA ws) i),.lst (rP (bA ws) i)]) hS;refine⟨iV (eT (pE (bA ws) i)),HL (HL H2 [D2,D] [.lst (rE (bA ws) ws.length),.lst (rE (bA ws) ws.length)]) [D5] [.lst (rP (bA ws) i)],O4.drop1.trans (O5.drop1 (v:=iV (eT (pE (bA ws) i)))),.ref aw ?_ (.same _) rfl,O3.get 0 rfl rfl,by refine rA Dk ?_;exact Dx hi n2,RJ.next hi O3 BN⟩;exact cw.fresh1 (ks:=[D5]) ⟨(jV.mp O5.nd).elim fun a b=>ba.mpr ⟨fun z=>a _ (.tail _ z) rfl,(ba.mp b).2⟩,fun a ha=>by
      rcases aA.mp ha with rfl|ha
      ·exact O5.fr _ (.head _)
      ·exact O3.fr a ha⟩
    ·obtain⟨a,b⟩:=q;have hs:=BH (pre:=pre) (a:=a) (b:=b) (u:=(i:Int));have hpl:pre.length<200:=by rw[e]at hel;simp at hel;exact um hel
     have hpp:(pE pre i).length<=pre.length:=by unfold pE;rw[ae];exact bp _ _
     refine⟨_,rfl,rfl,rfl,.put (.put .refl rfl) rfl,?_⟩;refine dY (fun z=>?_) (fun z=>?_)
     ·rw[z,if_pos rfl]at hs;exact⟨.int a,_,.refl,.same _,O4.get 0 rfl rfl,by rw[ae];exact pG hpp hpl,SJ.next e O4 hs⟩
     ·rw[z,if_neg (by decide),bt]at hs;exact⟨_,.refl,SJ.skip e O4 hs⟩
  ·refine⟨.put .refl rfl,?_⟩;refine⟨SJ (bA ws) dN (fun pre=>(eE pre i).map V.int) H2 [D2,D] [.lst (rE (bA ws) i),.lst (rE (bA ws) ws.length)],fun D3 hD3=>⟨SJ.init (O2.push (vs:=[.lst (rE (bA ws) i),.lst (rE (bA ws) ws.length)]) hD3) rfl,SJ.fin (fun O3=>?_),SJ.step (fun pre q l e O3=>?_)⟩⟩
   ·exact⟨iV (eE (bA ws) i),HL H2 [D2,D] [.lst (rE (bA ws) i),.lst (rE (bA ws) ws.length)],O3.drop1,.ref (O3.get (vs:=[iV (eE (bA ws) i),.lst (rE (bA ws) i),.lst (rE (bA ws) ws.length)]) 0 rfl rfl) O3.fresh1 (.same _) rfl,O2.get 0 rfl rfl,by refine rA Ae ?_;exact Dx hi n2,RJ.next hi O2 wT⟩
   ·obtain⟨a,b⟩:=q;have hs:=Bh (pre:=pre) (a:=a) (b:=b) (u:=(i:Int));have hpl:pre.length<200:=by rw[e]at hel;simp at hel;exact um hel
    have hpp:(eE pre i).length<=pre.length:=by unfold eE;rw[ae];exact bp _ _
    refine⟨_,rfl,rfl,rfl,.put (.put .refl rfl) rfl,?_⟩;refine dY (fun z=>?_) (fun z=>?_)
    ·rw[z,if_pos rfl]at hs;exact⟨.int b,_,.refl,.same _,O3.get 0 rfl rfl,by rw[ae];exact pG hpp hpl,SJ.next e O3 hs⟩
    ·rw[z,if_neg (by decide),bt]at hs;exact⟨_,.refl,SJ.skip e O3 hs⟩
 ·refine⟨.put .refl rfl,?_⟩;refine aE (Aw F hi ?_ (dn hk));exact⟨iV (eE (bA ws) i),_,.refl,.same _,O.get 0 rfl rfl,by refine rA Ae ?_;exact Dx hi n2,RJ.next hi O wT⟩
end
theorem wC:∀{xs:List WData},(∀d∈xs,∃i,d=WData.int i)->∃cs:List Int,xs=cs.map WData.int
 |[],_=>⟨[],rfl⟩
 |d::xs,h=>by
  refine ex (h d (.head _)) fun i FW=>?_;subst FW;refine ex (wC fun d hd=>h d (.tail _ hd)) fun cs FY=>?_;subst FY;exact⟨i::cs,rfl⟩
theorem uJ{G:GC}{h:Heap}{F:ah->Prop}{P:lZ}{h':Heap}:∀{cs:List Int}{vs:List Value},WellAll P h' vs (cs.map WData.int)->d7 G h F (cs.map V.int) vs
 |[],vs,w=>by cases w;exact .nil
 |c::cs,vs,w=>by
  cases w with
  |cons a b=>
   cases a;exact .cons (.int _ _) (uJ b)
theorem zL{prog:ei}{w:iC}{s:an}{p:ei}{loose:List Str}{mg mb:Str->Option Value}(kin:(ho.heap_1 w.params).In s.heap)(T:TopRead p loose mg mb s.heap)(hg:s.gens=#[]){cs:List Int}{vs:List Value}{a:ah}(hc:cs.length<=63)
  (ha:s.heap.get? a=some {cls:=.type "list",data:=.seq vs.toArray}) (hv:WellAll w.params s.heap vs (cs.map WData.int)) :
  aM (bj prog w) callerA (call (.ref 511) [.ref a]) (fun v s'=>v=.bool true/\(∀b o,s.heap.get? b=some o->s'.heap.get? b=some o)/\s'.os=s.os/\s'.gens=#[]) (fun zz zz=>False) s:=by
 let g:GX:=⟨prog,w,s.heap,p,loose,mg,mb,s.os,kin,T⟩
 have r:bB g.gc [] (fun b=>∃o,s.heap.get? b=some o) (fun zz=>none) s:=⟨fun zz zz e=>e,fun b o e=>⟨o,e⟩,fun zz x=>x,(fun zz zz e=>nomatch e),(fun zz zz e=>nomatch e),(fun zz h=>nomatch h),hg,rfl⟩;have ok:Ok 300 callerA []:=⟨by decide,by decide,rfl,rfl,fun zz=>rfl⟩;have va:d7 g.gc s.heap (fun b=>∃o,s.heap.get? b=some o) [iV cs] [.ref a]:=.cons (.fz ⟨_,ha⟩ (.lst ⟨_,ha⟩ (uJ hv))) .nil;have key:=aE (Dm (g:=g) (k:=300) (X:=NX) (Q:=fun v zz=>v=.bool true) (H:=fun zz=>none) hc (fun zz=>rfl) (ax _)) callerA [] _ s _ ok r va;refine aK key (fun v s' z'=>?_) fun e s' z'=>by obtain⟨H',F',fl,c,d,r',st,x,pp,q⟩:=z';exact q
 obtain⟨H',F',r',st,v',vr,q⟩:=z';subst q;cases vr.bool_inv;exact⟨rfl,fun b o e=>st.keepF b o e ⟨o,e⟩,r'.os,r'.gens⟩
set_option tactic.hygienic true in
theorem BJ{cs:List Int}(h:PySem.Challenge.rw_ok0165_01.row.toRowW.pre.holds PySem.Challenge.rw_ok0165_01.row.toRowW.records {args:=[.list (cs.map WData.int)]}=true):cs.length<=63:=by
 w_cond h
 rename_i h1 _;rw[ae]at h1;exact L1 (Se (Pz (Cz (Kn 63)) (Kz 1)) C0 (Gn N0 (Kn 63))) rfl h1
theorem main_holds:PySem.Challenge.rw_ok0165_01.Holds:=by
 refine Mine.ho ?_;intro w s₀ s₁ mg mb G0 Y fa o pm cd doc dV kV ho' hd hcd hD hmg hg args vals as hpre hlay hrd hwl hlo;have KX:(ho.heap_1 w.params).In s₁.heap:=kIn_of Y;have T:TopRead viewP (looseW viewP looseP) mg mb s₁.heap:=topRead_of G0.T;have e1:mg "law"=some (.ref 511):=mg_of KX T.g (by kernel_rfl);have e2:some (cp 511)=some (.ref fa):=e1.symm.trans hmg;obtain rfl:=gm (aj e2);refine ea (pre_splitW hpre) fun hsh hcond=>?_;have hsh:WShape.hasAll PySem.Challenge.rw_ok0165_01.row.toRowW.records args [.list .int]=true:=hsh;refine cq (hasAllW_cons hsh) fun d r FW hd1 hr=>?_;subst FW;cases hasAllW_nil hr;refine bx (hasW_list hd1) fun xs FY hi=>?_;subst FY;refine ex (wC fun d hd=>hasW_int (hasItemsW_at hi d hd)) fun cs FZ=>?_;subst FZ;cases hwl with
 |cons a b=>
  cases b;cases a with
  |list ha hv=>
   refine aK (zL KX T hg (BJ hcond) ha hv) (fun v s' z'=>?_) fun zz zz z=>z.elim;refine Bi z' fun h1 h2 h3 h4=>?_;subst h1;exact⟨.inl ⟨.bool true,.bool true,[],rfl,fun zz=>rfl,.bool true,by wrow_post,fun zz=>⟨.nil,fun zz h=>nomatch h⟩⟩,.of_keep h2,h3,.of_eq h4⟩
end Mine.Internal
theorem PySem.Challenge.cw_ok0165_01_holds : PySem.Challenge.rw_ok0165_01.Holds :=
  Mine.Internal.main_holds
