import PyProof.Rows.All
import Wide.All
import OpenK.AllK
import Wide.FinOn
import Lean
import PySem.Challenge.RW_qd0131_01
set_option maxRecDepth 100000
set_option maxHeartbeats 0
set_option Elab.async false
set_option linter.unusedVariables false
set_option genSizeOf false
set_option genInjectivity false
set_option tactic.hygienic false
set_option genCtorIdx false
open PySem renaming wpAny_bind->m0,wpAny_pure->q0,Str.ofString->N0,wpAny_holding->J2,Value.ref->O2,intKind->U2,Heap.get?_push_of_some->V2,Heap.lt_size->K3,mainGlobals->V3,NameKind->A4,tupleKind->T4,codeAny->c5,Challenge.pw_qd0131_01->o5,call->p5,wpAny_of_eq->A5,wpAny_standAt->H5,Heap.SameBut.update->I5,Heap.get?_push_size->c6,sysModules->E6,Heap.SameBut->H6,Obj.mapSeq->J6,holding->O6,starEach->S6,Program->W6,Value.ref.inj->Z6,Value.none->q7,wpAny_mono->F7,DictEntry->G7,SetTable->J7,Comprehension->i8,Heap.get?_update_self->j8,SeqAt.EqAt->m8,entryOfKey->r8,wpAny_call_entry->G8,Obj.cls->M8,wpAny_execs_cons->j9,strKind->r9,Setting->s9,Value.int->u9,compareOp->w9,W.emptyDict->y9,relabel->N9,wpAny_call->U9,wpAny_dictEntries->V9,NameKind.casesOn->a00,Obj.data->a03,Obj.mapFields->a04,W.SharedT->a06,W.boot_heap->a08,sizeLine_eq->a0l,valueAt->a0o,wpAny_Name->a0p,wpAny_ite_split->a0q,Expr.casesOn->a0u,assignEach->a18,getMethod->a1g,standAt->a24,wpAny_loadPart_at->a2b,wpAny_rule->a2c,Value.bool->a2r,codeAny_of_tree->a2v,wpAny_askSetting->a3x,wpAny_isInstance->a3y,Heap.get?_none_of_le->a43,W.Looks.of_pure->a4c,Obj.data_mapFields->a4h,F.excBase_Exception->a4i,KeyKind->a4j,wpAny_dictEpoch->a6d,wpAny_onRaise->a6e,wpAny_typeOf->a6f,Heap.hide_ne->a6k,Heap.size_push->a6l,Obj.putSet->a6w,Shared.heap->a6y,assignInOrder->a76,call_meets->a7a,call_meetsIn->a7b,checkBuiltinCall->a7c,codeAny_builtin->a7f,excClassObj->a7r,foldedForSure->a7x,W.looks_findIn->a8c,methodCallForm->a8g,wpAny_attempt->a9e,wpAny_items_cons->a9f,wpAny_newObj_type->a9g,wpAny_truthy_bool->a9h,Heap.SameBut.refl->a9l,F.slot_dict_get->b02,F.slot_dict_keyiterator_next->b03,comprehension->b0o,importedModules->b1i,isSubtype_type->b1u,letOwnedTupleGo->b2e,newFunctionEnv->b2s,swappedStores->b3y,wpAny_BinOp->b4b,wpAny_Call_NameR->b4c,wpAny_alloc->b4d,wpAny_callSpecial?_slot->b4e,wpAny_isSubtype_exc->b4f,wpAny_items_nil->b4g,wpAny_loadName_local->b4h,wpAny_newList->b4i,wpAny_notOrdered_dict->b4j,wpAny_setField->b4k,Around.frames_deeper->b4n,Around.under_plainId->b4o,Builtin.Dict.dictSlotArgs->b4p,Heap.hide_self->b4s,Keeper.machine->b4v,Obj.isFreed_of_fields->b56,Obj.putNameByArray->b57,Obj.putName_eq->b58,F.entry_dict_get->b5c,arm_eval_Constant->b5n,codeAny_call_builtin->b69,constantsAlone->b6e,firstArgMember->b77,wpAny_execs_nil->c3o,wpAny_fieldsOf->c3p,wpAny_loadName_cell->c3q,wpAny_loadPart->c3r,wpAny_specialOf->c3s,wpAny_storeSet_of->c3t,wpAny_typeNameOfWhole_keyiter->c3u
open Nat renaming beq->o0,add->w0,blt->J0,succ->Q0,ble->U0,le_trans->W0,mul->C1,div->M1,mod->O1,eq_of_beq_eq_true->V1,sub->A2,le_of_ble_eq_true->d3,le_refl->i3,ne_of_lt->j3,lt_of_lt_of_le->H3,not_lt->M3,lt_of_le_of_lt->Z3,lt_trans->i4,le_add_right->m4,rec->o4,zero_le->D5,lt_of_succ_lt_succ->q6,pred->s6,le_succ->H7,ne_of_beq_eq_false->I7,add_le_add_left->k8,lt_succ_self->l8,le_of_lt->J8,zero_add->K8,add_lt_add_left->n9,not_lt_zero->o9,succ.inj->p9,succ_pos->q9,lt_irrefl->a01,mod_lt->a02,not_le->a12,succ_le_succ->a13,add_assoc->a2m,add_comm->a2n,lt_succ_of_le->a2o,le_of_eq->a4d,shiftLeft->a4e,succ_lt_succ->a4f,add_sub_cancel_left->a6t,div_add_mod->a6u,add_sub_cancel'->a9u,ble_eq_true_of_le->a9v,le_add_left->a9w,lt_succ_of_lt->a9x,shiftRight->a9y,le_of_lt_succ->b51,le_of_succ_le->b52,ne_of_gt->b53,sub_self->b54,succ_add->b55
open Option renaming some.inj->C0,rec->K0,map_eq_some_iff->a05,map_some->b59
open List renaming rec->E0,mem_cons->O0,cons.inj->Z0,not_mem_nil->G1,casesOn->Y2,mem_cons_self->B3,mem_cons_of_mem->C3,length_map->K4,getElem?_eq_getElem->R4,mem_singleton->S4,mem_map->d6,eq_nil_of_length_eq_zero->o6,size_toArray->p6,forIn_cons->n7,replicate->o7,map_cons->I8,getElem?_map->m9,all_eq_true->X9,length_cons->Y9,range->Z9,getD_eq_getElem?_getD->a0y,mem_append_left->a0z,forIn_nil->a2i,getElem?_toArray->a2j,mem_append_right->a2k,nodup_nil->a2l,append_assoc->a45,filterMap->a46,forall_mem_cons->a47,length_append->a48,map_congr_left->a49,mem_append->a4a,nodup_cons->a4b,filter_cons_of_neg->a6n,filter_cons_of_pos->a6o,map_map->a6p,mem_filter->a6q,mem_of_getElem?->a6r,pairwise_cons->a6s,find?_cons->a9p,getElem?_eq_some_iff->a9q,length_replicate->a9r,mem_range->a9s,range'->a9t,getElem?_append_right->b4x,getElem?_eq_none->b4y,getElem_mem->b4z,getLast?_eq_some_getLast->b50
open Bool renaming noConfusion->T1,false_ne_true->Z2,not_eq_true'->n6,and_eq_true_iff->H8,and_eq_true->a41
open Int renaming ofNat->M2,casesOn->W9,le_trans->a2g,toNat_natCast->a2h,le_refl->a6m,natCast_nonneg->a9n,ofNat_le->a9o,ofNat_eq_natCast->b4t
open Ne renaming symm->p7
open Array renaming length_toList->g8,getElem?_eq_getElem->a6h,getElem?_toList->a6i,not_mem_empty->a6j
open ForInStep renaming yield->a2f
open Prod renaming mk.inj->a6x
open PyProof.Rows renaming isInt->b01
namespace Mine
open PySem PySem.W PySem.Calls PyProof.Rows
@[elab_as_elim] theorem rE{α:Sort _}{p:α->Prop}{a b:α}(h:a=b)(k:p b):p a:=h▸k
@[elab_as_elim] theorem rF{α:Sort _}{p:α->Prop}{a b:α}(h:b=a)(k:p b):p a:=h▸k
theorem ye{α:Sort _}{Q:α->Prop}{g:Prop}(h:∃x,Q x)(k:∀x,Q x->g):g:=h.elim fun x1 h1=>k x1 h1
theorem ya{P1:Prop}{Q:Prop}{g:Prop}(h:P1/\Q)(k:P1->Q->g):g:=k h.1 h.2
theorem yea{α:Sort _}{P1:α->Prop}{Q:α->Prop}{g:Prop}(h:∃x,P1 x/\Q x)(k:∀x,P1 x->Q x->g):g:=h.elim fun x1 h1=>ya h1 (k x1)
theorem yee{α:Sort _}{β:Sort _}{Q:α->β->Prop}{g:Prop}(h:∃x,∃y,Q x y)(k:∀x,∀y,Q x y->g):g:=h.elim fun x1 h1=>ye h1 (k x1)
theorem yaa{P1:Prop}{P2:Prop}{Q:Prop}{g:Prop}(h:P1/\P2/\Q)(k:P1->P2->Q->g):g:=ya h.2 (k h.1)
theorem R0{α:Sort _}{P1:α->Prop}{P2:α->Prop}{Q:α->Prop}{g:Prop}(h:∃x,P1 x/\P2 x/\Q x)(k:∀x,P1 x->P2 x->Q x->g):g:=h.elim fun x1 h1=>yaa h1 (k x1)
theorem B1{α:Sort _}{β:Sort _}{P1:α->β->Prop}{Q:α->β->Prop}{g:Prop}(h:∃x,∃y,P1 x y/\Q x y)(k:∀x,∀y,P1 x y->Q x y->g):g:=h.elim fun x1 h1=>yea h1 (k x1)
theorem m5{P1:Prop}{α:Sort _}{P2:α->Prop}{Q:α->Prop}{g:Prop}(h:P1/\∃x,P2 x/\Q x)(k:P1->∀x,P2 x->Q x->g):g:=yea h.2 (k h.1)
theorem n5{α:Sort _}{β:Sort _}{γ:Sort _}{Q:α->β->γ->Prop}{g:Prop}(h:∃x,∃y,∃z,Q x y z)(k:∀x,∀y,∀z,Q x y z->g):g:=h.elim fun x1 h1=>yee h1 (k x1)
theorem Q5{P1:Prop}{P2:Prop}{P3:Prop}{Q:Prop}{g:Prop}(h:P1/\P2/\P3/\Q)(k:P1->P2->P3->Q->g):g:=yaa h.2 (k h.1)
theorem R3{α:Sort _}{β:Sort _}{P1:α->β->Prop}{P2:α->β->Prop}{Q:α->β->Prop}{g:Prop}(h:∃x,∃y,P1 x y/\P2 x y/\Q x y)(k:∀x,∀y,P1 x y->P2 x y->Q x y->g):g:=h.elim fun x1 h1=>R0 h1 (k x1)
theorem W4{α:Sort _}{P1:α->Prop}{P2:α->Prop}{P3:α->Prop}{Q:α->Prop}{g:Prop}(h:∃x,P1 x/\P2 x/\P3 x/\Q x)(k:∀x,P1 x->P2 x->P3 x->Q x->g):g:=h.elim fun x1 h1=>Q5 h1 (k x1)
theorem G3{α:Sort _}{β:Sort _}{γ:Sort _}{P1:α->β->γ->Prop}{Q:α->β->γ->Prop}{g:Prop}(h:∃x,∃y,∃z,P1 x y z/\Q x y z)(k:∀x,∀y,∀z,P1 x y z->Q x y z->g):g:=h.elim fun x1 h1=>B1 h1 (k x1)
theorem l7{P1:Prop}{α:Sort _}{β:Sort _}{P2:α->β->Prop}{Q:α->β->Prop}{g:Prop}(h:P1/\∃x,∃y,P2 x y/\Q x y)(k:P1->∀x,∀y,P2 x y->Q x y->g):g:=B1 h.2 (k h.1)
theorem G4{α:Sort _}{β:Sort _}{γ:Sort _}{P1:α->β->γ->Prop}{P2:α->β->γ->Prop}{Q:α->β->γ->Prop}{g:Prop}(h:∃x,∃y,∃z,P1 x y z/\P2 x y z/\Q x y z)(k:∀x,∀y,∀z,P1 x y z->P2 x y z->Q x y z->g):g:=h.elim fun x1 h1=>R3 h1 (k x1)
theorem m7{α:Sort _}{P1:α->Prop}{β:Sort _}{γ:Sort _}{P2:α->β->γ->Prop}{Q:α->β->γ->Prop}{g:Prop}(h:∃x,P1 x/\∃y,∃z,P2 x y z/\Q x y z)(k:∀x,P1 x->∀y,∀z,P2 x y z->Q x y z->g):g:=h.elim fun x1 h1=>l7 h1 (k x1)
theorem a3z{α:Sort _}{β:Sort _}{P1:α->β->Prop}{P2:α->β->Prop}{P3:α->β->Prop}{Q:α->β->Prop}{g:Prop}(h:∃x,∃y,P1 x y/\P2 x y/\P3 x y/\Q x y)(k:∀x,∀y,P1 x y->P2 x y->P3 x y->Q x y->g):g:=h.elim fun x1 h1=>W4 h1 (k x1)
theorem a9i{α:Sort _}{P1:α->Prop}{P2:α->Prop}{β:Sort _}{P3:α->β->Prop}{Q:α->β->Prop}{g:Prop}(h:∃x,P1 x/\P2 x/\∃y,P3 x y/\Q x y)(k:∀x,P1 x->P2 x->∀y,P3 x y->Q x y->g):g:=h.elim fun x1 h1=>m5 h1.2 (k x1 h1.1)
theorem a0s{α:Sort _}{β:Sort _}{γ:Sort _}{P1:α->β->γ->Prop}{P2:α->β->γ->Prop}{P3:α->β->γ->Prop}{Q:α->β->γ->Prop}{g:Prop}(h:∃x,∃y,∃z,P1 x y z/\P2 x y z/\P3 x y z/\Q x y z)(k:∀x,∀y,∀z,P1 x y z->P2 x y z->P3 x y z->Q x y z->g):g:=h.elim fun x1 h1=>a3z h1 (k x1)
theorem a40{α:Sort _}{β:Sort _}{P1:α->β->Prop}{P2:α->β->Prop}{P3:α->β->Prop}{P4:α->β->Prop}{Q:α->β->Prop}{g:Prop}(h:∃x,∃y,P1 x y/\P2 x y/\P3 x y/\P4 x y/\Q x y)(k:∀x,∀y,P1 x y->P2 x y->P3 x y->P4 x y->Q x y->g):g:=h.elim fun x1 h1=>h1.elim fun x2 h2=>Q5 h2.2 (k x1 x2 h2.1)
theorem k9{α:Sort _}{β:Sort _}{γ:Sort _}{P1:α->β->γ->Prop}{P2:α->β->γ->Prop}{P3:α->β->γ->Prop}{P4:α->β->γ->Prop}{Q:α->β->γ->Prop}{g:Prop}(h:∃x,∃y,∃z,P1 x y z/\P2 x y z/\P3 x y z/\P4 x y z/\Q x y z)(k:∀x,∀y,∀z,P1 x y z->P2 x y z->P3 x y z->P4 x y z->Q x y z->g):g:=h.elim fun x1 h1=>a40 h1 (k x1)
theorem T6{α:Sort _}{β:Sort _}{γ:Sort _}{δ:Sort _}{P1:α->β->γ->δ->Prop}{P2:α->β->γ->δ->Prop}{P3:α->β->γ->δ->Prop}{Q:α->β->γ->δ->Prop}{g:Prop}(h:∃x,∃y,∃z,∃u,P1 x y z u/\P2 x y z u/\P3 x y z u/\Q x y z u)(k:∀x,∀y,∀z,∀u,P1 x y z u->P2 x y z u->P3 x y z u->Q x y z u->g):g:=h.elim fun x1 h1=>a0s h1 (k x1)
theorem a2d{α:Sort _}{β:Sort _}{γ:Sort _}{P1:α->β->γ->Prop}{P2:α->β->γ->Prop}{P3:α->β->γ->Prop}{P4:α->β->γ->Prop}{P5:α->β->γ->Prop}{Q:α->β->γ->Prop}{g:Prop}(h:∃x,∃y,∃z,P1 x y z/\P2 x y z/\P3 x y z/\P4 x y z/\P5 x y z/\Q x y z)(k:∀x,∀y,∀z,P1 x y z->P2 x y z->P3 x y z->P4 x y z->P5 x y z->Q x y z->g):g:=h.elim fun x1 h1=>h1.elim fun x2 h2=>h2.elim fun x3 h3=>Q5 h3.2.2 (k x1 x2 x3 h3.1 h3.2.1)
theorem a6g{α:Sort _}{P1:α->Prop}{β:Sort _}{γ:Sort _}{δ:Sort _}{P2:α->β->γ->δ->Prop}{P3:α->β->γ->δ->Prop}{P4:α->β->γ->δ->Prop}{P5:α->β->γ->δ->Prop}{Q:α->β->γ->δ->Prop}{g:Prop}(h:∃x,P1 x/\∃y,∃z,∃u,P2 x y z u/\P3 x y z u/\P4 x y z u/\P5 x y z u/\Q x y z u)(k:∀x,P1 x->∀y,∀z,∀u,P2 x y z u->P3 x y z u->P4 x y z u->P5 x y z u->Q x y z u->g):g:=h.elim fun x1 h1=>k9 h1.2 (k x1 h1.1)
set_option genCtorIdx true in
inductive BI where
 |len|range|isinstance|sorted|reversed|enumerate|dict|tuple|set|max|bytes|bool|int|list|abs
inductive V where
 |none|bool (b:Bool) |int (i:Int) |str (s:Str) |byt (b:Array UInt8) |bi (b:BI) |prog (a:Nat) |ref (i:Nat) |tup (xs:List V)
set_option genCtorIdx true in
inductive O where
 |list (xs:List V)
 |dictI (es:List (Int×Option V)) |dictS (es:List (Str×Option V)) |six (l:List (Option V))
 |ns (es:List (Str×V)) |idict (es:List (Str×V)) |inst (c:Nat) (d:Nat) |cell (v:Option V)
 |liter (l:Nat) (i:Nat) |titer (xs:List V) (i:Nat) |riter (x left step:Int) |range (a b c:Int)
 |enum (it:Nat) (i:Int) |rev (l:Nat) (i:Int) |kiter (d i n:Nat)
 |tape (n:Nat) (g:List Nat)
 |code (i:Nat)
noncomputable def ifb{α:Type}(b:Bool)(p q:α):α:=Bool.rec (motive:=fun _=>α) q p b
theorem z9{α:Type}(c:Prop)[Decidable c](p q:α):ifb (decide c) p q=if c then p else q:=by
 by_cases h:c
 ·refine rE (decide_eq_true h) (rE (if_pos h) ?_);rfl
 ·refine rE (decide_eq_false h) (rE (if_neg h) ?_);rfl
theorem a07(a b:Nat):o0 a b=decide (a=b):=by
 cases h:o0 a b with
 |true=>exact (decide_eq_true (V1 h)).symm
 |false=>exact (decide_eq_false (I7 h)).symm
theorem b0h(a b:Nat):U0 a b=decide (a<=b):=by
 cases h:U0 a b with
 |true=>exact (decide_eq_true (d3 h)).symm
 |false=>exact (decide_eq_false fun q=>by rw[a9v q] at h;cases h).symm
inductive B where
 |nil|node (v:Option O) (l r:B)
noncomputable def B.v(t:B):Option O:=B.rec (motive:=fun _=>Option O) none (fun v _ _ _ _=>v) t
noncomputable def B.l(t:B):B:=B.rec (motive:=fun _=>B) .nil (fun _ l _ _ _=>l) t
noncomputable def B.r(t:B):B:=B.rec (motive:=fun _=>B) .nil (fun _ _ r _ _=>r) t
noncomputable def sel{α:Type}(i:Nat)(a b c:α):α:=ifb (o0 i 0) a (ifb (o0 (O1 i 2) 1) b c)
noncomputable def B.get(t:B):Nat->Option O:=B.rec (motive:=fun _=>Nat->Option O) (fun _=>none) (fun v _ _ ihl ihr i=>sel i v (ihl (M1 i 2)) (ihr (A2 (M1 i 2) 1))) t
noncomputable def B.cs(t:B)(f:Option O->B->B->B):B:=B.rec (motive:=fun _=>B) (f none .nil .nil) (fun v l r _ _=>f v l r) t
noncomputable def B.set(w:Option O)(k:Nat):B->Nat->B:=o4 (motive:=fun _=>B->Nat->B) (fun t _=>t) (fun _ ih t i=>t.cs fun v l r=>sel i (.node w l r) (.node v (ih l (M1 i 2)) r) (.node v l (ih r (A2 (M1 i 2) 1)))) k
theorem d2n{α:Type}(i:Nat)(a b c:α):sel i a b c=if i=0 then a else if i % 2=1 then b else c:=by
 unfold sel;refine rE (a07 ..) (rE (a07 ..) (rE (z9 ..) (rE (z9 ..) ?_)));rfl
theorem B.get_node(v:Option O)(l r:B)(i:Nat):(B.node v l r).get i=if i=0 then v else if i % 2=1 then l.get (i / 2) else r.get (i / 2 - 1):=d2n i v (l.get (i / 2)) (r.get (i / 2 - 1))
theorem B.get_open(t:B)(i:Nat):t.get i=if i=0 then t.v else if i % 2=1 then t.l.get (i / 2) else t.r.get (i / 2 - 1):=by
 cases t with
 |nil=>exact (ite_self _).symm.trans (congrArg _ (ite_self _).symm)
 |node v l r=>exact B.get_node v l r i
theorem B.set_succ(w:Option O)(k:Nat)(t:B)(i:Nat):B.set w (k+1) t i=if i=0 then .node w t.l t.r else if i % 2=1 then .node t.v (B.set w k t.l (i / 2)) t.r else .node t.v t.l (B.set w k t.r (i / 2 - 1)):=by
 cases t <;>exact d2n i _ _ _
theorem d4t{i j:Nat}(h:i / 2=j / 2)(q:i % 2=j % 2):i=j:=by exact rF (a6u i 2) (rF (a6u j 2) (rE h (rE q rfl)))
theorem c80{i:Nat}(h:i≠0)(q:¬ i % 2=1):0 < i / 2:=by omega
theorem c81{i k:Nat}(h:i+1 < 2 * 2 ^ k)(n:i≠0):i / 2 - 1+1 < 2 ^ k/\(i % 2=1->i / 2+1 < 2 ^ k):=by omega
theorem B.get_set(w:Option O):∀ (k:Nat) (t:B) (i j:Nat),i+1 < 2 ^ k->(B.set w k t i).get j=if j=i then w else t.get j
 |0,t,i,j,h=>absurd h (M3.mpr (a9w 1 i))
 |k+1,t,i,j,h=>by
  rw[Nat.pow_succ,Nat.mul_comm] at h;refine rE (B.set_succ ..) (rE (B.get_open t j) ?_);by_cases h0:i=0
  ·subst h0
   refine rE (if_pos rfl) (rE (B.get_node ..) ?_);by_cases hj:j=0
   ·exact rE (if_pos hj) (rE (if_pos hj) rfl)
   ·exact rE (if_neg hj) (rE (if_neg hj) (rE (if_neg hj) rfl))
  ·refine rE (if_neg h0) ?_
   by_cases q:i % 2=1
   ·refine rE (if_pos q) (rE (B.get_node ..) (rE (B.get_set w k t.l (i / 2) (j / 2) ((c81 h h0).2 q)) ?_))
    by_cases hj:j=i
    ·subst hj;exact rE (if_pos rfl) (rE (if_pos rfl) (rE (if_neg h0) (rE (if_pos q) rfl)))
    ·refine rE (if_neg hj) ?_
     by_cases r:j % 2=1
     ·exact rE (if_neg (fun e=>hj (d4t e (r.trans q.symm)))) rfl
     ·exact rE (if_neg r) (rE (if_neg r) rfl)
   ·refine rE (if_neg q) (rE (B.get_node ..) (rE (B.get_set w k t.r (i / 2 - 1) (j / 2 - 1) (c81 h h0).1) ?_))
    by_cases hj:j=i
    ·subst hj;exact rE (if_pos rfl) (rE (if_pos rfl) (rE (if_neg h0) (rE (if_neg q) rfl)))
    ·refine rE (if_neg hj) ?_
     by_cases j0:j=0
     ·exact rE (if_pos j0) (rE (if_pos j0) rfl)
     ·by_cases r:j % 2=1
      ·exact rE (if_pos r) (rE (if_pos r) rfl)
      ·exact rE (if_neg (fun e=>hj (d4t (Nat.sub_one_cancel (c80 j0 r) (c80 h0 q) e) ((Nat.mod_two_ne_one.mp r).trans (Nat.mod_two_ne_one.mp q).symm)))) rfl
structure T where
 lo:B
 hi:B
noncomputable def low{α:Type}(i:Nat)(a b:α):α:=ifb (U0 (Q0 i) 256) a b
theorem c9l{α:Type}(i:Nat)(a b:α):low i a b=if i < 256 then a else b:=by
 unfold low;refine rE (b0h ..) (rE (z9 ..) ?_);rfl
noncomputable def T.get(t:T)(i:Nat):Option O:=T.rec (motive:=fun _=>Option O) (fun lo hi=>low i (lo.get i) (hi.get (A2 i 256))) t
noncomputable def T.set(w:Option O)(t:T)(i:Nat):T:=T.rec (motive:=fun _=>T) (fun lo hi=>low i ⟨B.set w 21 lo i,hi⟩ ⟨lo,B.set w 21 hi (A2 i 256)⟩) t
theorem T.get_eq(t:T)(i:Nat):t.get i=if i < 256 then t.lo.get i else t.hi.get (i - 256):=c9l i _ _
theorem lt21{i:Nat}(h:i < 1000000):i+1 < 2 ^ 21:=by omega
theorem T.get_set(w:Option O)(t:T)(i:Nat)(j:Nat)(h:i < 1000000):(T.set w t i).get j=if j=i then w else t.get j:=by
 refine rE (show T.set w t i=low i ⟨B.set w 21 t.lo i,t.hi⟩ ⟨t.lo,B.set w 21 t.hi (A2 i 256)⟩ from rfl) (rE (c9l ..) (rE (T.get_eq ..) (rE (T.get_eq ..) ?_)));by_cases hi:i < 256
 ·refine rE (if_pos hi) ?_
  by_cases hj:j < 256
  ·refine rE (if_pos hj) (rE (if_pos hj) ?_);exact B.get_set w 21 t.lo i j (lt21 h)
  ·exact rE (if_neg hj) (rE (if_neg hj) (rE (if_neg (show ¬ j=i from fun e=>hj (e▸hi))) rfl))
 ·refine rE (if_neg hi) ?_
  by_cases hj:j < 256
  ·exact rE (if_pos hj) (rE (if_pos hj) (rE (if_neg (show ¬ j=i from fun e=>hi (e▸hj))) rfl))
  ·refine rE (if_neg hj) (rE (if_neg hj) ?_)
   refine rE (show (T.mk t.lo (B.set w 21 t.hi (A2 i 256))).hi.get (j - 256)=_ from B.get_set w 21 t.hi (A2 i 256) (j - 256) (lt21 (i:=A2 i 256) (Z3 (Nat.sub_le i 256) h))) ?_;by_cases q:j=i
   ·exact rE (if_pos q) (rE (if_pos (show j - 256=A2 i 256 by rw[q];rfl)) rfl)
   ·exact rE (if_neg q) (rE (if_neg (show ¬ j - 256=A2 i 256 from fun e=>q (by rw[<-Nat.sub_add_cancel (M3.mp hj),<-Nat.sub_add_cancel (M3.mp hi),e];rfl))) rfl)
inductive All2{α β:Type}(R:α->β->Prop):List α->List β->Prop
 |nil:All2 R [] []
 |cons {a:α} {b:β} {l:List α} {m:List β}:R a b->All2 R l m->All2 R (a::l) (b::m)
section
variable{α β:Type}{R S:α->β->Prop}{l l':List α}{m m':List β}
theorem All2.length(h:All2 R l m):l.length=m.length:=by
 induction h with
 |nil=>rfl
 |cons _ _ ih=>exact congrArg Q0 ih
theorem All2.mono(k:∀a b,R a b->S a b)(h:All2 R l m):All2 S l m:=by
 induction h with
 |nil=>exact .nil
 |cons h _ ih=>exact .cons (k _ _ h) ih
theorem All2.append(h:All2 R l m)(h':All2 R l' m'):All2 R (l++l') (m++m'):=by
 induction h with
 |nil=>exact h'
 |cons h _ ih=>exact .cons h ih
theorem All2.one{a:α}{b:β}(h:R a b):All2 R [a] [b]:=.cons h .nil
theorem All2.at(h:All2 R l m):∀ {i:Nat} {a:α},l[i]? =some a->∃b,m[i]? =some b/\R a b:=by
 induction h with
 |nil=>exact fun e=>nomatch e
 |cons h _ ih=>
  intro i a e;cases i with
  |zero=>exact ⟨_,rfl,C0 e▸h⟩
  |succ i=>exact ih e
theorem All2.set(h:All2 R l m):∀ (i:Nat) {a:α} {b:β},R a b->All2 R (l.set i a) (m.set i b):=by
 induction h with
 |nil=>exact fun _ _ _ _=>.nil
 |cons h t ih=>
  intro i a b r;cases i with
  |zero=>exact .cons r t
  |succ i=>exact .cons h (ih i r)
theorem All2.take(h:All2 R l m):∀ (n:Nat),All2 R (l.take n) (m.take n):=by
 induction h with
 |nil=>intro n;cases n <;>exact .nil
 |cons h _ ih=>intro n;cases n with|zero=>exact .nil|succ n=>exact .cons h (ih n)
theorem All2.drop(h:All2 R l m):∀ (n:Nat),All2 R (l.drop n) (m.drop n):=by
 induction h with
 |nil=>intro n;cases n <;>exact .nil
 |cons h t ih=>intro n;cases n with|zero=>exact .cons h t|succ n=>exact ih n
theorem All2.reverse(h:All2 R l m):All2 R l.reverse m.reverse:=by
 induction h with
 |nil=>exact .nil
 |cons h _ ih=>refine rE List.reverse_cons (rE List.reverse_cons ?_);exact ih.append (.one h)
theorem len2{α:Type}{l:List α}(h:l.length=2):∃a b,l=[a,b]:=by
 cases l with
 |nil=>cases h
 |cons a l=>cases l with
  |nil=>cases h
  |cons b l=>exact ⟨a,b,by exact rE (o6 (p9 (p9 h))) rfl⟩
theorem a8a{α:Type}{l:List α}(h:l.length=3):∃a b c,l=[a,b,c]:=by
 cases l with
 |nil=>cases h
 |cons a l=>refine yee (len2 (p9 h)) fun b c zz=>?_;subst zz;exact ⟨a,b,c,rfl⟩
theorem I2{α β:Sort _}{P:α->β->Prop}(a:α)(b:β)(h:P a b):∃a b,P a b:=⟨a,b,h⟩
theorem I3{α β γ:Sort _}{P:α->β->γ->Prop}(a:α)(b:β)(c:γ)(h:P a b c):∃a b c,P a b c:=⟨a,b,c,h⟩
theorem I4{α β γ δ:Sort _}{P:α->β->γ->δ->Prop}(a:α)(b:β)(c:γ)(d:δ)(h:P a b c d):∃a b c d,P a b c d:=⟨a,b,c,d,h⟩
theorem I6{α β γ δ ε ζ:Sort _}{P:α->β->γ->δ->ε->ζ->Prop}(a:α)(b:β)(c:γ)(d:δ)(e:ε)(f:ζ)(h:P a b c d e f):∃a b c d e f,P a b c d e f:=⟨a,b,c,d,e,f,h⟩
theorem a5a:∀ {k:Nat},k < 3->k=0∨k=1∨k=2:=fun {k} h=>(by decide:∀k,k < 3->k=0∨k=1∨k=2) k h
theorem All2.nilR(h:All2 R [] m):m=[]:=by cases h;rfl
theorem All2.consR{a:α}(h:All2 R (a::l) m):∃b r,m=b::r/\R a b/\All2 R l r:=by cases h with|cons h t=>exact ⟨_,_,rfl,h,t⟩
end
noncomputable def BI.val:BI->Value
 | .len=>.builtin "len" | .isinstance=>.builtin "isinstance" | .sorted=>.builtin "sorted" | .max=>.builtin "max" | .abs=>.builtin "abs"
 | .range=>.type "range" | .reversed=>.type "reversed" | .enumerate=>.type "enumerate" | .dict=>.type "dict" | .tuple=>.type "tuple" | .set=>.type "set"
 | .bytes=>.type "bytes" | .bool=>.type "bool" | .int=>.type "int" | .list=>.type "list"
noncomputable def F6(vs:List Value)(k:Nat):Obj:=⟨.type "tuple",none,.seq vs.toArray k,#[]⟩
noncomputable def T5(vs:List Value)(k:Nat):Obj:=⟨.type "list",none,.seq vs.toArray k,#[]⟩
noncomputable def Tups(h h':Heap):Prop:=∀b vs k,h.get? b=some (F6 vs k)->h'.get? b=some (F6 vs k)
theorem Tups.refl{h:Heap}:Tups h h:=fun _ _ _ e=>e
theorem Tups.trans{h h' h'':Heap}(x:Tups h h')(y:Tups h' h''):Tups h h'':=fun b vs k e=>y b vs k (x b vs k e)
theorem Tups.of{h h':Heap}(x:∀b o,h.get? b=some o->h'.get? b=some o):Tups h h':=fun b vs k e=>x b _ e
section
variable(h:Heap)(ρ:Nat->Addr)(n:Nat)
noncomputable def c8s(ih:List Value->Prop)(v:Value):Prop:=∃b vs k,v=.ref b/\h.get? b=some (F6 vs k)/\ih vs
noncomputable def c8k(p:Value->Prop)(q:List Value->Prop)(m:List Value):Prop:=∃v r,m=v::r/\p v/\q r
noncomputable def isRef(i:Nat)(v:Value):Prop:=v=.ref (ρ i)/\i < n
noncomputable def isInt(i:Int)(v:Value):Prop:=∃t,v=.int i t
noncomputable def isStr(s:Str)(v:Value):Prop:=∃t,v=.str s t
noncomputable def c8h(b:Array UInt8)(v:Value):Prop:=∃t,v=.bytes b t
noncomputable def VR(v:V):Value->Prop:=V.rec (motive_1:=fun _=>Value->Prop) (motive_2:=fun _=>List Value->Prop)
 (Eq · .none) (fun b=>(Eq · (.bool b))) isInt isStr c8h (fun b=>(Eq · b.val)) (fun a=>(Eq · (.ref a))) (isRef ρ n) (fun _ ih=>c8s h ih) (Eq · []) (fun _ _ p q=>c8k p q) v
noncomputable def VRs(l:List V):List Value->Prop:=V.rec_1 (motive_1:=fun _=>Value->Prop) (motive_2:=fun _=>List Value->Prop)
 (Eq · .none) (fun b=>(Eq · (.bool b))) isInt isStr c8h (fun b=>(Eq · b.val)) (fun a=>(Eq · (.ref a))) (isRef ρ n) (fun _ ih=>c8s h ih) (Eq · []) (fun _ _ p q=>c8k p q) l
noncomputable def VRl(l:List V)(vs:List Value):Prop:=All2 (VR h ρ n) l vs
noncomputable def VRo(a:Option V)(v:Option Value):Prop:=K0 (motive:=fun _=>Prop) (v=none) (fun a=>∃b,v=some b/\VR h ρ n a b) a
end
section
variable{h h':Heap}{ρ ρ':Nat->Addr}{n n':Nat}
theorem c42:∀ {l:List V} {m:List Value},VRl h ρ n l m->VRs h ρ n l m
 | [],m,e=>e.nilR
 |_::_,m,e=>R3 e.consR fun _ _ q h1 h2=>⟨_,_,q,h1,c42 h2⟩
theorem c41:∀ {l:List V} {m:List Value},VRs h ρ n l m->VRl h ρ n l m
 | [],m,e=>(show m=[] from e)▸.nil
 |_::_,m,e=>R3 e fun _ _ q h1 h2=>q▸.cons h1 (c41 h2)
theorem J5{xs:List V}{v:Value}(e:VR h ρ n (.tup xs) v):∃b vs k,v=.ref b/\h.get? b=some (F6 vs k)/\VRl h ρ n xs vs:=
 G4 e fun b vs k h1 h2 h3=>⟨b,vs,k,h1,h2,c41 h3⟩
theorem a6z{xs:List V}{b:Addr}{vs:List Value}{k:Nat}(h1:h.get? b=some (F6 vs k))(h2:VRl h ρ n xs vs):VR h ρ n (.tup xs) (.ref b):=
 ⟨b,vs,k,rfl,h1,c42 h2⟩
theorem VRl.len{xs:List V}{vs:List Value}(e:VRl h ρ n xs vs):vs.length=xs.length:=(All2.length e).symm
theorem VR.map(ht:Tups h h')(hi:∀i v,isRef ρ n i v->isRef ρ' n' i v){a:V}:∀ {v:Value},VR h ρ n a v->VR h' ρ' n' a v:=by
 refine @V.rec (fun a=>∀ {v},VR h ρ n a v->VR h' ρ' n' a v) (fun l=>∀ {m},VRs h ρ n l m->VRs h' ρ' n' l m) (fun e=>e) (fun _ _ e=>e) (fun _ _ e=>e) (fun _ _ e=>e) (fun _ _ e=>e) (fun _ _ e=>e) (fun _ _ e=>e)
  (fun i _ e=>hi i _ e) (fun _ ih _ e=>?_) (fun e=>e) (fun _ _ ih1 ih2 _ e=>?_) a
 ·refine G4 e fun b vs k h1 h2 h3=>?_;clear e;exact ⟨b,vs,k,h1,ht b vs k h2,ih h3⟩
 ·refine R3 e fun v r h1 h2 h3=>?_;clear e;exact ⟨v,r,h1,ih1 h2,ih2 h3⟩
theorem VRo.map(k:∀a v,VR h ρ n a v->VR h' ρ' n' a v){a:Option V}{v:Option Value}(e:VRo h ρ n a v):VRo h' ρ' n' a v:=by
 cases a with
 |none=>exact e
 |some a=>obtain ⟨b,e,r⟩:=e;exact ⟨b,e,k _ _ r⟩
theorem VRo.isSome{o:Option V}{v:Option Value}(r:VRo h ρ n o v):v.isSome=o.isSome:=by
 cases o with
 |none=>cases r;rfl
 |some a=>refine yea r fun b zz _=>?_;clear r;subst zz;rfl
theorem VRo.getD{o:Option V}{v:Option Value}{d:V}{ud:Value}(r:VRo h ρ n o v)(rd:VR h ρ n d ud):VR h ρ n (o.getD d) (v.getD ud):=by
 cases o with
 |none=>cases r;exact rd
 |some a=>refine yea r fun b zz rb=>?_;clear r;subst zz;exact rb
end
noncomputable def a5g(l:List Nat):List Nat->Bool:=E0 (motive:=fun _=>List Nat->Bool) (fun m=>E0 (motive:=fun _=>Bool) true (fun _ _ _=>false) m)
 (fun a _ ih m=>E0 (motive:=fun _=>Bool) false (fun b m _=>ifb (o0 a b) (ih m) false) m) l
theorem b8x:∀ (l m:List Nat),a5g l m=decide (l=m)
 | [],[]=>rfl
 | [],_::_=>rfl
 |_::_,[]=>rfl
 |a::l,b::m=>by
  show ifb (o0 a b) (a5g l m) false=_;refine rE (a07 ..) (rE (b8x l m) (rE (z9 ..) ?_));by_cases h:a=b <;>simp [h]
noncomputable def seq(a b:Str):Bool:=a5g a.cps.toList b.cps.toList
theorem a22(a b:Str):seq a b=decide (a=b):=by
 unfold seq;refine rE (b8x ..) ?_;exact decide_eq_decide.mpr ⟨fun h=>by obtain ⟨⟨a⟩⟩:=a;obtain ⟨⟨b⟩⟩:=b;exact congrArg (fun l=>Str.mk ⟨l⟩) h,fun h=>by exact rE h rfl⟩
theorem a0k{a b:Str}:seq a b=true ↔ a=b:=by refine rE (a22 ..) ?_;exact decide_eq_true_iff
theorem d2s{a b:Str}(h:seq a b=false):a≠b:=fun e=>by rw[a0k.mpr e] at h;cases h
noncomputable def lkG{κ α:Type}(eq:κ->κ->Bool)(l:List (κ×α))(x:κ):Option α:=E0 (motive:=fun _=>Option α) none (fun p _ ih=>ifb (eq p.1 x) (some p.2) ih) l
noncomputable def lk{α:Type}(l:List (Str×α))(x:Str):Option α:=lkG seq l x
theorem a0e{α:Type}(x:Str):∀ (l:List (Str×α)),lk l x=l.lookup x
 | []=>rfl
 |p::l=>by
  show ifb (seq p.1 x) (some p.2) (lk l x)=_;refine rE (a0e x l) (rE (a22 ..) (rE (z9 ..) (rE List.lookup_cons ?_)));by_cases h:p.1=x
  ·exact rE (if_pos h) (rE h (rE (beq_self_eq_true ..) rfl))
  ·exact rE (if_neg h) (rE (beq_eq_false_iff_ne.mpr (p7 h)) rfl)
structure FI where
 params:List Str
 body:List Stmt
 scope:Scope
 qual:Str
 code:Value
 dflt:Option V
noncomputable def nth{α:Type}(l:List α):Nat->Option α:=E0 (motive:=fun _=>Nat->Option α) (fun _=>none) (fun a _ ih i=>o4 (motive:=fun _=>Option α) (some a) (fun j _=>ih j) i) l
theorem Q6{α:Type}:∀ (l:List α) (i:Nat),nth l i=l[i]?
 | [],_=>rfl
 |_::_,0=>rfl
 |_::l,i+1=>Q6 l i
noncomputable def obd{α β:Type}(o:Option α)(f:α->Option β):Option β:=K0 (motive:=fun _=>Option β) none f o
noncomputable def fiOf(a:Nat)(q:Str)(d:Option V)(s:Stmt):Option FI:=Stmt.casesOn (motive_2:=fun _=>Option FI) s
  (fun _ args body _ _ _ scope _ _ _=>some ⟨args.args.map (·.arg),body,scope,q,.ref (a - 1),d⟩) (fun _ _ _ _ _ _ _ _ _ _=>none) (fun _ _ _ _ _ _ _ _ _ _ _=>none)
  (fun _ _=>none) (fun _ _=>none) (fun _ _ _=>none)
  (fun _ _ _ _ _ _ _=>none) (fun _ _ _ _=>none) (fun _ _ _ _ _=>none) (fun _ _ _ _ _=>none) (fun _ _ _ _ _=>none) (fun _ _ _ _=>none) (fun _ _ _ _=>none)
  (fun _ _ _=>none) (fun _ _ _=>none) (fun _ _ _=>none) (fun _ _ _=>none) (fun _ _ _ _ _=>none) (fun _ _ _ _ _=>none) (fun _ _ _=>none) (fun _ _=>none) (fun _ _ _ _=>none) (fun _ _=>none) (fun _ _=>none)
  (fun _ _=>none) (fun _=>none) (fun _=>none) (fun _=>none)
noncomputable def inCls(j:Nat)(s:Stmt):Option Stmt:=Stmt.casesOn (motive_2:=fun _=>Option Stmt) s
  (fun _ _ _ _ _ _ _ _ _ _=>none) (fun _ _ _ _ _ _ _ _ _ _=>none) (fun _ _ _ body _ _ _ _ _ _ _=>nth body j)
  (fun _ _=>none) (fun _ _=>none) (fun _ _ _=>none)
  (fun _ _ _ _ _ _ _=>none) (fun _ _ _ _=>none) (fun _ _ _ _ _=>none) (fun _ _ _ _ _=>none) (fun _ _ _ _ _=>none) (fun _ _ _ _=>none) (fun _ _ _ _=>none)
  (fun _ _ _=>none) (fun _ _ _=>none) (fun _ _ _=>none) (fun _ _ _=>none) (fun _ _ _ _ _=>none) (fun _ _ _ _ _=>none) (fun _ _ _=>none) (fun _ _=>none) (fun _ _ _ _=>none) (fun _ _=>none) (fun _ _=>none)
  (fun _ _=>none) (fun _=>none) (fun _=>none) (fun _=>none)
noncomputable def c9p:List Stmt:=o5.main.body
noncomputable def R1(i a:Nat)(q:Str)(d:Option V):Option FI:=obd (nth c9p i) (fiOf a q d)
noncomputable def U3(i j a:Nat)(q:Str)(d:Option V):Option FI:=obd (obd (nth c9p i) (inCls j)) (fiOf a q d)
inductive Tr(α:Type) where
 |nil|node (v:Option α) (l r:Tr α)
noncomputable def Tr.get{α:Type}(t:Tr α):Nat->Option α:=Tr.rec (motive:=fun _=>Nat->Option α) (fun _=>none) (fun v _ _ ihl ihr i=>sel i v (ihl (M1 i 2)) (ihr (A2 (M1 i 2) 1))) t
noncomputable def Nt{α:Type}(v:α)(l r:Tr α):Tr α:=.node (some v) l r
noncomputable def Nn{α:Type}(l r:Tr α):Tr α:=.node none l r
noncomputable def fnT:Tr (Option FI):=(Nn (Nn (Nn (Nn (Nn (Nn .nil (Nn (Nn (Nn (Nt (R1 46 543 ⟨#[116,114,101,101,95,98,117,105,108,116]⟩ none) .nil .nil) .nil) .nil) .nil)) (Nn .nil (Nn .nil (Nn (Nt (U3 19 5 367 ⟨#[83,104,101,108,102,46,116,111,108,100]⟩ none) .nil .nil) (Nt (R1 38 495 ⟨#[114,111,119,95,111,102]⟩ none) .nil .nil))))) (Nn (Nn (Nn (Nn (Nn (Nt (R1 42 519 ⟨#[101,118,101,110,95,112,97,114,116,115]⟩ none) .nil .nil) .nil) .nil) (Nn (Nn (Nt (R1 51 583 ⟨#[105,116,101,109,115,95,111,102]⟩ none) .nil .nil) .nil) .nil)) (Nt (U3 5 4 103 ⟨#[68,101,99,105,109,97,108,46,110,101,103,97,116,101,100]⟩ none) (Nn .nil (Nn (Nt (R1 66 679 ⟨#[112,97,114,101,110,116,95,102,97,117,108,116,115]⟩ none) .nil .nil) .nil)) .nil)) (Nn (Nn (Nn (Nt (R1 15 279 ⟨#[116,111,108,100,95,112,108,97,105,110]⟩ none) .nil .nil) .nil) (Nn .nil (Nn (Nt (R1 75 727 ⟨#[108,97,119]⟩ none) .nil .nil) .nil))) .nil))) (Nn (Nn (Nn (Nn (Nt (U3 5 8 131 ⟨#[68,101,99,105,109,97,108,46,114,111,117,110,100,101,100]⟩ none) .nil (Nt (U3 22 0 387 ⟨#[80,97,103,101,46,95,95,105,110,105,116,95,95]⟩ none) .nil .nil)) .nil) (Nn .nil (Nn (Nt (U3 19 3 355 ⟨#[83,104,101,108,102,46,110,117,109,98,101,114,115]⟩ none) .nil .nil) .nil))) (Nn (Nn (Nn .nil (Nn (Nt (R1 63 659 ⟨#[112,117,116,95,111,98,106,101,99,116,95,112,97,114,101,110,116,115]⟩ none) .nil .nil) .nil)) (Nn .nil (Nt (R1 31 467 ⟨#[112,97,103,101,115]⟩ none) .nil .nil))) .nil)) (Nn (Nt (U3 2 1 43 ⟨#[80,97,112,101,114,69,114,114,111,114,46,116,111,108,100]⟩ none) (Nt (U3 5 0 75 ⟨#[68,101,99,105,109,97,108,46,95,95,105,110,105,116,95,95]⟩ none) .nil (Nn .nil (Nn (Nt (R1 73 715 ⟨#[95,108,97,119,95,119,114,111,110,103]⟩ none) .nil .nil) .nil))) (Nn (Nn (Nt (U3 18 0 299 ⟨#[76,111,111,107,117,112,46,95,95,105,110,105,116,95,95]⟩ (some .none)) .nil .nil) .nil) .nil)) (Nn .nil (Nn (Nt (U3 10 0 187 ⟨#[78,97,109,101,46,95,95,105,110,105,116,95,95]⟩ none) (Nn (Nt (R1 49 571 ⟨#[115,116,114,117,99,116,117,114,101,95,114,111,111,116]⟩ none) .nil .nil) .nil) (Nt (R1 27 443 ⟨#[109,101,116]⟩ none) .nil .nil)) (Nt (U3 13 0 251 ⟨#[82,101,102,101,114,101,110,99,101,46,95,95,105,110,105,116,95,95]⟩ none) .nil (Nt (R1 40 507 ⟨#[108,111,110,103,101,114,95,119,97,121]⟩ none) .nil .nil))))))) (Nn (Nn (Nn (Nn (Nn .nil (Nn .nil (Nn (Nt (R1 71 705 ⟨#[95,108,97,119,95,114,111,119,115]⟩ none) .nil .nil) .nil))) (Nn .nil (Nn (Nn (Nt (R1 55 609 ⟨#[112,97,103,101,95,116,111,108,100]⟩ none) .nil .nil) .nil) (Nt (R1 36 481 ⟨#[107,101,121,95,111,102]⟩ none) .nil .nil)))) (Nn (Nn (Nt (U3 5 10 145 ⟨#[68,101,99,105,109,97,108,46,116,101,120,116]⟩ none) .nil .nil) (Nt (U3 11 0 209 ⟨#[83,116,114,105,110,103,46,95,95,105,110,105,116,95,95]⟩ (some (.bool false))) .nil .nil)) .nil)) (Nn (Nn (Nn .nil (Nn .nil (Nt (R1 29 457 ⟨#[102,105,101,108,100,115,95,111,102]⟩ none) .nil .nil))) .nil) (Nn (Nt (U3 5 2 89 ⟨#[68,101,99,105,109,97,108,46,109,105,110,117,115]⟩ none) (Nn .nil (Nn (Nt (R1 64 665 ⟨#[112,117,116,95,112,97,114,101,110,116,115]⟩ none) .nil .nil) .nil)) .nil) (Nn (Nn (Nt (U3 18 2 313 ⟨#[76,111,111,107,117,112,46,103,101,116]⟩ none) .nil .nil) .nil) (Nn (Nn (Nt (R1 59 633 ⟨#[112,97,114,101,110,116,115,95,100,117,101]⟩ none) .nil .nil) .nil) .nil))))) (Nn (Nt (R1 0 21 ⟨#[95,119,97,108,108]⟩ none) (Nn (Nn (Nn .nil (Nn (Nt (R1 61 645 ⟨#[119,105,116,104,95,107,101,121]⟩ none) .nil .nil) .nil)) .nil) .nil) (Nn (Nn (Nn (Nn (Nt (R1 44 533 ⟨#[105,110,110,101,114,95,110,111,100,101]⟩ none) .nil .nil) .nil) .nil) (Nn (Nt (U3 19 1 341 ⟨#[83,104,101,108,102,46,97,100,100]⟩ none) (Nt (R1 53 597 ⟨#[101,108,101,109,101,110,116,95,111,102]⟩ none) .nil .nil) .nil) .nil)) (Nt (U3 5 6 117 ⟨#[68,101,99,105,109,97,108,46,105,115,95,119,104,111,108,101]⟩ none) (Nn .nil (Nn (Nt (R1 69 693 ⟨#[95,108,97,119,95,100,114,97,119]⟩ none) .nil .nil) .nil)) .nil))) (Nn (Nn .nil (Nn (Nt (R1 7 173 ⟨#[100,101,99,105,109,97,108,95,111,102]⟩ none) (Nn (Nt (U3 48 0 557 ⟨#[69,108,101,109,101,110,116,46,95,95,105,110,105,116,95,95]⟩ none) .nil .nil) .nil) (Nt (R1 25 429 ⟨#[105,115,95,110,111,100,101]⟩ none) .nil .nil)) (Nn (Nn (Nt (R1 57 621 ⟨#[99,111,110,116,101,110,116,115,95,111,102]⟩ none) .nil .nil) .nil) .nil))) .nil)))) (Nn (Nn (Nn (Nn (Nn (Nn (Nn (Nn (Nt (R1 41 512 ⟨#[116,114,101,101,95,112,97,105,114,115]⟩ none) .nil .nil) .nil) .nil) (Nn (Nn (Nt (R1 50 576 ⟨#[112,97,103,101,95,112,108,97,99,101,115]⟩ none) .nil .nil) .nil) .nil)) (Nt (U3 5 3 96 ⟨#[68,101,99,105,109,97,108,46,116,105,109,101,115]⟩ none) (Nn .nil (Nn (Nt (R1 65 672 ⟨#[116,111,108,100,95,112,97,114,101,110,116,115]⟩ none) .nil .nil) .nil)) .nil)) (Nn (Nn (Nn (Nt (R1 14 272 ⟨#[107,105,110,100,95,111,102]⟩ none) .nil .nil) .nil) .nil) .nil)) (Nn (Nn .nil (Nn .nil (Nn (Nn (Nt (R1 56 616 ⟨#[99,111,110,116,101,110,116,95,116,111,108,100]⟩ none) .nil .nil) .nil) (Nt (R1 37 488 ⟨#[110,111,100,101,95,111,102]⟩ none) .nil .nil)))) (Nn (Nn (Nt (U3 5 11 152 ⟨#[68,101,99,105,109,97,108,46,108,101,97,115,116,95,116,101,120,116]⟩ none) .nil (Nt (U3 23 0 408 ⟨#[83,112,111,116,46,95,95,105,110,105,116,95,95]⟩ none) .nil .nil)) .nil) .nil))) (Nn (Nn (Nt (U3 2 0 36 ⟨#[80,97,112,101,114,69,114,114,111,114,46,95,95,105,110,105,116,95,95]⟩ (some (.int (-1)))) .nil .nil) (Nn .nil (Nn (Nn .nil (Nt (R1 26 436 ⟨#[107,105,100,115,95,111,102]⟩ none) .nil .nil)) (Nn .nil (Nt (R1 39 500 ⟨#[110,111,100,101,95,112,97,105,114,115]⟩ none) .nil .nil))))) (Nn (Nn (Nn (Nn .nil (Nn (Nt (R1 62 652 ⟨#[112,117,116,95,112,97,103,101,95,112,97,114,101,110,116,115]⟩ none) .nil .nil) .nil)) .nil) .nil) (Nn (Nn (Nn (Nt (R1 16 284 ⟨#[116,111,108,100]⟩ none) .nil .nil) .nil) (Nn (Nt (U3 19 2 348 ⟨#[83,104,101,108,102,46,100,114,111,112]⟩ none) .nil .nil) .nil)) (Nt (U3 5 7 124 ⟨#[68,101,99,105,109,97,108,46,102,108,111,111,114]⟩ none) (Nn .nil (Nn (Nt (R1 70 700 ⟨#[95,108,97,119,95,116,111,108,100]⟩ none) .nil .nil) .nil)) .nil))))) (Nn (Nn (Nn (Nn (Nn (Nn (Nt (U3 13 1 258 ⟨#[82,101,102,101,114,101,110,99,101,46,112,97,105,114]⟩ none) .nil .nil) .nil) (Nn .nil (Nt (R1 28 450 ⟨#[115,112,111,116,115]⟩ none) .nil .nil))) .nil) (Nn (Nt (U3 5 1 82 ⟨#[68,101,99,105,109,97,108,46,112,108,117,115]⟩ none) .nil (Nn .nil (Nn (Nt (R1 74 722 ⟨#[95,108,97,119,95,105,115,95,114,101,102,117,115,101,100]⟩ none) .nil .nil) .nil))) (Nn (Nn (Nt (U3 18 1 306 ⟨#[76,111,111,107,117,112,46,102,101,116,99,104]⟩ none) .nil .nil) .nil) (Nn (Nn (Nt (R1 58 626 ⟨#[111,98,106,101,99,116,115,95,111,102]⟩ none) .nil .nil) .nil) .nil)))) (Nn (Nn (Nn (Nt (U3 5 9 138 ⟨#[68,101,99,105,109,97,108,46,116,111,108,100]⟩ none) .nil .nil) .nil) (Nn .nil (Nn (Nt (U3 19 4 362 ⟨#[83,104,101,108,102,46,114,111,111,116]⟩ none) .nil .nil) .nil))) (Nn (Nn (Nn (Nn (Nt (R1 45 538 ⟨#[97,115,95,114,111,111,116]⟩ none) .nil .nil) .nil) .nil) (Nn (Nn (Nt (R1 54 602 ⟨#[101,108,101,109,101,110,116,115]⟩ none) .nil .nil) .nil) (Nt (R1 35 474 ⟨#[107,101,121,95,111,98,106,101,99,116]⟩ none) .nil .nil))) .nil))) (Nn (Nn (Nn (Nn .nil (Nn .nil (Nn (Nt (R1 72 710 ⟨#[95,108,97,119,95,101,108,101,109,101,110,116,115]⟩ none) .nil .nil) .nil))) (Nn (Nt (R1 6 166 ⟨#[115,105,103,110,95,116,101,120,116]⟩ none) .nil (Nt (R1 24 422 ⟨#[104,111,109,101,95,111,102]⟩ none) .nil .nil)) (Nt (U3 12 0 230 ⟨#[83,116,114,101,97,109,46,95,95,105,110,105,116,95,95]⟩ none) .nil .nil))) .nil) (Nn (Nn (Nn (Nn (Nn (Nt (R1 43 526 ⟨#[108,101,97,102,95,110,111,100,101]⟩ none) .nil .nil) .nil) .nil) (Nn (Nt (U3 19 0 334 ⟨#[83,104,101,108,102,46,112,117,116]⟩ none) (Nt (R1 52 590 ⟨#[115,111,114,116,95,111,102]⟩ none) .nil .nil) .nil) (Nt (R1 30 462 ⟨#[112,97,103,101,95,115,112,111,116,115]⟩ none) .nil .nil))) (Nt (U3 5 5 110 ⟨#[68,101,99,105,109,97,108,46,99,111,109,112,97,114,101,100]⟩ none) (Nn .nil (Nn (Nt (R1 68 686 ⟨#[95,108,97,119,95,116,97,112,101]⟩ none) .nil .nil) .nil)) .nil)) (Nn .nil (Nn .nil (Nn (Nn (Nt (R1 60 638 ⟨#[114,111,119,95,102,111,114]⟩ none) .nil .nil) .nil) .nil))))))))
noncomputable def b1h:List (Nat×List (Str×V)):=[
 (112,[(⟨#[112,97,103,101,95,115,112,111,116,115]⟩,.prog 462),(⟨#[112,97,103,101,115]⟩,.prog 467),(⟨#[112,97,103,101,95,112,108,97,99,101,115]⟩,.prog 576),(⟨#[112,97,103,101,95,116,111,108,100]⟩,.prog 609),(⟨#[112,97,114,101,110,116,115,95,100,117,101]⟩,.prog 633),(⟨#[112,117,116,95,112,97,103,101,95,112,97,114,101,110,116,115]⟩,.prog 652),(⟨#[112,117,116,95,111,98,106,101,99,116,95,112,97,114,101,110,116,115]⟩,.prog 659),(⟨#[112,117,116,95,112,97,114,101,110,116,115]⟩,.prog 665),(⟨#[112,97,114,101,110,116,95,102,97,117,108,116,115]⟩,.prog 679)]),
 (116,[(⟨#[116,111,108,100,95,112,108,97,105,110]⟩,.prog 279),(⟨#[116,111,108,100]⟩,.prog 284),(⟨#[116,114,101,101,95,112,97,105,114,115]⟩,.prog 512),(⟨#[116,114,101,101,95,98,117,105,108,116]⟩,.prog 543),(⟨#[116,111,108,100,95,112,97,114,101,110,116,115]⟩,.prog 672),(⟨#[116,111,108,100,95,111,98,106,101,99,116,115]⟩,.prog 284),(⟨#[116,117,112,108,101]⟩,.bi .tuple)]),
 (95,[(⟨#[95,108,97,119,95,116,97,112,101]⟩,.prog 686),(⟨#[95,108,97,119,95,100,114,97,119]⟩,.prog 693),(⟨#[95,108,97,119,95,116,111,108,100]⟩,.prog 700),(⟨#[95,108,97,119,95,114,111,119,115]⟩,.prog 705),(⟨#[95,108,97,119,95,101,108,101,109,101,110,116,115]⟩,.prog 710),(⟨#[95,108,97,119,95,119,114,111,110,103]⟩,.prog 715),(⟨#[95,108,97,119,95,105,115,95,114,101,102,117,115,101,100]⟩,.prog 722)]),
 (115,[(⟨#[115,105,103,110,95,116,101,120,116]⟩,.prog 166),(⟨#[115,112,111,116,115]⟩,.prog 450),(⟨#[115,116,114,117,99,116,117,114,101,95,114,111,111,116]⟩,.prog 571),(⟨#[115,111,114,116,95,111,102]⟩,.prog 590),(⟨#[115,111,114,116,101,100]⟩,.bi .sorted),(⟨#[115,101,116]⟩,.bi .set)]),
 (105,[(⟨#[105,115,95,110,111,100,101]⟩,.prog 429),(⟨#[105,110,110,101,114,95,110,111,100,101]⟩,.prog 533),(⟨#[105,116,101,109,115,95,111,102]⟩,.prog 583),(⟨#[105,115,105,110,115,116,97,110,99,101]⟩,.bi .isinstance),(⟨#[105,110,116]⟩,.bi .int)]),
 (108,[(⟨#[108,111,110,103,101,114,95,119,97,121]⟩,.prog 507),(⟨#[108,101,97,102,95,110,111,100,101]⟩,.prog 526),(⟨#[108,97,119]⟩,.prog 727),(⟨#[108,101,110]⟩,.bi .len),(⟨#[108,105,115,116]⟩,.bi .list)]),
 (107,[(⟨#[107,105,110,100,95,111,102]⟩,.prog 272),(⟨#[107,105,100,115,95,111,102]⟩,.prog 436),(⟨#[107,101,121,95,111,98,106,101,99,116]⟩,.prog 474),(⟨#[107,101,121,95,111,102]⟩,.prog 481)]),
 (114,[(⟨#[114,111,119,95,111,102]⟩,.prog 495),(⟨#[114,111,119,95,102,111,114]⟩,.prog 638),(⟨#[114,97,110,103,101]⟩,.bi .range),(⟨#[114,101,118,101,114,115,101,100]⟩,.bi .reversed)]),
 (101,[(⟨#[101,118,101,110,95,112,97,114,116,115]⟩,.prog 519),(⟨#[101,108,101,109,101,110,116,95,111,102]⟩,.prog 597),(⟨#[101,108,101,109,101,110,116,115]⟩,.prog 602),(⟨#[101,110,117,109,101,114,97,116,101]⟩,.bi .enumerate)]),
 (83,[(⟨#[83,116,114,105,110,103]⟩,.prog 212),(⟨#[83,116,114,101,97,109]⟩,.prog 233),(⟨#[83,104,101,108,102]⟩,.prog 370),(⟨#[83,112,111,116]⟩,.prog 411)]),
 (77,[(⟨#[77,79,83,84,95,72,79,80,83]⟩,.int 30),(⟨#[77,79,83,84,95,68,69,69,80]⟩,.int 40),(⟨#[77,79,83,84,95,80,76,65,67,69,83]⟩,.int 16)]),
 (100,[(⟨#[100,101,99,105,109,97,108,95,111,102]⟩,.prog 173),(⟨#[100,105,99,116]⟩,.bi .dict)]),
 (109,[(⟨#[109,101,116]⟩,.prog 443),(⟨#[109,97,120]⟩,.bi .max)]),
 (110,[(⟨#[110,111,100,101,95,111,102]⟩,.prog 488),(⟨#[110,111,100,101,95,112,97,105,114,115]⟩,.prog 500)]),
 (99,[(⟨#[99,111,110,116,101,110,116,95,116,111,108,100]⟩,.prog 616),(⟨#[99,111,110,116,101,110,116,115,95,111,102]⟩,.prog 621)]),
 (80,[(⟨#[80,97,112,101,114,69,114,114,111,114]⟩,.prog 46),(⟨#[80,97,103,101]⟩,.prog 390)]),
 (98,[(⟨#[98,121,116,101,115]⟩,.bi .bytes),(⟨#[98,111,111,108]⟩,.bi .bool)]),
 (104,[(⟨#[104,111,109,101,95,111,102]⟩,.prog 422)]),
 (102,[(⟨#[102,105,101,108,100,115,95,111,102]⟩,.prog 457)]),
 (97,[(⟨#[97,115,95,114,111,111,116]⟩,.prog 538),(⟨#[97,98,115]⟩,.bi .abs)]),
 (111,[(⟨#[111,98,106,101,99,116,115,95,111,102]⟩,.prog 626)]),
 (119,[(⟨#[119,105,116,104,95,107,101,121]⟩,.prog 645)]),
 (84,[(⟨#[84,114,101,101,70,97,117,108,116]⟩,.prog 59)]),
 (68,[(⟨#[68,101,99,105,109,97,108]⟩,.prog 155)]),
 (78,[(⟨#[78,97,109,101]⟩,.prog 190)]),
 (82,[(⟨#[82,101,102,101,114,101,110,99,101]⟩,.prog 261)]),
 (76,[(⟨#[76,111,111,107,117,112]⟩,.prog 316)]),
 (69,[(⟨#[69,108,101,109,101,110,116]⟩,.prog 560)]),
 (73,[(⟨#[73,78,72,69,82,73,84,69,68]⟩,.tup [.str ⟨#[82,101,115,111,117,114,99,101,115]⟩,.str ⟨#[77,101,100,105,97,66,111,120]⟩,.str ⟨#[67,114,111,112,66,111,120]⟩,.str ⟨#[82,111,116,97,116,101]⟩])])]
noncomputable def b2y:List (Nat×List (Str×Unit)):=[(155,[(⟨#[116,111,112]⟩,()),(⟨#[112,108,97,99,101,115]⟩,())]),(190,[(⟨#[116,101,120,116]⟩,())]),(212,[(⟨#[111,99,116,101,116,115]⟩,()),(⟨#[105,115,95,104,101,120]⟩,())]),(233,[(⟨#[104,101,97,100]⟩,()),(⟨#[111,99,116,101,116,115]⟩,())]),(261,[(⟨#[110,117,109,98,101,114]⟩,()),(⟨#[103,101,110,101,114,97,116,105,111,110]⟩,())]),(370,[(⟨#[116,97,98,108,101]⟩,()),(⟨#[116,114,97,105,108,101,114]⟩,())]),(390,[(⟨#[114,101,102,101,114,101,110,99,101]⟩,()),(⟨#[102,105,101,108,100,115]⟩,())]),(411,[(⟨#[114,101,102,101,114,101,110,99,101]⟩,()),(⟨#[104,101,97,100]⟩,()),(⟨#[97,98,111,118,101]⟩,()),(⟨#[105,110,104,101,114,105,116,101,100]⟩,()),(⟨#[105,115,95,112,97,103,101]⟩,())]),(560,[(⟨#[114,101,102,101,114,101,110,99,101]⟩,()),(⟨#[104,101,97,100]⟩,()),(⟨#[100,101,112,116,104]⟩,()),(⟨#[97,98,111,118,101]⟩,())])]
noncomputable def b2o:List (Nat×List (Str×Nat)):=[(370,[(⟨#[102,101,116,99,104]⟩,306),(⟨#[103,101,116]⟩,313),(⟨#[112,117,116]⟩,334),(⟨#[110,117,109,98,101,114,115]⟩,355),(⟨#[114,111,111,116]⟩,362),(⟨#[116,111,108,100]⟩,367)])]
noncomputable def a80:List (Nat×Nat):=[(155,75),(190,187),(212,209),(233,230),(261,251),(390,387),(411,408),(560,557),(370,299)]
noncomputable def N7:List Nat:=[155,190,212,233,261,390,411,560,370]
noncomputable def U8{κ:Type}(eq:κ->κ->Bool)(l:List κ)(i:κ):Bool:=E0 (motive:=fun _=>Bool) false (fun a _ ih=>ifb (eq a i) true ih) l
theorem b8o:∀ {l:List Nat} {i:Nat},U8 o0 l i=true->i∈l
 | [],_,h=>by cases h
 |a::l,i,h=>by
  have h:ifb (o0 a i) true (U8 o0 l i)=true:=h;cases q:o0 a i with
  |true=>exact V1 q▸.head _
  |false=>rw[q] at h;exact .tail _ (b8o h)
noncomputable def headC(s:Str):Nat:=E0 (motive:=fun _=>Nat) 0 (fun a _ _=>a) s.cps.toList
@[irreducible] noncomputable def Pglob(n:Str):Option V:=obd (lkG o0 b1h (headC n)) fun l=>lk l n
@[irreducible] noncomputable def Pfn(a:Nat):Option FI:=obd (fnT.get a) id
@[irreducible] noncomputable def Pinit(a:Nat):Option Nat:=lkG o0 a80 a
@[irreducible] noncomputable def Pmeth(c:Nat)(n:Str):Option Nat:=obd (lkG o0 b2o c) fun l=>lk l n
@[irreducible] noncomputable def Pplain(c:Nat)(n:Str):Bool:=(obd (lkG o0 b2y c) fun l=>lk l n).isSome
@[irreducible] noncomputable def Pcls(c:Nat):Bool:=U8 o0 N7 c
@[irreducible] noncomputable def b00:Nat:=693
@[irreducible] noncomputable def T2:Nat:=540
noncomputable def VP(hb:Heap)(v:V)(u:Value):Prop:=∀h ρ n,(∀b o,hb.get? b=some o->h.get? b=some o)->VR h ρ n v u
structure a9j(K:Frag)(c:Nat):Prop where
 ga:findIn K (.ref c) "__getattribute__"=some (some (.builtin "object.__getattribute__"))
 hook:findIn K (.ref c) "__getattr__"=some none
 sa:findIn K (.ref c) "__setattr__"=some (some (.builtin "object.__setattr__"))
 over:plainOver K c=true
 cd:∃cd,clsIn K c=some cd/\cd.hasDict=true
 makes:makesIn K c=true
 keep:keepIn K (.ref c)=true
 cl:findIn K (.ref c) "__class__"=some (some (.builtin "object.__class__"))
 typ:typeIn K (.ref c)=some (.type "type")
 inst:instIn K (.ref c) (.type "type")=some true
 noB:∀T,T="bool"∨T="int"∨T="list"∨T="dict"->subIn K (.ref c) (.type T)=some false
 noT:∀T,T="bool"∨T="int"∨T="str"∨T="NoneType"∨T="list"∨T="dict"∨T="tuple"->isNotIn K T c=true
 obj:mroIn K c (.type "object")=some true
structure FnOk(K:Frag)(a:Nat)(fi:FI)(fd:FuncData):Prop where
 at_:∃o,K.lookup a=some o/\o.data=.func fd
 scope:fd.scope=fi.scope
 globals:fd.globals=V3
 builtins:fd.builtins=builtinsNs
 closure:fd.closure=[]
 body:fd.body=.stmts fi.body
 code:fd.code=fi.code
 qual:fd.qualname=fi.qual
 rec_:codeIn K fd.code fd.qualname=true
 co:fd.scope.isCoroutine=false
 gen:fd.scope.isGenerator=false
 kind:fd.scope.kind=.function
 bind:∀us:List Value,us.length=fi.params.length->∀S,peek K S (bindArgs fd ⟨us,[]⟩)=some (fi.params.zip us)
 one:∀v,fi.dflt=some v->∃ud,(∀h ρ n,VR h ρ n v ud)/\∀us:List Value,us.length+1=fi.params.length->∀S,peek K S (bindArgs fd ⟨us,[]⟩)=some (fi.params.zip (us++[ud]))
structure POk(prog:W6)(w:World)(hb:Heap)(K:Frag):Prop where
 glob:∃mg mb,hb.Ns V3 mg/\hb.Ns builtinsNs mb/\∀n v,Pglob n=some v->∃u,VP hb v u/\(mg n=some u∨(mg n=none/\mb n=some u))
 big:∃o,hb.get? E6=some o
 kin:K.In hb
 lim:hb.NoLimit
 cls:∀c,Pcls c=true->a9j K c
 fn:∀a fi,Pfn a=some fi->∃fd,FnOk K a fi fd
 init:∀c f,Pinit c=some f->Pcls c=true/\findIn K (.ref c) "__init__"=some (some (.ref f))/\typeIn K (.ref f)=some (.type "function")
 meth:∀c n f,Pmeth c n=some f->Pcls c=true/\findIn K (.ref c) n=some (some (.ref f))/\typeIn K (.ref f)=some (.type "function")/\keepIn K (.ref f)=true
 plain:∀c n,Pplain c n=true->Pcls c=true/\findIn K (.ref c) n=some none
 sub:∀c c',Pcls c=true->Pcls c'=true->subIn K (.ref c) (.ref c')=some (o0 c c')
 clGet:specialIn K (.builtin "object.__class__") "__get__"=some (some (.builtin "getset_descriptor.__get__"))
 clSet:takesIn K (.builtin "object.__class__")=some true
structure Cx where
 prog:W6
 w:World
 hb:Heap
 K:Frag
 Y:POk prog w hb K
noncomputable abbrev Cx.m(C:Cx):Model:=model C.prog C.w
noncomputable def sRel:(Nat->Nat->Prop)->V->V->Prop:=fun R v=>V.rec (motive_1:=fun _=>V->Prop) (motive_2:=fun _=>List V->Prop)
 (Eq · .none) (fun b=>(Eq · (.bool b))) (fun i=>(Eq · (.int i))) (fun s=>(Eq · (.str s))) (fun b=>(Eq · (.byt b))) (fun b=>(Eq · (.bi b))) (fun a=>(Eq · (.prog a))) (fun i v'=>∃i',v'=.ref i'/\R i i') (fun _ ih v'=>∃ys,v'=.tup ys/\ih ys) (Eq · []) (fun _ _ p q m=>∃v r,m=v::r/\p v/\q r) v
noncomputable def a5v(R:Nat->Nat->Prop)(l:List V):List V->Prop:=V.rec_1 (motive_1:=fun _=>V->Prop) (motive_2:=fun _=>List V->Prop)
 (Eq · .none) (fun b=>(Eq · (.bool b))) (fun i=>(Eq · (.int i))) (fun s=>(Eq · (.str s))) (fun b=>(Eq · (.byt b))) (fun b=>(Eq · (.bi b))) (fun a=>(Eq · (.prog a))) (fun i v'=>∃i',v'=.ref i'/\R i i') (fun _ ih v'=>∃ys,v'=.tup ys/\ih ys) (Eq · []) (fun _ _ p q m=>∃v r,m=v::r/\p v/\q r) l
abbrev j4:=sRel
noncomputable def Vorel(R:Nat->Nat->Prop)(a b:Option V):Prop:=K0 (motive:=fun _=>Prop) (b=none) (fun v=>∃v',b=some v'/\j4 R v v') a
noncomputable def Erel(R:Nat->Nat->Prop){κ:Type}(e f:κ×Option V):Prop:=f.1=e.1/\Vorel R e.2 f.2
noncomputable def Nrel(R:Nat->Nat->Prop)(e f:Str×V):Prop:=f.1=e.1/\j4 R e.2 f.2
noncomputable def V6(R:Nat->Nat->Prop)(o o':O):Prop:=O.casesOn (motive:=fun _=>Prop) o
 (fun xs=>∃ys,o'=.list ys/\All2 (j4 R) xs ys) (fun es=>∃fs,o'=.dictI fs/\All2 (Erel R) es fs) (fun es=>∃fs,o'=.dictS fs/\All2 (Erel R) es fs) (fun l=>∃l',o'=.six l'/\All2 (Vorel R) l l')
 (fun es=>∃fs,o'=.ns fs/\All2 (Nrel R) es fs) (fun es=>∃fs,o'=.idict fs/\All2 (Nrel R) es fs) (fun c d=>∃d',o'=.inst c d'/\R d d') (fun v=>∃v',o'=.cell v'/\Vorel R v v')
 (fun l i=>∃l',o'=.liter l' i/\R l l') (fun xs i=>∃ys,o'=.titer ys i/\All2 (j4 R) xs ys) (fun a b c=>o'=.riter a b c) (fun a b c=>o'=.range a b c)
 (fun l i=>∃l',o'=.enum l' i/\R l l') (fun l i=>∃l',o'=.rev l' i/\R l l') (fun d i n=>∃d',o'=.kiter d' i n/\R d d') (fun n g=>o'=.tape n g) (fun i=>∃i',o'=.code i'/\R i i')
section
variable{R:Nat->Nat->Prop}
theorem All2.refl{α:Type}{P:α->α->Prop}(h:∀a,P a a):∀l:List α,All2 P l l
 | []=>.nil
 |a::l=>.cons (h a) (All2.refl h l)
theorem j4.refl(h:∀i,R i i)(v:V):j4 R v v:=
 @V.rec (fun v=>j4 R v v) (fun l=>a5v R l l) rfl (fun _=>rfl) (fun _=>rfl) (fun _=>rfl) (fun _=>rfl) (fun _=>rfl) (fun _=>rfl) (fun i=>⟨i,rfl,h i⟩) (fun xs ih=>⟨xs,rfl,ih⟩) rfl (fun a l p q=>⟨a,l,rfl,p,q⟩) v
theorem Vorel.refl(h:∀i,R i i)(v:Option V):Vorel R v v:=by
 cases v with
 |none=>exact rfl
 |some v=>exact ⟨v,rfl,j4.refl h v⟩
theorem V6.refl(h:∀i,R i i)(o:O):V6 R o o:=by
 cases o with
 |list xs=>exact ⟨_,rfl,.refl (j4.refl h) _⟩
 |dictI es=>exact ⟨_,rfl,.refl (fun _=>⟨rfl,Vorel.refl h _⟩) _⟩
 |dictS es=>exact ⟨_,rfl,.refl (fun _=>⟨rfl,Vorel.refl h _⟩) _⟩
 |six l=>exact ⟨_,rfl,.refl (Vorel.refl h) _⟩
 |ns es=>exact ⟨_,rfl,.refl (fun _=>⟨rfl,j4.refl h _⟩) _⟩
 |idict es=>exact ⟨_,rfl,.refl (fun _=>⟨rfl,j4.refl h _⟩) _⟩
 |inst c d=>exact ⟨_,rfl,h _⟩
 |cell v=>exact ⟨_,rfl,Vorel.refl h _⟩
 |liter l i=>exact ⟨_,rfl,h _⟩
 |titer xs i=>exact ⟨_,rfl,.refl (j4.refl h) _⟩
 |riter=>exact rfl
 |range=>exact rfl
 |enum it i=>exact ⟨_,rfl,h _⟩
 |rev l i=>exact ⟨_,rfl,h _⟩
 |kiter d i n=>exact ⟨_,rfl,h _⟩
 |tape=>exact rfl
 |code i=>exact ⟨_,rfl,h _⟩
end
noncomputable def C2{κ:Type}(l:List (κ×Option V)):List (κ×V):=E0 (motive:=fun _=>List (κ×V)) [] (fun p _ ih=>K0 (motive:=fun _=>List (κ×V)) ih (fun v=>(p.1,v)::ih) p.2) l
noncomputable def ix2(i j:Int):Option Nat:=W9 (motive:=fun _=>Option Nat) i (fun a=>W9 (motive:=fun _=>Option Nat) j (fun b=>ifb (J0 a 2) (ifb (J0 b 3) (some (w0 (C1 3 a) b)) none) none) (fun _=>none)) (fun _=>none)
noncomputable def idx6(l:List Int):Option Nat:=Y2 (motive:=fun _=>Option Nat) l none fun i l=>Y2 (motive:=fun _=>Option Nat) l none fun j l=>Y2 (motive:=fun _=>Option Nat) l (ix2 i j) fun _ _=>none
noncomputable def slot6(l:List (Option V))(ks:List Int):Option V:=obd (idx6 ks) fun i=>obd (nth l i) id
section
variable(C:Cx)(h:Heap)(ρ:Nat->Addr)(n:Nat)
noncomputable def VRw(a:Option V)(v:Option Value):Prop:=∀b,a=some b->∃u,v=some u/\VR h ρ n b u
noncomputable def M6(l:Array G7)(k:Nat):Obj:=⟨.type "dict",none,.dict l k,#[]⟩
noncomputable def F5{κ:Type}(e:κ×V)(kv:κ×Value):Prop:=kv.1=e.1/\VR h ρ n e.2 kv.2
noncomputable def ovDict{κ:Type}[DecidableEq κ](kd:a4j C.prog C.w κ)(es:List (κ×Option V))(o:Obj):Prop:=∃l kvs k,o=M6 l k/\KeysOf kd l/\Pairs kd l.toList kvs/\(kvs.map (·.1)).Nodup/\All2 (F5 h ρ n) (C2 es) kvs
noncomputable def c40(a b c:Int)(m:Nat):Prop:=0<=a/\0<=b/\b < 1000000007/\0<=c/\c<=m
noncomputable def TK(ks:List Int)(b:Addr):Prop:=∃vs k,h.get? b=some (F6 vs k)/\ItemsAre (U2 C.prog C.w) ks vs
noncomputable def ovSix(q:List (Option V))(o:Obj):Prop:=∃l xs k,o=M6 l k/\l.toList=xs.map (r8 (T4 (U2 C.prog C.w)))/\(xs.map (·.1)).Nodup/\(∀x∈xs,TK C h x.1 x.2.1)/\∀ks,VRo h ρ n (slot6 q ks) ((atKey xs ks).map (·.2))
noncomputable def OV(o:O)(ob:Obj):Prop:=O.casesOn (motive:=fun _=>Prop) o
 (fun xs=>∃vs k,VRl h ρ n xs vs/\ob=T5 vs k)
 (fun es=>ovDict C h ρ n (U2 C.prog C.w) es ob) (fun es=>ovDict C h ρ n (r9 C.prog C.w) es ob) (fun l=>ovSix C h ρ n l ob)
 (fun es=>∃l k,ob.data=.dict l k/\StrKeys l/\∀y,VRw h ρ n (lk es y) (nsFind l y))
 (fun es=>∃l k,ob.data=.dict l k/\StrKeys l/\l.size<=es.length/\∀y,VRo h ρ n (lk es y) (nsFind l y))
 (fun c d=>isRef ρ n d (.ref (ρ d))/\ob=⟨.ref c,some (ρ d),.plain,#[]⟩)
 (fun v=>∃u,ob.data=.cell u/\VRo h ρ n v u)
 (fun l i=>ob.cls=.type "list_iterator"/\∃a,ob.data=.fields #[.ref a,.int i 0]/\isRef ρ n l (.ref a))
 (fun xs i=>ob.cls=.type "tuple_iterator"/\∃b vs k,ob.data=.fields #[.ref b,.int i 0]/\h.get? b=some (F6 vs k)/\VRl h ρ n xs vs)
 (fun x left step=>ob=⟨.type "range_iterator",none,.fields #[rawInt x,rawInt left,rawInt step],#[]⟩)
 (fun a b c=>∃t u v,ob=⟨.type "range",none,.fields #[.int a t,.int b u,.int c v],#[]⟩)
 (fun it i=>∃a old,ob=⟨.type "enumerate",none,.fields #[.none,.bool false,.ref a,rawInt i,.none,old],#[]⟩/\isRef ρ n it (.ref a))
 (fun l i=>ob.cls=.type "list_reverseiterator"/\∃a,ob.data=.fields #[.ref a,rawInt i]/\isRef ρ n l (.ref a))
 (fun d i m=>ob.cls=.type "dict_keyiterator"/\∃a ep,ob.data=.fields #[.ref a,.int i 0,.int m 0,.int ep 0]/\isRef ρ n d (.ref a))
 (fun n _=>∃vs k,ob=T5 vs k/\∃a b c t u v,vs=[.int a t,.int b u,.int c v]/\c40 a b c n)
 (fun i=>isRef ρ n i (.ref T2)/\ob=tabObj #[])
end
structure K6(R:Nat->Nat->Prop)(h:Heap)(ρ:Nat->Addr)(n:Nat)(h':Heap)(ρ':Nat->Addr)(n':Nat):Prop where
 tups:Tups h h'
 ref:∀i i' v,R i i'->isRef ρ n i v->isRef ρ' n' i' v
section
variable{C:Cx}{h h':Heap}{ρ ρ':Nat->Addr}{n n':Nat}{R:Nat->Nat->Prop}
theorem VR.rel(t:K6 R h ρ n h' ρ' n'){a:V}:∀ {a':V} {v:Value},j4 R a a'->VR h ρ n a v->VR h' ρ' n' a' v:=by
 refine @V.rec (fun a=>∀ {a' v},j4 R a a'->VR h ρ n a v->VR h' ρ' n' a' v) (fun l=>∀ {l' m},a5v R l l'->VRs h ρ n l m->VRs h' ρ' n' l' m) ?_ ?_ ?_ ?_ ?_ ?_ ?_ ?_ ?_ ?_ ?_ a
 ·intro _ _ q e;cases q;exact e
 ·intro _ _ _ q e;cases q;exact e
 ·intro _ _ _ q e;cases q;exact e
 ·intro _ _ _ q e;cases q;exact e
 ·intro _ _ _ q e;cases q;exact e
 ·intro _ _ _ q e;cases q;exact e
 ·intro _ _ _ q e;cases q;exact e
 ·intro i _ _ ⟨i',q,r⟩ e;cases q;exact t.ref i i' _ r e
 ·intro _ ih _ _ ⟨ys,q,r⟩ ⟨b,vs,k,h1,h2,h3⟩;cases q;exact ⟨b,vs,k,h1,t.tups b vs k h2,ih r h3⟩
 ·intro _ _ q e;cases q;exact e
 ·intro _ _ ih1 ih2 _ _ ⟨v',r',q,q1,q2⟩ ⟨v,r,h1,h2,h3⟩;cases q;exact ⟨v,r,h1,ih1 q1 h2,ih2 q2 h3⟩
theorem VRl.rel(t:K6 R h ρ n h' ρ' n'):∀ {l l':List V} {m:List Value},All2 (j4 R) l l'->VRl h ρ n l m->VRl h' ρ' n' l' m
 | [],_,_,q,e=>by cases q;cases e;exact .nil
 |_::_,_,_,q,e=>by
  cases q with
  |cons q1 q2=>
   cases e with
   |cons e1 e2=>exact .cons (VR.rel t q1 e1) (VRl.rel t q2 e2)
theorem VRo.rel(t:K6 R h ρ n h' ρ' n'){a a':Option V}{v:Option Value}(q:Vorel R a a')(e:VRo h ρ n a v):VRo h' ρ' n' a' v:=by
 cases a with
 |none=>cases q;exact e
 |some a=>obtain ⟨a',rfl,q⟩:=q;obtain ⟨b,e,r⟩:=e;exact ⟨b,e,VR.rel t q r⟩
theorem b39(t:K6 R h ρ n h' ρ' n'){κ:Type}:∀ {es fs:List (κ×Option V)} {kvs:List (κ×Value)},All2 (Erel R) es fs->All2 (F5 h ρ n) (C2 es) kvs->All2 (F5 h' ρ' n') (C2 fs) kvs
 | [],_,_,q,e=>by cases q;cases e;exact .nil
 | (a,none)::l,_,_,q,e=>by
  cases q with
  | @cons _ f _ fs q1 q2=>
   obtain ⟨b,o⟩:=f;obtain rfl:o=none:=q1.2;exact b39 t (es:=l) (fs:=fs) q2 e
 | (a,some v)::l,_,_,q,e=>by
  cases q with
  | @cons _ f _ fs q1 q2=>
   obtain ⟨b,o⟩:=f;obtain ⟨rfl,v',rfl,r⟩:b=a/\∃v',o=some v'/\j4 R v v':=q1;cases e with
   |cons e1 e2=>exact .cons ⟨e1.1,VR.rel t r e1.2⟩ (b39 t (es:=l) (fs:=fs) q2 e2)
theorem b2h(t:K6 R h ρ n h' ρ' n'){y:Str}{v:Option Value}:∀ {es fs:List (Str×V)},All2 (Nrel R) es fs->VRo h ρ n (lk es y) v->VRo h' ρ' n' (lk fs y) v
 | [],_,q,e=>by cases q;exact e
 | (a,x)::l,_,q,e=>by
  cases q with
  | @cons _ f _ fs q1 q2=>
   obtain ⟨b,x'⟩:=f;obtain ⟨rfl,r⟩:b=a/\j4 R x x':=q1;change VRo h' ρ' n' (ifb (seq b y) (some x') (lk fs y)) v
   change VRo h ρ n (ifb (seq b y) (some x) (lk l y)) v at e
   cases hs:seq b y with
   |true=>rw[hs] at e;exact VRo.rel (a:=some x) (a':=some x') t ⟨x',rfl,r⟩ e
   |false=>rw[hs] at e;exact b2h t q2 e
theorem e3l(t:K6 R h ρ n h' ρ' n'){y:Str}{v:Option Value}{es fs:List (Str×V)}(q:All2 (Nrel R) es fs)(e:VRw h ρ n (lk es y) v):VRw h' ρ' n' (lk fs y) v:=fun b hb=>by
 cases ha:lk es y with
 |none=>
  have:=b2h (v:=none) t q (show VRo h ρ n (lk es y) none by refine rE ha ?_;exact rfl);rw[hb] at this;refine yea this fun _ e _=>?_;clear this;cases e
 |some a=>
  refine yea (e a ha) fun u hu r=>?_;have:=b2h (v:=v) t q (show VRo h ρ n (lk es y) v by refine rE ha ?_;exact ⟨u,hu,r⟩);rw[hb] at this;exact this
theorem d0j:∀ {l l':List (Option V)} (i:Nat),All2 (Vorel R) l l'->Vorel R (obd (nth l i) id) (obd (nth l' i) id)
 | [],_,_,q=>by cases q;exact rfl
 |a::l,_,i,q=>by
  cases q with
  |cons q1 q2=>
   cases i with
   |zero=>exact q1
   |succ i=>exact d0j (l:=l) i q2
theorem f09{l l':List (Option V)}(q:All2 (Vorel R) l l')(ks:List Int):Vorel R (slot6 l ks) (slot6 l' ks):=by
 unfold slot6;cases idx6 ks with
 |none=>exact rfl
 |some i=>exact d0j i q
theorem OV.rel(t:K6 R h ρ n h' ρ' n'){o o':O}{ob:Obj}(q:V6 R o o')(e:OV C h ρ n o ob):OV C h' ρ' n' o' ob:=by
 cases o with
 |list xs=>obtain ⟨ys,rfl,q⟩:=q;refine B1 e fun vs k h1 h2=>?_;clear e;exact ⟨vs,k,VRl.rel t q h1,h2⟩
 |dictI es=>obtain ⟨ys,rfl,q⟩:=q;refine k9 e fun l kvs k h1 h2 h3 h4 h5=>?_;clear e;exact ⟨l,kvs,k,h1,h2,h3,h4,b39 t q h5⟩
 |dictS es=>obtain ⟨ys,rfl,q⟩:=q;refine k9 e fun l kvs k h1 h2 h3 h4 h5=>?_;clear e;exact ⟨l,kvs,k,h1,h2,h3,h4,b39 t q h5⟩
 |six l=>obtain ⟨ys,rfl,q⟩:=q;refine k9 e fun l xs k h1 h2 h3 h4 h5=>?_;clear e;exact ⟨l,xs,k,h1,h2,h3,fun y hy=>B1 (h4 y hy) fun vs k a b=>⟨vs,k,t.tups _ _ _ a,b⟩,fun ks=>VRo.rel t (f09 q ks) (h5 ks)⟩
 |ns es=>obtain ⟨ys,rfl,q⟩:=q;refine R3 e fun l k h1 h2 h3=>?_;clear e;exact ⟨l,k,h1,h2,fun y=>e3l t q (h3 y)⟩
 |idict es=>obtain ⟨ys,rfl,q⟩:=q;refine a3z e fun l k h1 h2 h4 h3=>?_;clear e;exact ⟨l,k,h1,h2,q.length▸h4,fun y=>b2h t q (h3 y)⟩
 |inst c d=>obtain ⟨d',rfl,q⟩:=q;have r:=t.ref d d' _ q e.1;exact ⟨⟨rfl,r.2⟩,by refine rF (Z6 r.1) ?_;exact e.2⟩
 |cell v=>obtain ⟨d',rfl,q⟩:=q;refine yea e fun u h1 h2=>?_;clear e;exact ⟨u,h1,VRo.rel t q h2⟩
 |liter l i=>obtain ⟨d',rfl,q⟩:=q;refine m5 e fun h1 a h2 h3=>?_;clear e;exact ⟨h1,a,h2,t.ref _ _ _ q h3⟩
 |titer xs i=>obtain ⟨d',rfl,q⟩:=q;obtain ⟨h1,b,vs,k,h2,h3,h4⟩:=e;exact ⟨h1,b,vs,k,h2,t.tups _ _ _ h3,VRl.rel t q h4⟩
 |riter=>cases q;exact e
 |range=>cases q;exact e
 |enum it i=>obtain ⟨d',rfl,q⟩:=q;refine B1 e fun a old h1 h2=>?_;clear e;exact ⟨a,old,h1,t.ref _ _ _ q h2⟩
 |rev l i=>obtain ⟨d',rfl,q⟩:=q;refine m5 e fun h1 a h2 h3=>?_;clear e;exact ⟨h1,a,h2,t.ref _ _ _ q h3⟩
 |kiter d i m=>obtain ⟨d',rfl,q⟩:=q;refine l7 e fun h1 a ep h2 h3=>?_;clear e;exact ⟨h1,a,ep,h2,t.ref _ _ _ q h3⟩
 |tape=>cases q;exact e
 |code i=>obtain ⟨i',rfl,q⟩:=q;exact ⟨t.ref _ _ _ q e.1,e.2⟩
theorem OV.not_tup{a:O}{vs:List Value}{k:Nat}(e:OV C h ρ n a (F6 vs k)):False:=by
 cases a with
 |list xs=>refine B1 e fun vs' k' h1 h2=>?_;clear e;exact absurd (show Value.type "tuple"=.type "list" from congrArg M8 h2) (by decide)
 |dictI es=>refine G3 e fun l kvs k' h1 _=>?_;clear e;cases congrArg a03 h1
 |dictS es=>refine G3 e fun l kvs k' h1 _=>?_;clear e;cases congrArg a03 h1
 |six=>refine G3 e fun l kvs k' h1 _=>?_;clear e;cases congrArg a03 h1
 |ns es=>refine B1 e fun l k' h1 _=>?_;clear e;cases h1
 |idict es=>refine B1 e fun l k' h1 _=>?_;clear e;cases h1
 |inst c d=>cases congrArg a03 e.2
 |cell v=>refine yea e fun u h1 _=>?_;clear e;cases h1
 |liter l i=>refine m5 e fun _ _ h1 _=>?_;clear e;cases h1
 |titer xs i=>obtain ⟨_,b,vs,k,h2,_⟩:=e;cases h2
 |riter=>cases congrArg a03 (show F6 vs k=_ from e)
 |range=>refine n5 e fun _ _ _ h1=>?_;clear e;cases congrArg a03 h1
 |enum it i=>refine B1 e fun a old h1 _=>?_;clear e;cases congrArg a03 h1
 |rev l i=>refine m5 e fun _ _ h1 _=>?_;clear e;cases h1
 |kiter d i m=>refine l7 e fun _ _ ep h1 _=>?_;clear e;cases h1
 |tape=>refine B1 e fun vs' k' h2 _=>?_;clear e;exact absurd (show Value.type "tuple"=.type "list" from congrArg M8 h2) (by decide)
 |code=>cases congrArg M8 (show F6 vs k=tabObj #[] from e.2)
noncomputable def o8(h:Heap):Prop:=∃ps,h.get? T2=some (tabObj ps)
noncomputable def g7(o:O):Bool:=O.casesOn (motive:=fun _=>Bool) o (fun _=>false) (fun _=>false) (fun _=>false) (fun _=>false) (fun _=>false) (fun _=>false) (fun _ _=>false) (fun _=>false) (fun _ _=>false) (fun _ _=>false) (fun _ _ _=>false) (fun _ _ _=>false) (fun _ _=>false) (fun _ _=>false) (fun _ _ _=>false) (fun _ _=>false) fun _=>true
theorem OV.tab{a:O}{ps:Array Value}(e:OV C h ρ n a (tabObj ps)):g7 a=true:=by
 cases a with
 |list xs=>refine B1 e fun vs' k' h1 h2=>?_;clear e;cases congrArg M8 h2
 |dictI es=>refine G3 e fun l kvs k' h1 _=>?_;clear e;cases congrArg M8 h1
 |dictS es=>refine G3 e fun l kvs k' h1 _=>?_;clear e;cases congrArg M8 h1
 |six=>refine G3 e fun l kvs k' h1 _=>?_;clear e;cases congrArg M8 h1
 |ns es=>refine B1 e fun l k' h1 _=>?_;clear e;cases h1
 |idict es=>refine B1 e fun l k' h1 _=>?_;clear e;cases h1
 |inst c d=>cases congrArg M8 e.2
 |cell v=>refine yea e fun u h1 _=>?_;clear e;cases h1
 |liter l i=>cases e.1
 |titer xs i=>cases e.1
 |riter=>cases congrArg M8 (show tabObj ps=_ from e)
 |range=>refine n5 e fun _ _ _ h1=>?_;clear e;cases congrArg M8 h1
 |enum it i=>refine B1 e fun a old h1 _=>?_;clear e;cases congrArg M8 h1
 |rev l i=>cases e.1
 |kiter d i m=>cases e.1
 |tape=>refine B1 e fun vs' k' h2 _=>?_;clear e;cases congrArg M8 h2
 |code=>rfl
end
structure S where
 t:T
 n:Nat
noncomputable def S.get(x:S)(i:Nat):Option O:=S.rec (motive:=fun _=>Option O) (fun t _=>t.get i) x
noncomputable def S.set(w:Option O)(x:S)(i:Nat):S:=S.rec (motive:=fun _=>S) (fun t n=>⟨T.set w t i,n⟩) x
noncomputable def S.put(x:S)(i:Nat)(o:O):S:=S.set (some o) x i
noncomputable def S.del(x:S)(i:Nat):S:=S.set none x i
noncomputable def S.new(x:S)(o:O):S:=S.rec (motive:=fun _=>S) (fun t n=>⟨T.set (some o) t n,Q0 n⟩) x
noncomputable def S.ok(x:S):Bool:=S.rec (motive:=fun _=>Bool) (fun _ n=>J0 n 999999) x
theorem S.ok_lt{x:S}(h:x.ok=true):x.n < 999999:=d3 h
noncomputable def Live(x:S)(i:Nat):Prop:=∃o,x.get i=some o
noncomputable def b4m(n:Nat)(ρ ρ':Nat->Addr):Prop:=∀i,i < n->ρ' i=ρ i
structure At(C:Cx)(ρ:Nat->Addr)(x:S)(h:Heap):Prop where
 keep:∀b o,C.hb.get? b=some o->h.get? b=some o
 obj:∀i o,x.get i=some o->i < x.n/\∃ob,h.get? (ρ i)=some ob/\OV C h ρ x.n o ob
 fresh:∀i o,x.get i=some o->C.hb.get? (ρ i)=none
 inj:∀i j o o',x.get i=some o->x.get j=some o'->ρ i=ρ j->i=j
 room:x.n < 1000000
structure Ext(ρ:Nat->Addr)(x:S)(h:Heap)(ρ':Nat->Addr)(x':S)(h':Heap):Prop where
 agree:b4m x.n ρ ρ'
 le:x.n<=x'.n
 live:∀i,i < x.n->Live x' i->Live x i
 new:∀i,x.n<=i->Live x' i->∀b o,h.get? b=some o->(∀j,j < x.n->Live x j->ρ j≠b)->ρ' i≠b
 keep:∀b o,(∀i,i < x.n->Live x i->ρ i≠b)->h.get? b=some o->h'.get? b=some o
 tups:Tups h h'
 tab:o8 h->o8 h'
theorem Ext.trans{ρ₁ ρ₂ ρ₃:Nat->Addr}{x₁ x₂ x₃:S}{h₁ h₂ h₃:Heap}(x:Ext ρ₁ x₁ h₁ ρ₂ x₂ h₂)(y:Ext ρ₂ x₂ h₂ ρ₃ x₃ h₃):Ext ρ₁ x₁ h₁ ρ₃ x₃ h₃:=by
 have key:∀b o,h₁.get? b=some o->(∀i,i < x₁.n->Live x₁ i->ρ₁ i≠b)->∀i,i < x₂.n->Live x₂ i->ρ₂ i≠b:=fun b o e hb i hi l q=>by
  by_cases c:i < x₁.n
  ·exact hb i c (x.live i c l) ((x.agree i c).symm.trans q)
  ·exact x.new i (M3.mp c) l b o e hb q
 refine ⟨fun i hi=>(y.agree i (H3 hi x.le)).trans (x.agree i hi),W0 x.le y.le,fun i hi l=>x.live i hi (y.live i (H3 hi x.le) l),fun i h1 l b o e hb=>?_,fun b o hb e=>y.keep b o (key b o e hb) (x.keep b o hb e),x.tups.trans y.tups,fun t=>y.tab (x.tab t)⟩;by_cases q:i < x₂.n
 ·exact fun r=>x.new i h1 (y.live i q l) b o e hb ((y.agree i q).symm.trans r)
 ·exact y.new i (M3.mp q) l b o (x.keep b o hb e) (key b o e hb)
theorem K6.of{h h':Heap}{ρ ρ':Nat->Addr}{n n':Nat}(ht:Tups h h')(ha:b4m n ρ ρ')(hn:n<=n'):K6 Eq h ρ n h' ρ' n':=⟨ht,fun i i' v e r=>e▸⟨(ha i r.2).symm▸r.1,H3 r.2 hn⟩⟩
theorem K6.same{h h':Heap}{ρ:Nat->Addr}{n:Nat}(ht:Tups h h'):K6 Eq h ρ n h' ρ n:=.of ht (fun _ _=>rfl) (i3 _)
section
variable{C:Cx}{ρ ρ':Nat->Addr}{x x':S}{h h':Heap}
theorem VR.tell{n n':Nat}(t:K6 Eq h ρ n h' ρ' n'){a:V}{v:Value}(e:VR h ρ n a v):VR h' ρ' n' a v:=VR.rel t (j4.refl (fun _=>rfl) a) e
theorem OV.tell{n n':Nat}(t:K6 Eq h ρ n h' ρ' n'){a:O}{v:Obj}(e:OV C h ρ n a v):OV C h' ρ' n' a v:=OV.rel t (V6.refl (fun _=>rfl) a) e
theorem Ext.tell(X:Ext ρ x h ρ' x' h'):K6 Eq h ρ x.n h' ρ' x'.n:=.of X.tups X.agree X.le
theorem At.lt(D:At C ρ x h){i:Nat}{o:O}(e:x.get i=some o):i < x.n:=(D.obj i o e).1
theorem At.get(D:At C ρ x h){i:Nat}{o:O}(e:x.get i=some o):∃ob,h.get? (ρ i)=some ob/\OV C h ρ x.n o ob:=(D.obj i o e).2
theorem At.ne_old(D:At C ρ x h){i:Nat}{o:O}(hi:x.get i=some o){b:Addr}{ob:Obj}(e:C.hb.get? b=some ob):b≠ρ i:=fun q=>by
 have:=D.fresh i o hi;rw[<-q,e] at this;cases this
theorem At.none_above(D:At C ρ x h)(i:Nat)(hi:x.n<=i):¬ Live x i:=fun zz=>ye zz fun o e=>absurd (D.lt e) (M3.mpr hi)
theorem At.turn(D:At C ρ x h)(W:Nat->Prop)(hn:x'.n=x.n)(hW:∀i,W i->Live x i)(hx:∀i o,x'.get i=some o->(¬ W i/\x.get i=some o)∨(W i/\∃ob,h'.get? (ρ i)=some ob/\(Tups h h'->OV C h' ρ x.n o ob)))
  (hk:∀b o,(∀i,W i->b≠ρ i)->h.get? b=some o->h'.get? b=some o) (hc:∀i o,W i->x.get i=some o->g7 o=false∨o8 h'):At C ρ x' h'/\Ext ρ x h ρ x' h':=by
 have lv:∀i,Live x' i->Live x i:=fun i zy=>ye zy fun o e=>by
  rcases hx i o e with ⟨_,e⟩ | ⟨w,_⟩
  ·exact ⟨o,e⟩
  ·exact hW i w
 have ht:Tups h h':=fun b vs k e=>hk b _ (fun i w q=>by
  obtain ⟨o,ei⟩:=hW i w;refine yea (D.get ei) fun ob e1 v1=>?_;rw[<-q,e] at e1;exact OV.not_tup (C0 e1▸v1)) e
 refine ⟨⟨fun b o e=>hk b o (fun i w=>ye (hW i w) fun _ ei=>D.ne_old ei e) (D.keep b o e),fun i o e=>?_,fun i o e=>ye (lv i ⟨o,e⟩) fun _ e=>D.fresh i _ e,fun i j o o' ei ej q=>ye (lv i ⟨o,ei⟩) fun _ ei=>ye (lv j ⟨o',ej⟩) fun _ ej=>D.inj i j _ _ ei ej q,hn▸D.room⟩,
  ⟨fun _ _=>rfl,a4d hn.symm,fun i _=>lv i,fun i h1 l=>absurd (lv i l) (D.none_above i h1),fun b o hb e=>hk b o (fun i w=>ye (hW i w) fun o ei=>(hb i (D.lt ei) ⟨o,ei⟩).symm) e,ht,fun zz=>ye zz fun ps e=>Classical.byCases (fun ⟨i,w,q⟩=>ye (hW i w) fun o ei=>(hc i o w ei).elim (fun c=>by refine yea (D.get ei) fun ob e1 v1=>?_;rw[q,e] at e1;have:=OV.tab (C0 e1▸v1);rw[c] at this;cases this) id) fun (n:¬ ∃i,W i/\ρ i=T2)=>⟨ps,hk _ _ (fun i w q=>n ⟨i,w,q.symm⟩) e⟩⟩⟩
 refine rE hn ?_;rcases hx i o e with ⟨w,e⟩ | ⟨w,ob,h1,h2⟩
 ·refine m5 (D.obj i o e) fun h1 ob h2 h3=>?_
  exact ⟨h1,ob,hk _ _ (fun j wj q=>ye (hW j wj) fun _ ej=>w (D.inj i j _ _ e ej q▸wj)) h2,h3.tell (.same ht)⟩
 ·obtain ⟨o',e'⟩:=hW i w
  exact ⟨D.lt e',ob,h1,h2 ht⟩
theorem get_set{w:Option O}{i:Nat}(hi:i < 1000000)(j:Nat):(x.set w i).get j=if j=i then w else x.get j:=T.get_set w x.t i j hi
theorem At.set(D:At C ρ x h){i:Nat}{o₀:O}{w:Option O}(e₀:x.get i=some o₀)(hs:∀b o,b≠ρ i->h.get? b=some o->h'.get? b=some o)(hw:∀o,w=some o->∃ob,h'.get? (ρ i)=some ob/\(Tups h h'->OV C h' ρ x.n o ob))(hc:g7 o₀=false∨o8 h':=by exact .inl rfl):
  At C ρ (x.set w i) h'/\Ext ρ x h ρ (x.set w i) h':=
 D.turn (· =i) rfl (fun j q=>⟨o₀,q▸e₀⟩) (fun j o e=>by
  rw[get_set (i4 (D.lt e₀) D.room)] at e;by_cases q:j=i
  ·rw[if_pos q] at e;exact .inr ⟨q,q▸hw o e⟩
  ·rw[if_neg q] at e;exact .inl ⟨q,e⟩) (fun b o q=>hs b o (q i rfl)) fun j o q e=>by rw[q,e₀] at e;cases C0 e;exact hc
theorem At.put2(D:At C ρ x h){i j:Nat}{o₁ o₂ o o':O}{ob ob':Obj}(e₁:x.get i=some o₁)(e₂:x.get j=some o₂)(hk:∀b o,b≠ρ i->b≠ρ j->h.get? b=some o->h'.get? b=some o)
  (he:h'.get? (ρ i)=some ob) (he':h'.get? (ρ j)=some ob') (ho:Tups h h'->OV C h' ρ x.n o ob) (ho':Tups h h'->OV C h' ρ x.n o' ob') (c1:g7 o₁=false:=by rfl) (c2:g7 o₂=false:=by rfl):
  At C ρ ((x.put i o).put j o') h'/\Ext ρ x h ρ ((x.put i o).put j o') h':=
 D.turn (fun k=>k=i∨k=j) rfl (fun k q=>by rcases q with rfl|rfl <;>exact ⟨_,by assumption⟩) (fun k oc e=>by
  unfold S.put at e;rw[get_set (i4 (D.lt e₂) D.room),get_set (i4 (D.lt e₁) D.room)] at e;by_cases q:k=j
  ·rw[if_pos q] at e;cases e;exact .inr ⟨.inr q,ob',q▸he',ho'⟩
  ·rw[if_neg q] at e
   by_cases r:k=i
   ·rw[if_pos r] at e;cases e;exact .inr ⟨.inl r,ob,r▸he,ho⟩
   ·rw[if_neg r] at e;exact .inl ⟨fun c=>c.elim r q,e⟩) (fun b o q=>hk b o (q i (.inl rfl)) (q j (.inr rfl))) fun k o q e=>.inl (by rcases q with rfl|rfl <;>(first| (rw[e₁] at e;cases C0 e;exact c1) | (rw[e₂] at e;cases C0 e;exact c2)))
theorem At.grow(D:At C ρ x h)(k:∀b o,h.get? b=some o->h'.get? b=some o):At C ρ x h'/\Ext ρ x h ρ x h':=
 D.turn (fun _=>False) rfl (fun _ q=>q.elim) (fun i o e=>.inl ⟨id,e⟩) (fun b o _=>k b o) fun _ _ q=>q.elim
noncomputable def ext(ρ:Nat->Addr)(n:Nat)(a:Addr):Nat->Addr:=fun i=>if i=n then a else ρ i
theorem a1e(ρ:Nat->Addr)(n:Nat)(a:Addr):ext ρ n a n=a:=if_pos rfl
theorem a7s(ρ:Nat->Addr)(n:Nat)(a:Addr):b4m n ρ (ext ρ n a):=fun i hi=>if_neg (j3 hi)
theorem e18{o:O}(hx:x.n < 1000000)(j:Nat):(x.new o).get j=if j=x.n then some o else x.get j:=T.get_set (some o) x.t x.n j hx
theorem a1o(hr:x.n < 1000000){o o':O}{a:Addr}{j:Nat}(e:(x.new o).get j=some o'):(j=x.n/\o'=o/\ext ρ x.n a j=a)∨(j≠x.n/\x.get j=some o'/\ext ρ x.n a j=ρ j):=by
 rw[e18 hr] at e;by_cases q:j=x.n
 ·rw[if_pos q] at e;exact .inl ⟨q,(C0 e).symm,if_pos q⟩
 ·rw[if_neg q] at e;exact .inr ⟨q,e,if_neg q⟩
theorem At.add(D:At C ρ x h){a:Addr}{o:O}{ob:Obj}(hx:x.ok=true)(ha:h.get? a=some ob)(hn:∀i o,x.get i=some o->ρ i≠a)(hbn:C.hb.get? a=none)(ho:OV C h (ext ρ x.n a) (x.n+1) o ob):At C (ext ρ x.n a) (x.new o) h:=by
 refine ⟨D.keep,fun j o' e=>?_,fun j o' e=>?_,fun i j oi oj ei ej e=>?_,a4f (S.ok_lt hx)⟩
 ·rcases a1o D.room e (a:=a) (ρ:=ρ) with ⟨rfl,rfl,q⟩ | ⟨_,e,q⟩
  ·exact ⟨l8 _,ob,by refine rE q ?_;exact ha,ho⟩
  ·refine m5 (D.obj j o' e) fun h1 ob' h2 h3=>?_
   exact ⟨a9x h1,ob',by refine rE q ?_;exact h2,h3.tell (.of .refl (a7s _ _ _) (H7 _))⟩
 ·rcases a1o D.room e (a:=a) (ρ:=ρ) with ⟨_,_,q⟩ | ⟨_,e,q⟩
  ·refine rE q ?_;exact hbn
  ·refine rE q ?_;exact D.fresh j o' e
 ·rcases a1o D.room ei (a:=a) (ρ:=ρ) with ⟨qi,_,ri⟩ | ⟨_,ei,ri⟩ <;>rcases a1o D.room ej (a:=a) (ρ:=ρ) with ⟨qj,_,rj⟩ | ⟨_,ej,rj⟩ <;>rw[ri,rj] at e
  ·exact rE qi (rE qj rfl)
  ·exact absurd e.symm (hn j oj ej)
  ·exact absurd e (hn i oi ei)
  ·exact D.inj i j oi oj ei ej e
theorem Ext.add{ρ₀:Nat->Addr}{x₀:S}{h₀:Heap}(X:Ext ρ₀ x₀ h₀ ρ x h)(hr:x.n < 1000000){a:Addr}{o:O}(ha:h₀.get? a=none):Ext ρ₀ x₀ h₀ (ext ρ x.n a) (x.new o) h:=by
 refine ⟨fun i hi=>(a7s ρ x.n a i (H3 hi X.le)).trans (X.agree i hi),Nat.le_succ_of_le X.le,fun i hi zy=>ye zy fun o' e=>?_,fun i hi zz=>ye zz fun o' e b ob eb hb=>?_,X.keep,X.tups,X.tab⟩
 ·rcases a1o hr e (a:=a) (ρ:=ρ) with ⟨q,_⟩ | ⟨_,q,_⟩
  ·exact absurd (H3 hi X.le) (q▸a01 _)
  ·exact X.live i hi ⟨o',q⟩
 ·rcases a1o hr e (a:=a) (ρ:=ρ) with ⟨_,_,q⟩ | ⟨_,e,q⟩
  ·exact fun r=>by rw[<-r,q,ha] at eb;cases eb
  ·exact fun r=>X.new i hi ⟨o',e⟩ b ob eb hb (q.symm.trans r)
theorem At.no_at(D:At C ρ x h){a:Addr}(ha:h.get? a=none):(∀i o,x.get i=some o->ρ i≠a)/\C.hb.get? a=none:=by
 refine ⟨fun i o e q=>?_,?_⟩
 ·refine yea (D.get e) fun ob h2 _=>?_
  rw[q,ha] at h2;cases h2
 ·cases hq:C.hb.get? a with
  |none=>rfl
  |some oo=>
   have:=D.keep _ _ hq;rw[ha] at this;cases this
theorem At.new(D:At C ρ x h){o:O}{ob:Obj}(hx:x.ok=true)(hf:ob.isFreed=false)(ho:Ext ρ x h (ext ρ x.n h.objs.size) (x.new o) (h.push ob)->OV C (h.push ob) (ext ρ x.n h.objs.size) (x.n+1) o ob):
  At C (ext ρ x.n h.objs.size) (x.new o) (h.push ob)/\Ext ρ x h (ext ρ x.n h.objs.size) (x.new o) (h.push ob):=
 have D1:=D.grow (h':=h.push ob) fun b o' e=>V2 _ e;have hn:=a43 (i3 h.objs.size);have X:=D1.2.add (o:=o) D.room hn
 ⟨D1.1.add hx (c6 _ hf) (D.no_at hn).1 (D.no_at hn).2 (ho X),X⟩
end
structure St(C:Cx) where
 s:Shared
 ρ:Nat->Addr
 x:S
 D:At C ρ x s.heap
structure AE where
 scope:Scope
 locals:Nat
 cells:List (Str×Nat)
 qual:Str
 func:Option Nat
 code:Value
 frame:Option Nat
inductive Sd where
 |bt (t:B) |vs (l:List V) |os (l:List (Option V)) |oo (l:List (Option O)) |bo (b:Bool) |nn (n:Nat) |ae (e:AE) |sl (l:List Stmt) |ee (e:Expr)
theorem Sd.bt.inj{a b:B}(h:Sd.bt a=.bt b):a=b:=by cases h;rfl
theorem Sd.vs.inj{a b:List V}(h:Sd.vs a=.vs b):a=b:=by cases h;rfl
theorem Sd.os.inj{a b:List (Option V)}(h:Sd.os a=.os b):a=b:=by cases h;rfl
theorem Sd.oo.inj{a b:List (Option O)}(h:Sd.oo a=.oo b):a=b:=by cases h;rfl
theorem Sd.bo.inj{a b:Bool}(h:Sd.bo a=.bo b):a=b:=by cases h;rfl
theorem Sd.nn.inj{a b:Nat}(h:Sd.nn a=.nn b):a=b:=by cases h;rfl
theorem Sd.ae.inj{a b:AE}(h:Sd.ae a=.ae b):a=b:=by cases h;rfl
theorem Sd.sl.inj{a b:List Stmt}(h:Sd.sl a=.sl b):a=b:=by cases h;rfl
theorem Sd.ee.inj{a b:Expr}(h:Sd.ee a=.ee b):a=b:=by cases h;rfl
inductive Res(α:Type) where
 |fail
 |ok (a:α) (x:S)
 |ask (m:Nat) (k:Nat->Res α)
 |same (a b:Sd) (r:Res α)
noncomputable def Res.bd{α β:Type}(r:Res α)(f:α->S->Res β):Res β:=Res.rec (motive:=fun _=>Res β) .fail f (fun m _ ih=>.ask m ih) (fun a b _ ih=>.same a b ih) r
noncomputable def Res.All{α:Type}(r:Res α)(P:α->S->Prop):Prop:=Res.rec (motive:=fun _=>Prop) False P (fun m _ ih=>∀d,d < m->ih d) (fun a b _ ih=>a=b/\ih) r
noncomputable def nd{α β:Type}(o:Option α)(f:α->Res β):Res β:=K0 (motive:=fun _=>Res β) .fail f o
noncomputable def ck{β:Type}(b:Bool)(r:Res β):Res β:=ifb b r .fail
noncomputable def lft{α:Type}(o:Option α)(x:S):Res α:=nd o fun a=>.ok a x
section
variable{α β γ:Type}
theorem Res.All_bd(r:Res α)(f:α->S->Res β)(P:β->S->Prop):(r.bd f).All P ↔ r.All fun a x=>(f a x).All P:=by
 induction r with
 |fail=>exact Iff.rfl
 |ok a x=>exact Iff.rfl
 |ask m k ih=>exact ⟨fun h d hd=>(ih d).mp (h d hd),fun h d hd=>(ih d).mpr (h d hd)⟩
 |same p q r ih=>exact ⟨fun h=>⟨h.1,ih.mp h.2⟩,fun h=>⟨h.1,ih.mpr h.2⟩⟩
theorem Res.All_mono{r:Res α}{P P':α->S->Prop}(k:∀a x,P a x->P' a x)(h:r.All P):r.All P':=by
 induction r with
 |fail=>exact h
 |ok a x=>exact k a x h
 |ask m f ih=>exact fun d hd=>ih d (h d hd)
 |same p q r ih=>exact ⟨h.1,ih h.2⟩
theorem T7{o:Option α}{f:α->Res β}{P:β->S->Prop}(h:(nd o f).All P):∃a,o=some a/\(f a).All P:=by
 cases o with
 |none=>exact h.elim
 |some a=>exact ⟨a,rfl,h⟩
theorem ndE{o:Option α}{f:α->Res β}{P:β->S->Prop}{G:Prop}(k:∀a,o=some a->(f a).All P->G)(h:(nd o f).All P):G:=(T7 h).elim fun a h=>k a h.1 h.2
theorem t7{b:Bool}{r:Res β}{P:β->S->Prop}(h:(ck b r).All P):b=true/\r.All P:=by
 cases b with
 |false=>exact h.elim
 |true=>exact ⟨rfl,h⟩
theorem ckE{b:Bool}{r:Res β}{P:β->S->Prop}{G:Prop}(k:b=true->r.All P->G)(h:(ck b r).All P):G:=k (t7 h).1 (t7 h).2
theorem W7{o:Option α}{f:α->Option β}{b:β}(h:obd o f=some b):∃a,o=some a/\f a=some b:=by
 cases o with
 |none=>cases h
 |some a=>exact ⟨a,rfl,h⟩
end
noncomputable def AE.env(ρ:Nat->Addr)(e:AE):Env:=
 {scope:=e.scope,locals:=ρ e.locals,globals:=V3,cells:=e.cells.map fun c=>(c.1,ρ c.2),qual:=e.qual,func:=e.func,code:=e.code,frame:=e.frame.map ρ,builtins:=builtinsNs}
noncomputable def AE.In(e:AE)(n:Nat):Prop:=e.locals < n/\(∀c∈e.cells,c.2 < n)/\(∀i,e.frame=some i->i < n)/\e.scope.kind=.function
section
variable{C:Cx}{α β γ δ:Type}{A:Around}
noncomputable abbrev St.h(σ:St C):Heap:=σ.s.heap
noncomputable abbrev St.to(σ:St C)(h:Heap)(tk:Nat)(ρ:Nat->Addr)(x:S)(D:At C ρ x h):St C:=⟨{σ.s with heap:=h,toks:=tk},ρ,x,D⟩
noncomputable abbrev St.tok(σ:St C)(tk:Nat):St C:=⟨{σ.s with toks:=tk},σ.ρ,σ.x,σ.D⟩
structure Le(σ τ:St C):Prop where
 X:Ext σ.ρ σ.x σ.h τ.ρ τ.x τ.h
 e:τ.s={σ.s with heap:=τ.s.heap,toks:=τ.s.toks}
abbrev Vr(σ:St C)(v:V)(u:Value):Prop:=VR σ.h σ.ρ σ.x.n v u
abbrev Vrs(σ:St C)(v:List V)(u:List Value):Prop:=VRl σ.h σ.ρ σ.x.n v u
abbrev Vro(σ:St C)(v:Option V)(u:Option Value):Prop:=VRo σ.h σ.ρ σ.x.n v u
noncomputable def Ur(_:St C)(_:Unit)(_:Unit):Prop:=True
noncomputable def Br(_:St C)(b v:Bool):Prop:=v=b
noncomputable def BVr(_:St C)(b:Bool)(v:Value):Prop:=v=.bool b
inductive FL where
 |next|brk|cont|ret (v:V)
noncomputable def Fr(σ:St C)(f:FL):Flow->Prop:=FL.casesOn (motive:=fun _=>Flow->Prop) f (Eq · .next) (Eq · .brk) (Eq · .cont) (fun v g=>∃u,g=.ret u/\Vr σ v u)
noncomputable def Nr(_:St C)(_:Unit)(f:Flow):Prop:=f=.next
noncomputable def Er(σ:St C)(e:AE)(env:Env):Prop:=env=e.env σ.ρ/\e.In σ.x.n
variable{σ τ υ:St C}
theorem obE{o:Option α}{f:α->Option β}{b:β}{G:Prop}(k:∀a,o=some a->f a=some b->G)(h:obd o f=some b):G:=(W7 h).elim fun a h=>k a h.1 h.2
theorem St.at(σ:St C){i:Nat}{o:O}(q:σ.x.get i=some o):∃ob,σ.h.get? (σ.ρ i)=some ob/\OV C σ.h σ.ρ σ.x.n o ob:=σ.D.get q
theorem Le.refl:Le σ σ:=⟨(σ.D.grow fun _ _ e=>e).2,rfl⟩
theorem Le.tok{tk:Nat}:Le σ (σ.tok tk):=⟨(σ.D.grow fun _ _ e=>e).2,rfl⟩
theorem Le.trans(x:Le σ τ)(y:Le τ υ):Le σ υ:=⟨x.X.trans y.X,y.e.trans (by exact rE x.e rfl)⟩
theorem Le.le(X:Le σ τ):σ.x.n<=τ.x.n:=X.X.le
theorem Le.v(X:Le σ τ){a:V}{v:Value}(e:Vr σ a v):Vr τ a v:=e.tell X.X.tell
theorem Le.vs(X:Le σ τ){a:List V}{v:List Value}(e:Vrs σ a v):Vrs τ a v:=e.mono fun _ _=>X.v
theorem Le.vo(X:Le σ τ){a:Option V}{v:Option Value}(e:Vro σ a v):Vro τ a v:=e.map fun _ _=>X.v
theorem Le.env(X:Le σ τ){e:AE}{env:Env}(h:Er σ e env):Er τ e env:=by
 refine Q5 h fun zz h1 h2 zy=>?_;clear h;obtain ⟨h3,h4⟩:=zy;subst zz;refine ⟨?_,H3 h1 X.le,fun c hc=>H3 (h2 c hc) X.le,fun i hi=>H3 (h3 i hi) X.le,h4⟩;have ha:=X.X.agree;unfold AE.env;refine rE (ha _ h1) (rE (show e.cells.map (fun c=>(c.1,τ.ρ c.2))=e.cells.map fun c=>(c.1,σ.ρ c.2) from a49 fun c hc=>congrArg (Prod.mk c.1) (ha _ (h2 c hc))) ?_);cases q:e.frame with
 |none=>rfl
 |some i=>exact rE (b59 ..) (rE (b59 ..) (rE (ha i (h3 i q)) rfl))
noncomputable def A0(σ:St C)(R:St C->β->α->Prop)(Q:α->Shared->Prop)(b:β)(x:S):Prop:=∀v (τ:St C),τ.x=x->Le σ τ->R τ b v->Q v τ.s
noncomputable def GoR(A:Around)(t:Sem α)(σ:St C)(R:St C->β->α->Prop)(r:Res β):Prop:=∀ (Q:α->Shared->Prop) (E:Value->Shared->Prop),r.All (A0 σ R Q)->wpAny C.m A t Q E σ.s
noncomputable def GoC(A:Around)(c:Code)(σ:St C)(R:St C->β->Flow->Prop)(r:Res β):Prop:=∀Q:Result->Shared->Prop,r.All (A0 σ R fun f s'=>Q (.ok f) s')->c5 C.m A c Q σ.s
variable{t:Sem α}{R:St C->β->α->Prop}{R':St C->δ->γ->Prop}{r:Res β}{Q:α->Shared->Prop}{E:Value->Shared->Prop}
theorem GoR.fail:GoR A t σ R .fail:=fun _ _ z=>z.elim
theorem GoR.nd{o:Option δ}{f:δ->Res β}(h:∀a,o=some a->GoR A t σ R (f a)):GoR A t σ R (nd o f):=fun Q E z=>yea (T7 z) fun a e z=>h a e Q E z
theorem GoR.ck{b:Bool}(h:b=true->GoR A t σ R r):GoR A t σ R (ck b r):=fun Q E z=>ya (t7 z) fun e z=>h e Q E z
theorem GoR.use(h:GoR A t σ R r){F:β->S->Res γ}{P:γ->S->Prop}(z:(r.bd F).All P)(k:∀b v (τ:St C),Le σ τ->R τ b v->(F b τ.x).All P->Q v τ.s):wpAny C.m A t Q E σ.s:=
 h Q E (Res.All_mono (fun b x z v τ e X r=>k b v τ X r (e▸z)) ((Res.All_bd r F P).mp z))
theorem A0.up(X:Le σ τ){b:β}{x:S}(z:A0 σ R Q b x):A0 τ R Q b x:=fun v υ e Y r=>z v υ e (X.trans Y) r
theorem GoR.fin(h:GoR A t τ R r)(X:Le σ τ)(z:r.All (A0 σ R Q)):wpAny C.m A t Q E τ.s:=h Q E (Res.All_mono (fun _ _ z=>z.up X) z)
theorem GoR.mono{R₂:St C->β->α->Prop}(h:GoR A t σ R r)(k:∀τ b v,R τ b v->R₂ τ b v):GoR A t σ R₂ r:=fun Q E z=>h Q E (Res.All_mono (fun b x z v τ e X r=>z v τ e X (k _ _ _ r)) z)
theorem GoR.bind{k:α->Sem γ}{f:β->S->Res δ}(h:GoR A t σ R r)(g:∀b v τ,Le σ τ->R τ b v->GoR A (k v) τ R' (f b τ.x)):GoR A (t >>=k) σ R' (r.bd f):=
 fun Q E z=>m0 (h.use z fun b v τ X r z=>(g b v τ X r).fin X z)
theorem GoR.pure{b:β}{v:α}(h:R σ b v):GoR A (Pure.pure v) σ R (.ok b σ.x):=fun Q E z=>q0 (z v σ rfl .refl h)
theorem A0.here{b:β}{v:α}(z:A0 σ R Q b σ.x)(r:R σ b v):Q v σ.s:=z v σ rfl .refl r
theorem A0.tok{b:β}{v:α}{tk:Nat}(z:A0 σ R Q b σ.x)(r:R (σ.tok tk) b v):Q v {σ.s with toks:=tk}:=z v (σ.tok tk) rfl .tok r
theorem St.set_k{i:Nat}{o₀:O}{w:Option O}{h':Heap}(tk:Nat)(e₀:σ.x.get i=some o₀)(hs:∀b o,b≠σ.ρ i->σ.h.get? b=some o->h'.get? b=some o)(hw:∀o,w=some o->∃ob,h'.get? (σ.ρ i)=some ob/\(Tups σ.h h'->OV C h' σ.ρ σ.x.n o ob))(hc:g7 o₀=false∨o8 h':=by exact .inl rfl):
  ∃τ:St C,{σ.s with heap:=h',toks:=tk}=τ.s/\τ.x=σ.x.set w i/\Le σ τ:=⟨σ.to h' tk σ.ρ _ (σ.D.set e₀ hs hw hc).1,rfl,rfl,(σ.D.set e₀ hs hw hc).2,rfl⟩
theorem St.put_k{i:Nat}{o₀ o:O}{ob:Obj}{h':Heap}(tk:Nat)(e₀:σ.x.get i=some o₀)(hs:H6 (σ.ρ i) σ.h h')(he:h'.get? (σ.ρ i)=some ob)(ho:Tups σ.h h'->OV C h' σ.ρ σ.x.n o ob)(hc:g7 o₀=false∨o8 h':=by exact .inl rfl):
  ∃τ:St C,{σ.s with heap:=h',toks:=tk}=τ.s/\τ.x=σ.x.put i o/\Le σ τ:=St.set_k tk e₀ (fun b o q e=>(hs.2 b q).trans e) (fun _ q=>⟨ob,he,C0 q▸ho⟩) hc
theorem St.put2_k{i j:Nat}{o₁ o₂ o o':O}{ob ob':Obj}{h':Heap}(tk:Nat)(e₁:σ.x.get i=some o₁)(e₂:σ.x.get j=some o₂)(hk:∀b o,b≠σ.ρ i->b≠σ.ρ j->σ.h.get? b=some o->h'.get? b=some o)(he:h'.get? (σ.ρ i)=some ob)(he':h'.get? (σ.ρ j)=some ob')(ho:Tups σ.h h'->OV C h' σ.ρ σ.x.n o ob)(ho':Tups σ.h h'->OV C h' σ.ρ σ.x.n o' ob')(c1:g7 o₁=false:=by rfl)(c2:g7 o₂=false:=by rfl):
  ∃τ:St C,{σ.s with heap:=h',toks:=tk}=τ.s/\τ.x=(σ.x.put i o).put j o'/\τ.h=h'/\Le σ τ:=⟨σ.to h' tk σ.ρ _ (σ.D.put2 e₁ e₂ hk he he' ho ho' c1 c2).1,rfl,rfl,rfl,(σ.D.put2 e₁ e₂ hk he he' ho ho' c1 c2).2,rfl⟩
theorem St.del_k{i:Nat}{o₀:O}{h':Heap}(tk:Nat)(e₀:σ.x.get i=some o₀)(hs:Heap.ExtBut (σ.ρ i) σ.h h')(hc:g7 o₀=false∨o8 h':=by exact .inl rfl):
  ∃τ:St C,{σ.s with heap:=h',toks:=tk}=τ.s/\τ.x=σ.x.del i/\Le σ τ:=St.set_k tk e₀ hs (fun _ q=>nomatch q) hc
theorem St.grow_k{h':Heap}(tk:Nat)(k:∀b o,σ.h.get? b=some o->h'.get? b=some o):∃τ:St C,{σ.s with heap:=h',toks:=tk}=τ.s/\τ.x=σ.x/\Le σ τ:=
 ⟨σ.to h' tk σ.ρ σ.x (σ.D.grow k).1,rfl,rfl,(σ.D.grow k).2,rfl⟩
theorem St.new_k{o:O}{ob:Obj}(tk:Nat)(hx:σ.x.ok=true)(hf:ob.isFreed=false)(ho:∀ {ρ':Nat->Addr},Ext σ.ρ σ.x σ.h ρ' (σ.x.new o) (σ.h.push ob)->OV C (σ.h.push ob) ρ' (σ.x.n+1) o ob):
  ∃τ:St C,{σ.s with heap:=σ.h.push ob,toks:=tk}=τ.s/\τ.x=σ.x.new o/\Le σ τ/\Vr τ (.ref σ.x.n) (.ref σ.h.objs.size):=
 have ⟨D,X⟩:=σ.D.new hx hf ho
 ⟨σ.to _ tk _ _ D,rfl,rfl,⟨X,rfl⟩,congrArg O2 (a1e ..).symm,l8 _⟩
theorem A0.set{b:β}{v:α}{i:Nat}{o₀:O}{w:Option O}{h':Heap}{tk:Nat}(z:A0 σ R Q b (σ.x.set w i))(e₀:σ.x.get i=some o₀)(hs:∀b o,b≠σ.ρ i->σ.h.get? b=some o->h'.get? b=some o)(hw:∀o,w=some o->∃ob,h'.get? (σ.ρ i)=some ob/\(Tups σ.h h'->OV C h' σ.ρ σ.x.n o ob))
  (r:∀τ,Le σ τ->R τ b v) (hc:g7 o₀=false∨o8 h':=by exact .inl rfl):Q v {σ.s with heap:=h',toks:=tk}:=R0 (St.set_k tk e₀ hs hw hc) fun τ h1 h2 h3=>h1▸z v τ h2 h3 (r τ h3)
theorem A0.put{b:β}{v:α}{i:Nat}{o₀ o:O}{ob:Obj}{h':Heap}{tk:Nat}(z:A0 σ R Q b (σ.x.put i o))(e₀:σ.x.get i=some o₀)(hs:H6 (σ.ρ i) σ.h h')(he:h'.get? (σ.ρ i)=some ob)(ho:Tups σ.h h'->OV C h' σ.ρ σ.x.n o ob)
  (r:∀τ,Le σ τ->R τ b v) (hc:g7 o₀=false∨o8 h':=by exact .inl rfl):Q v {σ.s with heap:=h',toks:=tk}:=R0 (St.put_k tk e₀ hs he ho hc) fun τ h1 h2 h3=>h1▸z v τ h2 h3 (r τ h3)
theorem A0.del{b:β}{v:α}{i:Nat}{o₀:O}{h':Heap}{tk:Nat}(z:A0 σ R Q b (σ.x.del i))(e₀:σ.x.get i=some o₀)(hs:Heap.ExtBut (σ.ρ i) σ.h h')(r:∀τ,Le σ τ->R τ b v)(hc:g7 o₀=false∨o8 h':=by exact .inl rfl):Q v {σ.s with heap:=h',toks:=tk}:=
 R0 (St.del_k tk e₀ hs hc) fun τ h1 h2 h3=>h1▸z v τ h2 h3 (r τ h3)
theorem A0.grow{b:β}{v:α}{h':Heap}{tk:Nat}(z:A0 σ R Q b σ.x)(k:∀b o,σ.h.get? b=some o->h'.get? b=some o)(r:∀τ,τ.h=h'->Le σ τ->R τ b v):Q v {σ.s with heap:=h',toks:=tk}:=
 R0 (St.grow_k tk k) fun τ h1 h2 h3=>h1▸z v τ h2 h3 (r τ (congrArg a6y h1).symm h3)
theorem A0.new{o:O}{ob:Obj}{Q:Value->Shared->Prop}{tk:Nat}(z:A0 σ Vr Q (.ref σ.x.n) (σ.x.new o))(hx:σ.x.ok=true)(hf:ob.isFreed=false)(ho:∀ {ρ':Nat->Addr},Ext σ.ρ σ.x σ.h ρ' (σ.x.new o) (σ.h.push ob)->OV C (σ.h.push ob) ρ' (σ.x.n+1) o ob):
  Q (.ref σ.h.objs.size) {σ.s with heap:=σ.h.push ob,toks:=tk}:=W4 (St.new_k tk hx hf ho) fun τ h1 h2 h3 h4=>h1▸z _ τ h2 h3 h4
theorem A0.tup{xs:List V}{vs:List Value}{Q:Value->Shared->Prop}{tk c:Nat}(z:A0 σ Vr Q (.tup xs) σ.x)(hv:Vrs σ xs vs):Q (.ref σ.h.objs.size) {σ.s with heap:=σ.h.push (F6 vs c),toks:=tk}:=
 z.grow (fun _ _ e=>V2 _ e) fun τ e X=>a6z (vs:=vs) (k:=c) (by refine rE e ?_;exact c6 _ rfl) (X.vs hv)
end
theorem D0{α:Type}{i:α}{P:Prop}(h:none=some i):P:=nomatch h
noncomputable def J3(v:V):Option Int:=V.casesOn (motive_1:=fun _=>Option Int) v none (fun _=>none) some (fun _=>none) (fun _=>none) (fun _=>none) (fun _=>none) (fun _=>none) (fun _=>none)
noncomputable def G2(v:V):Option Nat:=V.casesOn (motive_1:=fun _=>Option Nat) v none (fun _=>none) (fun _=>none) (fun _=>none) (fun _=>none) (fun _=>none) (fun _=>none) some (fun _=>none)
noncomputable def d8(v:V):Option (List V):=V.casesOn (motive_1:=fun _=>Option (List V)) v none (fun _=>none) (fun _=>none) (fun _=>none) (fun _=>none) (fun _=>none) (fun _=>none) (fun _=>none) some
noncomputable def vStr(v:V):Option Str:=V.casesOn (motive_1:=fun _=>Option Str) v none (fun _=>none) (fun _=>none) some (fun _=>none) (fun _=>none) (fun _=>none) (fun _=>none) (fun _=>none)
noncomputable def a29(v:V):Bool:=V.casesOn (motive_1:=fun _=>Bool) v true (fun _=>false) (fun _=>false) (fun _=>false) (fun _=>false) (fun _=>false) (fun _=>false) (fun _=>false) (fun _=>false)
theorem V.int_eq{v:V}{i:Int}(h:J3 v=some i):v=.int i:=by cases v <;>first|exact D0 h|exact congrArg _ (C0 h)
theorem V.ref_eq{v:V}{i:Nat}(h:G2 v=some i):v=.ref i:=by cases v <;>first|exact D0 h|exact congrArg _ (C0 h)
theorem V.tup_eq{v:V}{i:List V}(h:d8 v=some i):v=.tup i:=by cases v <;>first|exact D0 h|exact congrArg _ (C0 h)
theorem V.str_eq{v:V}{i:Str}(h:vStr v=some i):v=.str i:=by cases v <;>first|exact D0 h|exact congrArg _ (C0 h)
theorem V.none_eq{v:V}(h:a29 v=true):v=.none:=by cases v <;>first|rfl|exact T1 h
noncomputable def V8(o:O):Option (List V):=O.casesOn (motive:=fun _=>Option (List V)) o some (fun _=>none) (fun _=>none) (fun _=>none) (fun _=>none) (fun _=>none) (fun _ _=>none) (fun _=>none) (fun _ _=>none) (fun _ _=>none) (fun _ _ _=>none) (fun _ _ _=>none) (fun _ _=>none) (fun _ _=>none) (fun _ _ _=>none) (fun _ _=>none) fun _=>none
noncomputable def oNs(o:O):Option (List (Str×V)):=O.casesOn (motive:=fun _=>Option (List (Str×V))) o (fun _=>none) (fun _=>none) (fun _=>none) (fun _=>none) some (fun _=>none) (fun _ _=>none) (fun _=>none) (fun _ _=>none) (fun _ _=>none) (fun _ _ _=>none) (fun _ _ _=>none) (fun _ _=>none) (fun _ _=>none) (fun _ _ _=>none) (fun _ _=>none) fun _=>none
noncomputable def a3g(o:O):Option (Option V):=O.casesOn (motive:=fun _=>Option (Option V)) o (fun _=>none) (fun _=>none) (fun _=>none) (fun _=>none) (fun _=>none) (fun _=>none) (fun _ _=>none) some (fun _ _=>none) (fun _ _=>none) (fun _ _ _=>none) (fun _ _ _=>none) (fun _ _=>none) (fun _ _=>none) (fun _ _ _=>none) (fun _ _=>none) fun _=>none
theorem O.list_eq{o:O}{i:List V}(h:V8 o=some i):o=.list i:=by cases o <;>first|exact D0 h|exact congrArg _ (C0 h)
theorem O.ns_eq{o:O}{i:List (Str×V)}(h:oNs o=some i):o=.ns i:=by cases o <;>first|exact D0 h|exact congrArg _ (C0 h)
theorem O.cell_eq{o:O}{i:Option V}(h:a3g o=some i):o=.cell i:=by cases o <;>first|exact D0 h|exact congrArg _ (C0 h)
noncomputable def S.list(x:S)(i:Nat):Option (List V):=obd (x.get i) V8
theorem S.list_eq{x:S}{i:Nat}{l:List V}(h:x.list i=some l):x.get i=some (.list l):=yea (W7 h) fun o h1 h2=>O.list_eq h2▸h1
noncomputable def fits(xs:List V):Bool:=U0 xs.length 1000
theorem M4{n:Nat}(h:n<=3000):n<=sizeLine:=W0 h (by refine rE a0l ?_;decide)
structure F0(k:Nat)(A:Around):Prop where
 handled:A.handled=none
 depth:A.depth+2 * k<=998
 units:A.units+10 * k<=9800
theorem F0.mono{c k:Nat}{A:Around}(r:F0 k A)(h:c<=k):F0 c A:=⟨r.handled,W0 (k8 (Nat.mul_le_mul_left 2 h) _) r.depth,W0 (k8 (Nat.mul_le_mul_left 10 h) _) r.units⟩
theorem F0.less{k:Nat}{A:Around}(r:F0 (k+1) A):F0 k A:=r.mono (H7 k)
noncomputable def dbgS:Str:=⟨#[95,95,100,101,98,117,103,95,95]⟩
noncomputable def cdS:Str:=⟨#[95,95,99,108,97,115,115,100,105,99,116,95,95]⟩
theorem d0g{n t:Str}{s:String}(e:(s:Str)=t)(h:(!seq n t)=true):(n==(s:Str))=false:=by
 refine rE e ?_;exact beq_eq_false_iff_ne.mpr (d2s ((n6 _).mp h))
theorem e4v{n:Str}(h:(!seq n dbgS)=true):(n==("__debug__":Str))=false:=d0g (by decide+kernel) h
theorem e4u{n:Str}(h:(!seq n cdS)=true):(n==("__classdict__":Str))=false:=d0g (by decide+kernel) h
noncomputable def b60(e:AE)(n:Str)(x:S):Res V:=nd (lk e.cells n) fun c=>nd (obd (x.get c) a3g) fun o=>lft o x
noncomputable def A6(n:Str)(e:AE)(x:S):Res V:=ck (!seq n dbgS) <|nd (lk e.scope.names n) fun k=>a00 (motive:=fun _=>Res V) k
 (nd (obd (x.get e.locals) oNs) fun es=>lft (lk es n) x) (b60 e n x) (ck (!seq n cdS) (b60 e n x)) .fail (lft (Pglob n) x)
noncomputable def M7(l:List (Str×V))(n:Str)(v:V):List (Str×V):=E0 (motive:=fun _=>List (Str×V)) [(n,v)] (fun p l ih=>ifb (seq p.1 n) ((n,v)::l) (p::ih)) l
noncomputable def e9(n:Str)(v:V)(e:AE)(x:S):Res Unit:=nd (lk e.scope.names n) fun k=>a00 (motive:=fun _=>Res Unit) k
 (nd (obd (x.get e.locals) oNs) fun es=>.ok () (x.put e.locals (.ns (M7 es n v)))) (nd (lk e.cells n) fun c=>nd (obd (x.get c) a3g) fun _=>.ok () (x.put c (.cell (some v)))) .fail .fail .fail
section
variable{C:Cx}{A:Around}{σ τ:St C}{k:Nat}{e:AE}{env:Env}
theorem Vr.int{v:V}{i:Int}{u:Value}(r:Vr σ v u)(q:J3 v=some i):∃t,u=.int i t:=by rw[V.int_eq q] at r;exact r
theorem Vr.str{v:V}{i:Str}{u:Value}(r:Vr σ v u)(q:vStr v=some i):∃t,u=.str i t:=by rw[V.str_eq q] at r;exact r
theorem Vr.ref{v:V}{i:Nat}{u:Value}(r:Vr σ v u)(q:G2 v=some i):u=.ref (σ.ρ i):=by rw[V.ref_eq q] at r;exact r.1
theorem Vr.tup{v:V}{xs:List V}{u:Value}(r:Vr σ v u)(q:d8 v=some xs):∃b vs k,u=.ref b/\σ.h.get? b=some (F6 vs k)/\Vrs σ xs vs:=by rw[V.tup_eq q] at r;exact J5 r
theorem St.list{i:Nat}{xs:List V}(q:σ.x.list i=some xs):∃vs k,σ.h.get? (σ.ρ i)=some (T5 vs k)/\Vrs σ xs vs:=m7 (σ.at (S.list_eq q)) fun _ h1 vs k h2 h3=>⟨vs,k,h3▸h1,h2⟩
theorem s5{xs:List V}{vs:List Value}(h:fits xs=true)(r:Vrs σ xs vs):vs.length<=1000:=VRl.len r▸d3 h
theorem St.ns{l:Nat}{es:List (Str×V)}(q:obd (σ.x.get l) oNs=some es):σ.x.get l=some (.ns es)/\∃m,σ.h.Ns (σ.ρ l) m/\∀y,VRw σ.h σ.ρ σ.x.n (lk es y) (m y):=by
 revert q;refine obE fun o h1 h2=>?_;obtain rfl:=O.ns_eq h2;refine m7 (σ.at h1) fun ob g1 l' k g2 zz=>?_;obtain ⟨g3,g4⟩:=zz;exact ⟨h1,nsFind l',⟨ob,l',k,g1,g2,g3,fun _=>rfl⟩,g4⟩
theorem St.cell{c:Nat}{v:Option V}(q:obd (σ.x.get c) a3g=some v):σ.x.get c=some (.cell v)/\∃ob u,σ.h.get? (σ.ρ c)=some ob/\ob.data=.cell u/\Vro σ v u:=by
 revert q;refine obE fun o h1 h2=>?_;obtain rfl:=O.cell_eq h2;refine yea (σ.at h1) fun ob g1 zz=>?_;refine yea zz fun u g2 g3=>?_;clear zz;exact ⟨h1,ob,u,g1,g2,g3⟩
theorem b17{ρ:Nat->Addr}{n:Str}{c:Nat}(hc:lk e.cells n=some c):(e.env ρ).cells.lookup n=some (ρ c):=by
 refine rE (show (e.env ρ).cells=e.cells.map fun c=>(c.1,ρ c.2) from rfl) (rF (a0e ..) ?_);have:∀l:List (Str×Nat),lk l n=some c->lk (l.map fun c=>(c.1,ρ c.2)) n=some (ρ c):=by
  intro l;induction l with
  |nil=>intro h;cases h
  |cons p l ih=>
   intro h;change ifb (seq p.1 n) (some p.2) (lk l n)=_ at h
   show ifb (seq p.1 n) (some (ρ p.2)) (lk (l.map fun c=>(c.1,ρ c.2)) n)=_;cases q:seq p.1 n with
   |true=>rw[q] at h;exact congrArg (fun o=>o.map ρ) h
   |false=>rw[q] at h;exact ih h
 exact this _ hc
theorem Er.kind(He:Er σ e env):env.scope.kind=.function:=He.1▸He.2.2.2.2
theorem Er.look(He:Er σ e env){n:Str}{k:A4}(h:lk e.scope.names n=some k):env.kindOf n=some k:=by
 rw[a0e] at h;refine rE He.1 ?_;exact h
theorem a1q{h h':Heap}{a:Addr}{m:Str->Option Value}(k:∀b o,h.get? b=some o->h'.get? b=some o)(hn:h.Ns a m):h'.Ns a m:=G3 hn fun o es ep e r=>⟨o,es,ep,k _ _ e,r⟩
theorem c5a(He:Er σ e env){n:Str}{Q:Value->Shared->Prop}(z:(b60 e n σ.x).All (A0 σ Vr Q)):∃c u,env.cells.lookup n=some c/\(∃o,σ.h.get? c=some o/\o.data=.cell (some u))/\Q u σ.s:=by
 revert z;refine ndE fun c hc z=>?_;revert z;refine ndE fun o ho z=>?_;revert z;refine ndE fun v eq_ z=>?_;subst eq_;refine l7 (St.cell ho) fun _ ob u h1 zy=>?_;refine m5 zy fun h2 b zz h3=>?_;clear zy;subst zz;exact ⟨_,b,He.1▸b17 hc,⟨ob,h1,h2⟩,z.here h3⟩
theorem b8f{env:Env}{n:Str}(hk:env.scope.kind=.function)(hq:env.kindOf n=some .globalImplicit):loadName env n=loadGlobal env n:=by
 obtain ⟨sc,a,b,c,d⟩:=env;unfold loadName;rw[show (sc.kind).isAnnotationScope=false by rw[show sc.kind=.function from hk];rfl,hq];unfold Env.blockKind;rw[show sc.kind=.function from hk];rfl
theorem v8(He:Er σ e env){n:Str}{pos:Pos}:GoR A (eval (.Name n pos) env) σ Vr (A6 n e σ.x):=.ck fun hd=>.nd fun k q Q E z=>a0p (by
 have hq:=He.look q;cases k with
 |«local»=>
  revert z;refine ndE fun es hes z=>?_;revert z;refine ndE fun v hv z=>?_;refine m5 (St.ns hes) fun _ m hn hm=>?_;refine yea (hm n v hv) fun b hb r=>?_;have hk:=He.kind;obtain ⟨rfl,_⟩:=He;exact b4h hk hq hn hb (z.here r)
 |cell=>refine R3 (c5a He z) fun c u h1 h2 z=>?_;exact c3q He.kind hq h1 h2 z
 |free=>obtain ⟨hc,z⟩:=t7 z;refine R3 (c5a He z) fun c u h1 h2 z=>?_;exact wpAny_loadName_free He.kind hq h1 h2 z (e4u hc)
 |globalExplicit=>exact z.elim
 |globalImplicit=>
  revert z;refine ndE fun v hv z=>?_;refine R3 C.Y.glob fun mg mb hg hbn hall=>?_;refine yea (hall n v hv) fun u hu hw=>?_;have z:=z.here (hu _ _ _ σ.D.keep);refine rE (b8f He.kind hq) ?_;obtain ⟨rfl,_⟩:=He;rcases hw with hw| ⟨h0,hw⟩
  ·exact loadGlobal_global (a1q σ.D.keep hg) hw z
  ·exact loadGlobal_builtin (a1q σ.D.keep hg) h0 (a1q σ.D.keep hbn) hw z) (e4v hd)
theorem b8c(n:Str)(v:V)(y:Str):∀l:List (Str×V),lk (M7 l n v) y=ifb (seq n y) (some v) (lk l y)
 | []=>rfl
 |p::l=>by
  show lk (ifb (seq p.1 n) ((n,v)::l) (p::M7 l n v)) y=ifb (seq n y) (some v) (ifb (seq p.1 y) (some p.2) (lk l y));cases q:seq p.1 n with
  |true=>
   refine rE (a0k.mp q) ?_;show ifb (seq n y) (some v) (lk l y)=_;cases seq n y <;>rfl
  |false=>
   show ifb (seq p.1 y) (some p.2) (lk (M7 l n v) y)=_;refine rE (b8c n v y l) ?_;cases r:seq n y with
   |true=>
    rw[a0k.mp r] at q;refine rE q ?_;rfl
   |false=>rfl
theorem a65(He:Er σ e env){n:Str}{v:V}{u:Value}(hu:Vr σ v u):GoR A (storeName env n u) σ Ur (e9 n v e σ.x):=.nd fun k q Q E z=>by
 have hq:=He.look q;have hk:=He.kind;have He':=He;obtain ⟨rfl,_⟩:=He';cases k with
 |«local»=>
  revert z;refine ndE fun es hes z=>?_;refine m5 (St.ns hes) fun h1 m hn hm=>?_;refine wpAny_storeName_local hq hn (fun h' hn' hs=>?_) (by refine rE hk ?_;rfl);refine a0s hn' fun o l ep ho hd hst hfi=>?_;clear hn';refine z.put h1 hs ho (fun ht=>⟨l,ep,hd,hst,fun y b hb=>?_⟩) fun _ _=>trivial;rw[b8c,a22,z9] at hb;refine rE (show nsFind l y=if y=n then some u else m y from hfi y) ?_;by_cases hy:n=y
  ·rw[if_pos hy] at hb;refine rE (if_pos hy.symm) ?_;exact ⟨u,rfl,C0 hb▸hu.tell (.same ht)⟩
  ·rw[if_neg hy] at hb;refine rE (if_neg (p7 hy)) ?_;exact yea (hm y b hb) fun w e r=>⟨w,e,VR.tell (.same ht) r⟩
 |cell=>
  revert z;refine ndE fun c hc z=>?_;revert z;refine ndE fun o ho z=>?_;refine l7 (St.cell ho) fun h1 ob u' h2 zz=>?_;obtain ⟨h3,_⟩:=zz;refine wpAny_storeName_cell hk hq (b17 hc) ⟨ob,h2,h3⟩ fun h' hc' hs=>?_;refine yea hc' fun o ho hd=>?_;clear hc';exact z.put h1 hs ho (fun ht=>⟨some u,hd,u,rfl,hu.tell (.same ht)⟩) fun _ _=>trivial
 |_=>exact z.elim
end
noncomputable def c5k(c:Const):Option V:=Const.casesOn (motive:=fun _=>Option V) c (some .none) (fun b=>some (.bool b)) (fun i=>some (.int i)) (fun _=>none) (fun _ _=>none) (fun s=>some (.str s)) (fun b=>some (.byt b.toArray)) none
noncomputable def newL(xs:List V)(x:S):Res V:=ck x.ok <|ck (fits xs) <| .ok (.ref x.n) (x.new (.list xs))
noncomputable def newT(xs:List V)(x:S):Res V:=ck (fits xs) <| .ok (.tup xs) x
noncomputable def small(i:Int):Bool:=J0 i.natAbs 1000000
noncomputable def repl(k:Nat)(xs:List V):List V:=o4 (motive:=fun _=>List V) [] (fun _ ih=>xs++ih) k
noncomputable def addA(a b:V)(x:S):Res V:=V.casesOn (motive_1:=fun _=>Res V) a .fail (fun _=>.fail) (fun i=>nd (J3 b) fun j=>.ok (.int (i+j)) x) (fun _=>.fail) (fun _=>.fail) (fun _=>.fail) (fun _=>.fail)
 (fun i=>nd (G2 b) fun j=>nd (x.list i) fun xs=>nd (x.list j) fun ys=>ck (fits xs) <|ck (fits ys) <|ck x.ok <| .ok (.ref x.n) (x.new (.list (xs++ys))))
 (fun xs=>nd (d8 b) fun ys=>ck (fits xs) <|ck (fits ys) <| .ok (.tup (xs++ys)) x)
noncomputable def int2(a b:V)(f:Int->Int->Res V):Res V:=nd (J3 a) fun i=>nd (J3 b) fun j=>f i j
noncomputable def mulL(a b:V)(x:S):Res V:=nd (G2 a) fun i=>nd (J3 b) fun k=>nd (x.list i) fun xs=>ck (fits xs) <|ck (decide (0<=k)) <|ck (decide (k<=1000)) <|ck x.ok <| .ok (.ref x.n) (x.new (.list (repl k.toNat xs)))
noncomputable def mulA(a b:V)(x:S):Res V:=K0 (motive:=fun _=>Res V) (mulL a b x) (fun i=>nd (J3 b) fun j=>ck (small j) <| .ok (.int (i * j)) x) (J3 a)
noncomputable def binA(op:Operator)(a b:V)(x:S):Res V:=Operator.casesOn (motive:=fun _=>Res V) op (addA a b x) (int2 a b fun i j=>.ok (.int (i - j)) x) (mulA a b x) .fail .fail (int2 a b fun i j=>ck (!decide (j=0)) <| .ok (.int (i.fmod j)) x) .fail .fail .fail .fail .fail .fail
 (int2 a b fun i j=>ck (small j) <|ck (!decide (j=0)) <| .ok (.int (i.fdiv j)) x)
section
variable{C:Cx}{A:Around}{σ τ:St C}{k:Nat}{e:AE}{env:Env}{xs ys:List V}{vs ws:List Value}
theorem b0p{c:Const}{env:Env}:GoR A (constValue env c) σ Vr (lft (c5k c) σ.x):=.nd fun v q Q E z=>by
 have z:A0 σ Vr Q v σ.x:=z;cases c with
 |none=>cases q;exact q0 (z.here rfl)
 |bool b=>cases q;exact q0 (z.here rfl)
 |int i=>cases q;exact wpAny_mkInt (z.tok ⟨_,rfl⟩)
 |str t=>cases q;exact wpAny_mkText (z.tok ⟨_,rfl⟩)
 |bytes b=>
  cases q;show wpAny _ _ (mkTextBytes b.toArray) _ _ _;exact m0 (wpAny_fresh (q0 (z.tok ⟨_,rfl⟩)))
 |_=>exact D0 q
theorem b88{h:Heap}{ρ:Nat->Addr}{n c:Nat}(r:VRl h ρ n xs vs):OV C h ρ n (.list xs) (T5 vs c):=⟨vs,c,r,rfl⟩
theorem A0.newL{Q:Value->Shared->Prop}{tk c:Nat}(z:A0 σ Vr Q (.ref σ.x.n) (σ.x.new (.list xs)))(hx:σ.x.ok=true)(r:Vrs σ xs vs):Q (.ref σ.h.objs.size) {σ.s with heap:=σ.h.push (T5 vs c),toks:=tk}:=
 z.new hx rfl fun X=>b88 (r.mono fun _ _=>VR.tell X.tell)
theorem e4n(r:Vrs σ xs vs):GoR A (newList vs) σ Vr (newL xs σ.x):=.ck fun hx=>.ck fun hf _ _ z=>b4i (z.newL hx r) (M4 (W0 (s5 hf r) (by decide)))
theorem newT_ok(r:Vrs σ xs vs):GoR A (newTuple vs) σ Vr (newT xs σ.x):=.ck fun hf _ _ z=>wpAny_newTuple (z.tup r) (M4 (W0 (s5 hf r) (by decide)))
theorem c3k(f1:vs.length<=1000)(f2:ws.length<=1000):vs.toArray.size+ws.toArray.size<=sizeLine:=M4 (by refine rE p6 (rE p6 ?_);omega)
theorem c59(vs ws:List Value):vs.toArray++ws.toArray=(vs++ws).toArray:=List.append_toArray ..
theorem d63{i j:Nat}(q1:σ.x.list i=some xs)(q2:σ.x.list j=some ys)(f1:fits xs=true)(f2:fits ys=true)(hx:σ.x.ok=true):GoR A (binaryOp .Add (.ref (σ.ρ i)) (.ref (σ.ρ j))) σ Vr (.ok (.ref σ.x.n) (σ.x.new (.list (xs++ys)))):=fun Q E z=>by
 refine B1 (St.list q1) fun vs n1 e1 r1=>?_;refine B1 (St.list q2) fun ws n2 e2 r2=>?_;refine concat_meets ⟨_,e1,rfl⟩ ⟨_,e2,rfl⟩ noFill_list_add seq_list_add PySem.F.slot_list_add PySem.F.entry_list_add (PySem.F.args_list_add_2 _ _) (list_addW (σ.ρ i) (σ.ρ j) vs.toArray ws.toArray n1 n2 none none #[] #[] (c3k (s5 f1 r1) (s5 f2 r2))) ⟨e1,e2,?_⟩;refine rE (c59 ..) ?_;exact A0.newL z hx (r1.append r2)
theorem d64{u v:Value}(ra:Vr σ (.tup xs) u)(rb:Vr σ (.tup ys) v)(f1:fits xs=true)(f2:fits ys=true):GoR A (binaryOp .Add u v) σ Vr (.ok (.tup (xs++ys)) σ.x):=fun Q E z=>by
 refine G4 (J5 ra) fun i vs n1 zy e1 r1=>?_;subst zy;refine G4 (J5 rb) fun j ws n2 zz e2 r2=>?_;subst zz;by_cases hv:vs.toArray.isEmpty=true
 ·have hv0:vs=[]:=by simpa using hv
  subst hv0;cases r1;have z:A0 σ Vr Q (.tup ys) σ.x:=z;exact concat_meets ⟨_,e1,rfl⟩ ⟨_,e2,rfl⟩ noFill_tuple_add seq_tuple_add PySem.F.slot_tuple_add PySem.F.entry_tuple_add (PySem.F.args_tuple_add_2 _ _) (tuple_addW0 i j #[] ws.toArray n1 n2 none none #[] #[] rfl) ⟨e1,e2,z.here rb⟩
 ·by_cases hw:ws.toArray.isEmpty=true
  ·have hw0:ws=[]:=by simpa using hw
   subst hw0;cases r2;rw[List.append_nil] at z;have z:A0 σ Vr Q (.tup xs) σ.x:=z;exact concat_meets ⟨_,e1,rfl⟩ ⟨_,e2,rfl⟩ noFill_tuple_add seq_tuple_add PySem.F.slot_tuple_add PySem.F.entry_tuple_add (PySem.F.args_tuple_add_2 _ _) (tuple_addW1 i j vs.toArray #[] n1 n2 none none #[] #[] hv rfl) ⟨e1,e2,z.here ra⟩
  ·refine concat_meets ⟨_,e1,rfl⟩ ⟨_,e2,rfl⟩ noFill_tuple_add seq_tuple_add PySem.F.slot_tuple_add PySem.F.entry_tuple_add (PySem.F.args_tuple_add_2 _ _) (tuple_addW2 i j vs.toArray ws.toArray n1 n2 none none #[] #[] hv hw (c3k (s5 f1 r1) (s5 f2 r2))) ⟨e1,e2,?_⟩
   refine rE (c59 ..) ?_;exact A0.tup z (r1.append r2)
theorem All2.repl{R:V->Value->Prop}{l:List V}{m:List Value}(h:All2 R l m):∀k,All2 R (Mine.repl k l) (o7 k m).flatten
 |0=>.nil
 |k+1=>by refine rE List.replicate_succ (rE List.flatten_cons ?_);exact h.append (All2.repl h k)
theorem e4g{i:Nat}{j:Int}{t:Tok}(q1:σ.x.list i=some xs)(f1:fits xs=true)(h0:0<=j)(h1:j<=1000)(hx:σ.x.ok=true):GoR A (binaryOp .Mult (.ref (σ.ρ i)) (.int j t)) σ Vr (.ok (.ref σ.x.n) (σ.x.new (.list (repl j.toNat xs)))):=fun Q E z=>by
 refine B1 (St.list q1) fun vs n1 e1 r1=>?_;have hm:vs.toArray.size * j.toNat<=1000 * 1000:=Nat.mul_le_mul (s5 f1 r1) (by omega);refine wpAny_binaryOp_repeat_ref (T:="list") (U:="int") (by decide) ⟨_,e1,rfl⟩ (fun s'=>typeIs_int s' j t) noFill_list_mul F.fills_int_mul F.slot_int_rmul repeat_list F.slot_int_index.lookup
  (a7a F.slot_int_rmul (typeIs_int σ.s j t) F.entry_int_rmul (F.args_int_rmul_2 _ _) (int___rmul___int_list j t (σ.ρ i) vs.toArray n1)
   ⟨e1,rfl,⟨_,e1,rfl⟩,a7a F.slot_list_mul ⟨_,e1,rfl⟩ F.entry_list_mul (F.args_list_mul_2 _ _)
    (AutoListH.list___mul___list_int_3 (σ.ρ i) vs.toArray n1 j t (by simp [Builtin.List.listFitsIndex];omega) (by omega) (by simp [Builtin.List.listTooLong,sizeLine] at hm ⊢;omega))
    ⟨e1,?_⟩⟩)
 refine rE (listMul_foldl_if ..) ?_;exact A0.newL z hx (r1.repl _)
theorem b7k{t:Sem Value}{a b:V}{u v:Value}{f:Int->Int->Res V}(ra:Vr σ a u)(rb:Vr σ b v)(h:∀i j t' u',u=.int i t'->v=.int j u'->GoR A t σ Vr (f i j)):GoR A t σ Vr (int2 a b f):=
 .nd fun i qi=>.nd fun j qj=>ye (ra.int qi) fun _ h1=>ye (rb.int qj) fun _ h2=>h i j _ _ h1 h2
theorem d6s{op:Operator}{a b:V}{u v:Value}(ra:Vr σ a u)(rb:Vr σ b v):GoR A (binaryOp op u v) σ Vr (binA op a b σ.x):=by
 cases op with
 |Add=>
  cases a with
  |int i=>exact .nd fun j qj Q E z=>by obtain ⟨_,rfl⟩:=ra;obtain ⟨_,rfl⟩:=rb.int qj;exact add_int (A0.tok z ⟨_,rfl⟩)
  |ref i=>exact .nd fun j qj=>.nd fun xs q1=>.nd fun ys q2=>.ck fun f1=>.ck fun f2=>.ck fun hx=>by refine rE ra.1 (rE (rb.ref qj) ?_);exact d63 q1 q2 f1 f2 hx
  |tup xs=>exact .nd fun ys qj=>.ck fun f1=>.ck fun f2=>d64 ra (V.tup_eq qj▸rb) f1 f2
  |_=>exact .fail
 |Sub=>exact b7k ra rb fun i j _ _ h1 h2 Q E z=>by subst h1 h2;exact PyProof.Rows.sub_int (A0.tok z ⟨_,rfl⟩)
 |Mult=>
  show GoR A _ σ Vr (K0 (motive:=fun _=>Res V) (mulL a b σ.x) (fun i=>nd (J3 b) fun j=>ck (small j) <| .ok (.int (i * j)) σ.x) (J3 a));cases q:J3 a with
  |some i=>
   refine .nd fun j qj=>.ck fun hs Q E z=>?_;obtain ⟨_,rfl⟩:=ra.int q;obtain ⟨_,rfl⟩:=rb.int qj;exact PyProof.Rows.mul_int (A0.tok z ⟨_,rfl⟩) (have:=(show j.natAbs < 1000000 from d3 hs);IntMulOk.of_right (intBits_le_64 (by omega) (by omega)))
  |none=>exact .nd fun i qi=>.nd fun j qj=>.nd fun xs q1=>.ck fun f1=>.ck fun h0=>.ck fun h1=>.ck fun hx=>by obtain ⟨_,rfl⟩:=rb.int qj;refine rE (ra.ref qi) ?_;exact e4g q1 f1 (of_decide_eq_true h0) (of_decide_eq_true h1) hx
 |Mod=>exact b7k ra rb fun i j _ _ h1 h2=>.ck fun h0 Q E z=>by subst h1 h2;exact mod_int' (of_decide_eq_false ((n6 _).mp h0)) (A0.tok z ⟨_,rfl⟩)
 |FloorDiv=>exact b7k ra rb fun i j _ _ h1 h2=>.ck fun hs=>.ck fun h0 Q E z=>h1▸h2▸floordiv_int (of_decide_eq_false ((n6 _).mp h0)) (A0.tok z ⟨_,rfl⟩) (.inl (PyProof.noPylong_small (i4 (show j.natAbs < 1000000 from d3 hs) (by decide))))
 |_=>exact .fail
end
section
open PySem.W.Z (eqB eqB_iff ltB ltB_iff leB leB_iff)
structure HK where
 ex:Expr->AE->S->Res V
 tr:Expr->AE->S->Res Bool
 sts:List Stmt->AE->S->Res FL
 asg:Expr->AE->V->S->Res Unit
 call:V->List V->S->Res V
 forL:Expr->V->List Stmt->AE->S->Res FL
 whl:Expr->List Stmt->AE->S->Res FL
 cmpL:Expr->Nat->V->V->AE->S->Res Unit
structure HOk(C:Cx)(k:Nat)(h:HK):Prop where
 ex:∀ {A:Around} {σ:St C} {e:AE} {env:Env},F0 k A->Er σ e env->∀ex:Expr,GoR A (eval ex env) σ Vr (h.ex ex e σ.x)
 tr:∀ {A:Around} {σ:St C} {e:AE} {env:Env},F0 k A->Er σ e env->∀ex:Expr,GoR A (isTrue ex env (eval ex env)) σ Br (h.tr ex e σ.x)
 sts:∀ {A:Around} {σ:St C} {e:AE} {env:Env},F0 k A->Er σ e env->∀l:List Stmt,GoR A (execs l env) σ Fr (h.sts l e σ.x)
 asg:∀ {A:Around} {σ:St C} {e:AE} {env:Env},F0 k A->Er σ e env->∀ (ex:Expr) {v:V} {u:Value},Vr σ v u->GoR A (assign ex env u) σ Ur (h.asg ex e v σ.x)
 call:∀ {A:Around} {σ:St C},F0 k A->∀ {f:V} {uf:Value} {vs:List V} {us:List Value},Vr σ f uf->Vrs σ vs us->GoR A (p5 uf us) σ Vr (h.call f vs σ.x)
 forL:∀ {A:Around} {σ:St C} {e:AE} {env:Env},F0 k A->Er σ e env->∀ (t:Expr) {it:V} {uit:Value} (b:List Stmt),Vr σ it uit->GoC A (.forLoop t uit b [] env) σ Fr (h.forL t it b e σ.x)
 whl:∀ {A:Around} {σ:St C} {e:AE} {env:Env},F0 k A->Er σ e env->∀ (t:Expr) (b:List Stmt),GoC A (.whileLoop t b [] env) σ Fr (h.whl t b e σ.x)
 cmpL:∀ {A:Around} {σ:St C} {e:AE} {env:Env},F0 k A->Er σ e env->∀ (ex:Expr) (d:Nat) {it acc:V} {uit uacc:Value},Vr σ it uit->Vr σ acc uacc->GoC A (.compLoop ex d uit uacc env) σ Nr (h.cmpL ex d it acc e σ.x)
noncomputable def binX(h:HK)(l:Expr)(op:Operator)(r:Expr)(e:AE)(x:S):Res V:=(h.ex l e x).bd fun a x=>(h.ex r e x).bd fun b x=>binA op a b x
noncomputable def ifX(h:HK)(t b c:Expr)(e:AE)(x:S):Res V:=(h.tr t e x).bd fun v x=>ifb v (h.ex b e x) (h.ex c e x)
noncomputable def j7(e:Expr):Bool:=o0 e.ctorIdx 22
noncomputable def items(h:HK)(l:List Expr):AE->S->Res (List V):=E0 (motive:=fun _=>AE->S->Res (List V)) (fun _ x=>.ok [] x)
 (fun a _ ih e x=>ck (!j7 a) <| (h.ex a e x).bd fun v x=>(ih e x).bd fun vs x=>.ok (v::vs) x) l
noncomputable def tupX(h:HK)(l:List Expr)(e:AE)(x:S):Res V:=(items h l e x).bd newT
noncomputable def c9i(h:HK)(l:List Expr)(e:AE)(x:S):Res V:=(items h l e x).bd newL
noncomputable def w5{α:Type}(l:List α):Bool:=Y2 (motive:=fun _=>Bool) l true fun _ _=>false
noncomputable def truA(v:V)(x:S):Option Bool:=V.casesOn (motive_1:=fun _=>Option Bool) v (some false) some (fun i=>some (!eqB i 0)) (fun _=>none) (fun _=>none) (fun _=>none) (fun _=>none) (fun i=>obd (x.list i) fun xs=>ifb (fits xs) (some (!w5 xs)) none) (fun _=>none)
theorem c0l{n:Nat}(h:n<=1000):(n:Int) < 2 ^ 63:=by omega
theorem a7q(a b:Int):eqB a b=decide (a=b):=by
 cases h:eqB a b with
 |true=>exact (decide_eq_true ((eqB_iff a b).mp h)).symm
 |false=>exact (decide_eq_false fun e=>by rw[(eqB_iff a b).mpr e] at h;cases h).symm
theorem b8h(a b:Int):ltB a b=decide (a < b):=by
 cases h:ltB a b with
 |true=>exact (decide_eq_true ((ltB_iff a b).mp h)).symm
 |false=>exact (decide_eq_false fun e=>by rw[(ltB_iff a b).mpr e] at h;cases h).symm
theorem c9c(a b:Int):leB a b=decide (a<=b):=by
 cases h:leB a b with
 |true=>exact (decide_eq_true ((leB_iff a b).mp h)).symm
 |false=>exact (decide_eq_false fun e=>by rw[(leB_iff a b).mpr e] at h;cases h).symm
theorem e1w{α:Type}{P:α->Prop}{b:Bool}{p q:α}(h1:b=true->P p)(h2:b=false->P q):P (ifb b p q):=by
 cases b with
 |true=>exact h1 rfl
 |false=>exact h2 rfl
theorem a1i{α:Type}{b:Bool}{p:Option α}{a:α}(h:ifb b p none=some a):b=true/\p=some a:=by
 cases b with
 |true=>exact ⟨rfl,h⟩
 |false=>exact D0 h
theorem ifE{α:Type}{b:Bool}{p:Option α}{a:α}{G:Prop}(k:b=true->p=some a->G)(h:ifb b p none=some a):G:=k (a1i h).1 (a1i h).2
section
variable{C:Cx}{A:Around}{σ τ:St C}{k:Nat}{h:HK}{e:AE}{env:Env}{xs ys:List V}{vs ws:List Value}(H:HOk C k h)(rm:F0 k A)(He:Er σ e env)
include H rm He
theorem d6r{l:Expr}{op:Operator}{r:Expr}{pos:Pos}:GoR A (eval (.BinOp l op r pos) env) σ Vr (binX h l op r e σ.x):=fun Q E z=>
 b4b ((H.ex rm He l).use z fun _ _ τ X r1 z=>(H.ex rm (X.env He) r).use z fun _ _ υ Y r2 z=>(d6s (Y.v r1) r2).fin (X.trans Y) z)
theorem e1v{t b c:Expr}{pos:Pos}:GoR A (eval (.IfExp t b c pos) env) σ Vr (ifX h t b c e σ.x):=fun Q E z=>
 wpAny_IfExp ((H.tr rm He t).use z fun v _ τ X r1 z=>by
  cases r1;cases v with
  |true=>exact (H.ex rm (X.env He) b).fin X z
  |false=>exact (H.ex rm (X.env He) c).fin X z)
omit H rm He in
theorem c31{e:Expr}(h:(!j7 e)=true)(rest:List Expr)(env:Env):S6 (e::rest) env=(false,eval e env)::S6 rest env:=by
 cases e <;>first|rfl|exact T1 h
omit He in
theorem a54{pos:Pos}:∀ (l:List Expr) {σ:St C},Er σ e env->GoR A (spliced (backTo pos (S6 l env))) σ Vrs (items h l e σ.x)
 | [],σ,He=>fun Q E z=>b4g (A0.here z .nil)
 |a::l,σ,He=>.ck fun hs Q E z=>a9f ((H.ex rm He a).use z fun _ _ τ X r1 z=>(a54 l (X.env He)).use (F:=fun vs x=>.ok (_::vs) x) z fun _ _ υ Y r2 z=>z _ υ rfl (X.trans Y) (.cons (Y.v r1) r2)) (c31 hs _ _)
theorem f1x{l:List Expr}{c:Nat}{pos:Pos}:GoR A (eval (.Tuple l c pos) env) σ Vr (tupX h l e σ.x):=fun Q E z=>
 wpAny_Tuple_spliced ((a54 H rm l He).use z fun _ _ τ X r1 z=>ya (t7 z) fun hf z=>⟨M4 (W0 (s5 hf r1) (by decide)),A0.tup (A0.up X z) r1⟩)
theorem e3i{l:List Expr}{pos:Pos}:GoR A (eval (.List l pos) env) σ Vr (c9i h l e σ.x):=fun Q E z=>
 wpAny_List_spliced ((a54 H rm l He).use z fun _ _ τ X r1 z=>ya (t7 z) fun hx z=>ya (t7 z) fun hf z=>⟨M4 (W0 (s5 hf r1) (by decide)),A0.newL (A0.up X z) hx r1⟩)
omit H rm He in
theorem c3g{v:V}{u:Value}{b:Bool}(r:Vr σ v u)(q:truA v σ.x=some b){Q:Bool->Shared->Prop}{E:Value->Shared->Prop}(z:∀tk,Q b (σ.tok tk).s):wpAny C.m A (truthy u) Q E σ.s:=by
 cases v with
 |none=>cases q;cases r;exact fun _ _ _=>z σ.s.toks
 |bool b=>cases q;cases r;exact fun _ _ _=>z σ.s.toks
 |int i=>cases q;obtain ⟨t,rfl⟩:=r;exact PyProof.Rows.truthy_int (by rw[bne];refine rE (show (i==0)=eqB i 0 from (a7q i 0).symm) ?_;exact z σ.s.toks)
 |ref i=>
  revert q;refine obE fun xs q1 q=>?_;revert q;refine ifE fun f q=>?_;cases q;refine B1 (St.list q1) fun vs c h1 r1=>?_;refine rE r.1 ?_;refine wpAny_truthy_list (items:=vs.toArray) ⟨_,h1,rfl,_,rfl⟩ (c0l (s5 f r1)) ?_;refine rE (show (!vs.toArray.isEmpty)=!w5 xs by cases r1 <;>rfl) ?_;exact z _
 |_=>exact D0 q
end
end
section
open PySem.W.Z (eqB)
noncomputable def y6{κ:Type}(eq:κ->κ->Bool)(l:List (κ×Option V))(k:κ):Option V:=E0 (motive:=fun _=>Option V) none (fun p _ ih=>ifb (eq p.1 k) (K0 (motive:=fun _=>Option V) ih some p.2) ih) l
noncomputable def a5q{κ:Type}(eq:κ->κ->Bool)(k:κ)(v:V)(l:List (κ×Option V)):List (κ×Option V):=E0 (motive:=fun _=>List (κ×Option V)) [] (fun p _ ih=>ifb (eq p.1 k) (K0 (motive:=fun _=>List (κ×Option V)) (p::ih) (fun _=>(p.1,some v)::ih) p.2) (p::ih)) l
noncomputable def a4w{κ:Type}(eq:κ->κ->Bool)(k:κ)(l:List (κ×Option V)):List (κ×Option V):=E0 (motive:=fun _=>List (κ×Option V)) [] (fun p _ ih=>ifb (eq p.1 k) (K0 (motive:=fun _=>List (κ×Option V)) ih (fun _=>p::ih) p.2) (p::ih)) l
noncomputable def a23{κ:Type}(eq:κ->κ->Bool)(es:List (κ×Option V))(k:κ)(v:V):List (κ×Option V):=K0 (motive:=fun _=>List (κ×Option V)) (a4w eq k es++[(k,some v)]) (fun _=>a5q eq k v es) (y6 eq es k)
noncomputable def c0i{α:Type}(l:List α):Nat->α->List α:=E0 (motive:=fun _=>Nat->α->List α) (fun _ _=>[]) (fun a l ih i b=>o4 (motive:=fun _=>List α) (b::l) (fun j _=>a::ih j b) i) l
noncomputable def b2t:List (Option V):=[none,none,none,none,none,none]
noncomputable def B9(l:List V):Option (List Int):=E0 (motive:=fun _=>Option (List Int)) (some []) (fun v _ ih=>obd (J3 v) fun i=>obd ih fun l=>some (i::l)) l
noncomputable def asI(o:O):Option (List (Int×Option V)):=O.casesOn (motive:=fun _=>Option (List (Int×Option V))) o (fun _=>none) some (fun _=>none) (fun _=>none) (fun _=>none) (fun _=>none) (fun _ _=>none) (fun _=>none) (fun _ _=>none) (fun _ _=>none) (fun _ _ _=>none) (fun _ _ _=>none) (fun _ _=>none) (fun _ _=>none) (fun _ _ _=>none) (fun _ _=>none) fun _=>none
noncomputable def asS(o:O):Option (List (Str×Option V)):=O.casesOn (motive:=fun _=>Option (List (Str×Option V))) o (fun _=>none) (fun es=>ifb (w5 es) (some []) none) some (fun _=>none) (fun _=>none) (fun _=>none) (fun _ _=>none) (fun _=>none) (fun _ _=>none) (fun _ _=>none) (fun _ _ _=>none) (fun _ _ _=>none) (fun _ _=>none) (fun _ _=>none) (fun _ _ _=>none) (fun _ _=>none) fun _=>none
noncomputable def asX(o:O):Option (List (Option V)):=O.casesOn (motive:=fun _=>Option (List (Option V))) o (fun _=>none) (fun es=>ifb (w5 es) (some b2t) none) (fun _=>none) some (fun _=>none) (fun _=>none) (fun _ _=>none) (fun _=>none) (fun _ _=>none) (fun _ _=>none) (fun _ _ _=>none) (fun _ _ _=>none) (fun _ _=>none) (fun _ _=>none) (fun _ _ _=>none) (fun _ _=>none) fun _=>none
noncomputable def a78{α:Type}(k:V)(i:Int->Option α)(s:Str->Option α)(t:List Int->Option α):Option α:=V.casesOn (motive_1:=fun _=>Option α) k none (fun _=>none) i s (fun _=>none) (fun _=>none) (fun _=>none) (fun _=>none) (fun ks=>obd (B9 ks) t)
noncomputable def a59(o:O)(k:V):Option (Option V):=a78 k (fun i=>obd (asI o) fun es=>some (y6 eqB es i)) (fun s=>obd (asS o) fun es=>some (y6 seq es s)) (fun js=>obd (asX o) fun l=>some (slot6 l js))
noncomputable def few{κ α:Type}(es:List (κ×Option V))(a:α):Option α:=ifb (U0 es.length 1000) (some a) none
noncomputable def put6(l:List (Option V))(js:List Int)(v:V):Option O:=obd (idx6 js) fun i=>ifb (J0 i l.length) (some (.six (c0i l i (some v)))) none
noncomputable def a3s(o:O)(k v:V):Option O:=a78 k (fun i=>obd (asI o) fun es=>few es (.dictI (a23 eqB es i v))) (fun s=>obd (asS o) fun es=>few es (.dictS (a23 seq es s v))) (fun js=>obd (asX o) fun l=>put6 l js v)
theorem B4{a b:Nat}(h:J0 a b=true):a < b:=d3 h
theorem U7{α:Type}{l:List α}(h:w5 l=true):l=[]:=by cases l with|nil=>rfl|cons _ _=>exact T1 h
theorem c0j{α:Type}:∀ (l:List α) (i:Nat) (b:α),c0i l i b=l.set i b
 | [],_,_=>rfl
 |_::_,0,_=>rfl
 |a::l,i+1,b=>congrArg (a:: ·) (c0j l i b)
theorem b9h{κ:Type}(b:List (κ×Option V)):∀a:List (κ×Option V),C2 (a++b)=C2 a++C2 b
 | []=>rfl
 | (_,none)::l=>b9h b l
 |p@(_,some _)::l=>congrArg (_:: ·) (b9h b l)
theorem a5o{κ:Type}:∀es:List (κ×Option V),(C2 es).length<=es.length
 | []=>i3 _
 | (_,none)::l=>Nat.le_succ_of_le (a5o l)
 | (_,some _)::l=>a13 (a5o l)
section
variable{κ:Type}[DecidableEq κ]{eq:κ->κ->Bool}(heq:∀a b,eq a b=decide (a=b))
noncomputable def get1(l:List (κ×V))(k:κ):Option V:=(l.find? fun e=>decide (e.1=k)).map (·.2)
omit [DecidableEq κ] in
theorem b9i(k:κ):∀es:List (κ×Option V),C2 (a4w eq k es)=C2 es
 | []=>rfl
 | (a,none)::l=>by
  show C2 (ifb (eq a k) (a4w eq k l) ((a,none)::a4w eq k l))=C2 l;refine rF (b9i k l) ?_;cases eq a k <;>rfl
 | (a,some v)::l=>by
  show C2 (ifb (eq a k) ((a,some v)::a4w eq k l) ((a,some v)::a4w eq k l))=(a,v)::C2 l;refine rF (b9i k l) ?_;cases eq a k <;>rfl
omit [DecidableEq κ] in
theorem e0u(a:κ)(o:Option V)(l:List (κ×Option V))(k:κ):y6 eq ((a,o)::l) k=ifb (eq a k) (K0 (motive:=fun _=>Option V) (y6 eq l k) some o) (y6 eq l k):=rfl
include heq
theorem a7v(k:κ):∀es:List (κ×Option V),y6 eq es k=get1 (C2 es) k
 | []=>rfl
 | (a,none)::l=>by
  show ifb (eq a k) (y6 eq l k) (y6 eq l k)=get1 (C2 l) k;refine rF (a7v k l) ?_;cases eq a k <;>rfl
 | (a,some v)::l=>by
  refine rE (e0u ..) (rE (heq ..) (rE (a7v k l) (rE (z9 ..) ?_)));show _=(List.find? (fun e=>decide (e.1=k)) ((a,v)::C2 l)).map (·.2);refine rE (a9p) ?_;by_cases q:a=k
  ·refine rE (if_pos q) (rE (decide_eq_true q) ?_);rfl
  ·refine rE (if_neg q) (rE (decide_eq_false q) ?_);rfl
theorem b9j(k:κ)(v:V):∀es:List (κ×Option V),C2 (a5q eq k v es)=(C2 es).map fun e=>if e.1=k then (e.1,v) else e
 | []=>rfl
 | (a,none)::l=>by
  show C2 (ifb (eq a k) ((a,none)::a5q eq k v l) ((a,none)::a5q eq k v l))=(C2 l).map _;refine rF (b9j k v l) ?_;cases eq a k <;>rfl
 | (a,some u)::l=>by
  show C2 (ifb (eq a k) ((a,some v)::a5q eq k v l) ((a,some u)::a5q eq k v l))=(if a=k then (a,v) else (a,u))::(C2 l).map _;refine rF (b9j k v l) (rE (heq ..) (rE (z9 ..) ?_));by_cases q:a=k
  ·refine rE (if_pos q) (rE (if_pos q) ?_);rfl
  ·refine rE (if_neg q) (rE (if_neg q) ?_);rfl
omit heq in
theorem c07{h:Heap}{ρ:Nat->Addr}{n:Nat}{l:List (κ×V)}{kvs:List (κ×Value)}(r:All2 (F5 h ρ n) l kvs)(k:κ):VRo h ρ n (get1 l k) (a0o kvs k):=by
 induction r with
 |nil=>exact rfl
 | @cons e kv l m h1 h2 ih=>
  unfold get1 a0o at ih ⊢;refine rE (a9p) (rE (a9p) (rE h1.1 ?_));by_cases q:e.1=k
  ·refine rE (decide_eq_true q) ?_;exact ⟨_,rfl,h1.2⟩
  ·refine rE (decide_eq_false q) ?_;exact ih
theorem d1o{h:Heap}{ρ:Nat->Addr}{n:Nat}{es:List (κ×Option V)}{kvs:List (κ×Value)}(r:All2 (F5 h ρ n) (C2 es) kvs)(k:κ){v:V}{u:Value}(ru:VR h ρ n v u):
  All2 (F5 h ρ n) (C2 (a23 eq es k v)) (stored kvs k u):=by
 have hf:=c07 r k;rw[<-a7v heq] at hf;have hany:(kvs.any fun kv=>decide (kv.1=k))=(a0o kvs k).isSome:=by
  unfold a0o;refine rE Option.isSome_map ?_;rw[Bool.eq_iff_iff,List.find?_isSome,List.any_eq_true]
 unfold a23 stored;refine rE hany (rE hf.isSome ?_);cases y6 eq es k with
 |none=>
  refine rE Option.isSome_none (rE (if_neg Z2) (rE (b9h ..) (rE (b9i ..) ?_)));exact r.append (.one ⟨rfl,ru⟩)
 |some w=>
  refine rE Option.isSome_some (rE (if_pos rfl) ?_);rw[b9j heq];clear hany hf;generalize C2 es=pe at r ⊢;induction r with
  |nil=>exact .nil
  | @cons e kv l m h1 h2 ih=>
   refine .cons ?_ ih;dsimp only;refine rE h1.1 ?_;by_cases q:e.1=k
   ·refine rE (if_pos q) (rE (if_pos q) ?_);exact ⟨rfl,ru⟩
   ·refine rE (if_neg q) (rE (if_neg q) ?_);exact h1
end
theorem d2r(a b:Str):seq a b=decide (a=b):=a22 a b
theorem a7z{js:List Int}{i:Nat}(h:idx6 js=some i):js=[M2 (i / 3),M2 (i % 3)]/\i < 6:=by
 rcases js with _| ⟨a,_| ⟨b,_| ⟨c,l⟩⟩⟩
 ·exact D0 h
 ·exact D0 h
 ·cases a with
  |negSucc a=>exact D0 h
  |ofNat a=>
   cases b with
   |negSucc b=>exact D0 h
   |ofNat b=>
    revert h;refine ifE fun h1 h=>?_;revert h;refine ifE fun h2 h=>?_;have h1:=B4 h1;have h2:=B4 h2;obtain rfl:3 * a+b=i:=C0 h;refine rE (show (3 * a+b) / 3=a by omega) (rE (show (3 * a+b) % 3=b by omega) ?_);exact ⟨rfl,by omega⟩
 ·exact D0 h
theorem d37{l:List (Option V)}{js:List Int}{v:V}{o:O}(h:put6 l js v=some o):∃l',o=.six l'/\∀ks,slot6 l' ks=if ks=js then some v else slot6 l ks:=by
 revert h;refine obE fun i h1 h=>?_;revert h;refine ifE fun h2 h=>?_;cases h;refine ⟨_,rfl,fun ks=>?_⟩;unfold slot6;refine rE (c0j ..) ?_;by_cases q:ks=js
 ·refine rE (if_pos q) (rE q (rE h1 ?_))
  show obd (nth (l.set i (some v)) i) id=_;refine rE (Q6 ..) (rE (List.getElem?_set_self (B4 h2)) ?_);rfl
 ·refine rE (if_neg q) ?_
  cases hk:idx6 ks with
  |none=>rfl
  |some j=>
   show obd (nth (l.set i (some v)) j) id=obd (nth l j) id;refine rE (Q6 ..) (rE (Q6 ..) ?_);rw[List.getElem?_set_ne];exact fun e=>q ((a7z hk).1.trans (e▸(a7z h1).1.symm))
theorem a3e{α:Type}[DecidableEq α]:∀ (l m:List α),l.Nodup->(∀a∈l,a∈m)->l.length<=m.length
 | [],m,_,_=>D5 _
 |a::l,m,nd,hs=>by
  rw[a4b] at nd;have ha:=hs a (B3 ..);have ih:=a3e l (m.erase a) nd.2 fun b hb=>(List.mem_erase_of_ne (show b≠a from fun e=>nd.1 (e▸hb))).mpr (hs b (C3 _ hb));rw[List.length_erase_of_mem ha] at ih;exact W0 (a13 ih) (a4d (Nat.succ_pred_eq_of_pos (List.length_pos_of_mem ha)))
theorem c2y(ks:List Int):slot6 b2t ks=none:=by
 unfold slot6;cases h:idx6 ks with
 |none=>rfl
 |some i=>rcases i with _|_|_|_|_|_|i <;>rfl
end
section
open PySem.W.Z (eqB)
section
variable{C:Cx}{A:Around}{σ τ:St C}{k:Nat}
inductive Dk(σ:St C)(i:Nat)(uk:Value)(r:Option V)(put:V->Option O):Prop
 |flat {κ:Type} [DecidableEq κ] (knd:a4j C.prog C.w κ) (kk:κ) (kvs:List (κ×Value)):knd.is kk uk=true->(keyPart uk).isSome=true->σ.h.DictOf knd (σ.ρ i) kvs->Vro σ r (a0o kvs kk)->
   (∀v o u,put v=some o->Vr σ v u->kvs.length<=1000/\∀h',Tups σ.h h'->h'.DictOf knd (σ.ρ i) (stored kvs kk u)->∃ob,h'.get? (σ.ρ i)=some ob/\OV C h' σ.ρ σ.x.n o ob)->Dk σ i uk r put
 |pair (b:Addr) (js:List Int) (xs:List (List Int×Addr×Value)):uk=.ref b->TK C σ.h js b->σ.h.DictOfH (T4 (U2 C.prog C.w)) (σ.ρ i) xs->Vro σ r ((atKey xs js).map (·.2))->
   (∀v o u,put v=some o->Vr σ v u->xs.length<=1000/\∀h',Tups σ.h h'->h'.DictOfH (T4 (U2 C.prog C.w)) (σ.ρ i) (storedH xs js b u)->∃ob,h'.get? (σ.ρ i)=some ob/\OV C h' σ.ρ σ.x.n o ob)->Dk σ i uk r put
theorem b18{o:Obj}{l:Array G7}{n:Nat}(h:o.ExactDict)(hd:o.data=.dict l n):o=M6 l n:=by
 obtain ⟨c,d,dt,sl⟩:=o;refine yaa h fun h1 h2 h3=>?_;clear h;dsimp only at h1 h2 h3 hd;subst h1 h2 h3 hd;rfl
theorem c8f{h:Heap}{ρ:Nat->Addr}{n:Nat}:∀ {xs:List V} {l:List Int} {vs:List Value},B9 xs=some l->VRl h ρ n xs vs->ItemsAre (U2 C.prog C.w) l vs
 | [],l,vs,e,r=>by cases e;cases r;exact .nil
 |a::xs,l,vs,e,r=>by
  revert e;refine obE fun i e1 e=>?_;revert e;refine obE fun l' e2 e=>?_;cases e;cases r with
  |cons r1 r2=>
   rw[V.int_eq e1] at r1;obtain ⟨t,rfl⟩:=r1;exact .cons (by simp [U2,Value.isInt]) (c8f e2 r2)
theorem d4i{xs:List V}{l:List Int}{u:Value}(e:B9 xs=some l)(r:Vr σ (.tup xs) u):∃b,u=.ref b/\TK C σ.h l b:=
 G4 (J5 r) fun b vs c h0 h1 h2=>⟨b,h0,vs,c,h1,c8f e h2⟩
theorem TK.is{h:Heap}{ks:List Int}{b:Addr}(t:TK C h ks b):IsTupleKey (U2 C.prog C.w) h ks b:=B1 t fun vs k e r=>⟨_,vs.toArray,k,e,rfl,rfl,r⟩
theorem TK.up{h h':Heap}{ks:List Int}{b:Addr}(t:TK C h ks b)(ht:Tups h h'):TK C h' ks b:=B1 t fun vs k e r=>⟨vs,k,ht _ _ _ e,r⟩
theorem a8p{κ:Type}[DecidableEq κ]{kd:a4j C.prog C.w κ}{h:Heap}{a:Addr}{kvs:List (κ×Value)}{ρ:Nat->Addr}{n:Nat}{es:List (κ×Option V)}(hd:h.DictOf kd a kvs)(r:All2 (F5 h ρ n) (C2 es) kvs):∃ob,h.get? a=some ob/\ovDict C h ρ n kd es ob:=
 hd.elim fun o h=>h.elim fun l h=>h.elim fun ep h=>⟨o,h.1,l,kvs,ep,b18 h.2.1 h.2.2.1,h.2.2.2.1,h.2.2.2.2.1,h.2.2.2.2.2,r⟩
theorem St.asI{i:Nat}{o:O}{es:List (Int×Option V)}(q:σ.x.get i=some o)(h:asI o=some es):∃kvs,σ.h.DictOf (U2 C.prog C.w) (σ.ρ i) kvs/\All2 (F5 σ.h σ.ρ σ.x.n) (C2 es) kvs:=by
 cases o with
 |dictI es'=>
  cases h;refine a6g (σ.at q) fun ob e1 l kvs n1 zz h2 h3 h4 h5=>?_;subst zz;exact ⟨kvs,⟨_,l,n1,e1,⟨rfl,rfl,rfl⟩,rfl,h2,h3,h4⟩,h5⟩
 |_=>exact D0 h
theorem St.nilD{i:Nat}(q:σ.x.get i=some (.dictI [])):∃n1,σ.h.get? (σ.ρ i)=some (M6 #[] n1):=by
 refine a6g (σ.at q) fun ob e1 l kvs n1 zz h2 h3 h4 h5=>?_;subst zz;cases h5;have:l=#[]:=Array.eq_empty_of_size_eq_zero ((g8).symm.trans h3.length);exact ⟨n1,this▸e1⟩
theorem St.asS{i:Nat}{o:O}{es:List (Str×Option V)}(q:σ.x.get i=some o)(h:asS o=some es):∃kvs,σ.h.DictOf (r9 C.prog C.w) (σ.ρ i) kvs/\All2 (F5 σ.h σ.ρ σ.x.n) (C2 es) kvs:=by
 cases o with
 |dictI es'=>
  revert h;refine ifE fun hn h=>?_;cases h;obtain rfl:=U7 hn;obtain ⟨n1,e1⟩:=St.nilD q;exact ⟨[],⟨_,#[],n1,e1,⟨rfl,rfl,rfl⟩,rfl,fun e he=>absurd he (a6j e),.nil,a2l⟩,.nil⟩
 |dictS es'=>
  cases h;refine a6g (σ.at q) fun ob e1 l kvs n1 zz h2 h3 h4 h5=>?_;subst zz;exact ⟨kvs,⟨_,l,n1,e1,⟨rfl,rfl,rfl⟩,rfl,h2,h3,h4⟩,h5⟩
 |_=>exact D0 h
theorem St.asX{i:Nat}{o:O}{l:List (Option V)}(q:σ.x.get i=some o)(h:asX o=some l):∃xs,σ.h.DictOfH (T4 (U2 C.prog C.w)) (σ.ρ i) xs/\(xs.map (·.1)).Nodup/\(∀y∈xs,TK C σ.h y.1 y.2.1)/\∀ks,Vro σ (slot6 l ks) ((atKey xs ks).map (·.2)):=by
 cases o with
 |dictI es'=>
  revert h;refine ifE fun hn h=>?_;cases h;obtain rfl:=U7 hn;obtain ⟨n1,e1⟩:=St.nilD q;exact ⟨[],⟨_,#[],n1,e1,⟨rfl,rfl,rfl⟩,rfl,rfl,(fun y hy=>nomatch hy),a2l⟩,a2l,(fun y hy=>nomatch hy),fun ks=>c2y ks▸rfl⟩
 |six es'=>
  cases h;refine a6g (σ.at q) fun ob e1 l xs n1 zz h2 h3 h4 h5=>?_;subst zz;exact ⟨xs,⟨_,l,n1,e1,⟨rfl,rfl,rfl⟩,rfl,h2,fun y hy=>(h4 y hy).is,h3⟩,h3,h4,h5⟩
 |_=>exact D0 h
theorem d71{α:Type}{k:V}{fi:Int->Option α}{fs:Str->Option α}{ft:List Int->Option α}{a:α}{P:Prop}(h:a78 k fi fs ft=some a)(h1:∀i,k=.int i->fi i=some a->P)(h2:∀s,k=.str s->fs s=some a->P)(h3:∀ks js,k=.tup ks->B9 ks=some js->ft js=some a->P):P:=by
 cases k with
 |int i=>exact h1 i rfl h
 |str s=>exact h2 s rfl h
 |tup ks=>refine yea (W7 h) fun js q h=>?_;exact h3 ks js rfl q h
 |_=>exact D0 h
theorem e0t{κ α:Type}{es:List (κ×Option V)}{kvs:List (κ×Value)}{h:Heap}{ρ:Nat->Addr}{n:Nat}{a b:α}(q:few es a=some b)(r:All2 (F5 h ρ n) (C2 es) kvs):a=b/\kvs.length<=1000:=
 ya (a1i q) fun h1 h2=>⟨C0 h2,r.length▸W0 (a5o es) (d3 h1)⟩
theorem e1q{t:Tok}{kk:Int}:(U2 C.prog C.w).is kk (.int kk t)=true:=intKind_is C.prog C.w kk t
theorem b7e{t:Tok}{kk:Str}:(r9 C.prog C.w).is kk (.str kk t)=true:=strKind_is C.prog C.w kk t
theorem a77{K:Type}[DecidableEq K]{xs:List (K×Addr×Value)}(hn:(xs.map (·.1)).Nodup){y:K×Addr×Value}(hy:y∈xs):atKey xs y.1=some y.2:=by
 obtain ⟨j,hj,rfl⟩:=List.mem_iff_getElem.mp hy;exact atKey_of_get (p:=xs[j].2) hn (by exact rE (R4 hj) rfl)
theorem f03{xs:List (List Int×Addr×Value)}{l:List (Option V)}(hn:(xs.map (·.1)).Nodup)(hr:∀ks,Vro σ (slot6 l ks) ((atKey xs ks).map (·.2))):xs.length<=1000:=by
 have:=a3e (xs.map (·.1)) ((Z9 6).map fun i=>[M2 (i / 3),M2 (i % 3)]) hn fun ks hk=>by
  refine yea (d6.mp hk) fun y hy zz=>?_;subst zz;have h1:=(hr y.1).isSome;rw[a77 hn hy] at h1;cases hi:idx6 y.1 with
  |none=>unfold slot6 at h1;rw[hi] at h1;exact T1 h1
  |some i=>exact d6.mpr ⟨i,a9s.mpr (a7z hi).2,(a7z hi).1.symm⟩
 rw[K4,K4,List.length_range] at this;exact W0 this (by decide)
theorem d6j{xs:List (List Int×Addr×Value)}{l ks:List Int}{a:Addr}{u:Value}:(atKey (storedH xs l a u) ks).map (·.2)=if ks=l then some u else (atKey xs ks).map (·.2):=by
 unfold storedH;by_cases hs:(atKey xs l).isSome=true
 ·refine rE (if_pos hs) ?_
  unfold atKey at hs ⊢;rw[Option.isSome_map,List.find?_isSome] at hs;induction xs with
  |nil=>refine yea hs fun y hy _=>?_;clear hs;cases hy
  |cons y ys ih=>
   refine rE I8 (rE (a9p) (rE (a9p) ?_));have hp:(putAt l u y).1=y.1:=by unfold putAt;split <;>rfl
   refine rE hp ?_;by_cases q:y.1=ks
   ·refine rE (decide_eq_true q) ?_
    dsimp only[b59];unfold putAt;by_cases q2:y.1=l
    ·exact rE (if_pos q2) (rE (if_pos (q.symm.trans q2)) rfl)
    ·exact rE (if_neg q2) (rE (if_neg (fun e=>q2 (q.trans e))) rfl)
   ·refine rE (decide_eq_false q) ?_
    dsimp only;by_cases q3:∃z,z∈ys/\decide (z.1=l)=true
    ·exact ih q3
    ·have hmap:ys.map (putAt l u)=ys:=by
      rw[a49 (g:=id)];exact rE (List.map_id ..) rfl;intro z hz;unfold putAt;refine rE (if_neg (fun e=>q3 ⟨z,hz,decide_eq_true e⟩)) ?_;rfl
     refine rE hmap ?_;have hyl:y.1=l:=by
      refine yea hs fun z hz e=>?_;clear hs;rcases O0.mp hz with rfl|hz
      ·exact of_decide_eq_true e
      ·exact absurd ⟨z,hz,e⟩ q3
     exact rE (if_neg (fun e=>q (hyl.trans e.symm))) rfl
 ·refine rE (if_neg hs) ?_
  have hn:atKey xs l=none:=by
   cases hq:atKey xs l with
   |none=>rfl
   |some p=>rw[hq] at hs;exact absurd rfl hs
  unfold atKey at hn ⊢;refine rE (List.find?_append) ?_;by_cases q:ks=l
  ·subst q
   refine rE (if_pos rfl) ?_;rw[Option.map_eq_none_iff] at hn;refine rE hn ?_;simp
  ·refine rE (if_neg q) ?_
   cases hx:xs.find? (fun x=>decide (x.1=ks)) with
   |some p=>simp
   |none=>
    have:¬ l=ks:=fun e=>q e.symm;simp [this]
theorem St.pk{i:Nat}{o:O}{es:List (Option V)}(q:σ.x.get i=some o)(h:Mine.asX o=some es){js:List Int}{b:Addr}(hk:TK C σ.h js b):∃xs,σ.h.DictOfH (T4 (U2 C.prog C.w)) (σ.ρ i) xs/\(∀ks,Vro σ (slot6 es ks) ((atKey xs ks).map (·.2)))/\xs.length<=1000/\
  ∀v o u,put6 es js v=some o->Vr σ v u->∀h',Tups σ.h h'->h'.DictOfH (T4 (U2 C.prog C.w)) (σ.ρ i) (storedH xs js b u)->∃ob,h'.get? (σ.ρ i)=some ob/\OV C h' σ.ρ σ.x.n o ob:=by
 refine W4 (St.asX q h) fun xs hd hn ht hr=>?_;refine ⟨xs,hd,hr,f03 hn hr,fun v o u q ru h' htt hd'=>?_⟩;refine a2d hd' fun o' l' ep' ho' hx' hdat hes _ hnd=>?_;clear hd';refine yea (d37 q) fun l2 zz hslot=>?_;subst zz;refine ⟨o',ho',l',storedH xs js b u,ep',b18 hx' hdat,hes,hnd,fun y hy=>?_,fun ks=>?_⟩
 ·rcases mem_storedH hy with ⟨y',hy',e1,e2⟩ | ⟨e1,e2⟩
  ·refine rE e1 (rE e2 ?_);exact (ht y' hy').up htt
  ·refine rE e1 (rE e2 ?_);exact hk.up htt
 ·refine rE (hslot ks) (rE d6j ?_)
  by_cases hks:ks=js
  ·refine rE (if_pos hks) (rE (if_pos hks) ?_);exact ⟨u,rfl,ru.tell (.same htt)⟩
  ·refine rE (if_neg hks) (rE (if_neg hks) ?_);exact (hr ks).map fun _ _=>VR.tell (.same htt)
theorem c7p{κ:Type}[DecidableEq κ]{eq:κ->κ->Bool}(heq:∀a b,eq a b=decide (a=b)){knd:a4j C.prog C.w κ}{mk:List (κ×Option V)->O}(hmk:∀h ρ n es ob,ovDict C h ρ n knd es ob->OV C h ρ n (mk es) ob){i:Nat}{uk:Value}{kk:κ}{es:List (κ×Option V)}(hk:knd.is kk uk=true)(hp:(keyPart uk).isSome=true)
  {kvs:List (κ×Value)} (hd:σ.h.DictOf knd (σ.ρ i) kvs) (hr:All2 (F5 σ.h σ.ρ σ.x.n) (C2 es) kvs):Dk σ i uk (y6 eq es kk) (fun v=>few es (mk (a23 eq es kk v))):=
 .flat knd kk kvs hk hp hd (a7v heq kk es▸c07 hr kk) fun v o u q ru=>ya (e0t q hr) fun e hl=>⟨hl,fun h' ht hd'=>yea (a8p hd' ((d1o heq hr kk ru).mono fun _ _ r=>⟨r.1,r.2.tell (.same ht)⟩)) fun ob h1 h2=>⟨ob,h1,e▸hmk _ _ _ _ _ h2⟩⟩
theorem St.dk{i:Nat}{o:O}(q:σ.x.get i=some o){k:V}{uk:Value}(rk:Vr σ k uk){r:Option V}(hq:a59 o k=some r):Dk σ i uk r (a3s o k):=by
 refine d71 hq (fun i e hz=>?_) (fun s e hz=>?_) fun ks js e h1 hz=>?_ <;>clear hq <;>subst e <;>obtain ⟨es,h2,hz⟩:=W7 hz <;>cases hz
 ·obtain ⟨t,rfl⟩:=rk
  refine yea (St.asI q h2) fun kvs hd hr=>?_;refine rE (show a3s o (.int i)=fun v=>few es (.dictI (a23 eqB es i v)) from funext fun v=>by show obd (Mine.asI o) _=_;rw[h2];rfl) ?_;exact c7p (mk:=.dictI) a7q (fun _ _ _ _ _ e=>e) e1q rfl hd hr
 ·obtain ⟨t,rfl⟩:=rk
  refine yea (St.asS q h2) fun kvs hd hr=>?_;refine rE (show a3s o (.str s)=fun v=>few es (.dictS (a23 seq es s v)) from funext fun v=>by show obd (Mine.asS o) _=_;rw[h2];rfl) ?_;exact c7p (mk:=.dictS) d2r (fun _ _ _ _ _ e=>e) b7e rfl hd hr
 ·refine yea (d4i h1 rk) fun b zz hk=>?_;subst zz
  refine W4 (St.pk q h2 hk) fun xs hd hr hl hp=>?_;refine rE (show a3s o (.tup ks)=fun v=>put6 es js v from funext fun v=>by show obd (B9 ks) _=_;rw[h1];show obd (Mine.asX o) _=_;rw[h2];rfl) ?_;exact .pair b js xs rfl hk hd (hr js) fun v o u q ru=>⟨hl,hp v o u q ru⟩
theorem St.not_sys{i:Nat}{o:O}(hi:σ.x.get i=some o):(σ.ρ i==E6)=false:=by
 obtain ⟨o',h2⟩:=C.Y.big;exact beq_eq_false_iff_ne.mpr (p7 (σ.D.ne_old hi h2))
theorem F0.line(rm:F0 k A):A.units+65 < cLine:=Z3 (Nat.add_le_add_right (W0 (m4 _ _) rm.units) 65) (by decide)
theorem F0.six(rm:F0 k A):(T4 (U2 C.prog C.w)).room A.in1:=Z3 (k8 (show 1<=65 by decide) A.units) rm.line
end
end
section
open PySem.W.Z (eqB eqB_iff ltB ltB_iff leB leB_iff)
noncomputable def s7(f:V->Bool)(l:List V):Bool:=E0 (motive:=fun _=>Bool) true (fun a _ ih=>ifb (f a) ih false) l
noncomputable def allO(f:V->Bool)(l:List (Option V)):Bool:=E0 (motive:=fun _=>Bool) true (fun a _ ih=>K0 (motive:=fun _=>Bool) ih (fun v=>ifb (f v) ih false) a) l
noncomputable def mapV{β:Type}(f:V->Option β)(l:List V):Option (List β):=E0 (motive:=fun _=>Option (List β)) (some []) (fun a _ ih=>obd (f a) fun b=>obd ih fun l=>some (b::l)) l
noncomputable def U5(n:Nat):V->Bool:=o4 (motive:=fun _=>V->Bool) (fun _=>false) (fun _ ih v=>V.casesOn (motive_1:=fun _=>Bool) v true (fun _=>true) (fun _=>true) (fun _=>true) (fun _=>true) (fun _=>false) (fun _=>false) (fun _=>false) (s7 ih)) n
noncomputable def rdV(n:Nat):V->Option PyData:=o4 (motive:=fun _=>V->Option PyData) (fun _=>none) (fun _ ih v=>V.casesOn (motive_1:=fun _=>Option PyData) v (some .none) (fun b=>some (.bool b)) (fun i=>some (.int i)) (fun s=>some (.str s)) (fun _=>none) (fun _=>none) (fun _=>none) (fun _=>none) (fun xs=>obd (mapV ih xs) fun l=>some (.tuple l))) n
noncomputable def fine(d:PyData):Bool:=ifb d.canLay0 (U0 d.depth 64) false
noncomputable def memA(a:V)(xs:List V):Option Bool:=obd (rdV 8 a) fun d=>obd (mapV (rdV 8) xs) fun ds=>ifb (fine d) (ifb (fine (.tuple ds)) (some (ds.any fun y=>PyData.eqv y d)) none) none
noncomputable def hasA(a b:V)(x:S):Option Bool:=V.casesOn (motive_1:=fun _=>Option Bool) b none (fun _=>none) (fun _=>none) (fun _=>none) (fun _=>none) (fun _=>none) (fun _=>none)
 (fun i=>obd (x.get i) fun o=>K0 (motive:=fun _=>Option Bool) (obd (a59 o a) fun r=>some r.isSome) (fun xs=>memA a xs) (V8 o)) (fun xs=>memA a xs)
noncomputable def c0f(xs ys:List V)(x:S):Res Bool:=.same (.vs xs) (.vs ys) (.same (.bo (s7 (U5 40) xs)) (.bo true) (.ok true x))
noncomputable def eqO(o o':O)(x:S):Res Bool:=K0 (motive:=fun _=>Res Bool) (nd (asX o) fun l=>nd (asX o') fun l'=>.same (.os l) (.os l') (.same (.bo (allO (U5 40) l)) (.bo true) (.ok true x)))
 (fun xs=>nd (V8 o') fun ys=>ifb (w5 ys) (ck (fits xs) <| .ok (w5 xs) x) (c0f xs ys x)) (V8 o)
noncomputable def eqC(a b:V)(x:S):Res Bool:=V.casesOn (motive_1:=fun _=>Res Bool) a (nd (J3 b) fun _=>.ok false x) (fun _=>.fail) (fun i=>ifb (a29 b) (.ok false x) (nd (J3 b) fun j=>.ok (eqB i j) x)) (fun s=>nd (vStr b) fun t=>.ok (seq s t) x) (fun _=>.fail) (fun _=>.fail) (fun _=>.fail)
 (fun i=>nd (G2 b) fun j=>nd (x.get i) fun o=>nd (x.get j) fun o'=>eqO o o' x) (fun xs=>nd (d8 b) fun ys=>c0f xs ys x)
noncomputable def a81(a b:V)(f:Int->Int->Bool)(x:S):Res Bool:=nd (J3 a) fun i=>nd (J3 b) fun j=>.ok (f i j) x
noncomputable def notR(r:Res Bool):Res Bool:=r.bd fun c x=>.ok (!c) x
noncomputable def a7e(op:CmpOp)(a b:V)(x:S):Res Bool:=CmpOp.casesOn (motive:=fun _=>Res Bool) op (eqC a b x) (notR (eqC a b x)) (a81 a b ltB x) (a81 a b leB x) (a81 a b (fun i j=>ltB j i) x) (a81 a b (fun i j=>leB j i) x) (ck (a29 b) <| .ok (a29 a) x) (ck (a29 b) <| .ok (!a29 a) x) (lft (hasA a b x) x) (notR (lft (hasA a b x) x))
theorem b0b{f:V->Bool}:∀ {l:List V},s7 f l=true->∀v∈l,f v=true
 | [],_,v,h=>nomatch h
 |a::l,q,v,h=>by
  have q:ifb (f a) (s7 f l) false=true:=q;cases hf:f a with
  |false=>rw[hf] at q;exact T1 q
  |true=>
   rw[hf] at q;rcases O0.mp h with rfl|h
   ·exact hf
   ·exact b0b q v h
theorem b5i{f:V->Bool}:∀ {l:List (Option V)},allO f l=true->∀v,some v∈l->f v=true
 | [],_,v,h=>nomatch h
 |none::l,q,v,h=>b5i (l:=l) q v ((O0.mp h).resolve_left fun e=>nomatch e)
 |some a::l,q,v,h=>by
  have q:ifb (f a) (allO f l) false=true:=q;cases hf:f a with
  |false=>rw[hf] at q;exact T1 q
  |true=>
   rw[hf] at q;rcases O0.mp h with h|h
   ·refine rE (C0 h) ?_;exact hf
   ·exact b5i q v h
section
variable{prog:W6}{w:World}{K:Type}[DecidableEq K]{knd:HeapKind prog w K}{A:Around}{E:Value->Shared->Prop}{s:Shared}
theorem d34{nm:String}{a b:Addr}{xa xb:List (K×Addr×Value)}{Q:Bool->Shared->Prop}(hu:knd.room A)(ha:(a==E6)=false)(hb:(b==E6)=false)
  (da:s.heap.DictOfH knd a xa) (db:s.heap.DictOfH knd b xb) (hl:xa.length=xb.length) (hits:∀x∈xa,∃p,atKey xb x.1=some p/\m8 A s x.2.2 p.2 true) (h:Q true s):
  wpAny (model prog w) A (Builtin.Dict.samePairs nm a b) Q E s:=by
 refine a2d da fun oa es ep hoa _ hda hea hisa hna=>?_;clear da;refine a2d db fun ob es' ep' hob _ hdb heb hisb hnb=>?_;clear db;have hla:xa.length=es.size:=by have:=size_of_entries hea;omega
 have hlb:xb.length=es'.size:=by have:=size_of_entries heb;omega
 have hsz:es.size=es'.size:=by omega
 unfold Builtin.Dict.samePairs Builtin.Dict.showsAll;refine rE (if_neg (show ¬ (a==E6)=true by rw[ha];exact Z2)) (rE (if_neg (show ¬ (b==E6)=true by rw[hb];exact Z2)) ?_);refine m0 (q0 (m0 (q0 ?_)));refine m0 (V9 hoa hda ?_);dsimp only;refine m0 (V9 hob hdb ?_);refine rE (if_neg (by rw[hsz];simp)) ?_;refine m0 (a6d hoa hda ?_);refine m0 ?_;refine rE (Std.Legacy.Range.forIn_eq_forIn_range' ..) ?_;refine rE (show (es.size - 0+1 - 1) / 1=es.size from (Nat.div_one _).trans (Nat.add_sub_cancel ..)) ?_;refine wpAny_forIn_list _ (fun rest q s'=>s'=s/\q=(none,())/\∃i,rest=a9t i (es.size - i)/\i<=es.size) _ ?_ ?_ _ _ ⟨rfl,rfl,0,by simp,D5 _⟩
 ·rintro x rest q s' ⟨rfl,rfl,i,hr,hi⟩
  have hlt:i < es.size:=by
   rcases Nat.lt_or_ge i es.size with h|h
   ·exact h
   ·rw[Nat.sub_eq_zero_of_le h] at hr;simp at hr
  obtain ⟨rfl,hrest⟩:x=i/\rest=a9t (i+1) (es.size - (i+1)):=by
   have e:es.size - i=(es.size - (i+1))+1:=by omega
   rw[e,List.range'_succ] at hr;injection hr with h1 h2
   exact ⟨h1,h2⟩
  refine m0 (V9 hoa hda ?_);have hlt':x < xa.length:=by refine rE hla ?_;exact hlt
  obtain ⟨⟨k,c,v⟩,hkv⟩:∃y,xa[x]? =some y:=⟨_,R4 hlt'⟩;refine rE (entry_at hea x) (rE hkv ?_);refine yea (hits _ (a6r hkv)) fun p hp he=>?_;have hkc:=hisa _ (a6r hkv);show wpAny _ _ (O6 [.ref c,v] _ >>=_) _ _ _;refine m0 (J2 (m0 (wpAny_dictFind_heap (k:=k) hu hkc hob hdb heb hisb hnb ?_ ?_)))
  ·intro hno
   have:=atKey_none_of_get hno;rw[show atKey xb k=some p from hp] at this;cases this
  ·intro j p' hj
   have:=atKey_of_get hnb hj;rw[show atKey xb k=some p from hp] at this;cases this;refine m0 (V9 hob hdb ?_);refine rE (entry_at heb j) (rE hj ?_);refine J2 (he prog w _ _ ?_);show wpAny _ _ (if (!true)=true then _ else _) _ _ _;refine rE (if_neg (by decide)) ?_;refine m0 (a6d hoa hda ?_);refine rE (if_neg (by simp)) ?_;exact q0 ⟨rfl,rfl,x+1,hrest,hlt⟩
 ·rintro q s' ⟨rfl,rfl,i,hr,hi⟩
  exact q0 h
theorem f02{a b:Addr}{xa xb:List (K×Addr×Value)}{Q:Value->Shared->Prop}(hu:knd.room A.in1)(ha:(a==E6)=false)(hb:(b==E6)=false)
  (da:s.heap.DictOfH knd a xa) (db:s.heap.DictOfH knd b xb) (hl:xa.length=xb.length) (hc:A.units < cLine) (hits:∀x∈xa,∃p,atKey xb x.1=some p/\m8 A.in1 s x.2.2 p.2 true) (h:Q (.bool true) s):
  wpAny (model prog w) A (w9 .Eq (.ref a) (.ref b)) Q E s:=by
 refine wpAny_richCompare_same_room (op:=.Eq) da.typeIs db.typeIs PySem.F.slot_dict_eq (G8 PySem.F.slot_dict_eq da.typeIs PySem.F.entry_dict_eq ?_ (PySem.F.args_dict_eq_2 _ _)) hc;show wpAny _ _ (b4p "__eq__" ⟨[.ref a,.ref b],[]⟩ >>=_) _ _ s;refine m0 ?_;unfold b4p;refine m0 (b4j da.typeIs ?_);show wpAny _ _ (pure (O2 a,O2 b)) _ _ s;refine q0 ?_;refine m0 (a3y (T:="dict") db.typeIs PySem.F.sub_dict_dict ?_);refine rE (if_neg (by decide)) ?_;refine m0 (q0 (m0 (q0 ?_)));refine m0 (d34 hu ha hb da db hl hits ?_);refine q0 ⟨_,rfl,?_,?_⟩
 ·exact fun x=>nomatch x
 ·simpa using h
theorem f04{a b:Addr}{xa xb:List (K×Addr×Value)}{Q:Value->Shared->Prop}(hu:knd.room A.in1)(ha:(a==E6)=false)(hb:(b==E6)=false)
  (da:s.heap.DictOfH knd a xa) (db:s.heap.DictOfH knd b xb) (hl:xa.length=xb.length) (hc:A.units < cLine) (hits:∀x∈xa,∃p,atKey xb x.1=some p/\m8 A.in1 s x.2.2 p.2 true) (h:Q (.bool false) s):
  wpAny (model prog w) A (w9 .NotEq (.ref a) (.ref b)) Q E s:=by
 refine wpAny_richCompare_same_room (op:=.NotEq) da.typeIs db.typeIs PySem.F.slot_dict_ne (G8 PySem.F.slot_dict_ne da.typeIs PySem.F.entry_dict_ne ?_ (PySem.F.args_dict_ne_2 _ _)) hc;show wpAny _ _ (b4p "__ne__" ⟨[.ref a,.ref b],[]⟩ >>=_) _ _ s;refine m0 ?_;unfold b4p;refine m0 (b4j da.typeIs ?_);show wpAny _ _ (pure (O2 a,O2 b)) _ _ s;refine q0 ?_;refine m0 (a3y (T:="dict") db.typeIs PySem.F.sub_dict_dict ?_);refine rE (if_neg (by decide)) ?_;refine m0 (q0 (m0 (q0 ?_)));refine m0 (d34 hu ha hb da db hl hits ?_);refine q0 ⟨_,rfl,?_,?_⟩
 ·exact fun x=>nomatch x
 ·simpa using h
end
section
variable{C:Cx}{A:Around}{σ τ:St C}{k:Nat}{h:HK}{e:AE}{env:Env}
theorem d5g{A:Around}{s:Shared}(b:Array UInt8)(t u:Tok):m8 A s (.bytes b t) (.bytes b u) true:=fun prog w E Q h=>by
 unfold eqBool;refine J2 ?_;refine a0q (fun _=>m0 (a2c (q0 h))) (fun _=>?_);refine m0 (m:=richCompare .Eq (.bytes b t) (.bytes b u)) ?_;refine richCompare_gives (op:=.Eq) (typeIs_bytes s b t) (typeIs_bytes s b u) FB.slot_bytes_eq FB.entry_bytes_eq (FB.args_bytes_eq_2 _ _) (gives_bytes_eq b b t u) (fun e=>nomatch e) ?_;show wpAny _ _ (truthy (.bool (b.toList==b.toList))) _ _ _;refine rE (beq_self_eq_true ..) ?_;exact a9h h
theorem c49(n:Nat):((Z9 n).all fun _=>true)=true:=X9.mpr fun _ _=>rfl
theorem c3w{A:Around}{s:Shared}{u v:Value}{b:Bool}(h:m8 A s u v b)(e:b=true):m8 A s u v true:=e▸h
theorem b9m{A:Around}{xs:List V}{vs us:List Value}(g:∀v∈xs,∀u u',Vr σ v u->Vr σ v u'->m8 A σ.s u u' true)(r:Vrs σ xs vs)(r':Vrs σ xs us):∀j (h1:j < vs.toArray.size) (h2:j < us.toArray.size),m8 A σ.s vs.toArray[j] us.toArray[j] true:=fun j q1 q2=>by
 have qx:j < xs.length:=VRl.len r▸q1;refine yea (All2.at r (R4 qx)) fun y e1 r1=>?_;refine yea (All2.at r' (R4 qx)) fun y' e2 r2=>?_;refine rE (show vs.toArray[j]=y from C0 ((R4 (show j < vs.length from q1)).symm.trans e1)) (rE (show us.toArray[j]=y' from C0 ((R4 (show j < us.length from q2)).symm.trans e2)) ?_);exact g _ (b4z qx) y y' r1 r2
theorem c3h{xs:List V}{vs us:List Value}(r:Vrs σ xs vs)(r':Vrs σ xs us):((Z9 (min vs.toArray.size us.toArray.size)).all (fun _=>true) && vs.toArray.size==us.toArray.size)=true:=by
 refine rE (c49 ..) (rE p6 (rE p6 (rE (VRl.len r) (rE (VRl.len r') (rE (beq_self_eq_true ..) ?_)))));rfl
theorem b30:∀ (k:Nat) (v:V) (A:Around) (u u':Value),U5 k v=true->A.units+k < cLine->Vr σ v u->Vr σ v u'->m8 A σ.s u u' true
 |0,v,A,u,u',e,hu,r,r'=>T1 e
 |k+1,v,A,u,u',e,hu,r,r'=>by
  cases v with
  |none=>cases r;cases r';exact .same _
  |bool b=>cases r;cases r';exact .same _
  |int i=>obtain ⟨t,rfl⟩:=r;obtain ⟨t',rfl⟩:=r';exact c3w (m8.int_int i t i t') (beq_self_eq_true i)
  |str i=>obtain ⟨t,rfl⟩:=r;obtain ⟨t',rfl⟩:=r';exact c3w (m8.str_str i t i t') (beq_self_eq_true i)
  |byt b=>obtain ⟨t,rfl⟩:=r;obtain ⟨t',rfl⟩:=r';exact d5g b t t'
  |tup xs=>
   refine G4 (J5 r) fun b vs c zy h1 h2=>?_;subst zy;refine G4 (J5 r') fun b' vs' c' zz h1' h2'=>?_;subst zz;by_cases hbb:b=b'
   ·subst hbb;exact .same _
   ·refine .of_refs hbb ?_
    have hu1:A.in1.units+k < cLine:=by show A.units+1+k < cLine;refine rE (a2m ..) (rE (a2n 1 k) ?_);exact hu
    have z:=SeqAt.RcAt.tuples (A:=A) (s:=σ.s) (l:=b) (b:=b') (items:=vs.toArray) (items2:=vs'.toArray) (e:=fun _=>true) ⟨_,h1,rfl,_,rfl⟩ ⟨_,h1',rfl,_,rfl⟩ (Z3 (m4 _ _) hu)
     (b9m (fun v hv u u' r r'=>b30 k v A.in1 u u' (b0b (show s7 (U5 k) xs=true from e) v hv) hu1 r r') h2 h2')
    rw[c3h h2 h2'] at z;exact z
  |_=>exact T1 e
noncomputable def CmpAt(σ:St C)(A:Around)(op:CmpOp)(u v:Value)(b:Bool):Prop:=∀ (Q:Value->Shared->Prop) (E:Value->Shared->Prop),(∀tk,Q (.bool b) (σ.tok tk).s)->wpAny C.m A (w9 op u v) Q E σ.s
noncomputable def EqNe(σ:St C)(A:Around)(u v:Value)(b:Bool):Prop:=CmpAt σ A .Eq u v b/\CmpAt σ A .NotEq u v (!b)
theorem none_of{v:V}{u:Value}(r:Vr σ v u):(u==q7)=a29 v:=by
 cases v with
 |none=>cases r;rfl
 |bool b=>cases r;rfl
 |int i=>obtain ⟨t,rfl⟩:=r;rfl
 |str i=>obtain ⟨t,rfl⟩:=r;rfl
 |byt i=>obtain ⟨t,rfl⟩:=r;rfl
 |bi b=>cases r;cases b <;>rfl
 |prog a=>cases r;rfl
 |ref i=>refine rE r.1 ?_;rfl
 |tup xs=>refine G4 (J5 r) fun b vs c zz _ _=>?_;subst zz;rfl
theorem b9v{f:V->Option PyData}{H:Heap}{ρ:Nat->Addr}{n:Nat}(hf:∀v d u,f v=some d->VR H ρ n v u->∃as,Reads H u d as):∀ {xs:List V} {us:List Value} {ds:List PyData},mapV f xs=some ds->VRl H ρ n xs us->∃as,ReadsAll H us ds as
 | [],us,ds,e,r=>by cases r;cases e;exact ⟨[],.nil⟩
 |a::l,us,ds,e,r=>by
  revert e;refine obE fun d e1 e=>?_;revert e;refine obE fun ds' e2 e=>?_;cases e;cases r with
  |cons r1 r2=>
   obtain ⟨as,h1⟩:=hf _ _ _ e1 r1;obtain ⟨bs,h2⟩:=b9v hf e2 r2;exact ⟨_,.cons h1 h2⟩
theorem b9u{H:Heap}{ρ:Nat->Addr}{n:Nat}:∀ (k:Nat) (v:V) (d:PyData) (u:Value),rdV k v=some d->VR H ρ n v u->∃as,Reads H u d as
 |0,v,d,u,e,r=>D0 e
 |k+1,v,d,u,e,r=>by
  cases v with
  |none=>cases e;cases r;exact ⟨_,.none⟩
  |bool b=>cases e;cases r;exact ⟨_,.bool b⟩
  |int i=>cases e;obtain ⟨t,rfl⟩:=r;exact ⟨_,.int i t⟩
  |str s=>cases e;obtain ⟨t,rfl⟩:=r;exact ⟨_,.str s t⟩
  |tup xs=>
   refine G4 (J5 r) fun b vs c zz h1 h2=>?_;subst zz;revert e;refine obE fun ds e1 e=>?_;cases e;obtain ⟨as,h3⟩:=b9v (fun v d u e r=>b9u k v d u e r) e1 h2;exact ⟨as,.tuple h1 rfl rfl h3⟩
  |_=>exact D0 e
theorem b76{d:PyData}(h:fine d=true):d.canLay0=true/\d.depth<=64:=by
 unfold fine at h;cases hd:d.canLay0 with
 |false=>rw[hd] at h;exact T1 h
 |true=>rw[hd] at h;exact ⟨rfl,d3 h⟩
theorem c9u{a:V}{xs:List V}{b:Bool}{u:Value}{vs:List Value}(e:memA a xs=some b)(ra:Vr σ a u)(rx:Vrs σ xs vs):
  ∃d as ds bs,Reads σ.h u d as/\ReadsAll σ.h vs ds bs/\d.canLay0=true/\PyData.canLayAll0 ds=true/\d.depth<=64/\(ds.any fun y=>PyData.eqv y d)=b:=by
 revert e;refine obE fun d e1 e=>?_;revert e;refine obE fun ds e2 e=>?_;revert e;refine ifE fun f1 e=>?_;revert e;refine ifE fun f2 e=>?_;obtain ⟨as,h1⟩:=b9u 8 a d u e1 ra;obtain ⟨bs,h2⟩:=b9v (b9u 8) e2 rx;exact ⟨d,as,ds,bs,h1,h2,(b76 f1).1,(b76 f2).1,(b76 f1).2,C0 e⟩
theorem b2f{a n d c:Nat}(h:a+65 < c)(hd:d<=64):a+1+min n d < c:=by omega
theorem c82(rm:F0 k A){a b:V}{u v:Value}{c:Bool}(ra:Vr σ a u)(rb:Vr σ b v)(e:hasA a b σ.x=some c):CmpAt σ A .In u v c/\CmpAt σ A .NotIn u v (!c):=by
 have hl:=rm.line;cases b with
 |ref i=>
  revert e;refine obE fun o q e=>?_;cases ho:V8 o with
  |some xs=>
   rw[ho] at e;obtain rfl:=O.list_eq ho;refine m7 (σ.at q) fun ob e1 vs n1 r1 zu=>?_;subst zu;refine T6 (c9u e ra r1) fun d as ds bs h3 h4 f1 zv=>?_;refine yaa zv fun f2 f3 zw=>?_;clear zv;subst zw;refine rE rb.1 ?_;have rc:Reads σ.h (.ref (σ.ρ i)) (.list ds) (σ.ρ i::bs):=.list e1 rfl rfl h4;exact ⟨fun Q E z=>SeqAt.in_list_reads rc h3 f2 f1 (b2f hl f3) (z σ.s.toks),fun Q E z=>SeqAt.notIn_list_reads rc h3 f2 f1 (b2f hl f3) (z σ.s.toks)⟩
  |none=>
   rw[ho] at e;revert e;refine obE fun r hr e=>?_;cases e;refine rE rb.1 ?_;have hs:=St.not_sys q;cases St.dk q ra hr with
   |flat knd kk kvs hk _ hd hr=>refine rF hr.isSome ?_;exact ⟨fun Q E z=>wpAny_in_of hk hs hd.mapOf (z _),fun Q E z=>wpAny_notIn_of hk hs hd.mapOf (z _)⟩
   |pair b js xs eb hk hd hr=>subst eb;refine rF hr.isSome (rE Option.isSome_map ?_);exact ⟨fun Q E z=>wpAny_in_heap rm.six hk.is hs hd (z _),fun Q E z=>wpAny_notIn_heap rm.six hk.is hs hd (z _)⟩
 |tup xs=>
  refine G4 (J5 rb) fun t vs n1 zx h1 h2=>?_;subst zx;refine T6 (c9u e ra h2) fun d as ds bs h3 h4 f1 zy=>?_;refine yaa zy fun f2 f3 zz=>?_;clear zy;subst zz;have rc:Reads σ.h (.ref t) (.tuple ds) bs:=.tuple h1 rfl rfl h4;exact ⟨fun Q E z=>SeqAt.in_tuple_reads rc h3 f2 f1 (b2f hl f3) (z σ.s.toks),fun Q E z=>SeqAt.notIn_tuple_reads rc h3 f2 f1 (b2f hl f3) (z σ.s.toks)⟩
 |_=>exact D0 e
theorem d3t{xs ys:List (List Int×Addr×Value)}{l:List (Option V)}(hn:(xs.map (·.1)).Nodup)(hr:∀ks,Vro σ (slot6 l ks) ((atKey xs ks).map (·.2)))(hr':∀ks,Vro σ (slot6 l ks) ((atKey ys ks).map (·.2))):xs.length<=ys.length:=by
 have:=a3e (xs.map (·.1)) (ys.map (·.1)) hn fun ks hk=>by
  refine yea (d6.mp hk) fun y hy zz=>?_;subst zz;have h1:=(hr y.1).isSome;rw[a77 hn hy] at h1;have h2:=(hr' y.1).isSome.trans h1.symm;cases h3:atKey ys y.1 with
  |none=>rw[h3] at h2;exact T1 h2
  |some p=>
   refine yea (a05.mp h3) fun z hz _=>?_;have hz1:=List.find?_some hz;refine rF (show z.1=y.1 from of_decide_eq_true hz1) ?_;exact List.mem_map_of_mem (List.mem_of_find?_eq_some hz)
 rw[K4,K4] at this;exact this
theorem f05(rm:F0 k A){i j:Nat}{o o':O}{l:List (Option V)}(qi:σ.x.get i=some o)(qj:σ.x.get j=some o')(hi:asX o=some l)(hj:asX o'=some l)(hp:allO (U5 40) l=true):EqNe σ A (.ref (σ.ρ i)) (.ref (σ.ρ j)) true:=by
 refine W4 (St.asX qi hi) fun xs hd hn _ hr=>?_;refine W4 (St.asX qj hj) fun ys hd' hn' _ hr'=>?_;have hlen:=Nat.le_antisymm (d3t hn hr hr') (d3t hn' hr' hr);have hli:=rm.line;have hu:A.units < cLine:=Z3 (m4 _ _) hli;have hits:∀y∈xs,∃p,atKey ys y.1=some p/\m8 A.in1 σ.s y.2.2 p.2 true:=fun y hy=>by
  have h1:=hr y.1;rw[a77 hn hy] at h1;have h2:=hr' y.1;cases hs:slot6 l y.1 with
  |none=>rw[hs] at h1;exact D0 (show none=some y.2.2 from (show some y.2.2=none from h1).symm)
  |some v=>
   rw[hs] at h1 h2;refine yea h1 fun u hu ru=>?_;clear h1;refine yea h2 fun u' hu' ru'=>?_;clear h2;cases hu;refine yea (a05.mp hu') fun p hp' zz=>?_;subst zz;have hm:some v∈l:=by
    revert hs;refine obE fun n _ hs=>?_;revert hs;refine obE fun o hs e=>?_;rw[Q6] at hs;exact (show o=some v from e)▸a6r hs
   exact ⟨p,hp',b30 40 v A.in1 _ _ (b5i hp v hm) (Z3 (by show A.units+1+40<=A.units+65;refine rE (a2m ..) ?_;exact k8 (by decide) _) hli) ru ru'⟩
 exact ⟨fun Q E z=>f02 rm.six (St.not_sys qi) (St.not_sys qj) hd hd' hlen hu hits (z σ.s.toks),fun Q E z=>f04 rm.six (St.not_sys qi) (St.not_sys qj) hd hd' hlen hu hits (z σ.s.toks)⟩
end
end
section
open PySem.W.Z (eqB eqB_iff ltB ltB_iff leB leB_iff)
noncomputable def cmpX(h:HK)(l:Expr)(op:CmpOp)(r:Expr)(e:AE)(x:S):Res Bool:=ck (!behindInMarks op r) <| (h.ex l e x).bd fun a x=>(h.ex r e x).bd fun b x=>a7e op a b x
noncomputable def c5b(h:HK)(l:Expr)(o1 o2:CmpOp)(m r:Expr)(e:AE)(x:S):Res Bool:=ck (!behindInMarks o2 r) <| (h.ex l e x).bd fun a x=>(h.ex m e x).bd fun b x=>(a7e o1 a b x).bd fun c x=>ifb c ((h.ex r e x).bd fun d x=>a7e o2 b d x) (.ok false x)
noncomputable def allX(h:HK)(op:BoolOp)(l:List Expr):AE->S->Res Bool:=E0 (motive:=fun _=>AE->S->Res Bool) (fun _ x=>.ok (BoolOp.casesOn (motive:=fun _=>Bool) op true false) x)
 (fun a _ ih e x=>(h.tr a e x).bd fun b x=>BoolOp.casesOn (motive:=fun _=>Res Bool) op (ifb b (ih e x) (.ok false x)) (ifb b (.ok true x) (ih e x))) l
noncomputable def one{α:Type}(l:List α):Option α:=Y2 (motive:=fun _=>Option α) l none fun a l=>ifb (w5 l) (some a) none
noncomputable def two{α β:Type}(l:List α)(f:α->α->Option β):Option β:=Y2 (motive:=fun _=>Option β) l none fun a l=>obd (one l) (f a)
theorem a3h{α:Type}{l:List α}{a:α}(h:one l=some a):l=[a]:=by
 cases l with
 |nil=>exact D0 h
 |cons b l=>obtain ⟨h1,h2⟩:=a1i h;exact rE (U7 h1) (rE (C0 h2) rfl)
theorem a27{α β:Type}{l:List α}{f:α->α->Option β}{c:β}(h:two l f=some c):∃a b,l=[a,b]/\f a b=some c:=by
 cases l with
 |nil=>exact D0 h
 |cons a l=>refine yea (W7 h) fun b h1 h2=>?_;exact ⟨a,b,by exact rE (a3h h1) rfl,h2⟩
noncomputable def cmpT(h:HK)(l:Expr)(ops:List CmpOp)(rs:List Expr)(e:AE)(x:S):Res Bool:=K0 (motive:=fun _=>Res Bool) (nd (two ops fun a b=>some (a,b)) fun o=>nd (two rs fun a b=>some (a,b)) fun r=>c5b h l o.1 o.2 r.1 r.2 e x) (fun op=>nd (one rs) fun r=>cmpX h l op r e x) (one ops)
noncomputable def a1v(h:HK)(t:Expr)(e:AE)(x:S):Res Bool:=(h.ex t e x).bd fun v x=>lft (truA v x) x
noncomputable def trX(h:HK)(t:Expr)(e:AE)(x:S):Res Bool:=a0u (motive_1:=fun _=>HK->AE->S->Res Bool) t (fun op vs _ h e x=>allX h op vs e x) (fun t v p h=>a1v h (.NamedExpr t v p)) (fun l op r p h=>a1v h (.BinOp l op r p))
 (fun op y _ h e x=>UnaryOp.casesOn (motive:=fun _=>Res Bool) op .fail ((h.tr y e x).bd fun b x=>.ok (!b) x) .fail .fail) (fun _ _ _ _ _ _ _=>.fail) (fun _ _ _ _ _ _ _=>.fail) (fun _ _ _ _ _ _=>.fail) (fun _ _ _ _ _ _=>.fail) (fun _ _ _ _ _ _ _=>.fail) (fun _ _ _ _ _ _ _=>.fail) (fun _ _ _ _ _ _ _ _=>.fail) (fun _ _ _ _ _ _ _=>.fail)
 (fun _ _ _ _ _=>.fail) (fun _ _ _ _ _=>.fail) (fun _ _ _ _ _=>.fail) (fun l ops rs _ h e x=>cmpT h l ops rs e x) (fun f a k p h=>a1v h (.Call f a k p)) (fun _ _ _ _ _ _ _=>.fail) (fun _ _ _ _ _=>.fail) (fun c k p h=>a1v h (.Constant c k p)) (fun o n p h=>a1v h (.Attribute o n p)) (fun o i p h=>a1v h (.Subscript o i p)) (fun _ _ _ _ _=>.fail)
 (fun n p h=>a1v h (.Name n p)) (fun _ _ _ _ _=>.fail) (fun _ _ _ _ _ _=>.fail) (fun _ _ _ _ _ _ _=>.fail) h e x
section
variable{C:Cx}{A:Around}{σ τ:St C}{k:Nat}{h:HK}{e:AE}{env:Env}{P:Bool->S->Prop}
theorem EqNe.of{a b:Value}{c:Bool}(h1:∀ (Q:Value->Shared->Prop) (E:Value->Shared->Prop),Q (.bool c) σ.s->wpAny C.m A (w9 .Eq a b) Q E σ.s)(h2:∀ (Q:Value->Shared->Prop) (E:Value->Shared->Prop),Q (.bool (!c)) σ.s->wpAny C.m A (w9 .NotEq a b) Q E σ.s):EqNe σ A a b c:=
 ⟨fun Q E z=>h1 Q E (z σ.s.toks),fun Q E z=>h2 Q E (z σ.s.toks)⟩
theorem d2k(rm:F0 k A){xs ys:List V}{vs us:List Value}(r:Vrs σ xs vs)(r':Vrs σ ys us)(z:(c0f xs ys σ.x).All P):P true σ.x/\((Z9 (min vs.toArray.size us.toArray.size)).all (fun _=>true) && vs.toArray.size==us.toArray.size)=true/\A.units < cLine/\∀j (h1:j < vs.toArray.size) (h2:j < us.toArray.size),m8 A.in1 σ.s vs.toArray[j] us.toArray[j] true:=by
 obtain ⟨e1,e2,z⟩:=z;obtain rfl:=Sd.vs.inj e1;have hl:=rm.line;exact ⟨z,c3h r r',Z3 (m4 _ _) hl,b9m (fun v hv u u' r r'=>b30 40 v A.in1 u u' (b0b (Sd.bo.inj e2) v hv) (Z3 (by show A.units+1+40<=A.units+65;refine rE (a2m ..) ?_;exact k8 (by decide) _) hl) r r') r r'⟩
theorem e4q(rm:F0 k A){a b:Addr}{vs:List Value}{n m:Nat}(ha:σ.h.get? a=some (T5 vs n))(hb:σ.h.get? b=some (T5 [] m)):EqNe σ A (.ref a) (.ref b) (vs.isEmpty):=by
 have hu:A.units < cLine:=Z3 (m4 _ _) rm.line;cases vs with
 |nil=>
  have hu':A.units+min (PyData.list []).depth (PyData.list []).depth < cLine:=Z3 (k8 (show min (PyData.list []).depth (PyData.list []).depth<=65 by decide) _) rm.line;exact .of (fun Q E z=>SeqAt.compareEq_reads (.list ha rfl rfl .nil) (.list hb rfl rfl .nil) rfl rfl hu' z) fun Q E z=>SeqAt.compareNe_reads (.list ha rfl rfl .nil) (.list hb rfl rfl .nil) rfl rfl hu' z
 |cons y ys=>exact .of (fun Q E z=>SeqAt.RcAt.lists_lengths ⟨_,ha,rfl,_,rfl⟩ ⟨_,hb,rfl,_,rfl⟩ rfl hu _ _ E Q z) fun Q E z=>SeqAt.RcNeAt.lists_lengths ⟨_,ha,rfl,_,rfl⟩ ⟨_,hb,rfl,_,rfl⟩ rfl hu _ _ E Q z
theorem d0d(rm:F0 k A){i:Int}{t:Tok}:EqNe σ A .none (.int i t) false/\EqNe σ A (.int i t) .none false:=by
 have hu:A.units+0 < cLine:=Z3 (k8 (D5 65) _) rm.line;exact ⟨.of (fun Q E z=>SeqAt.compareEq_reads .none (.int i t) rfl rfl hu z) fun Q E z=>SeqAt.compareNe_reads .none (.int i t) rfl rfl hu z,.of (fun Q E z=>SeqAt.compareEq_reads (.int i t) .none rfl rfl hu z) fun Q E z=>SeqAt.compareNe_reads (.int i t) .none rfl rfl hu z⟩
theorem e0d(rm:F0 k A){i j:Nat}{o o':O}(q1:σ.x.get i=some o)(q2:σ.x.get j=some o')(z:(eqO o o' σ.x).All P):∃c,EqNe σ A (.ref (σ.ρ i)) (.ref (σ.ρ j)) c/\P c σ.x:=by
 unfold eqO at z;cases ho:V8 o with
 |none=>
  rw[ho] at z;revert z;refine ndE fun l h1 z=>?_;revert z;refine ndE fun l' h2 z=>?_;obtain ⟨e1,e2,z⟩:=z;obtain rfl:=Sd.os.inj e1;exact ⟨true,f05 rm q1 q2 h1 h2 (Sd.bo.inj e2),z⟩
 |some xs=>
  rw[ho] at z;obtain rfl:=O.list_eq ho;revert z;refine ndE fun ys h2 z=>?_;rw[O.list_eq h2] at q2;refine m7 (σ.at q1) fun _ g1 vs n1 r1 zy=>?_;subst zy;refine m7 (σ.at q2) fun _ g2 ws n2 r2 zz=>?_;subst zz;cases hn:w5 ys with
  |true=>
   rw[hn] at z;have z:=(t7 z).2;rw[U7 hn] at r2;cases r2;refine ⟨w5 xs,?_,z⟩;refine rE (show w5 xs=vs.isEmpty by cases r1 <;>rfl) ?_;exact e4q rm g1 g2
  |false=>
   rw[hn] at z;refine Q5 (d2k rm r1 r2 z) fun z h1 h2 h3=>?_;have z1:=SeqAt.RcAt.lists (A:=A) (s:=σ.s) (e:=fun _=>true) ⟨_,g1,rfl,_,rfl⟩ ⟨_,g2,rfl,_,rfl⟩ (eq_of_beq (H8.mp h1).2) h2 h3;have z2:=SeqAt.RcNeAt.lists (A:=A) (s:=σ.s) (e:=fun _=>true) ⟨_,g1,rfl,_,rfl⟩ ⟨_,g2,rfl,_,rfl⟩ (eq_of_beq (H8.mp h1).2) h2 h3;rw[c49] at z1 z2;exact ⟨true,.of (fun Q E q=>z1 _ _ E Q q) fun Q E q=>z2 _ _ E Q q,z⟩
theorem c7a(rm:F0 k A){a b:V}{u v:Value}(ra:Vr σ a u)(rb:Vr σ b v)(z:(eqC a b σ.x).All P):∃c,EqNe σ A u v c/\P c σ.x:=by
 cases a with
 |none=>refine yea (T7 z) fun i h1 z=>?_;obtain ⟨t,rfl⟩:=rb.int h1;cases ra;exact ⟨false,(d0d rm).1,z⟩
 |int i=>
  obtain ⟨t,rfl⟩:=ra;cases b with
  |none=>cases rb;exact ⟨false,(d0d rm).2,z⟩
  |int j=>
   obtain ⟨t',rfl⟩:=rb;have q:(i==j)=eqB i j:=(a7q i j).symm;exact ⟨eqB i j,.of (fun Q E z=>PyProof.Rows.eq_int (by refine rE q ?_;exact z)) fun Q E z=>PyProof.Rows.ne_int (by rw[bne];refine rE q ?_;exact z),z⟩
  |_=>exact z.elim
 |str s=>
  obtain ⟨t,rfl⟩:=ra;revert z;refine ndE fun s' h1 z=>?_;obtain ⟨t',rfl⟩:=rb.str h1;have q:(s==s')=seq s s':=(a22 s s').symm;exact ⟨seq s s',.of (fun Q E z=>PyProof.Rows.eq_str (by refine rE q ?_;exact z)) fun Q E z=>PyProof.Rows.ne_str (by rw[bne];refine rE q ?_;exact z),z⟩
 |ref i=>
  revert z;refine ndE fun j h1 z=>?_;revert z;refine ndE fun o q1 z=>?_;revert z;refine ndE fun o' q2 z=>?_;refine rE ra.1 (rE (rb.ref h1) ?_);exact e0d rm q1 q2 z
 |tup xs=>
  revert z;refine ndE fun ys h1 z=>?_;refine G4 (J5 ra) fun t vs n1 zy g1 r1=>?_;subst zy;refine G4 (rb.tup h1) fun t' vs' n1' zz g2 r2=>?_;subst zz;refine Q5 (d2k rm r1 r2 z) fun z h1 h2 h3=>?_;have z1:=SeqAt.RcAt.tuples (A:=A) (s:=σ.s) (e:=fun _=>true) ⟨_,g1,rfl,_,rfl⟩ ⟨_,g2,rfl,_,rfl⟩ h2 h3;have z2:=SeqAt.RcNeAt.tuples (A:=A) (s:=σ.s) (e:=fun _=>true) ⟨_,g1,rfl,_,rfl⟩ ⟨_,g2,rfl,_,rfl⟩ h2 h3;rw[h1] at z1 z2;exact ⟨true,.of (fun Q E q=>z1 _ _ E Q q) fun Q E q=>z2 _ _ E Q q,z⟩
 |_=>exact z.elim
theorem CmpAt.of{op:CmpOp}{a b:Value}{c:Bool}(h1:∀ (Q:Value->Shared->Prop) (E:Value->Shared->Prop),Q (.bool c) σ.s->wpAny C.m A (w9 op a b) Q E σ.s):CmpAt σ A op a b c:=fun Q E z=>h1 Q E (z σ.s.toks)
theorem b1n{op:CmpOp}{a b:V}{u v:Value}{f:Int->Int->Bool}(ra:Vr σ a u)(rb:Vr σ b v)(z:(a81 a b f σ.x).All P)(hf:∀ {i j:Int} {t t':Tok} {Q:Value->Shared->Prop} {E:Value->Shared->Prop},Q (.bool (f i j)) σ.s->wpAny C.m A (w9 op (.int i t) (.int j t')) Q E σ.s):∃c,CmpAt σ A op u v c/\P c σ.x:=by
 revert z;refine ndE fun i h1 z=>?_;revert z;refine ndE fun j h2 z=>?_;obtain ⟨t,rfl⟩:=ra.int h1;obtain ⟨t',rfl⟩:=rb.int h2;exact ⟨f i j,.of fun Q E z=>hf z,z⟩
theorem b67(rm:F0 k A){op:CmpOp}{a b:V}{u v:Value}(ra:Vr σ a u)(rb:Vr σ b v)(z:(a7e op a b σ.x).All P):∃c,CmpAt σ A op u v c/\P c σ.x:=by
 cases op with
 |Eq=>refine yea (c7a rm ra rb z) fun c h z=>?_;exact ⟨c,h.1,z⟩
 |NotEq=>refine yea (c7a rm ra rb ((Res.All_bd _ _ _).mp z)) fun c h z=>?_;exact ⟨_,h.2,z⟩
 |Lt=>exact b1n ra rb z fun z=>PyProof.Rows.lt_int (by refine rF (b8h ..) ?_;exact z)
 |LtE=>exact b1n ra rb z fun z=>PySem.P.le_int (by refine rF (c9c ..) ?_;exact z)
 |Gt=>exact b1n ra rb z fun z=>PyProof.Rows.gt_int (by refine rF (b8h ..) ?_;exact z)
 |GtE=>exact b1n ra rb z fun z=>PyProof.Rows.ge_int (by refine rF (c9c ..) ?_;exact z)
 |Is=>obtain ⟨h,z⟩:=t7 z;rw[V.none_eq h] at rb;cases rb;exact ⟨_,.of fun Q E z=>is_none (by refine rE (none_of ra) ?_;exact z),z⟩
 |IsNot=>obtain ⟨h,z⟩:=t7 z;rw[V.none_eq h] at rb;cases rb;exact ⟨_,.of fun Q E z=>isNot_none (by refine rE (none_of ra) ?_;exact z),z⟩
 |In=>refine yea (T7 z) fun c h z=>?_;exact ⟨c,(c82 rm ra rb h).1,z⟩
 |NotIn=>refine yea (T7 ((Res.All_bd _ _ _).mp z)) fun c h z=>?_;exact ⟨_,(c82 rm ra rb h).2,z⟩
variable(H:HOk C k h)(rm:F0 k A)(He:Er σ e env)
include H rm He
theorem c5e{l:Expr}{op:CmpOp}{r:Expr}{Q:Value->Shared->Prop}{E:Value->Shared->Prop}(z:((h.ex l e σ.x).bd fun a x=>(h.ex r e x).bd fun b x=>a7e op a b x).All P)(kk:∀c (τ:St C),Le σ τ->P c τ.x->Q (.bool c) τ.s):
  wpAny C.m A (eval l env) (fun a s₁=>wpAny C.m A (eval r env) (fun b s₂=>wpAny C.m A (w9 op a b) Q E s₂) E s₁) E σ.s:=
 (H.ex rm He l).use z fun _ _ τ X r1 z=>(H.ex rm (X.env He) r).use z fun _ _ υ Y r2 z=>yea (b67 rm (Y.v r1) r2 z) fun _ h z=>h Q E fun tk=>kk _ (υ.tok tk) ((X.trans Y).trans .tok) z
theorem d7t{l:Expr}{op:CmpOp}{r:Expr}{pos:Pos}:GoR A (eval (.Compare l [op] [r] pos) env) σ Vr ((cmpX h l op r e σ.x).bd fun b x=>.ok (.bool b) x):=fun Q E z=>
 ya (t7 ((Res.All_bd _ _ _).mp z)) fun hm z=>wpAny_Compare1 (c5e H rm He z fun c τ X z=>z _ τ rfl X rfl) ((n6 _).mp hm)
theorem d7u{l:Expr}{op:CmpOp}{r:Expr}{pos:Pos}{whole:Sem Value}:GoR A (isTrue (.Compare l [op] [r] pos) env whole) σ Br (cmpX h l op r e σ.x):=.ck fun hm Q E z=>
 wpAny_isTrue_Compare1 (c5e H rm He z fun c τ X z=>a9h (z c τ rfl X rfl)) ((n6 _).mp hm)
omit H rm He in
theorem d7k(l:Expr)(o1 o2:CmpOp)(m r:Expr)(pos:Pos)(env:Env)(whole:Sem Value)(hm:behindInMarks o2 r=false):isTrue (.Compare l [o1,o2] [m,r] pos) env whole=(do
  let a<-eval l env
  let b<-O6 [a] (eval m env)
  a24 pos
  let c<-O6 [a,b] (w9 o1 a b)
  release [a,b] [c]
  if<-O6 [c,b] (truthy c) then (do
   let d<-O6 [b] (eval r env)
   a24 pos
   let c<-operate [b,d] (w9 o2 b d)
   O6 [c] (truthy c)) else pure false):=by
 have:markedBehindIn o2 r (eval r env)=eval r env:=by unfold markedBehindIn;exact rE hm rfl
 show (do testChain pos (<-eval l env) [o1,o2] [eval m env,markedBehindIn o2 r (eval r env)])=_;refine rE this ?_;rfl
theorem d7j{l:Expr}{o1 o2:CmpOp}{m r:Expr}{pos:Pos}{whole:Sem Value}:GoR A (isTrue (.Compare l [o1,o2] [m,r] pos) env whole) σ Br (c5b h l o1 o2 m r e σ.x):=.ck fun hm Q E z=>by
 refine rE (d7k _ _ _ _ _ _ _ _ ((n6 _).mp hm)) ?_;refine m0 ((H.ex rm He l).use z fun a va τ X r1 z=>m0 (J2 ((H.ex rm (X.env He) m).use z fun b vb υ Y r2 z=>?_)));refine yea (b67 rm (Y.v r1) r2 ((Res.All_bd _ _ _).mp z)) fun c hc z=>?_;refine m0 (H5 (m0 (J2 (hc _ _ fun tk=>m0 (wpAny_release (m0 (J2 (a9h ?_))))))));have X2:=(X.trans Y).trans (Le.tok (tk:=tk));cases c with
 |false=>exact q0 (z false _ rfl X2 rfl)
 |true=>
  refine m0 (J2 ((H.ex (σ:=υ.tok tk) rm (X2.env He) r).use z fun d vd φ Z r3 z=>?_));refine yea (b67 rm (Z.v (Le.tok.v r2)) r3 z) fun c hc z=>?_;exact m0 (H5 (m0 (wpAny_operateT (hc _ _ fun tk=>J2 (a9h (z c _ rfl ((X2.trans Z).trans .tok) rfl))))))
omit He in
theorem b5j{op:BoolOp}:∀ (l:List Expr) {σ:St C},Er σ e env->GoR A (allTrue op l env) σ Br (allX h op l e σ.x)
 | [],σ,He=>fun Q E z=>by
  cases op with
  |And=>exact wpAny_allTrue_And_nil (A0.here z rfl)
  |Or=>exact wpAny_allTrue_Or_nil (A0.here z rfl)
 |a::l,σ,He=>fun Q E z=>by
  cases op with
  |And=>
   refine wpAny_allTrue_And_cons ((H.tr rm He a).use z fun b vb τ X r1 z=>?_);cases r1;cases b with
   |true=>exact (b5j l (X.env He)).fin X z
   |false=>exact z false τ rfl X rfl
  |Or=>
   refine wpAny_allTrue_Or_cons ((H.tr rm He a).use z fun b vb τ X r1 z=>?_);cases r1;cases b with
   |false=>exact (b5j l (X.env He)).fin X z
   |true=>exact z true τ rfl X rfl
theorem a3j(t:Expr)(q:∀env whole,isTrue t env whole=(do let v<-whole;a24 t.pos;O6 [v] (truthy v))):GoR A (isTrue t env (eval t env)) σ Br (a1v h t e σ.x):=fun Q E z=>
 wpAny_isTrue_value ((H.ex rm He t).use z fun v u τ X r z=>yea (T7 z) fun b hb z=>c3g r hb fun tk=>z b (τ.tok tk) rfl (X.trans .tok) rfl) (q _ _)
theorem d7s{l:Expr}{ops:List CmpOp}{rs:List Expr}{pos:Pos}{whole:Sem Value}:GoR A (isTrue (.Compare l ops rs pos) env whole) σ Br (cmpT h l ops rs e σ.x):=by
 unfold cmpT;cases ho:one ops with
 |some op=>exact .nd fun r hr=>by refine rE (a3h ho) (rE (a3h hr) ?_);exact d7u H rm He
 |none=>
  refine .nd fun o h1=>.nd fun r h2=>?_;refine B1 (a27 h1) fun _ _ zy h1=>?_;subst zy;refine B1 (a27 h2) fun _ _ zz h2=>?_;subst zz;cases h1;cases h2;exact d7j H rm He
theorem f1q(t:Expr):GoR A (isTrue t env (eval t env)) σ Br (trX h t e σ.x):=by
 cases t with
 |BoolOp op vs p=>exact fun Q E z=>wpAny_isTrue_BoolOp (b5j H rm vs He Q E z)
 |UnaryOp op y p=>
  cases op with
  |Not=>exact fun Q E z=>wpAny_isTrue_Not ((H.tr rm He y).use z fun b vb τ X r z=>by cases r;exact z _ τ rfl X rfl)
  |_=>exact .fail
 |Compare l ops rs p=>exact d7s H rm He
 |NamedExpr=>exact a3j H rm He _ fun _ _=>rfl
 |BinOp=>exact a3j H rm He _ fun _ _=>rfl
 |Call=>exact a3j H rm He _ fun _ _=>rfl
 |Constant=>exact a3j H rm He _ fun _ _=>rfl
 |Attribute=>exact a3j H rm He _ fun _ _=>rfl
 |Subscript=>exact a3j H rm He _ fun _ _=>rfl
 |Name=>exact a3j H rm He _ fun _ _=>rfl
 |_=>exact .fail
end
end
inductive KD where
 |none|bool|int|str|tup|list|dict|inst (c:Nat)
noncomputable def d0o(o:O):Option (List (Str×V)):=O.casesOn (motive:=fun _=>Option (List (Str×V))) o (fun _=>none) (fun _=>none) (fun _=>none) (fun _=>none) (fun _=>none) some (fun _ _=>none) (fun _=>none) (fun _ _=>none) (fun _ _=>none) (fun _ _ _=>none) (fun _ _ _=>none) (fun _ _=>none) (fun _ _=>none) (fun _ _ _=>none) (fun _ _=>none) fun _=>none
noncomputable def S.idict(x:S)(i:Nat):Option (List (Str×V)):=obd (x.get i) d0o
noncomputable def kindO(o:O)(x:S):Option KD:=O.casesOn (motive:=fun _=>Option KD) o (fun _=>some .list) (fun _=>some .dict) (fun _=>some .dict) (fun _=>some .dict) (fun _=>none) (fun _=>none) (fun c d=>ifb (Pcls c) (obd (x.idict d) fun _=>some (.inst c)) none) (fun _=>none) (fun _ _=>none) (fun _ _=>none) (fun _ _ _=>none) (fun _ _ _=>none) (fun _ _=>none) (fun _ _=>none) (fun _ _ _=>none) (fun _ _=>none) fun _=>none
noncomputable def c97(v:V)(x:S):Option KD:=V.casesOn (motive_1:=fun _=>Option KD) v (some .none) (fun _=>some .bool) (fun _=>some .int) (fun _=>some .str) (fun _=>none) (fun _=>none) (fun _=>none) (fun i=>obd (x.get i) fun o=>kindO o x) (fun _=>some .tup)
noncomputable def c8g(k:KD):Bool:=KD.casesOn (motive:=fun _=>Bool) k false true false false false false false fun _=>false
noncomputable def c8m(k:KD):Bool:=KD.casesOn (motive:=fun _=>Bool) k false true true false false false false fun _=>false
noncomputable def c8n(k:KD):Bool:=KD.casesOn (motive:=fun _=>Bool) k false false false false false true false fun _=>false
noncomputable def c8l(k:KD):Bool:=KD.casesOn (motive:=fun _=>Bool) k false false false false false false true fun _=>false
noncomputable def c8j(c':Nat)(k:KD):Bool:=KD.casesOn (motive:=fun _=>Bool) k false false false false false false false fun c=>o0 c c'
noncomputable def isiB(b:BI)(k:KD):Option Bool:=BI.casesOn (motive:=fun _=>Option Bool) b none none none none none none (some (c8l k)) none none none none (some (c8g k)) (some (c8m k)) (some (c8n k)) none
noncomputable def isiA(v tgt:V)(x:S):Option Bool:=obd (c97 v x) fun k=>V.casesOn (motive_1:=fun _=>Option Bool) tgt none (fun _=>none) (fun _=>none) (fun _=>none) (fun _=>none) (fun b=>isiB b k) (fun c=>ifb (Pcls c) (some (c8j c k)) none) (fun _=>none) (fun _=>none)
section
variable{C:Cx}{A:Around}{σ τ:St C}{k:Nat}{h:HK}{e:AE}{env:Env}
theorem O.idict_eq{o:O}{i:List (Str×V)}(h:d0o o=some i):o=.idict i:=by cases o <;>first|exact D0 h|exact congrArg _ (C0 h)
theorem S.idict_eq{x:S}{i:Nat}{l:List (Str×V)}(h:x.idict i=some l):x.get i=some (.idict l):=yea (W7 h) fun o h1 h2=>O.idict_eq h2▸h1
theorem St.kin(σ:St C):C.K.In σ.h:=fun a o e=>σ.D.keep a o (C.Y.kin a o e)
theorem St.inst{i c d:Nat}(q:σ.x.get i=some (.inst c d)){es:List (Str×V)}(qd:σ.x.idict d=some es):
  ∃ox od l k,W.InstAt σ.h (σ.ρ i) ox c (some od)/\ox.dict=some (σ.ρ d)/\σ.h.get? (σ.ρ d)=some od/\od.data=.dict l k/\StrKeys l/\l.size<=es.length/\∀y,Vro σ (lk es y) (nsFind l y):=by
 refine R0 (σ.at q) fun _ e1 _ zy=>?_;subst zy;refine m7 (σ.at (S.idict_eq qd)) fun od e2 l k h1 zz=>?_;refine yaa zz fun h2 h4 h3=>?_;clear zz;exact ⟨_,od,l,k,⟨e1,rfl,rfl,e2⟩,rfl,e2,h1,h2,h4,h3⟩
theorem a9j.isType{K:Frag}{c:Nat}(hc:a9j K c){M:Model}{h:Heap}(X:K.In h):Looks M h (PySem.isType (.ref c)) true:=by
 refine yea hc.cd fun cd hcd _=>?_;unfold clsIn at hcd;cases q:K.lookup c with
 |none=>rw[q] at hcd;exact D0 hcd
 |some ob=>
  rw[q] at hcd;obtain ⟨a,b,d,l⟩:=ob;cases d <;>first|exact D0 hcd|exact (Looks.ld (X _ _ q)).andThen .now
section
variable{c:Nat}{y:Addr}{ox od:Obj}(hc:Pcls c=true){s:Shared}{E:Value->Shared->Prop}(X:C.K.In s.heap)(I:W.InstAt s.heap y ox c (some od))
include hc X I
theorem d7n{Q:Option Value->Shared->Prop}(hq:Q (some (.ref c)) {s with toks:=s.toks+1}):wpAny C.m A (getAttr? (.ref y) "__class__") Q E s:=by
 obtain ⟨hh,g,d,t,os⟩:=s;have hc:=C.Y.cls c hc;have L0:=I.type (M:=C.m);have L1:=a8c (M:=C.m) X hc.ga;refine yea hc.cd fun cd hcd _=>?_;have L2:=looks_find (M:=C.m) X I (findObj_data (by refine rE hcd ?_;rfl) hc.cl C.Y.clGet C.Y.clSet);have L3:=a8c (M:=C.m) X hc.hook;unfold getAttr? getAttrBy?;refine m0 (wpAny_mkText (m0 (a9e ?_)));unfold getAttrBy;refine J2 (m0 (L0.at (m0 (L1.at ?_))));show wpAny _ _ (getAttrEveryday _ _ _) _ _ _;refine m0 (a6e (wpAny_runValue (a7f F.plainObj_entry_getattr_hooked ?_)));refine m0 (q0 (m0 (L0.at (m0 (L2.at (m0 (L3.at ?_)))))));show wpAny _ _ (O6 [Value.builtin "object.__class__"] (call (.builtin "getset_descriptor.__get__") [.builtin "object.__class__",.ref y,.ref c]) >>=ret) _ _ _;refine m0 (J2 (U9 (class_get (s:=⟨hh,g,d,t+1,os⟩) X I hc.obj ?_)));exact q0 (handed_on rfl (q0 hq))
theorem e2o{tgt:Value}{dep:Int}{tk:Tok}{Q:Fin->Shared->Prop}(hne:(O2 c==tgt)=false)(ht:Looks C.m s.heap (typeOf tgt) (.type "type"))(hy:Looks C.m s.heap (PySem.isType tgt) true)(hs:subIn C.K (.ref c) tgt=some false)
  (hq:Q (.done (.ret (.bool false))) {s with toks:=s.toks+1}):wpAny C.m A (Builtin.«isinstance.nested» ⟨[.ref y,tgt,.int dep tk],[]⟩) Q E s:=by
 obtain ⟨hh,g,d,tt,os⟩:=s;have L0:=I.type (M:=C.m);have L4:Looks C.m hh (isSubtype (.ref c) tgt) false:=looks_subIn X hs;have L3:Looks C.m hh (isInstance (.ref y) tgt) false:=L0.andThen L4;unfold Builtin.«isinstance.nested»;refine m0 (L0.at ?_);refine rE hne ?_;refine rE (if_neg (by decide)) ?_;refine m0 (ht.at ?_);refine rE (if_pos (by decide)) ?_
 k_delta "plainIsInstance"
 refine m0 (m0 (hy.at ?_));refine rE (if_neg (by decide)) ?_;refine m0 (L3.at ?_);refine rE (if_neg (by decide)) ?_;refine m0 (d7n (s:=⟨hh,g,d,tt,os⟩) hc X I ?_);refine m0 (((C.Y.cls c hc).isType X).at ?_);refine rE (if_neg (by decide)) ?_;refine m0 (a2c (L4.at ?_));exact q0 hq
theorem c8v{tgt:Value}{Q:Value->Shared->Prop}(hne:(O2 c==tgt)=false)(ht:Looks C.m s.heap (typeOf tgt) (.type "type"))(hy:Looks C.m s.heap (PySem.isType tgt) true)(hs:subIn C.K (.ref c) tgt=some false)(hq:Q (.bool false) {s with toks:=s.toks+1}):
  wpAny C.m A (call (.builtin "isinstance") [.ref y,tgt]) Q E s:=call_isinstance_of (e2o hc X I hne ht hy hs hq) (fun e=>nomatch e)
end
noncomputable def a14(σ:St C)(A:Around)(u t:Value)(b:Bool):Prop:=∀ (Q:Value->Shared->Prop) (E:Value->Shared->Prop),(∀tk,Q (.bool b) (σ.tok tk).s)->wpAny C.m A (call (.builtin "isinstance") [u,t]) Q E σ.s
inductive Kd(σ:St C):Value->KD->Prop
 |none:Kd σ .none .none
 |bool (b:Bool):Kd σ (.bool b) .bool
 |int (i:Int) (t:Tok):Kd σ (.int i t) .int
 |str (i:Str) (t:Tok):Kd σ (.str i t) .str
 |tup (a:Addr) (o:Obj):σ.h.get? a=some o->o.cls=.type "tuple"->Kd σ (.ref a) .tup
 |list (a:Addr) (o:Obj):σ.h.get? a=some o->o.cls=.type "list"->Kd σ (.ref a) .list
 |dict (a:Addr) (o:Obj):σ.h.get? a=some o->o.cls=.type "dict"->Kd σ (.ref a) .dict
 |inst (a:Addr) (c:Nat) (ox od:Obj):W.InstAt σ.h a ox c (some od)->Pcls c=true->Kd σ (.ref a) (.inst c)
theorem kd_ok{v:V}{u:Value}{kd:KD}(r:Vr σ v u)(q:c97 v σ.x=some kd):Kd σ u kd:=by
 cases v with
 |none=>cases q;cases r;exact .none
 |bool=>cases q;cases r;exact .bool _
 |int=>cases q;obtain ⟨t,rfl⟩:=r;exact .int _ _
 |str=>cases q;obtain ⟨t,rfl⟩:=r;exact .str _ _
 |tup=>cases q;refine G4 (J5 r) fun t vs n1 zr h1 _=>?_;subst zr;exact .tup _ _ h1 rfl
 |ref i=>
  revert q;refine obE fun o q1 q=>?_;refine rE r.1 ?_;cases o with
  |list=>cases q;refine m7 (σ.at q1) fun _ e1 _ _ _ zs=>?_;subst zs;exact .list _ _ e1 rfl
  |dictI=>cases q;refine yea (σ.at q1) fun _ e1 zt=>?_;refine G3 zt fun _ _ _ zu _=>?_;clear zt;subst zu;exact .dict _ _ e1 rfl
  |dictS=>cases q;refine yea (σ.at q1) fun _ e1 zv=>?_;refine G3 zv fun _ _ _ zw _=>?_;clear zv;subst zw;exact .dict _ _ e1 rfl
  |six=>cases q;refine yea (σ.at q1) fun _ e1 zx=>?_;refine G3 zx fun _ _ _ zy _=>?_;clear zx;subst zy;exact .dict _ _ e1 rfl
  |inst c d=>
   revert q;refine ifE fun h1 q=>?_;revert q;refine obE fun es h2 q=>?_;cases q;refine n5 (St.inst q1 h2) fun ox od l zz=>?_;refine yea zz fun kk I _=>?_;clear zz;exact .inst _ _ _ _ I h1
  |_=>exact D0 q
 |_=>exact D0 q
theorem b1v{a:Addr}{c:Nat}{ox od:Obj}(I:W.InstAt σ.h a ox c (some od))(hc:Pcls c=true){T:String}(hT:T="bool"∨T="int"∨T="list"∨T="dict")(hm:typeOf (.type T)=pure (.type "type")):a14 σ A (.ref a) (.type T) false:=fun Q E z=>
 c8v hc σ.kin I rfl (a4c hm) .now ((C.Y.cls c hc).noB T hT) (z _)
theorem e2j{u:Value}{kd:KD}(h:Kd σ u kd):a14 σ A u (.type "bool") (c8g kd):=by
 cases h with
 |none=>exact fun Q E z=>IsiPair.NoneType_bool (z _)
 |bool=>exact fun Q E z=>IsiPair.bool_bool (z _)
 |int=>exact fun Q E z=>IsiPair.int_bool (z _)
 |str=>exact fun Q E z=>IsiPair.str_bool (z _)
 |tup a o h1 h2=>exact fun Q E z=>IsiPair.tuple_bool h1 h2 (z _)
 |list a o h1 h2=>exact fun Q E z=>IsiPair.list_bool h1 h2 (z _)
 |dict a o h1 h2=>exact fun Q E z=>IsiPair.dict_bool h1 h2 (z _)
 |inst a c ox od I hc=>exact b1v I hc (.inl rfl) F.isi_meta_bool
theorem e2m{u:Value}{kd:KD}(h:Kd σ u kd):a14 σ A u (.type "int") (c8m kd):=by
 cases h with
 |none=>exact fun Q E z=>IsiPair.NoneType_int (z _)
 |bool=>exact fun Q E z=>IsiPair.bool_int (z _)
 |int=>exact fun Q E z=>IsiPair.int_int (z _)
 |str=>exact fun Q E z=>IsiPair.str_int (z _)
 |tup a o h1 h2=>exact fun Q E z=>IsiPair.tuple_int h1 h2 (z _)
 |list a o h1 h2=>exact fun Q E z=>IsiPair.list_int h1 h2 (z _)
 |dict a o h1 h2=>exact fun Q E z=>IsiPair.dict_int h1 h2 (z _)
 |inst a c ox od I hc=>exact b1v I hc (.inr (.inl rfl)) F.isi_meta_int
theorem e2n{u:Value}{kd:KD}(h:Kd σ u kd):a14 σ A u (.type "list") (c8n kd):=by
 cases h with
 |none=>exact fun Q E z=>IsiPair.NoneType_list (z _)
 |bool=>exact fun Q E z=>IsiPair.bool_list (z _)
 |int=>exact fun Q E z=>IsiPair.int_list (z _)
 |str=>exact fun Q E z=>IsiPair.str_list (z _)
 |tup a o h1 h2=>exact fun Q E z=>IsiPair.tuple_list h1 h2 (z _)
 |list a o h1 h2=>exact fun Q E z=>IsiPair.list_list h1 h2 (z _)
 |dict a o h1 h2=>exact fun Q E z=>IsiPair.dict_list h1 h2 (z _)
 |inst a c ox od I hc=>exact b1v I hc (.inr (.inr (.inl rfl))) F.isi_meta_list
theorem e2l{u:Value}{kd:KD}(h:Kd σ u kd):a14 σ A u (.type "dict") (c8l kd):=by
 cases h with
 |none=>exact fun Q E z=>IsiPair.NoneType_dict (z _)
 |bool=>exact fun Q E z=>IsiPair.bool_dict (z _)
 |int=>exact fun Q E z=>IsiPair.int_dict (z _)
 |str=>exact fun Q E z=>IsiPair.str_dict (z _)
 |tup a o h1 h2=>exact fun Q E z=>IsiPair.tuple_dict h1 h2 (z _)
 |list a o h1 h2=>exact fun Q E z=>IsiPair.list_dict h1 h2 (z _)
 |dict a o h1 h2=>exact fun Q E z=>IsiPair.dict_dict h1 h2 (z _)
 |inst a c ox od I hc=>exact b1v I hc (.inr (.inr (.inr rfl))) F.isi_meta_dict
theorem b84{a:Addr}{o:Obj}{T:String}{H:Heap}(h1:H.get? a=some o)(h2:o.cls=.type T)(M:Model):Looks M H (typeOf (.ref a)) (.type T):=by
 have:=(Looks.ld (M:=M) (part:=some headPart) h1).andThen (f:=fun o=>pure o.cls) .now;rw[h2] at this;exact this
theorem e2k{c:Nat}(hC:Pcls c=true){u:Value}{kd:KD}(h:Kd σ u kd):a14 σ A u (.ref c) (c8j c kd):=by
 have H:=C.Y.cls c hC;cases h with
 |none=>exact fun Q E z=>isn_call (P:=fun _=>True) σ.kin (fun M=>a4c rfl) (H.noT "NoneType" (by simp)) (fun q=>nomatch q) trivial none_cls (z _)
 |bool=>exact fun Q E z=>isn_call (P:=fun _=>True) σ.kin (fun M=>a4c rfl) (H.noT "bool" (by simp)) (fun q=>nomatch q) trivial bool_cls (z _)
 |int=>exact fun Q E z=>isn_call (P:=fun _=>True) σ.kin (fun M=>a4c rfl) (H.noT "int" (by simp)) (fun q=>nomatch q) trivial int_cls (z _)
 |str=>exact fun Q E z=>isn_call (P:=fun _=>True) σ.kin (fun M=>a4c rfl) (H.noT "str" (by simp)) (fun q=>nomatch q) trivial str_cls (z _)
 |tup a o h1 h2=>exact fun Q E z=>isn_call (P:=fun hp=>∃o,hp.get? a=some o/\o.cls=.type "tuple") σ.kin (b84 h1 h2) (H.noT "tuple" (by simp)) (fun q=>nomatch q) ⟨_,h1,h2⟩ tuple_cls (z _)
 |list a o h1 h2=>exact fun Q E z=>isn_call (P:=fun hp=>∃o,hp.get? a=some o/\o.cls=.type "list") σ.kin (b84 h1 h2) (H.noT "list" (by simp)) (fun q=>nomatch q) ⟨_,h1,h2⟩ list_cls (z _)
 |dict a o h1 h2=>exact fun Q E z=>isn_call (P:=fun hp=>∃o,hp.get? a=some o/\o.cls=.type "dict") σ.kin (b84 h1 h2) (H.noT "dict" (by simp)) (fun q=>nomatch q) ⟨_,h1,h2⟩ dict_cls (z _)
 |inst a c0 ox od I hc=>
  have hs:=C.Y.sub c0 c hc hC;show a14 σ A _ _ (o0 c0 c);cases hb:o0 c0 c with
  |true=>
   have hin:isIn C.K (.ref c0) c=true:=by
    refine yea H.cd fun cd hcd _=>?_;unfold isIn;refine rE hcd (rE H.typ (rE H.inst (rE hs (rE hb ?_))));simp
   exact fun Q E z=>isi_call σ.kin (fun M=>I.type) hin (fun q=>nomatch q) (z _)
  |false=>
   rw[hb] at hs;exact fun Q E z=>c8v hc σ.kin I (beq_eq_false_iff_ne.mpr fun e=>I7 hb (Z6 e)) (looks_typeIn σ.kin H.typ) (H.isType σ.kin) hs (z _)
theorem e2h{v tgt:V}{u ut:Value}{c:Bool}(r:Vr σ v u)(rt:Vr σ tgt ut)(q:isiA v tgt σ.x=some c):a14 σ A u ut c:=by
 revert q;refine obE fun kd q1 q=>?_;have hk:=kd_ok r q1;cases tgt with
 |bi b=>
  cases rt;cases b with
  |dict=>cases q;exact e2l hk
  |bool=>cases q;exact e2j hk
  |int=>cases q;exact e2m hk
  |list=>cases q;exact e2n hk
  |_=>exact D0 q
 |prog c=>obtain ⟨h1,q⟩:=a1i q;cases q;cases rt;exact e2k h1 hk
 |_=>exact D0 q
end
noncomputable def e2b(e:Expr):Bool:=o0 e.ctorIdx 23
noncomputable def b0e(o:Expr):Bool:=a0u (motive_1:=fun _=>Bool) o (fun _ _ _=>true) (fun _ _ _=>true) (fun _ _ _ _=>true) (fun _ _ _=>true) (fun _ _ _ _=>true) (fun _ _ _ _=>true) (fun _ _ _=>true) (fun _ _ _=>true) (fun _ _ _ _=>true) (fun _ _ _ _=>true) (fun _ _ _ _ _=>true) (fun _ _ _ _=>true)
 (fun _ _=>true) (fun _ _=>true) (fun _ _=>true) (fun _ _ _ _=>true) (fun f a k _=>ifb (w5 a) (!e2b f) true) (fun _ _ _ _=>true) (fun _ _=>true) (fun _ _ _=>true) (fun _ _ _=>true) (fun _ _ _=>true) (fun _ _=>true) (fun _ _=>true) (fun _ _=>true) (fun _ _ _=>true) (fun _ _ _ _=>true)
noncomputable def b7j(v:V)(n:Str)(x:S):Option (Nat×List (Str×V)):=obd (G2 v) fun i=>obd (x.get i) fun o=>O.casesOn (motive:=fun _=>Option (Nat×List (Str×V))) o (fun _=>none) (fun _=>none) (fun _=>none) (fun _=>none) (fun _=>none) (fun _=>none) (fun c d=>ifb (Pplain c n) (obd (x.idict d) fun es=>some (d,es)) none) (fun _=>none) (fun _ _=>none) (fun _ _=>none) (fun _ _ _=>none) (fun _ _ _=>none) (fun _ _=>none) (fun _ _=>none) (fun _ _ _=>none) (fun _ _=>none) fun _=>none
noncomputable def c4l(v:V)(n:Str)(x:S):Option V:=obd (b7j v n x) fun p=>lk p.2 n
noncomputable def setA(v:V)(n:Str)(a:V)(x:S):Res Unit:=nd (b7j v n x) fun p=>ck (U0 p.2.length 1000) <| .ok () (x.put p.1 (.idict (M7 p.2 n a)))
noncomputable def c4m(h:HK)(o:Expr)(n:Str)(e:AE)(x:S):Res V:=ck (b0e o) <| (h.ex o e x).bd fun v x=>lft (c4l v n x) x
noncomputable def b62(l:List (Str×A4)):List (Str×Nat)->S->Res (List (Str×Nat)):=E0 (motive:=fun _=>List (Str×Nat)->S->Res (List (Str×Nat))) (fun acc x=>.ok acc x)
 (fun p _ ih acc x=>a00 (motive:=fun _=>Res (List (Str×Nat))) p.2 (ih acc x) (ck x.ok <|ih ((p.1,x.n)::acc) (x.new (.cell none))) (ih acc x) (ih acc x) (ih acc x)) l
noncomputable def d3j(l:List (Str×V))(e:AE):S->Res Unit:=E0 (motive:=fun _=>S->Res Unit) (fun x=>.ok () x) (fun p _ ih x=>(e9 p.1 p.2 e x).bd fun _ x=>ih x) l
noncomputable def b1o(k:ScopeKind):Bool:=o0 k.ctorIdx 1
noncomputable def fenvB(binds:List (Str×V))(e:AE)(x:S):Res AE:=(d3j binds e x).bd fun _ x=>.ok e x
noncomputable def a4z(scope:Scope)(cl:List (Str×Nat))(binds:List (Str×V))(qual:Str)(func:Option Nat)(code:Value)(x:S):Res AE:=ck x.ok <|ck (b1o scope.kind) <| (b62 scope.names cl (x.new (.ns []))).bd fun cells y=>fenvB binds ⟨scope,x.n,cells,qual,func,code,some x.n⟩ y
theorem c9k{od:Obj}{l:Array G7}{k:Nat}{n:Str}(hd:od.data=.dict l k)(hs:StrKeys l):lookIn n od=some (nsFind l n):=by
 unfold lookIn;refine rE hd ?_;dsimp only;unfold nsFind findBy;refine rF (Array.find?_toList) ?_;cases q:l.toList.find? (fun e=>e.key.isStr n) with
 |some e=>rfl
 |none=>
  have:(l.toList.any fun e=>e.refKey)=false:=by
   rw[List.any_eq_false];intro e he;refine yee (hs e (Array.mem_toList_iff.mp he)) fun m t hk=>?_;unfold G7.refKey;refine rE hk ?_;simp
  simp [this]
theorem b8w{M:Model}{A:Around}{E:Value->Shared->Prop}{s:Shared}{a:Addr}{o:Obj}{l:Array G7}{k:Nat}{n:Str}{v:Value}{Q:Unit->Shared->Prop}(ho:s.heap.get? a=some o)(hd:o.data=.dict l k)(hs:StrKeys l)
  (q:∀h' o' l' k',h'.get? a=some o'->o'.data=.dict l' k'->StrKeys l'->(l'.size<=l.size+if (nsFind l n).isSome then 0 else 1)->(∀y,nsFind l' y=if y=n then some v else nsFind l y)->H6 a s.heap h'->Q () {s with heap:=h',toks:=s.toks+1}):
  wpAny M A (nsSet a n v) Q E s:=by
 obtain ⟨c,d,dt,sl⟩:=o;dsimp only at hd;subst hd;have hany:l.any (·.refKey)=false:=by
  rw[Array.any_eq_false'];intro e he;refine yee (hs e he) fun m t hk=>?_;simp [G7.refKey,hk]
 unfold nsSet strHash;refine m0 (m0 (a3x (q0 (m0 (wpAny_mkText (m0 (c3r ho ?_)))))));simp only[aRefKeyMayBeTheName_eq,aRefKeyMayBeTheNameByArray,hany,Bool.and_false,Bool.false_eq_true,if_false];refine wpAny_updatePart ho ?_;have hf:nsFind l n=match l.findIdx? (fun e=>e.key.isStr n) with|some i=>l[i]?.map (·.val) |none=>none:=findBy_of_findIdx? (fun n v=>v.isStr n) l n
 cases hi:l.findIdx? (fun e=>e.key.isStr n) with
 |some i=>
  rw[hi] at hf;refine q _ _ _ _ (j8 _ ho (by simp only[b58,b57,hi];rfl)) (by simp only[b58,b57,hi];rfl) (hs.modify _ _) ?_ (fun y=>findBy_modify (fun n v=>v.isStr n) Value.isStr_inj l n y v i hi) (I5 ..);refine rE Array.size_modify ?_;exact m4 _ _
 |none=>
  rw[hi] at hf;refine q _ _ _ _ (j8 _ ho (by simp only[b58,b57,hi];rfl)) (by simp only[b58,b57,hi];rfl) (hs.push _ _ _ _) ?_ (fun y=>findBy_push (fun n v=>v.isStr n) l n y _ _ v (fun y=>?_) hi) (I5 ..)
  ·refine rE (Array.size_push ..) (rE hf ?_)
   exact i3 _
  ·show (n==y)=decide (y=n)
   by_cases h:y=n
   ·subst h;simp
   ·have:¬ n=y:=fun e=>h e.symm
    simp [h,this]
theorem c9h(n:Str)(v:V):∀ (l:List (Str×V)),l.length<=(M7 l n v).length/\(M7 l n v).length<=l.length+1/\(lk l n=none->(M7 l n v).length=l.length+1)
 | []=>⟨D5 _,i3 _,fun _=>rfl⟩
 |p::l=>by
  have ih:=c9h n v l;show _<=(ifb (seq p.1 n) ((n,v)::l) (p::M7 l n v)).length/\(ifb (seq p.1 n) ((n,v)::l) (p::M7 l n v)).length<=_/\(ifb (seq p.1 n) (some p.2) (lk l n)=none->(ifb (seq p.1 n) ((n,v)::l) (p::M7 l n v)).length=_);cases seq p.1 n with
  |true=>exact ⟨i3 _,H7 _,fun h=>D0 h.symm⟩
  |false=>exact ⟨a13 ih.1,a13 ih.2.1,fun h=>congrArg Q0 (ih.2.2 h)⟩
section
variable{C:Cx}{A:Around}{σ τ:St C}{k:Nat}{h:HK}{e:AE}{env:Env}
theorem e1c{h:Heap}{ρ:Nat->Addr}{n:Nat}{v:V}{u:Value}(r:VR h ρ n v u):handedIn u=true:=by
 cases v with
 |none=>cases r;rfl
 |bool b=>cases r;rfl
 |int i=>obtain ⟨t,rfl⟩:=r;rfl
 |str i=>obtain ⟨t,rfl⟩:=r;rfl
 |byt i=>obtain ⟨t,rfl⟩:=r;rfl
 |bi b=>cases r;cases b <;>decide+kernel
 |prog a=>cases r;rfl
 |ref i=>refine rE r.1 ?_;rfl
 |tup xs=>refine G4 (J5 r) fun b vs c zz _ _=>?_;subst zz;rfl
theorem b5u{o:Expr}(q:b0e o=true)(n:Str)(env:Env)(whole:Sem Value):attributeBase o n env whole=whole:=by
 cases o with
 |Call f a k p=>
  cases a with
  |nil=>cases f <;>first|rfl|exact T1 q
  |cons=>cases f <;>rfl
 |_=>rfl
theorem c8e{v:V}{n:Str}{p:Nat×List (Str×V)}{u:Value}(r:Vr σ v u)(q:b7j v n σ.x=some p):∃i c,u=.ref (σ.ρ i)/\σ.x.get i=some (.inst c p.1)/\Pplain c n=true/\σ.x.idict p.1=some p.2:=by
 revert q;refine obE fun i h1 q=>?_;revert q;refine obE fun o h2 q=>?_;cases o with
 |inst c d=>
  revert q;refine ifE fun h3 q=>?_;revert q;refine obE fun es h4 q=>?_;cases q;exact ⟨i,c,r.ref h1,h2,h3,h4⟩
 |_=>exact D0 q
theorem d6n{v:V}{u:Value}{n:Str}{b:Bool}(r:Vr σ v u):GoR A (getAttr u n b) σ Vr (lft (c4l v n σ.x) σ.x):=.nd fun a q Q E z=>by
 revert q;refine obE fun p q qa=>?_;refine a3z (c8e r q) fun i c zy q1 hp q2=>?_;subst zy;refine T6 (St.inst q1 q2) fun ox od l kk I _ _ zz=>?_;refine Q5 zz fun hd hs _ hf=>?_;clear zz;obtain ⟨hc,hn⟩:=C.Y.plain _ _ hp;have H:=C.Y.cls _ hc;have hfn:=hf n;rw[qa] at hfn;refine yea hfn fun u hu ru=>?_;clear hfn;refine get_value σ.kin I H.ga (v:=u) ?_ (e1c ru) (A0.tok z ru);refine yea H.cd fun cd hcd hdict=>?_;unfold findObj;refine rE hcd (rE hn ?_);dsimp only[Option.bind];unfold W.ownOf;refine rE hdict ?_;refine rE (if_pos rfl) ?_;dsimp only;refine rE (c9k hd hs) (rE hu ?_);rfl
theorem e9m{v a:V}{u ua:Value}{n:Str}(r:Vr σ v u)(ra:Vr σ a ua):GoR A (setAttr u n ua) σ Ur (setA v n a σ.x):=.nd fun p q=>.ck fun hle Q E z=>by
 refine a3z (c8e r q) fun i c zy q1 hp q2=>?_;subst zy;refine T6 (St.inst q1 q2) fun ox od l kk I hod hgd zz=>?_;refine Q5 zz fun hd hs hsz hf=>?_;clear zz;obtain ⟨hc,hn⟩:=C.Y.plain _ _ hp;have H:=C.Y.cls _ hc;refine set_plain σ.kin I H.sa (osa_open (s:=(σ.tok (σ.s.toks+1)).s) σ.kin I H.over (r:=none) (by unfold takerIn;refine rE hn ?_;rfl) fun b=>?_);refine yea H.cd fun cd hcd hdict=>?_;obtain ⟨hx,hcl,hno,-⟩:=I;obtain ⟨oc,odi,oda,osl⟩:=ox;dsimp only at hcl hod;subst hcl hod;dsimp only;refine m0 (q0 (m0 (m0 (c3r hx (m0 (looks_clsIn (M:=C.m) σ.kin hcd _ _ _ (σ.tok (σ.s.toks+1)).s (fun _ _ e=>e) ?_))))));refine rE hdict ?_;refine q0 (a:=some (σ.ρ p.1)) (m0 (q0 (m0 ?_)));have hb:=c9h n a p.2;refine b8w (s:=(σ.tok (σ.s.toks+1)).s) hgd hd hs fun h' o' l' k' ho' hd' hst' hsz' hfi' hs'=>?_;have hlen:l'.size<=(M7 p.2 n a).length:=by
  have hf':=(hf n).isSome;cases hfn:lk p.2 n with
  |none=>rw[hf',hfn] at hsz';refine rE (hb.2.2 hfn) ?_;exact W0 hsz' (a13 hsz)
  |some b=>rw[hf',hfn] at hsz';exact W0 hsz' (W0 hsz hb.1)
 refine m0 (wpAny_lookBehind ho' (by refine rE hd' ?_;exact pastItsLine_dict (W0 hlen (W0 hb.2.1 (W0 (a13 (d3 hle)) (by refine rE a0l ?_;decide))))) (q0 ?_));have z:A0 σ Ur Q () (σ.x.put p.1 (.idict (M7 p.2 n a))):=z;refine z.put (S.idict_eq q2) hs' ho' (fun ht=>⟨l',k',hd',hst',hlen,fun y=>?_⟩) fun _ _=>trivial
 ·refine rE (b8c ..) (rE (hfi' y) (rE (a22 ..) (rE (z9 ..) ?_)))
  by_cases hy:n=y
  ·refine rE (if_pos hy) (rE (if_pos hy.symm) ?_);exact ⟨ua,rfl,ra.tell (.same ht)⟩
  ·refine rE (if_neg hy) (rE (if_neg (p7 hy)) ?_);exact (hf y).map fun _ _=>VR.tell (.same ht)
theorem d6m(H:HOk C k h)(rm:F0 k A)(He:Er σ e env){o:Expr}{n:Str}{pos:Pos}:GoR A (eval (.Attribute o n pos) env) σ Vr (c4m h o n e σ.x):=.ck fun q Q E z=>by
 refine rE (arm_eval_Attribute ..) ?_;rw[b5u q];exact m0 ((H.ex rm He o).use z fun v u τ X r z=>m0 (H5 (m0 (J2 (d6n r _ _ (Res.All_mono (fun b x z v υ e Y r=>m0 (wpAny_letTemporaryGo (q0 (z v υ e (X.trans Y) r)))) z))))))
noncomputable def Cr(σ:St C)(cl:List (Str×Nat))(cs:List (Str×Addr)):Prop:=cs=cl.map (fun c=>(c.1,σ.ρ c.2))/\∀c∈cl,c.2 < σ.x.n
theorem Le.cr(X:Le σ τ){cl:List (Str×Nat)}{cs:List (Str×Addr)}(h:Cr σ cl cs):Cr τ cl cs:=
 ⟨h.1.trans (a49 fun c hc=>congrArg (Prod.mk c.1) (X.X.agree _ (h.2 c hc)).symm),fun c hc=>H3 (h.2 c hc) X.le⟩
theorem b0k(f:Str×A4->List (Str×Addr)->Sem (ForInStep (List (Str×Addr))))
  (hf:∀name kind cells,f (name,kind) cells=if kind==.cell then (do let a<-alloc {cls:=.type "cell",data:=.cell none};pure (.yield ((name,a)::cells))) else pure (.yield cells)):
  ∀ (names:List (Str×A4)) (acc:List (Str×Nat)) (cs:List (Str×Addr)) (σ:St C),Cr σ acc cs->GoR A (forIn names cs f) σ Cr (b62 names acc σ.x)
 | [],acc,cs,σ,hc=>fun Q E z=>by
  refine rE a2i ?_;exact q0 (A0.here z hc)
 | (name,kind)::r,acc,cs,σ,hc=>fun Q E z=>by
  refine rE (n7 ..) (rE (hf ..) ?_);cases kind with
  |cell=>
   revert z;refine ckE fun hx z=>?_;refine rE (if_pos (by rfl)) ?_;refine m0 (m0 (b4d (q0 ?_)));refine W4 (St.new_k (σ:=σ) (o:=.cell none) (ob:={cls:=.type "cell",data:=.cell none}) σ.s.toks hx rfl (fun _=>⟨none,rfl,rfl⟩)) fun τ e1 e2 X r1=>?_;have hc':=X.cr hc;have e3:τ.ρ σ.x.n=σ.h.objs.size:=(Z6 r1.1).symm;rw[<-e2] at z;have e1':{σ.s with heap:=σ.h.push {cls:=.type "cell",data:=.cell none}}=τ.s:=e1;refine rE e1' ?_;refine (b0k f hf r ((name,σ.x.n)::acc) _ τ ⟨?_,fun c hm=>?_⟩).fin X z
   ·exact rE I8 (rE hc'.1 (rE e3 rfl))
   ·rcases O0.mp hm with rfl|hm
    ·exact r1.2
    ·exact hc'.2 c hm
  |_=>
   refine rE (if_neg (by decide)) ?_;exact m0 (q0 (b0k f hf r acc cs σ hc _ _ z))
theorem d3k(f:Str×Value->PUnit->Sem (ForInStep PUnit))(hf:∀n v u,f (n,v) u=(do storeName env n v;pure (.yield ⟨⟩))):
  ∀ (binds:List (Str×V)) (us:List (Str×Value)) (σ:St C),Er σ e env->All2 (F5 σ.h σ.ρ σ.x.n) binds us->GoR A (forIn us ⟨⟩ f) σ Ur (d3j binds e σ.x)
 | [],us,σ,He,hr=>fun Q E z=>by
  cases hr;refine rE a2i ?_;exact q0 (A0.here z trivial)
 | (n,v)::l,us,σ,He,hr=>fun Q E z=>by
  cases hr with
  | @cons _ b _ us h1 h2=>
   obtain ⟨n',u⟩:=b;obtain ⟨rfl,hu⟩:n'=n/\Vr σ v u:=h1;refine rE (n7 ..) (rE (hf ..) ?_);exact m0 (m0 ((a65 He hu).use z fun _ _ τ X _ z=>q0 ((d3k f hf l us τ (X.env He) (h2.mono fun a b r=>⟨r.1,X.v r.2⟩)).fin X z)))
theorem a82{k:ScopeKind}(h:b1o k=true):k=.function:=by cases k <;>first|rfl|exact T1 h
theorem c7j{scope:Scope}{cl:List (Str×Nat)}{cs:List (Str×Addr)}{binds:List (Str×V)}{us:List (Str×Value)}{qual:Str}{func:Option Nat}{code:Value}(hcl:Cr σ cl cs)(hr:All2 (F5 σ.h σ.ρ σ.x.n) binds us):
  GoR A (b2s scope V3 cs us qual func code none builtinsNs) σ Er (a4z scope cl binds qual func code σ.x):=.ck fun hx=>.ck fun hk Q E z=>by
 unfold b2s;refine rE (if_neg (by decide)) ?_;refine m0 (b4d ?_);refine W4 (St.new_k (σ:=σ) (o:=.ns []) (ob:={cls:=.type "frame",data:=.dict #[]}) σ.s.toks hx rfl (fun _=>⟨#[],0,rfl,fun e he=>absurd he (a6j e),fun y _ e=>D0 e⟩)) fun τ e1 e2 X r1=>?_;have e1':{σ.s with heap:=σ.h.push {cls:=.type "frame",data:=.dict #[]}}=τ.s:=e1;refine rE e1' ?_;rw[<-e2] at z;refine m0 ((b0k _ (fun _ _ _=>rfl) _ cl _ τ (X.cr hcl)).use z fun cells cs' υ Y hc z=>?_);have r2:=Y.v r1;have He:Er υ ⟨scope,σ.x.n,cells,qual,func,code,some σ.x.n⟩ {scope:=scope,locals:=σ.h.objs.size,globals:=V3,cells:=cs',qual:=qual,func:=func,code:=code,frame:=some σ.h.objs.size,builtins:=builtinsNs}:=
  ⟨by refine rE hc.1 ?_;unfold AE.env;exact rF (Z6 r2.1) (rE (b59 ..) (rF (Z6 r2.1) rfl)),r2.2,hc.2,fun i hi=>C0 hi▸r2.2,a82 hk⟩
 exact m0 ((d3k _ (fun _ _ _=>rfl) binds us υ He (hr.mono fun a b r=>⟨r.1,Y.v (X.v r.2)⟩)).use z fun _ _ φ Z _ z=>q0 (z _ φ rfl ((X.trans Y).trans Z) (Z.env He)))
end
noncomputable def a2t(fi:FI)(vs:List V):Option (List (Str×V)):=ifb (o0 vs.length fi.params.length) (some (fi.params.zip vs)) (obd fi.dflt fun d=>ifb (o0 (Q0 vs.length) fi.params.length) (some (fi.params.zip (vs++[d]))) none)
noncomputable def retV(f:FL)(x:S):Res V:=FL.casesOn (motive:=fun _=>Res V) f (.ok .none x) .fail .fail (fun v=>.ok v x)
noncomputable def b0i(h:HK)(a:Nat)(fi:FI)(vs:List V)(x:S):Res V:=nd (a2t fi vs) fun bs=>(a4z fi.scope [] bs (fi.qual++ ".<locals>.") (some a) fi.code x).bd fun e x=>(h.sts fi.body e x).bd retV
noncomputable def c53(h:HK)(c f:Nat)(vs:List V)(x:S):Res V:=nd (Pfn f) fun fi=>ck x.ok <|ck (x.new (.idict [])).ok <| (b0i h f fi (.ref (Q0 x.n)::vs) ((x.new (.idict [])).new (.inst c x.n))).bd fun v y=>ck (a29 v) <| .ok (.ref (Q0 x.n)) y
structure n8(k:Nat)(A:Around):Prop where
 handled:A.handled=none
 depth:A.depth+2 * k+1<=998
 units:A.units+3+10 * k<=9800
theorem F0.space{k:Nat}{A:Around}(r:F0 (k+1) A):n8 k A:=⟨r.handled,W0 (by refine rE (a2m ..) ?_;exact m4 _ 1) r.depth,W0 (by refine rE (a2m ..) ?_;exact k8 (by refine rE (Nat.mul_add ..) (rE (a2n ..) ?_);exact k8 (by decide) _) _) r.units⟩
theorem F0.space1{k:Nat}{A:Around}(r:F0 (k+1) A)(c:Addr)(us:List Value):n8 k (A.under (.builtin "type.__call__" ⟨.ref c::us,[]⟩)):=
 ⟨r.handled,by have:=r.depth;show A.depth+1+2 * k+1<=998;omega,by have:=r.units;show A.units+1+3+10 * k<=9800;omega⟩
theorem n8.deeper{k:Nat}{A:Around}(r:n8 k A)(env:Env):F0 k (A.deeper env):=⟨r.handled,by have:=r.depth;show A.depth+1+2 * k<=998;omega,by have:=r.units;show A.units+3+10 * k<=9800;omega⟩
section
variable{C:Cx}{A:Around}{σ τ:St C}{k:Nat}{h:HK}{vs:List V}{us:List Value}
theorem c3v{H:Heap}{ρ:Nat->Addr}{n:Nat}:∀ (names:List Str) {vs:List V} {us:List Value},VRl H ρ n vs us->All2 (F5 H ρ n) (names.zip vs) (names.zip us)
 | [],_,_,_=>.nil
 |m::names,_,_,.nil=>.nil
 |m::names,_,_,.cons h1 h2=>.cons ⟨rfl,h1⟩ (c3v names h2)
theorem c4s{fi:FI}{fd:FuncData}{a:Nat}(F:FnOk C.K a fi fd){bs:List (Str×V)}(q:a2t fi vs=some bs)(r:Vrs σ vs us):∃us',BindsTo σ.s fd ⟨us,[]⟩ us'/\All2 (F5 σ.h σ.ρ σ.x.n) bs us':=by
 unfold a2t at q;cases hl:o0 vs.length fi.params.length with
 |true=>
  rw[hl] at q;cases q;exact ⟨_,kp_binds σ.kin (F.bind us (VRl.len r▸V1 hl)),c3v _ r⟩
 |false=>
  rw[hl] at q;revert q;refine obE fun d hd q=>?_;revert q;refine ifE fun hl q=>?_;cases q;refine yea (F.one d hd) fun ud hu hone=>?_;exact ⟨_,kp_binds σ.kin (hone us (VRl.len r▸V1 hl)),c3v _ (r.append (.one (hu _ _ _)))⟩
theorem c7r(H:HOk C k h)(rm:n8 k A){a:Nat}{fi:FI}(hf:Pfn a=some fi)(r:Vrs σ vs us){R:Result->Shared->Prop}(z:(b0i h a fi vs σ.x).All (A0 σ Vr fun v s'=>R (.ok (.ret v)) s')):c5 C.m A (.call (.ref a) ⟨us,[]⟩) R σ.s:=by
 obtain ⟨fd,F⟩:=C.Y.fn a fi hf;refine yea F.at_ fun o ho hod=>?_;revert z;refine ndE fun bs hbs z=>?_;refine yea (c4s F hbs r) fun us' hB hr=>?_;refine codeAny_call_function (Z3 (W0 (m4 _ _) (W0 (m4 _ _) rm.depth)) (show 998 < 1000 by decide)) (σ.kin _ _ ho) hod F.co F.gen F.body (codeRec_of σ.kin F.rec_) (hB _ _ _ _ ?_);refine rE F.scope (rE F.globals (rE F.closure (rE F.qual (rE F.code (rE F.builtins ?_)))));refine (c7j (cl:=[]) ⟨rfl,fun c hc=>nomatch hc⟩ hr).use z fun e env τ X He z=>⟨C.Y.lim.keeps τ.D.keep,codeAny_func ((H.sts (rm.deeper _) He fi.body).use z fun f v υ Z rf z=>?_)⟩;cases f with
 |ret v'=>refine yea rf fun u zz ru=>?_;clear rf;subst zz;exact z u υ rfl (X.trans Z) ru
 |next=>cases rf;exact z .none υ rfl (X.trans Z) rfl
 |_=>exact z.elim
theorem e0w(H:HOk C k h)(rm:n8 k A){a:Nat}{fi:FI}(hf:Pfn a=some fi)(r:Vrs σ vs us):GoR A (p5 (.ref a) us) σ Vr (b0i h a fi vs σ.x):=fun Q E z=>
 U9 (c7r H rm hf r (R:=fun r s'=>match r with| .ok (.ret v)=>Q v s'| .ok _=>False| .error e=>E e s') z)
theorem e4p(H:HOk C k h)(rm:F0 (k+1) A){c f:Nat}(hi:Pinit c=some f)(r:Vrs σ vs us):GoR A (p5 (.ref c) us) σ Vr (c53 h c f vs σ.x):=.nd fun fi hf=>.ck fun hx1=>.ck fun hx2 Q E z=>by
 refine yaa (C.Y.init c f hi) fun hc hi1 hi2=>?_;have G:=C.Y.cls c hc;refine U9 (make_core (makes_of σ.kin G.makes) (a8c σ.kin hi1) (fun self=>bind_fn σ.kin self hi2) (.inl rfl) ?_);refine W4 (St.new_k (σ:=σ) (o:=.idict []) (ob:=y9) σ.s.toks hx1 rfl (fun _=>⟨#[],0,rfl,fun e he=>absurd he (a6j e),i3 _,fun y=>rfl⟩)) fun τ e1 e2 X r1=>?_;have hτ:τ.h=σ.h.push y9:=(congrArg a6y e1).symm;have hρ:τ.ρ σ.x.n=σ.h.objs.size:=(Z6 r1.1).symm;rw[<-e2] at hx2 z;have hn:τ.x.n=Q0 σ.x.n:=by refine rE e2 ?_;rfl
 obtain ⟨υ,e3,e4,Y,r2⟩:=St.new_k (σ:=τ) (o:=.inst c σ.x.n) (ob:=instObj c σ.h.objs.size) τ.s.toks hx2 rfl (fun X'=>by
  have:_=τ.ρ σ.x.n:=X'.agree _ r1.2;exact ⟨⟨rfl,a9x r1.2⟩,by exact rE this (rE hρ rfl)⟩)
 rw[<-e4,hn.symm] at z;have hs:τ.h.objs.size=σ.h.objs.size+1:=by exact rE hτ (rE (a6l ..) rfl)
 rw[hs] at r2;have e5:{σ.s with heap:=(σ.h.push y9).push (instObj c σ.h.objs.size)}=υ.s:=by exact rF e3 (rE hτ (rF e1 rfl))
 refine rE e5 ?_;refine c7r H (rm.space1 c us) hf (.cons r2 (Y.vs (X.vs r))) (Res.All_mono (fun v y z1 u φ e6 Z r'=>?_) ((Res.All_bd _ _ _).mp z));revert z1;refine ckE fun hv z1=>?_;rw[V.none_eq hv] at r';cases r';exact ⟨rfl,z1 _ φ e6 ((X.trans Y).trans Z) (Z.v r2)⟩
end
section
open PySem.W.Z (eqB eqB_iff ltB ltB_iff)
noncomputable def b1q(e:Expr):Bool:=o0 e.ctorIdx 23
noncomputable def a38(e:Expr):Bool:=o0 e.ctorIdx 25
noncomputable def c8(e:Expr):Option Bool:=ifb (b1q e) (some false) (ifb (a38 e) (some true) none)
noncomputable def c8t(v:V):Bool:=V.casesOn (motive_1:=fun _=>Bool) v false (fun _=>false) (fun _=>false) (fun _=>false) (fun _=>false) (fun _=>false) (fun _=>false) (fun _=>false) (fun _=>true)
noncomputable def d0p(o:O):Option (Nat×Nat):=O.casesOn (motive:=fun _=>Option (Nat×Nat)) o (fun _=>none) (fun _=>none) (fun _=>none) (fun _=>none) (fun _=>none) (fun _=>none) (fun _ _=>none) (fun _=>none) (fun l i=>some (l,i)) (fun _ _=>none) (fun _ _ _=>none) (fun _ _ _=>none) (fun _ _=>none) (fun _ _=>none) (fun _ _ _=>none) (fun _ _=>none) fun _=>none
noncomputable def b2w(o:Option V)(r:Res (Option V))(f:V->Res (Option V)):Res (Option V):=K0 (motive:=fun _=>Res (Option V)) r f o
noncomputable def nxL(tup:Bool)(j l i:Nat)(x:S):Res (Option V):=nd (x.list l) fun xs=>b2w (nth xs i) (.ok none (x.del j)) fun v=>ck (ifb tup (c8t v) true) <| .ok (some v) (x.put j (.liter l (i+1)))
noncomputable def nxT(tup:Bool)(j:Nat)(xs:List V)(i:Nat)(x:S):Res (Option V):=ck (!tup) <|b2w (nth xs i) (.ok none (x.del j)) fun v=>.ok (some v) (x.put j (.titer xs (i+1)))
noncomputable def nxR(tup:Bool)(j:Nat)(a left step:Int)(x:S):Res (Option V):=ck (!tup) <|ifb (ltB 0 left) (.ok (some (.int a)) (x.put j (.riter (a+step) (left - 1) step))) (.ok none (x.del j))
noncomputable def nxV(tup:Bool)(j l:Nat)(i:Int)(x:S):Res (Option V):=ck (!tup) <|nd (x.list l) fun xs=>W9 (motive:=fun _=>Res (Option V)) i (fun m=>nd (nth xs m) fun v=>.ok (some v) (x.put j (.rev l (i - 1)))) fun m=>ck (o0 m 0) <| .ok none (x.del j)
noncomputable def nxE(tup:Bool)(j it:Nat)(i:Int)(x:S):Res (Option V):=ck tup <|nd (obd (x.get it) d0p) fun p=>ck (eqB i (.ofNat p.2)) <|nd (x.list p.1) fun xs=>b2w (nth xs p.2) (.ok none (x.del it)) fun v=>.ok (some (.tup [.int i,v])) ((x.put it (.liter p.1 (p.2+1))).put j (.enum it (i+1)))
noncomputable def b8p(tup:Bool)(it:V)(x:S):Res (Option V):=nd (G2 it) fun j=>nd (x.get j) fun o=>O.casesOn (motive:=fun _=>Res (Option V)) o (fun _=>.fail) (fun _=>.fail) (fun _=>.fail) (fun _=>.fail) (fun _=>.fail) (fun _=>.fail) (fun _ _=>.fail) (fun _=>.fail)
 (fun l i=>nxL tup j l i x) (fun xs i=>nxT tup j xs i x) (fun a l s=>nxR tup j a l s x) (fun _ _ _=>.fail) (fun it i=>nxE tup j it i x) (fun l i=>nxV tup j l i x) (fun _ _ _=>.fail) (fun _ _=>.fail) fun _=>.fail
noncomputable def c3i(f:FL)(r:Res FL)(x:S):Res FL:=FL.casesOn (motive:=fun _=>Res FL) f r (.ok .next x) r (fun v=>.ok (.ret v) x)
noncomputable def forX(h:HK)(tgt:Expr)(it:V)(body:List Stmt)(e:AE)(x:S):Res FL:=nd (c8 tgt) fun tup=>(b8p tup it x).bd fun o x=>K0 (motive:=fun _=>Res FL) (.ok .next x) (fun v=>(h.asg tgt e v x).bd fun _ x=>(h.sts body e x).bd fun f x=>c3i f (h.forL tgt it body e x) x) o
noncomputable def whlX(h:HK)(test:Expr)(body:List Stmt)(e:AE)(x:S):Res FL:=(h.tr test e x).bd fun b x=>ifb b ((h.sts body e x).bd fun f x=>c3i f (h.whl test body e x) x) (.ok .next x)
noncomputable def a85(v:V)(x:S):Res V:=V.casesOn (motive_1:=fun _=>Res V) v .fail (fun _=>.fail) (fun _=>.fail) (fun _=>.fail) (fun _=>.fail) (fun _=>.fail) (fun _=>.fail)
 (fun i=>nd (x.get i) fun o=>O.casesOn (motive:=fun _=>Res V) o (fun _=>ck x.ok <| .ok (.ref x.n) (x.new (.liter i 0))) (fun _=>.fail) (fun _=>.fail) (fun _=>.fail) (fun _=>.fail) (fun _=>.fail) (fun _ _=>.fail) (fun _=>.fail)
  (fun _ _=>.ok v x) (fun _ _=>.ok v x) (fun _ _ _=>.ok v x) (fun a b c=>ck x.ok <|ck (Builtin.Range.small a b c) <| .ok (.ref x.n) (x.new (.riter a (Builtin.Range.rangeSize a b c) c))) (fun _ _=>.ok v x) (fun _ _=>.ok v x) (fun _ _ _=>.fail) (fun _ _=>.fail) fun _=>.fail)
 (fun xs=>ck x.ok <| .ok (.ref x.n) (x.new (.titer xs 0)))
section
variable{C:Cx}{A:Around}{σ τ:St C}{k:Nat}{h:HK}{e:AE}{env:Env}{tgt:Expr}
theorem b43(h:c8 tgt=some false)(a b:Value):b2e tgt a b=pure ():=by
 unfold c8 at h;cases h1:b1q tgt with
 |true=>exact Expr.Name.elim (motive_1:=fun t=>b2e t a b=pure ()) tgt (V1 h1) fun _ _=>rfl
 |false=>
  rw[h1] at h;cases h2:a38 tgt with
  |true=>rw[h2] at h;cases h
  |false=>rw[h2] at h;exact D0 h
theorem e2f(h:a38 tgt=true):∃l c p,tgt=.Tuple l c p:=Expr.Tuple.elim (motive_1:=fun t=>∃l c p,t=.Tuple l c p) tgt (V1 h) fun l c p=>⟨l,c,p,rfl⟩
theorem d47(h:c8 tgt=some true):∃l c p,tgt=.Tuple l c p:=by
 unfold c8 at h;cases h1:b1q tgt with
 |true=>rw[h1] at h;cases h
 |false=>
  rw[h1] at h;exact e2f (a1i h).1
theorem e2g{v:V}(h:c8t v=true):∃xs,v=.tup xs:=by cases v <;>first|exact ⟨_,rfl⟩ |exact T1 h
noncomputable def a4g(σ:St C)(A:Around)(tgt:Expr)(uit:Value)(P:Option V->S->Prop):Prop:=∀ {Qn:Shared->Prop} {Qs:Value->Shared->Prop} {E:Value->Shared->Prop},(∀τ:St C,Le σ τ->P none τ.x->Qn τ.s)->(∀v u (τ:St C),Le σ τ->Vr τ v u->P (some v) τ.x->Qs u τ.s)->
 wpAny C.m A (pyNext uit) (fun r s₁=>match r with|none=>Qn s₁|some u=>wpAny C.m A (b2e tgt uit u) (fun _ s₂=>Qs u s₂) E s₁) E σ.s
variable{P:Option V->S->Prop}
theorem a84{xs:List V}{vs:List Value}(r:Vrs σ xs vs){i:Nat}{v:V}(q:nth xs i=some v):∃u,vs.toArray[i]? =some u/\Vr σ v u:=by
 rw[Q6] at q;refine yea (All2.at r q) fun u h1 h2=>?_;exact ⟨u,(a2j ..).trans h1,h2⟩
theorem b7u{xs:List V}{vs:List Value}(r:Vrs σ xs vs){i:Nat}(q:nth xs i=none):vs.toArray[i]? =none:=by
 rw[Q6,List.getElem?_eq_none_iff] at q;rw[Array.getElem?_eq_none_iff];refine rE p6 (rE (VRl.len r) ?_);exact q
theorem b95{o:Option V}{r:Res (Option V)}{f:V->Res (Option V)}{T:Prop}(z:(b2w o r f).All P)(h1:o=none->r.All P->T)(h2:∀v,o=some v->(f v).All P->T):T:=by
 cases o with
 |none=>exact h1 rfl z
 |some v=>exact h2 v rfl z
variable(hh:A.handled=none){tup:Bool}(ht:c8 tgt=some tup)
include hh
theorem e5c(ht:c8 tgt=some tup){j l i:Nat}(q:σ.x.get j=some (.liter l i))(z:(nxL tup j l i σ.x).All P):a4g σ A tgt (.ref (σ.ρ j)) P:=by
 intro Qn Qs E hn hs;revert z;refine ndE fun xs ql z=>?_;refine a9i (σ.at q) fun oj ej hc a hd hl=>?_;obtain rfl:=Z6 hl.1;refine B1 (St.list ql) fun vs n1 el r1=>?_;have hit:σ.h.IsListIter (σ.ρ j) (σ.ρ l) i:=⟨oj,ej,hc,hd⟩;have hil:σ.h.IsList (σ.ρ l) vs.toArray:=⟨_,el,rfl,_,rfl⟩;refine b95 z (fun qv z=>?_) fun v qv z=>?_
 ·refine wpAny_pyNext_list_end hh hit hil (b7u r1 qv) fun h' hs'=>?_
  refine R0 (St.del_k (tk:=σ.s.toks) q hs') fun τ e1 e2 X=>?_;exact (show {σ.s with heap:=h'}=τ.s from e1)▸hn τ X (e2▸z)
 ·revert z
  refine ckE fun hb z=>?_;refine yea (a84 r1 qv) fun u hu ru=>?_;refine wpAny_pyNext_list_item hit hil hu fun h' hit' hs'=>?_;refine R0 hit' fun o' eo' hc' hd'=>?_;clear hit';refine R0 (St.put_k (o:=.liter l (i+1)) (ob:=o') (tk:=σ.s.toks) q hs' eo' fun _=>⟨hc',_,hd',hl⟩) fun τ e1 e2 X=>?_;have e1:{σ.s with heap:=h'}=τ.s:=e1;have go:Qs u τ.s:=hs v u τ X (X.v ru) (e2▸z);cases tup with
  |true=>
   refine n5 (d47 ht) fun tl tc tp zy=>?_;subst zy;obtain ⟨ys,rfl⟩:=e2g hb;refine G4 (J5 ru) fun b ws c zz hb1 hb2=>?_;subst zz;exact wpAny_letOwnedTupleGo_listiter (s:={σ.s with heap:=h'}) ⟨o',eo',hc',hd'⟩ (e1.symm▸go)
  |false=>exact A5 (b43 ht _ _) (e1.symm▸go)
theorem e5e(ht:c8 tgt=some tup){j i:Nat}{xs:List V}(q:σ.x.get j=some (.titer xs i))(z:(nxT tup j xs i σ.x).All P):a4g σ A tgt (.ref (σ.ρ j)) P:=by
 intro Qn Qs E hn hs;revert z;refine ckE fun hb z=>?_;rw[(n6 _).mp hb] at ht;refine R0 (σ.at q) fun oj ej hc zz=>?_;refine G4 zz fun b vs n1 hd hb1 r1=>?_;clear zz;have hit:σ.h.IsTupleIter (σ.ρ j) b i:=⟨oj,ej,hc,hd⟩;have hil:σ.h.IsTuple b vs.toArray:=⟨_,hb1,rfl,_,rfl⟩;refine b95 z (fun qv z=>?_) fun v qv z=>?_
 ·refine wpAny_pyNext_tuple_end hh hit hil (b7u r1 qv) fun h' hs'=>?_
  refine R0 (St.del_k (tk:=σ.s.toks) q hs') fun τ e1 e2 X=>?_;exact (show {σ.s with heap:=h'}=τ.s from e1)▸hn τ X (e2▸z)
 ·refine yea (a84 r1 qv) fun u hu ru=>?_
  refine wpAny_pyNext_tuple_item hit hil hu fun h' hit' hs'=>?_;refine R0 hit' fun o' eo' hc' hd'=>?_;clear hit';refine R0 (St.put_k (o:=.titer xs (i+1)) (ob:=o') (tk:=σ.s.toks) q hs' eo' fun ht=>⟨hc',b,vs,n1,hd',ht _ _ _ hb1,r1.mono fun _ _ r=>r.tell (.same ht)⟩) fun τ e1 e2 X=>?_;exact A5 (b43 ht _ _) ((show {σ.s with heap:=h'}=τ.s from e1)▸hs v u τ X (X.v ru) (e2▸z))
theorem e5d(ht:c8 tgt=some tup){j:Nat}{a left step:Int}(q:σ.x.get j=some (.riter a left step))(z:(nxR tup j a left step σ.x).All P):a4g σ A tgt (.ref (σ.ρ j)) P:=by
 intro Qn Qs E hn hs;revert z;refine ckE fun hb z=>?_;rw[(n6 _).mp hb] at ht;refine yea (σ.at q) fun oj ej zz=>?_;subst zz;cases hlt:ltB 0 left with
 |true=>
  rw[hlt] at z;refine wpAny_pyNext_range_item ej ((ltB_iff _ _).mp hlt) fun h' he' hs'=>?_;refine R0 (St.put_k (o:=.riter (a+step) (left - 1) step) (tk:=σ.s.toks+1) q hs' he' fun _=>rfl) fun τ e1 e2 X=>?_;exact A5 (b43 ht _ _) ((show {σ.s with heap:=h',toks:=σ.s.toks+1}=τ.s from e1)▸hs (.int a) _ τ X ⟨_,rfl⟩ (e2▸z))
 |false=>
  rw[hlt] at z;rw[b8h] at hlt;refine wpAny_pyNext_range_end hh ej (Int.not_lt.mp (of_decide_eq_false hlt)) fun h' hs'=>?_;refine R0 (St.del_k (tk:=σ.s.toks) q hs') fun τ e1 e2 X=>?_;exact (show {σ.s with heap:=h'}=τ.s from e1)▸hn τ X (e2▸z)
theorem e5f(ht:c8 tgt=some tup){j l:Nat}{i:Int}(q:σ.x.get j=some (.rev l i))(z:(nxV tup j l i σ.x).All P):a4g σ A tgt (.ref (σ.ρ j)) P:=by
 intro Qn Qs E hn hs;revert z;refine ckE fun hb z=>?_;rw[(n6 _).mp hb] at ht;revert z;refine ndE fun xs ql z=>?_;refine a9i (σ.at q) fun oj ej hc a hd hl=>?_;obtain rfl:=Z6 hl.1;refine B1 (St.list ql) fun vs n1 el r1=>?_;have hil:σ.h.IsList (σ.ρ l) vs.toArray:=⟨_,el,rfl,_,rfl⟩;cases i with
 |ofNat m=>
  revert z;refine ndE fun v qv z=>?_;refine yea (a84 r1 qv) fun u hu ru=>?_;refine wpAny_pyNext_rev_item (i:=m) ⟨oj,ej,hc,hd⟩ hil hu fun h' hit' hs'=>?_;refine R0 hit' fun o' eo' hc' hd'=>?_;clear hit';refine R0 (St.put_k (o:=.rev l (.ofNat m - 1)) (ob:=o') (tk:=σ.s.toks) q hs' eo' fun _=>⟨hc',_,hd',hl⟩) fun τ e1 e2 X=>?_;exact A5 (b43 ht _ _) ((show {σ.s with heap:=h'}=τ.s from e1)▸hs v u τ X (X.v ru) (e2▸z))
 |negSucc m=>
  revert z;refine ckE fun hm z=>?_;obtain rfl:m=0:=V1 hm;refine wpAny_pyNext_rev_end hh ⟨oj,ej,hc,hd⟩ fun h' hs'=>?_;refine R0 (St.del_k (tk:=σ.s.toks) q hs') fun τ e1 e2 X=>?_;exact (show {σ.s with heap:=h'}=τ.s from e1)▸hn τ X (e2▸z)
omit hh in
theorem O.liter_eq{o:O}{p:Nat×Nat}(h:d0p o=some p):o=.liter p.1 p.2:=by cases o <;>first|exact D0 h| (cases h;rfl)
theorem e5b(ht:c8 tgt=some tup){j it:Nat}{i:Int}(q:σ.x.get j=some (.enum it i))(z:(nxE tup j it i σ.x).All P):a4g σ A tgt (.ref (σ.ρ j)) P:=by
 intro Qn Qs E hn hs;revert z;refine ckE fun hb z=>?_;rw[hb] at ht;refine n5 (d47 ht) fun tl tc tp zy=>?_;subst zy;revert z;refine ndE fun eq_ h1 z=>?_;obtain ⟨l,m⟩:=eq_;revert z;refine ckE fun hm z=>?_;revert z;refine ndE fun xs ql z=>?_;revert h1;refine obE fun o qi ho=>?_;rw[O.liter_eq ho] at qi;obtain rfl:i=(m:Int):=(eqB_iff _ _).mp hm;refine m7 (σ.at q) fun oj ej a old zz hlt=>?_;subst zz;obtain rfl:=Z6 hlt.1;refine a9i (σ.at qi) fun oi ei hc a hd hl=>?_;obtain rfl:=Z6 hl.1;refine B1 (St.list ql) fun vs n1 el r1=>?_;have hit:σ.h.IsListIter (σ.ρ it) (σ.ρ l) m:=⟨oi,ei,hc,hd⟩;have hil:σ.h.IsList (σ.ρ l) vs.toArray:=⟨_,el,rfl,_,rfl⟩;have hρ:σ.ρ j≠σ.ρ it:=fun e=>by rw[σ.D.inj _ _ _ _ q qi e,qi] at q;cases q
 refine b95 z (fun qv z=>?_) fun v qv z=>?_
 ·refine wpAny_pyNext_enum_end hh ej hit hil (b7u r1 qv) fun h' hs'=>?_
  refine R0 (St.del_k (tk:=σ.s.toks) qi hs') fun τ e1 e2 X=>?_;exact (show {σ.s with heap:=h'}=τ.s from e1)▸hn τ X (e2▸z)
 ·refine yea (a84 r1 qv) fun u hu ru=>?_
  refine wpAny_pyNext_enum_item ej hit hil hu hρ fun h' he' hit' hT hsz hk=>?_;refine wpAny_letOwnedTupleGo_enum (s:={σ.s with heap:=h',toks:=σ.s.toks+1}) he' fun h2 he2 hs2=>?_;refine R0 hit' fun oi' ei' hci hdi=>?_;clear hit';have hTj:σ.h.objs.size≠σ.ρ j:=fun e=>absurd (K3 ej) (e▸a01 _);refine W4 (St.put2_k (h':=h2) (σ.s.toks+1) (o:=.liter l (m+1)) (o':=.enum it ((m:Int)+1)) qi q (fun b o h1 h3 e=>(hs2.2 b h3).trans (hk b o h3 h1 e)) ((hs2.2 _ (p7 hρ)).trans ei') he2 (fun _=>⟨hci,_,hdi,hl⟩) (fun _=>⟨_,_,rfl,hlt⟩)) fun τ e1 e2 e3 X=>?_;have g:=hs (.tup [.int m,v]) (.ref σ.h.objs.size) τ X (a6z (vs:=[.int m σ.s.toks,u]) (k:=0) (e3▸(hs2.2 _ hTj).trans hT) (.cons ⟨_,rfl⟩ (.cons (X.v ru) .nil))) (e2▸z);rw[<-e1] at g;exact g
theorem d08(ht:c8 tgt=some tup){it:V}{uit:Value}(r:Vr σ it uit)(z:(b8p tup it σ.x).All P):a4g σ A tgt uit P:=by
 revert z;refine ndE fun j h1 z=>?_;revert z;refine ndE fun o q z=>?_;rw[r.ref h1];cases o with
 |liter l i=>exact e5c hh ht q z
 |titer xs i=>exact e5e hh ht q z
 |riter a l s=>exact e5d hh ht q z
 |enum it i=>exact e5b hh ht q z
 |rev l i=>exact e5f hh ht q z
 |_=>exact z.elim
end
end
section
open PySem.W.Z (eqB eqB_iff ltB ltB_iff)
noncomputable def idxA(k:Int)(n:Nat):Option Nat:=W9 (motive:=fun _=>Option Nat) k (fun m=>ifb (J0 m n) (some m) none) (fun m=>ifb (J0 m n) (some (n - 1 - m)) none)
noncomputable def idxV(xs:List V)(i:V):Option V:=obd (J3 i) fun k=>ifb (fits xs) (obd (idxA k xs.length) (nth xs)) none
noncomputable def a51(o i:V)(x:S):Option V:=V.casesOn (motive_1:=fun _=>Option V) o none (fun _=>none) (fun _=>none) (fun _=>none) (fun _=>none) (fun _=>none) (fun _=>none) (fun j=>obd (x.get j) fun o=>K0 (motive:=fun _=>Option V) (obd (a59 o i) id) (fun xs=>idxV xs i) (V8 o)) (fun xs=>idxV xs i)
noncomputable def d2w(o i v:V)(x:S):Res Unit:=nd (G2 o) fun j=>nd (x.get j) fun o=>K0 (motive:=fun _=>Res Unit) (nd (a59 o i) fun _=>nd (a3s o i v) fun o'=>.ok () (x.put j o'))
 (fun xs=>nd (J3 i) fun k=>W9 (motive:=fun _=>Res Unit) k (fun m=>ck (fits xs) <|ck (J0 m xs.length) <| .ok () (x.put j (.list (c0i xs m v)))) fun _=>.fail) (V8 o)
noncomputable def b1s(e:Expr):Bool:=o0 e.ctorIdx 26
noncomputable def d36(e:Expr):Option (Expr×Expr):=a0u (motive_1:=fun _=>Option (Expr×Expr)) e (fun _ _ _=>none) (fun _ _ _=>none) (fun _ _ _ _=>none) (fun _ _ _=>none) (fun _ _ _ _=>none) (fun _ _ _ _=>none) (fun _ _ _=>none) (fun _ _ _=>none) (fun _ _ _ _=>none) (fun _ _ _ _=>none) (fun _ _ _ _ _=>none) (fun _ _ _ _=>none)
 (fun _ _=>none) (fun _ _=>none) (fun _ _=>none) (fun _ _ _ _=>none) (fun _ _ _ _=>none) (fun _ _ _ _=>none) (fun _ _=>none) (fun _ _ _=>none) (fun _ _ _=>none) (fun _ _ _=>none) (fun _ _=>none) (fun _ _=>none) (fun _ _=>none) (fun _ _ _=>none) (fun lo hi st _=>obd lo fun lo=>obd hi fun hi=>K0 (motive:=fun _=>Option (Expr×Expr)) (some (lo,hi)) (fun _=>none) st)
noncomputable def a1n(v:V):Option Nat:=obd (J3 v) fun k=>W9 (motive:=fun _=>Option Nat) k some fun _=>none
noncomputable def f08(h:HK)(o:Expr)(s:Expr×Expr)(e:AE)(x:S):Res V:=ck (b1q o) <| (h.ex o e x).bd fun v x=>(h.ex s.1 e x).bd fun a x=>(h.ex s.2 e x).bd fun b x=>nd (G2 v) fun j=>nd (x.list j) fun xs=>nd (a1n a) fun p=>nd (a1n b) fun q=>
 ck (fits xs) <|ck (U0 p q) <|ck (U0 q xs.length) <|ck x.ok <| .ok (.ref x.n) (x.new (.list ((xs.drop p).take (q - p))))
noncomputable def subX(h:HK)(o i:Expr)(e:AE)(x:S):Res V:=ifb (b1s i) (nd (d36 i) fun s=>f08 h o s e x) ((h.ex o e x).bd fun v x=>(h.ex i e x).bd fun u x=>lft (a51 v u x) x)
section
variable{C:Cx}{A:Around}{σ τ:St C}{k:Nat}{h:HK}{e:AE}{env:Env}
theorem a86{v:V}{u:Value}(r:Vr σ v u):GoR A (pyIter u) σ Vr (a85 v σ.x):=by
 cases v with
 |tup xs=>
   refine .ck fun hx Q E z=>?_;refine G4 (J5 r) fun b vs n1 zt h1 h2=>?_;subst zt;exact wpAny_pyIter_tuple ⟨_,h1,rfl,_,rfl⟩ (A0.new z hx rfl fun X=>⟨rfl,b,vs,n1,rfl,X.tups _ _ _ h1,h2.mono fun _ _=>VR.tell X.tell⟩)
 |ref i=>
   refine .nd fun o qi=>?_;have hi:=r.2;refine rE r.1 ?_;have rr:Vr σ (.ref i) (.ref (σ.ρ i)):=⟨rfl,hi⟩;cases o with
   |list xs=>
    refine .ck fun hx Q E z=>?_;refine m7 (σ.at qi) fun ob e1 vs n1 r1 zu=>?_;subst zu;exact wpAny_pyIter_list ⟨_,e1,rfl,_,rfl⟩ (A0.new z hx rfl fun X=>⟨rfl,_,rfl,X.tell.ref i i _ rfl rr⟩)
   |range a b c=>
    refine .ck fun hx=>.ck fun hs Q E z=>?_;refine yea (σ.at qi) fun ob e1 zv=>?_;refine n5 zv fun t1 t2 t3 zw=>?_;clear zv;subst zw;exact wpAny_pyIter_range e1 hs (A0.new z hx rfl fun X=>rfl)
   |liter=>exact fun Q E z=>by refine a9i (σ.at qi) fun oj ej hc a hd hl=>?_;exact wpAny_pyIter_listiter ⟨oj,ej,hc,hd⟩ (A0.here z rr)
   |rev=>exact fun Q E z=>by refine a9i (σ.at qi) fun oj ej hc a hd hl=>?_;exact wpAny_pyIter_revIter ⟨oj,ej,hc,hd⟩ (A0.here z rr)
   |enum=>exact fun Q E z=>by refine m7 (σ.at qi) fun oj ej a old zx hl=>?_;subst zx;exact wpAny_pyIter_enum ej (A0.here z rr)
   |titer=>exact fun Q E z=>by refine R0 (σ.at qi) fun oj ej hc zy=>?_;refine G3 zy fun b vs n1 hd _=>?_;clear zy;exact wpAny_pyIter_tupleiter ⟨oj,ej,hc,hd⟩ (A0.here z rr)
   |riter=>exact fun Q E z=>by refine yea (σ.at qi) fun oj ej zz=>?_;subst zz;exact wpAny_pyIter_rangeiter ej (A0.here z rr)
   |_=>exact .fail
 |_=>exact .fail
noncomputable def s8(_:Value)(_:Shared):Prop:=False
theorem a0r{α:Type}{M:Model}{t:Sem α}{s:Shared}{Q Q':α->Shared->Prop}{E:Value->Shared->Prop}(h:wpAny M A t Q s8 s)(k:∀v s,Q v s->Q' v s):wpAny M A t Q' E s:=F7 h k fun _ _ f=>f.elim
noncomputable def b4l(M:Model)(A:Around)(R:Result->Shared->Prop)(c:Code)(f:Flow)(s:Shared):Prop:=match f with
 | .next| .cont=>c5 M A c R s
 | .brk=>R (.ok .next) s
 | .ret v=>R (.ok (.ret v)) s
theorem e12{s:Shared}{tgt:Expr}{it:Value}{body:List Stmt}{R:Result->Shared->Prop}
  (turn:wpAny C.m A (pyNext it) (fun r s₁=>match r with
   |none=>R (.ok .next) s₁
   |some v=>wpAny C.m A (b2e tgt it v) (fun _ s₁'=>wpAny C.m A (assign tgt env v) (fun _ s₂=>wpAny C.m A (execs body env) (b4l C.m A R (.forLoop tgt it body [] env)) s8 s₂) s8 s₁') s8 s₁) s8 s):c5 C.m A (.forLoop tgt it body [] env) R s:=by
 refine a2v ?_;show wpAny _ A ((forTurn tgt it body [] env).onRaise (fun x=>do noteFrame x env;theTreesLotGoes x)) _ _ s;refine a6e ?_;unfold forTurn;refine m0 (H5 (m0 (a6e (a0r turn fun r s₁ h₁=>?_))));cases r with
 |none=>exact q0 ⟨rfl,codeAny_block (c3o h₁)⟩
 |some v=>exact m0 (a0r h₁ fun _ s₁' h₁'=>m0 (a0r h₁' fun _ s₂ h₂=>m0 (a0r h₂ fun f s₃ h₃=>by cases f <;>first|exact q0 h₃|exact q0 ⟨rfl,h₃⟩)))
theorem f29{s:Shared}{test:Expr}{body:List Stmt}{R:Result->Shared->Prop}
  (turn:wpAny C.m A (isTrue test env (eval test env)) (fun b s₂=>match b with
   |true=>wpAny C.m A (execs body env) (b4l C.m A R (.whileLoop test body [] env)) s8 s₂
   |false=>R (.ok .next) s₂) s8 s):c5 C.m A (.whileLoop test body [] env) R s:=by
 refine a2v ?_;show wpAny _ A ((whileTurn test body [] env).onRaise (fun x=>do noteFrame x env;theTreesLotGoes x)) _ _ s;refine a6e ?_;unfold whileTurn;refine m0 (a0r turn fun b s₂ h₂=>?_);cases b with
 |false=>exact m0 (c3o (q0 h₂))
 |true=>exact m0 (a0r h₂ fun f s₃ h₃=>by cases f <;>first|exact q0 h₃|exact q0 ⟨rfl,h₃⟩)
theorem d4m{c:Code}{R:Result->Shared->Prop}{f:FL}{fl:Flow}{r:Res FL}(X:Le σ τ)(rf:Fr τ f fl)(hc:GoC A c τ Fr r)(z:(c3i f r τ.x).All (A0 σ Fr fun f s'=>R (.ok f) s')):b4l C.m A R c fl τ.s:=by
 cases f with
 |next=>cases rf;exact hc R (Res.All_mono (fun _ _ z=>z.up X) z)
 |cont=>cases rf;exact hc R (Res.All_mono (fun _ _ z=>z.up X) z)
 |brk=>cases rf;exact z .next τ rfl X rfl
 |ret v'=>refine yea rf fun u' zz ru'=>?_;clear rf;subst zz;exact z _ τ rfl X ⟨_,rfl,ru'⟩
theorem e11(H:HOk C k h)(rm:F0 k A)(He:Er σ e env){tgt:Expr}{it:V}{uit:Value}{body:List Stmt}(r:Vr σ it uit):GoC A (.forLoop tgt uit body [] env) σ Fr (forX h tgt it body e σ.x):=fun R z=>by
 revert z;refine ndE fun tup ht z=>?_;refine e12 (d08 rm.handled ht r ((Res.All_bd _ _ _).mp z) (fun τ X z=>z .next τ rfl X rfl) fun v u τ X ru z=>?_);refine (H.asg rm (X.env He) tgt ru).use z fun _ _ υ Y _ z=>?_;have X2:=X.trans Y;exact (H.sts rm (X2.env He) body).use z fun f fl φ Z rf z=>d4m (X2.trans Z) rf (H.forL rm ((X2.trans Z).env He) tgt body ((X2.trans Z).v r)) z
theorem f2a(H:HOk C k h)(rm:F0 k A)(He:Er σ e env){test:Expr}{body:List Stmt}:GoC A (.whileLoop test body [] env) σ Fr (whlX h test body e σ.x):=fun R z=>
 f29 ((H.tr rm He test).use z fun b vb τ X r1 z=>by
  cases r1;cases b with
  |false=>exact z .next τ rfl X rfl
  |true=>exact (H.sts rm (X.env He) body).use z fun f fl φ Z rf z=>d4m (X.trans Z) rf (H.whl rm ((X.trans Z).env He) test body) z)
theorem d2q{k:Int}{n m:Nat}(e:(if k < 0 then k+n else k)=(m:Int))(h:m < n):seqIndex? k n=some m:=by
 unfold seqIndex?;dsimp only;refine rE e (rE (decide_eq_true (a9n m)) (rE (decide_eq_true (Int.ofNat_lt.mpr h)) ?_));rfl
theorem e1r{k:Int}{n m:Nat}(hn:n<=1000)(q:idxA k n=some m):seqIndex? k n=some m/\ -(2 ^ 63)<=k/\k < 2 ^ 63/\(k < 0-> -(n:Int)<=k/\(k+n).toNat=m)/\(0<=k->k.toNat=m):=by
 cases k with
 |ofNat j=>
  revert q;refine ifE fun h1 h2=>?_;obtain rfl:=C0 h2;have h:=B4 h1;have p:=Int.not_lt.mpr (a9n j);exact ⟨d2q (if_neg p) h,a2g (by decide) (a9n j),Int.lt_of_lt_of_le (Int.ofNat_lt.mpr h) (a2g (a9o.mpr hn) (by decide)),fun h=>absurd h p,fun _=>rfl⟩
 |negSucc j=>
  revert q;refine ifE fun h1 h2=>?_;obtain rfl:=C0 h2;have h:=B4 h1;have p:=Int.negSucc_lt_zero j;have e:Int.negSucc j+(n:Int)=((n - 1 - j:Nat):Int):=(Int.subNatNat_of_le h).trans (by exact rE (Nat.sub_sub ..) (rE (a2n 1 j) rfl));have l:∀b:Nat,j+1<=b-> -(b:Int)<=Int.negSucc j:=fun b hb=>Int.neg_le_neg (a9o.mpr hb);exact ⟨d2q ((if_pos p).trans e) (by refine rE (Nat.sub_sub ..) (rE (a2n 1 j) ?_);exact Nat.sub_lt (Z3 (D5 _) h) (q9 _)),a2g (by decide) (l 1000 (W0 h hn)),Int.lt_trans p (by decide),fun _=>⟨l n h,by refine rE e ?_;rfl⟩,fun h=>absurd p (Int.not_lt.mpr h)⟩
theorem c87{xs:List V}{vs:List Value}{i v:V}{ui:Value}(r:Vrs σ xs vs)(ri:Vr σ i ui)(q:idxV xs i=some v):∃k t m u,ui=.int k t/\vs.toArray[m]? =some u/\Vr σ v u/\seqIndex? k vs.toArray.size=some m/\ -(2 ^ 63)<=k/\k < 2 ^ 63/\(k < 0-> -(vs.toArray.size:Int)<=k/\(k+vs.toArray.size).toNat=m)/\(0<=k->k.toNat=m):=by
 revert q;refine obE fun k h1 q=>?_;revert q;refine ifE fun hf q=>?_;revert q;refine obE fun m hm q=>?_;obtain ⟨t,zz⟩:=ri.int h1;subst zz;refine yea (a84 r q) fun u hu ru=>?_;have:=e1r (d3 hf) hm;rw[<-VRl.len r,<-p6] at this;exact ⟨k,t,m,u,rfl,hu,ru,this⟩
theorem e19(rm:F0 k A){o i v:V}{u ui:Value}(r:Vr σ o u)(ri:Vr σ i ui)(q:a51 o i σ.x=some v):GoR A (getItem u ui) σ Vr (.ok v σ.x)/\∃T id,σ.s.TypeIs u T/\typeLookup (.type T) "__getitem__"=pure (some (.builtin id)):=by
 cases o with
 |tup xs=>
  refine G4 (J5 r) fun b vs n1 zs h1 h2=>?_;subst zs;refine T6 (c87 h2 ri q) fun k t m w zu hw rw zt=>?_;refine Q5 zt fun hs l1 l2 _=>?_;clear zt;subst zu;exact ⟨fun Q E z=>PySem.P.getItem_tuple (n:=n1) h1 l1 l2 hs hw (A0.here z rw),"tuple",_,⟨_,h1,rfl⟩,PySem.F.slot_tuple_getitem.lookup⟩
 |ref j=>
  revert q;refine obE fun o qj q=>?_;refine rE r.1 ?_;cases ho:V8 o with
  |some xs=>
   rw[ho] at q;rw[O.list_eq ho] at qj;refine m7 (σ.at qj) fun ob e1 vs n1 r1 zv=>?_;subst zv;refine T6 (c87 r1 ri q) fun k t m w zy hw rw zx=>?_;refine Q5 zx fun hs l1 l2 zw=>?_;clear zx;obtain ⟨l3,l4⟩:=zw;subst zy;refine ⟨fun Q E z=>?_,"list",_,⟨_,e1,rfl⟩,slot_list_getitem.lookup⟩;by_cases hk:0<=k
   ·exact wpAny_getItem_list ⟨_,e1,rfl,_,rfl⟩ hk l2 (l4 hk▸hw) (A0.here z rw)
   ·obtain ⟨l5,l6⟩:=l3 (Int.not_le.mp hk)
    exact wpAny_getItem_list_neg ⟨_,e1,rfl,_,rfl⟩ (Int.not_le.mp hk) l5 l1 (l6▸hw) (A0.here z rw)
  |none=>
   rw[ho] at q;revert q;refine obE fun r' hr q=>?_;obtain rfl:r'=some v:=q;cases St.dk qj ri hr with
   |flat knd kk kvs hk _ hd hr=>refine yea hr fun w hw rw=>?_;clear hr;exact ⟨fun Q E z=>wpAny_getItem_of hk hd.mapOf hw (A0.tok z rw),"dict",_,hd.typeIs,slot_dict_getitem.lookup⟩
   |pair b js xs eb hk hd hr=>
    subst eb;refine yea hr fun w hw rw=>?_;clear hr;refine yea (a05.mp hw) fun p hp zz=>?_;subst zz;exact ⟨fun Q E z=>wpAny_getItem_heap rm.six hk.is hd hp (A0.tok z rw),"dict",_,hd.typeIs,slot_dict_getitem.lookup⟩
 |_=>exact D0 q
theorem e9h{prog:W6}{w:World}{s:Shared}{l:Addr}{items:Array Value}{n:Nat}{kk:Int}{t:Tok}{v:Value}{Q:Unit->Shared->Prop}{E:Value->Shared->Prop}(ho:s.heap.get? l=some ⟨.type "list",none,.seq items n,#[]⟩)(h0:0<=kk)(hn:kk < items.size)(hf:kk<=1000)
  (hQ:∀h' n',h'.get? l=some ⟨.type "list",none,.seq (items.setIfInBounds kk.toNat v) n',#[]⟩->H6 l s.heap h'->Q () {s with heap:=h'}):
  wpAny (model prog w) A (setItem (.ref l) (.int kk t) v) Q E s:=by
 have hl:s.heap.IsList l items:=⟨_,ho,rfl,_,rfl⟩;have hfit:kk < 2 ^ 63:=by omega
 unfold setItem;refine J2 (m0 (wpAny_sequenceKey hl.typeIs (by decide) ?_));refine m0 (b4e (name:=N0 "__setitem__") hl.typeIs slot_list_setitem (G8 slot_list_setitem hl.typeIs entry_list_setitem ?_ (args_list_setitem _ _ _)));show wpAny _ _ (Builtin.List.listSubscript? (.int kk t) >>=_) _ _ s;refine m0 (wpAny_listSubscript_int (fitsIndex_of h0 hfit) ?_);clear hfit hf;obtain ⟨j,zz⟩:=Int.eq_ofNat_of_zero_le h0;subst zz;have hj:j < items.size:=by omega
 have hx':items[j]? =some items[j]:=a6h hj;show wpAny _ _ ((seqItemAt l j >>=fun r=>pure (r.map (j,·))) >>=_) _ _ s;refine m0 (m0 (wpAny_seqItemAt ho rfl (q0 ?_)));refine rE hx' ?_;show wpAny _ _ (setSeqItemAt l j v >>=_) _ _ s;refine m0 (wpAny_setSeqItemAt ho rfl ?_);have z:=hQ (s.heap.update l (J6 (·.setIfInBounds j v))) _ (j8 (J6 (·.setIfInBounds j v)) ho rfl) (I5 ..);first
  |exact m0 (q0 (q0 ⟨.none,rfl,q0 z⟩))
  |exact q0 ⟨.none,rfl,q0 z⟩
theorem d72{α:Type}{k:V}{r:α}(h:a78 k (fun _=>none) (fun _=>none) (fun _=>none)=some r):False:=by
 cases k with
 |tup ks=>refine yea (W7 (show obd (B9 ks) (fun _=>none)=some r from h)) fun _ _ h=>?_;exact D0 h
 |_=>exact D0 h
theorem b3q{o o':O}{k v:V}(h:a3s o k v=some o'):g7 o=false:=by
 cases o with
 |code i=>exact (d72 (show a78 k (fun _=>none) (fun _=>none) (fun _=>none)=some o' from h)).elim
 |_=>rfl
theorem e9i(rm:F0 k A){o i v:V}{uo ui u:Value}(ro:Vr σ o uo)(ri:Vr σ i ui)(rv:Vr σ v u):GoR A (setItem uo ui u) σ Ur (d2w o i v σ.x):=.nd fun j h1=>.nd fun o qj=>by
 refine rE (ro.ref h1) ?_;cases ho:V8 o with
 |none=>
   refine .nd fun r hr=>.nd fun o' hq Q E z=>?_;cases St.dk qj ri hr with
   |flat knd kk kvs hk _ hd hr st=>
    obtain ⟨hl,st⟩:=st v o' u hq rv;exact wpAny_setItem_pairs hk hd (fun h' hd' hs'=>A0.set z qj (fun b o q e=>(hs'.2 b q).trans e) (fun o2 e2=>C0 e2▸(G3 hd' fun o3 l3 ep3 ho3 _=>⟨o3,ho3,fun ht=>yea (st h' ht hd') fun ob g1 g2=>C0 (ho3.symm.trans g1)▸g2⟩)) (fun _ _=>trivial) (.inl (b3q hq))) (M4 (W0 hl (by decide)))
   |pair b js xs eb hk hd hr st=>
    subst eb;obtain ⟨hl,st⟩:=st v o' u hq rv;exact wpAny_setItem_heap rm.six hk.is hd (fun h' hd' hs'=>A0.set z qj (fun b o q e=>(hs'.2 b q).trans e) (fun o2 e2=>C0 e2▸(G3 hd' fun o3 l3 ep3 ho3 _=>⟨o3,ho3,fun ht=>yea (st h' ht hd') fun ob g1 g2=>C0 (ho3.symm.trans g1)▸g2⟩)) (fun _ _=>trivial) (.inl (b3q hq))) (M4 (W0 hl (by decide)))
 |some xs=>
   refine .nd fun kk hk=>?_;obtain ⟨t,zy⟩:=ri.int hk;subst zy;rw[O.list_eq ho] at qj;cases kk with
   |negSucc=>exact .fail
   |ofNat m=>
    refine .ck fun hf=>.ck fun hm Q E z=>?_;refine m7 (σ.at qj) fun ob e1 vs n1 r1 zz=>?_;subst zz;have hm:=B4 hm;rw[<-VRl.len r1] at hm;have hf:=s5 hf r1;refine e9h e1 (by simp only[b4t];omega) (by refine rE p6 ?_;simp only[b4t];omega) (by simp only[b4t];omega) fun h' n' he hs=>A0.put z qj hs he (fun ht=>?_) fun _ _=>trivial;refine rE (c0j ..) ?_;exact ⟨vs.set m u,n',(All2.set r1 m rv).mono fun _ _ r=>r.tell (.same ht),by refine rE (List.setIfInBounds_toArray ..) ?_;rfl⟩
theorem e2e{i:Expr}(q:b1s i=false)(u v:Value):subscripted i false u v=operate [u,v] (getItem u v):=by cases i <;>first|rfl|exact T1 q
theorem f07{i:Expr}{s:Expr×Expr}(q:d36 i=some s):∃p,i=.Slice (some s.1) (some s.2) none p:=by
 cases i with
 |Slice lo hi st p=>
  revert q;refine obE fun lo eq_ q=>?_;subst eq_;revert q;refine obE fun hi eq_ q=>?_;subst eq_;cases st with
  |none=>cases q;exact ⟨p,rfl⟩
  |some=>exact D0 q
 |_=>exact D0 q
theorem d02{v:V}{n:Nat}(q:a1n v=some n):v=.int (.ofNat n):=by
 revert q;refine obE fun i h1 q=>?_;refine rE (V.int_eq h1) ?_;cases i with
 |ofNat m=>cases q;rfl
 |negSucc=>exact D0 q
theorem d3s(H:HOk C k h)(rm:F0 k A)(He:Er σ e env){o i:Expr}{pos:Pos}:GoR A (eval (.Subscript o i pos) env) σ Vr (subX h o i e σ.x):=by
 unfold subX;cases hi:b1s i with
 |true=>
   refine .nd fun s hs=>.ck fun hnm Q E z=>?_;obtain ⟨pp,zx⟩:=f07 hs;subst zx;have hgo:∀a b,letTemporaryGo o a b=pure ():=fun a b=>Expr.Name.elim (motive_1:=fun t=>letTemporaryGo t a b=pure ()) o (V1 hnm) fun _ _=>rfl;refine wpAny_Subscript_Slice (T:="list") (id:="list.__getitem__") slot_list_getitem.lookup ((H.ex rm He o).use z fun v u τ X r1 z=>wpAny_Slice (wpAny_evalPart_some ((H.ex rm (X.env He) s.1).use z fun a ua υ Y r2 z=>wpAny_evalPart_some ((H.ex rm ((X.trans Y).env He) s.2).use z fun b ub φ Z r3 z=>wpAny_evalPart_none ?_)))) hgo;revert z;refine ndE fun j h1 z=>?_;revert z;refine ndE fun xs qj z=>?_;revert z;refine ndE fun p h2 z=>?_;revert z;refine ndE fun q h3 z=>?_;revert z;refine ckE fun hf z=>?_;revert z;refine ckE fun p1 z=>?_;revert z;refine ckE fun p2 z=>?_;revert z;refine ckE fun hx z=>?_;have r1:=Z.v (Y.v r1);refine rE (r1.ref h1) ?_;obtain ⟨ta,zy⟩:=(d02 h2▸Z.v r2:Vr φ (.int (.ofNat p)) ua);subst zy;obtain ⟨tb,zz⟩:=(d02 h3▸r3:Vr φ (.int (.ofNat q)) ub);subst zz;refine B1 (St.list qj) fun vs n1 e1 rl=>?_;have p1:=d3 p1;have p2:q<=vs.length:=VRl.len rl▸d3 p2;have hsz:=s5 hf rl;refine ⟨⟨_,V2 _ e1,rfl⟩,?_⟩;refine wpAny_getItem_list_slice (items:=vs.toArray) (lo:=some (.ofNat p)) (hi:=some (.ofNat q)) (st:=none) ⟨_,V2 _ e1,rfl,_,rfl⟩ (Heap.IsSliceOf.new _ _ _ _) (.int _ _) (.int _ _) .none (by simp) ?_ (M4 (W0 hsz (by decide)));refine rE (show slicePick vs.toArray (some (.ofNat p)) (some (.ofNat q)) none=((vs.drop p).take (q - p)).toArray from slicePick_run vs.toArray p q p2 p1) ?_;refine R0 (St.grow_k (σ:=φ) (h':=φ.h.push {cls:=.type "slice",data:=.fields #[.int (.ofNat p) ta,.int (.ofNat q) tb,.none]}) φ.s.toks fun b o e=>V2 _ e) fun ψ e5 e6 W=>?_;have e7:φ.h.push {cls:=.type "slice",data:=.fields #[.int (.ofNat p) ta,.int (.ofNat q) tb,.none]}=ψ.h:=congrArg a6y e5;have e8:{φ.s with heap:=φ.h.push {cls:=.type "slice",data:=.fields #[.int (.ofNat p) ta,.int (.ofNat q) tb,.none]}}=ψ.s:=e5;rw[<-e6] at z hx;have g:=A0.newL (A0.up (((X.trans Y).trans Z).trans W) z) hx ((W.vs rl).drop p |>.take (q - p)) (tk:=φ.s.toks) (c:=0);rw[<-e8,<-e7] at g;exact g
 |false=>
   refine fun Q E z=>?_;refine rE (arm_eval_Subscript ..) ?_;refine m0 ((H.ex rm He o).use z fun v u τ X r1 z=>m0 (J2 ((H.ex rm (X.env He) i).use z fun a ua υ Y r2 z=>?_)));revert z;refine ndE fun b q1 z=>?_;refine l7 (e19 rm (Y.v r1) r2 q1) fun hg T id hT hl=>?_;refine m0 (H5 (m0 ?_));unfold getitemInPython;refine m0 (c3s hT hl (q0 ?_));rw[e2e hi];exact m0 (wpAny_operateT (hg _ _ fun r φ e6 Z r3=>m0 (wpAny_letTemporaryGo (q0 (z r φ e6 ((X.trans Y).trans Z) r3)))))
end
end
noncomputable def noStar(l:List Expr):Bool:=E0 (motive:=fun _=>Bool) true (fun a _ ih=>ifb (j7 a) false ih) l
noncomputable def c4g(h:HK)(l:List Expr):List V->AE->S->Res Unit:=E0 (motive:=fun _=>List V->AE->S->Res Unit) (fun _ _ x=>.ok () x)
 (fun t _ ih vs e x=>Y2 (motive:=fun _=>Res Unit) vs .fail fun v vs=>(h.asg t e v x).bd fun _ x=>ih vs e x) l
noncomputable def asgT(h:HK)(ts:List Expr)(e:AE)(v:V)(x:S):Res Unit:=nd (d8 v) fun vs=>ck (o0 ts.length vs.length) <|ck (noStar ts) <|c4g h ts vs e x
noncomputable def asgX(h:HK)(t:Expr)(e:AE)(v:V)(x:S):Res Unit:=a0u (motive_1:=fun _=>HK->AE->V->S->Res Unit) t (fun _ _ _ _ _ _ _=>.fail) (fun _ _ _ _ _ _ _=>.fail) (fun _ _ _ _ _ _ _ _=>.fail)
 (fun _ _ _ _ _ _ _=>.fail) (fun _ _ _ _ _ _ _ _=>.fail) (fun _ _ _ _ _ _ _ _=>.fail) (fun _ _ _ _ _ _ _=>.fail) (fun _ _ _ _ _ _ _=>.fail) (fun _ _ _ _ _ _ _ _=>.fail) (fun _ _ _ _ _ _ _ _=>.fail) (fun _ _ _ _ _ _ _ _ _=>.fail) (fun _ _ _ _ _ _ _ _=>.fail)
 (fun _ _ _ _ _ _=>.fail) (fun _ _ _ _ _ _=>.fail) (fun _ _ _ _ _ _=>.fail) (fun _ _ _ _ _ _ _ _=>.fail) (fun _ _ _ _ _ _ _ _=>.fail) (fun _ _ _ _ _ _ _ _=>.fail) (fun _ _ _ _ _ _=>.fail) (fun _ _ _ _ _ _ _=>.fail)
 (fun o n _ h e v x=>(h.ex o e x).bd fun ov x=>setA ov n v x)
 (fun o i _ h e v x=>ck (!b1s i) <| (h.ex o e x).bd fun ov x=>(h.ex i e x).bd fun iv x=>d2w ov iv v x) (fun _ _ _ _ _ _=>.fail)
 (fun n _ _ e v x=>e9 n v e x) (fun _ _ _ _ _ _=>.fail) (fun ts _ _ h e v x=>asgT h ts e v x) (fun _ _ _ _ _ _ _ _=>.fail) h e v x
noncomputable def d45(h:HK)(l:List Expr):AE->S->Res Bool:=E0 (motive:=fun _=>AE->S->Res Bool) (fun _ x=>.ok true x) (fun c _ ih e x=>(h.tr c e x).bd fun b x=>ifb b (ih e x) (.ok false x)) l
noncomputable def appA(acc v:V)(x:S):Res Unit:=nd (G2 acc) fun j=>nd (x.list j) fun xs=>ck (fits xs) <| .ok () (x.put j (.list (xs++[v])))
noncomputable def b1e(e:Expr):Option (Expr×List i8×Scope):=a0u (motive_1:=fun _=>Option (Expr×List i8×Scope)) e (fun _ _ _=>none) (fun _ _ _=>none) (fun _ _ _ _=>none) (fun _ _ _=>none) (fun _ _ _ _=>none) (fun _ _ _ _=>none) (fun _ _ _=>none) (fun _ _ _=>none) (fun elt gens sc _=>some (elt,gens,sc)) (fun _ _ _ _=>none) (fun _ _ _ _ _=>none) (fun _ _ _ _=>none)
 (fun _ _=>none) (fun _ _=>none) (fun _ _=>none) (fun _ _ _ _=>none) (fun _ _ _ _=>none) (fun _ _ _ _=>none) (fun _ _=>none) (fun _ _ _=>none) (fun _ _ _=>none) (fun _ _ _=>none) (fun _ _=>none) (fun _ _=>none) (fun _ _=>none) (fun _ _ _=>none) (fun _ _ _ _=>none)
noncomputable def b3l(v:V)(x:S):Bool:=K0 (motive:=fun _=>Bool) false (fun o=>O.casesOn (motive:=fun _=>Bool) o (fun _=>false) (fun _=>false) (fun _=>false) (fun _=>false) (fun _=>false) (fun _=>false) (fun _ _=>false) (fun _=>false) (fun _ _=>true) (fun _ _=>true) (fun _ _ _=>true) (fun _ _ _=>false) (fun _ _=>true) (fun _ _=>true) (fun _ _ _=>false) (fun _ _=>false) fun _=>false) (obd (G2 v) fun i=>x.get i)
noncomputable def b1r(e:Expr):Bool:=o0 e.ctorIdx 7
noncomputable def gS(g:i8):Bool:=o0 g.is_async.natAbs 0
noncomputable def b66(h:HK)(ce:Expr)(p:Expr×List i8×Scope)(depth:Nat)(it acc:V)(e:AE)(x:S):Res Unit:=K0 (motive:=fun _=>Res Unit) ((h.ex p.1 e x).bd fun v x=>(appA acc v x).bd fun _ x=>h.cmpL ce depth it acc e x)
 (fun g'=>ck (!b1r g'.iter) <|ck (gS g') <| (h.ex g'.iter e x).bd fun u x=>(a85 u x).bd fun it' x=>ck (b3l it' x) <| (h.cmpL ce (depth+1) it' acc e x).bd fun _ x=>h.cmpL ce depth it acc e x) (nth p.2.1 (depth+1))
noncomputable def c5d(h:HK)(ce:Expr)(depth:Nat)(it acc:V)(e:AE)(x:S):Res Unit:=nd (b1e ce) fun p=>nd (nth p.2.1 depth) fun g=>ck (gS g) <|nd (c8 g.target) fun tup=>(b8p tup it x).bd fun o x=>K0 (motive:=fun _=>Res Unit) (.ok () x)
 (fun v=>(h.asg g.target e v x).bd fun _ x=>(d45 h g.ifs e x).bd fun b x=>ifb b (b66 h ce p depth it acc e x) (h.cmpL ce depth it acc e x)) o
section
variable{C:Cx}{A:Around}{σ τ:St C}{k:Nat}{h:HK}{e:AE}{env:Env}
theorem b5q{t:Expr}(q:j7 t=false)(l:List Expr)(env:Env):a18 (t::l) env=(false,assign t env)::a18 l env:=by cases t <;>first|rfl|exact T1 q
theorem c88{b c:Bool}(h:ifb b false c=true):b=false/\c=true:=by
 cases b with
 |true=>exact T1 h
 |false=>exact ⟨rfl,h⟩
theorem c4j(env:Env):∀l:List Expr,noStar l=true->(a18 l env).length=l.length/\(a18 l env).findIdx? (·.1)=none
 | [],_=>⟨rfl,rfl⟩
 |t::l,q=>by
  obtain ⟨h,q⟩:=c88 q;obtain ⟨a,b⟩:=c4j env l q;rw[b5q h];refine ⟨congrArg Q0 a,?_⟩;refine rE (List.findIdx?_cons) (rE b ?_);rfl
theorem c4h(H:HOk C k h)(rm:F0 k A):∀ (ts:List Expr) (vs:List V) (us:List Value) (σ:St C),noStar ts=true->Er σ e env->Vrs σ vs us->GoR A (a76 ((a18 ts env).map (·.2)) us) σ Ur (c4g h ts vs e σ.x)
 | [],vs,us,σ,_,He,r=>fun Q E z=>by
  show wpAny _ _ (a76 [] us) _ _ _;refine rE (show a76 [] us=pure () by cases us <;>rfl) ?_;exact q0 (A0.here z trivial)
 |t::ts,[],us,σ,q,He,r=>.fail
 |t::ts,v::vs,us,σ,q,He,r=>fun Q E z=>by
  obtain ⟨hs,q⟩:=c88 q;refine R3 r.consR fun u us zz h1 h2=>?_;subst zz;rw[b5q hs];show wpAny _ _ (do O6 us (assign t env u);a76 ((a18 ts env).map (·.2)) us) _ _ _;exact m0 (J2 ((H.asg rm He t h1).use z fun _ _ τ X _ z=>(c4h H rm ts vs us τ q (X.env He) (X.vs h2)).fin X z))
theorem d6g(H:HOk C k h)(rm:F0 k A)(t:Expr)(He:Er σ e env){v:V}{u:Value}(r:Vr σ v u):GoR A (assign t env u) σ Ur (asgX h t e v σ.x):=by
 cases t with
 |Name n p=>exact fun Q E z=>wpAny_assign_Name (a65 He r Q E z)
 |Attribute o n p=>
  refine fun Q E z=>?_;refine rE (arm_assign_Attribute ..) ?_;exact m0 (J2 ((H.ex rm He o).use z fun ov uo τ X r1 z=>m0 (H5 (m0 (J2 (e9m r1 (X.v r) _ _ (Res.All_mono (fun b x z v υ e6 Y r2=>wpAny_release (z () υ e6 (X.trans Y) trivial)) z)))))))
 |Subscript o i p=>
  refine .ck fun hs Q E z=>?_;refine rE (arm_assign_Subscript ..) ?_;exact m0 (J2 ((H.ex rm He o).use z fun ov uo τ X r1 z=>m0 (J2 ((H.ex rm (X.env He) i).use z fun iv ui υ Y r2 z=>
   m0 (H5 (m0 (J2 (e9i rm (Y.v r1) r2 ((X.trans Y).v r) _ _ (Res.All_mono (fun b x z v φ e6 Z r3=>wpAny_release (z () φ e6 ((X.trans Y).trans Z) trivial)) z)))))))))
 |Tuple ts c p=>
  refine .nd fun vs hv=>.ck fun hl=>.ck fun hs Q E z=>?_;refine G4 (r.tup hv) fun b us c zz h1 h2=>?_;subst zz;obtain ⟨l1,l2⟩:=c4j env ts hs;refine wpAny_assign_Tuple rm.handled ⟨_,h1,rfl,_,rfl⟩ (by refine rE l1 (rE p6 (rE (VRl.len h2) ?_));exact V1 hl) l2 fun h' hs'=>?_;refine R0 (St.grow_k (h':=h') σ.s.toks fun b o eb=>hs' b o (j3 (K3 eb)) eb) fun τ e1 e2 X=>?_;rw[<-e2] at z;exact (show {σ.s with heap:=h'}=τ.s from e1)▸(c4h H rm ts vs us τ hs (X.env He) (X.vs h2)).fin X z
 |_=>exact .fail
theorem b7c{ce:Expr}{p:Expr×List i8×Scope}(q:b1e ce=some p):∃pos,ce=.ListComp p.1 p.2.1 p.2.2 pos:=by
 cases ce with
 |ListComp elt gens sc pos=>cases q;exact ⟨_,rfl⟩
 |_=>exact D0 q
theorem d2o{v:V}{x:S}(q:b3l v x=true):a85 v x=.ok v x:=by
 cases v with
 |ref i=>
  unfold b3l at q;show nd (x.get i) _=_;cases ho:x.get i with
  |none=>rw[show (obd (G2 (.ref i)) fun i=>x.get i)=none from ho] at q;exact T1 q
  |some o=>rw[show (obd (G2 (.ref i)) fun i=>x.get i)=some o from ho] at q;cases o <;>first|rfl|exact T1 q
 |_=>exact T1 q
theorem b7a{g:i8}(q:gS g=true):g=⟨g.target,g.iter,g.ifs,0⟩:=by
 obtain ⟨t,i,f,a⟩:=g;have q:a=0:=Int.natAbs_eq_zero.mp (V1 q);subst q;rfl
theorem d7z(elt:Expr)(gens:List i8)(scope:Scope)(pos:Pos)(depth:Nat)(it acc:Value)(env:Env){target iter:Expr}{ifs:List Expr}(hg:gens[depth]? =some ⟨target,iter,ifs,0⟩):
  compTurn (.ListComp elt gens scope pos) depth it acc env=(do
   a24 iter.pos
   match<-pyNext it with
   |none=>pure (.done .next)
   |some v=>
    b2e target it v
    assign target env v
    let ok<-forIn ifs true fun c r=>if r=true then do let ok<-isTrue c env (eval c env);pure (a2f ok) else pure (a2f r)
    if ok then
     match gens[depth+1]? with
     |some g'=>
      let x<-eval g'.iter env
      a24 g'.iter.pos
      let x<-if g'.is_async !=0 then foldedIterable g'.iter x else foldedSetIterable g'.iter env x
      let _<-runOwn (.compStart (.ListComp elt gens scope pos) (depth+1) (<-O6 [x] (if g'.is_async !=0 then asyncIter x else pyIter x)) acc env) env
     |none=>(do let _<-call (.builtin "list.append") [acc,<-eval elt env])
    again (.compLoop (.ListComp elt gens scope pos) depth it acc env)):=by
 unfold compTurn;dsimp only;rw[hg];rfl
theorem f1j(l:List Expr):forIn l false (fun c r=>if r=true then do let ok<-isTrue c env (eval c env);pure (a2f ok) else pure (a2f r))=(pure false:Sem Bool):=by
 induction l with
 |nil=>exact rE a2i rfl
 |cons a l ih=>refine rE (n7 ..) (rE (if_neg (by decide)) ?_);exact ih
theorem d46(H:HOk C k h)(rm:F0 k A):∀ (l:List Expr) (σ:St C),Er σ e env->GoR A (forIn l true fun c r=>if r=true then do let ok<-isTrue c env (eval c env);pure (a2f ok) else pure (a2f r)) σ Br (d45 h l e σ.x)
 | [],σ,He=>fun Q E z=>by
  refine rE a2i ?_;exact q0 (A0.here z rfl)
 |c::l,σ,He=>fun Q E z=>by
  refine rE (n7 ..) ?_;refine m0 ?_;refine rE (if_pos rfl) ?_;refine m0 ((H.tr rm He c).use z fun b vb τ X r1 z=>q0 ?_);cases r1;dsimp only;cases b with
  |true=>exact (d46 H rm l τ (X.env He)).fin X z
  |false=>refine rE (f1j ..) ?_;exact q0 (z false τ rfl X rfl)
noncomputable def c3y(_:St C)(_:Unit)(u:Value):Prop:=u=.none
theorem c4b{acc v:V}{ua u:Value}(ra:Vr σ acc ua)(rv:Vr σ v u):GoR A (call (.builtin "list.append") [ua,u]) σ c3y (appA acc v σ.x):=.nd fun j h1=>.nd fun xs qj=>.ck fun hf Q E z=>by
 refine rE (ra.ref h1) ?_;refine B1 (St.list qj) fun vs n1 e1 r1=>?_;refine wpAny_list_append_plain (items:=vs.toArray) ⟨n1,e1⟩ (fun h' hp hs=>?_) (M4 (W0 (s5 hf r1) (by decide)));obtain ⟨n',e'⟩:=hp;have z:A0 σ c3y Q () (σ.x.put j (.list (xs++[v]))):=z;exact z.put (S.list_eq qj) hs e' (fun ht=>⟨vs++[u],n',(r1.append (.one rv)).mono fun _ _ r=>r.tell (.same ht),by refine rE (List.push_toArray ..) ?_;rfl⟩) fun _ _=>rfl
theorem d83{ce:Expr}{depth:Nat}{it acc:Value}{R:Result->Shared->Prop}{s:Shared}(hq:∀A:Around,A.under (.compLoop ce depth it acc env)=A)(hc:(Code.compLoop ce depth it acc env).isFrame=false)
  (turn:wpAny C.m A (compTurn ce depth it acc env) (fun fin s'=>match fin with| .done f=>R (.ok f) s'| .again c'=>c'.quiet=true/\c5 C.m A c' R s') s8 s):c5 C.m A (.compLoop ce depth it acc env) R s:=by
 refine a2v ?_;refine rE (hq ..) ?_;show wpAny _ A (if (Code.compLoop ce depth it acc env).isFrame then _ else (compTurn ce depth it acc env).onRaise (fun x=>do noteFrame x env;theTreesLotGoes x)) _ _ s;refine rE hc ?_;refine rE (if_neg (by decide)) ?_;exact a6e (a0r turn fun _ _ z=>z)
theorem c32{elt:Expr}{gens:List i8}{scope:Scope}{pos:Pos}{depth:Nat}{it acc:Value}{R:Result->Shared->Prop}{s:Shared}{target iter:Expr}{ifs:List Expr}(hg:gens[depth]? =some ⟨target,iter,ifs,0⟩)
  (h1:c5 C.m A (.compLoop (.ListComp elt gens scope pos) depth it acc env) R s)
  (h2:wpAny C.m A (pyIter it) (fun it' s'=>c5 C.m A (.compLoop (.ListComp elt gens scope pos) depth it' acc env) R s') s8 s):
  c5 C.m A (.compStart (.ListComp elt gens scope pos) depth it acc env) R s:=by
 refine a2v ?_;show wpAny _ A ((compStart (.ListComp elt gens scope pos) depth it acc env).onRaise (fun x=>do noteFrame x env;a24 theWindowsPlace)) _ _ s;refine a6e ?_;unfold compStart;refine rE (show (clausesOf (.ListComp elt gens scope pos))[depth]? =some ⟨target,iter,ifs,0⟩ from hg) ?_;show wpAny _ _ (ask >>=_) _ _ s;refine m0 (a3x (wpAny_ite ?_));split
 ·first
   |exact m0 (q0 (q0 (And.intro rfl h1)))
   |exact q0 (And.intro rfl h1)
 ·exact m0 (a2c (m0 (H5 (m0 (a0r h2 fun it' s' h'=>q0 (And.intro rfl h'))))))
theorem a8l{i:Expr}(q:(!b1r i)=true)(env:Env)(v:Value):foldedSetIterable i env v=pure v:=by cases i <;>first|rfl|exact T1 q
noncomputable def Fins(M:Model)(A:Around)(R:Result->Shared->Prop)(fin:Fin)(s':Shared):Prop:=match fin with| .done f=>R (.ok f) s'| .again c'=>c'.quiet=true/\c5 M A c' R s'
theorem d7r(H:HOk C k h)(rm:F0 k A)(He:Er σ e env){ce:Expr}{d:Nat}{it acc:V}{uit uacc:Value}(r:Vr σ it uit)(ra:Vr σ acc uacc):GoC A (.compLoop ce d uit uacc env) σ Nr (c5d h ce d it acc e σ.x):=fun R z=>by
 revert z;refine ndE fun p hp z=>?_;obtain ⟨pos,rfl⟩:=b7c hp;revert z;refine ndE fun g hg z=>?_;revert z;refine ckE fun hs z=>?_;revert z;refine ndE fun tup ht z=>?_;rw[Q6,b7a hs] at hg;have agn:∀ {τ:St C},Le σ τ->(h.cmpL (.ListComp p.1 p.2.1 p.2.2 pos) d it acc e τ.x).All (A0 σ Nr fun f s'=>R (.ok f) s')->Fins C.m A R (.again (.compLoop (.ListComp p.1 p.2.1 p.2.2 pos) d uit uacc env)) τ.s:=fun X z=>⟨rfl,H.cmpL rm (X.env He) _ d (X.v r) (X.v ra) R (Res.All_mono (fun _ _ z=>z.up X) z)⟩;refine d83 (fun _=>rfl) rfl ?_;refine rE (d7z _ _ _ _ _ _ _ _ hg) ?_;refine m0 (H5 (m0 (F7 (d08 rm.handled ht r ((Res.All_bd _ _ _).mp z) (Qn:=fun s'=>R (.ok .next) s') (Qs:=fun u s'=>wpAny C.m A (do
   assign g.target env u
   let ok<-forIn g.ifs true fun c r=>if r=true then do let ok<-isTrue c env (eval c env);pure (a2f ok) else pure (a2f r)
   if ok then
    match p.2.1[d+1]? with
    |some g'=>
     let x<-eval g'.iter env
     a24 g'.iter.pos
     let x<-if g'.is_async !=0 then foldedIterable g'.iter x else foldedSetIterable g'.iter env x
     let _<-runOwn (.compStart (.ListComp p.1 p.2.1 p.2.2 pos) (d+1) (<-O6 [x] (if g'.is_async !=0 then asyncIter x else pyIter x)) uacc env) env
    |none=>(do let _<-call (.builtin "list.append") [uacc,<-eval p.1 env])
   again (.compLoop (.ListComp p.1 p.2.1 p.2.2 pos) d uit uacc env)) (Fins C.m A R) s8 s') (E:=s8) (fun τ X z=>z .next τ rfl X rfl) (fun v u τ X ru z=>?_)) (fun ov s1 z1=>?_) fun _ _ f=>f)))
 ·refine m0 ((H.asg rm (X.env He) g.target ru).use z fun _ _ υ Y _ z=>m0 ((d46 H rm g.ifs υ ((X.trans Y).env He)).use z fun b vb φ Z rb z=>?_))
  cases rb;have X3:=(X.trans Y).trans Z;have He3:=X3.env He;cases b with
  |false=>refine rE (if_neg (by decide)) ?_;exact q0 (agn X3 z)
  |true=>
   refine rE (if_pos rfl) ?_;have z:(b66 h (.ListComp p.1 p.2.1 p.2.2 pos) p d it acc e φ.x).All _:=z;unfold b66 at z;cases hn:nth p.2.1 (d+1) with
   |none=>
    rw[hn] at z;rw[Q6] at hn;refine rE hn ?_;exact m0 (m0 ((H.ex rm He3 p.1).use z fun v4 u4 ψ W r4 z=>m0 ((c4b (W.v (X3.v ra)) r4).use z fun _ u5 ω V r5 z=>q0 (q0 (agn ((X3.trans W).trans V) z)))))
   |some g'=>
    rw[hn] at z;revert z;refine ckE fun hs1 z=>?_;revert z;refine ckE fun hs2 z=>?_;rw[Q6,b7a hs2] at hn;refine rE hn ?_;refine m0 ((H.ex rm He3 g'.iter).use z fun v4 u4 ψ W r4 z=>m0 (H5 ?_));refine rE (if_neg (show ¬ ((⟨g'.target,g'.iter,g'.ifs,0⟩:i8).is_async !=0)=true from Z2)) ?_;refine m0 (A5 (a8l hs1 _ _) ?_);show wpAny _ _ (O6 [u4] (pyIter u4) >>=_) _ _ _;refine m0 (J2 ((a86 r4).use z fun it5 u5 ω V r5 z=>?_));revert z;refine ckE fun hself z=>?_;have X5:=(X3.trans W).trans V;have inner:∀ (T:Result->Shared->Prop),(∀ξ:St C,Le ω ξ->(h.cmpL (.ListComp p.1 p.2.1 p.2.2 pos) d it acc e ξ.x).All (A0 σ Nr fun f s'=>R (.ok f) s')->T (.ok .next) ξ.s)->∀ζ:St C,ζ.x=ω.x->Le ω ζ->∀u6,Vr ζ it5 u6->c5 C.m A (.compLoop (.ListComp p.1 p.2.1 p.2.2 pos) (d+1) u6 uacc env) T ζ.s:=fun T hT ζ eζ Y6 u6 r6=>by
     have X6:=X5.trans Y6;have z':=(Res.All_bd _ _ _).mp z;rw[<-eζ] at z';refine H.cmpL rm (X6.env He) _ (d+1) r6 (X6.v ra) T (Res.All_mono (fun b x7 z7 f ξ e7 X7 r7=>?_) z');cases r7;exact hT ξ (Y6.trans X7) (e7▸z7)
    have fin:∀ξ:St C,Le ω ξ->(h.cmpL (.ListComp p.1 p.2.1 p.2.2 pos) d it acc e ξ.x).All (A0 σ Nr fun f s'=>R (.ok f) s')->wpAny C.m A (PySem.again (.compLoop (.ListComp p.1 p.2.1 p.2.2 pos) d uit uacc env)) (Fins C.m A R) s8 ξ.s:=fun ξ Y6 z=>q0 (agn (X5.trans Y6) z);refine m0 (wpAny_runOwn (c32 hn (inner _ (fun ξ Y6 z=>fin ξ Y6 z) ω rfl .refl u5 r5) ?_));refine a86 r5 _ _ ?_;refine rE (d2o hself) ?_;exact fun u6 ζ e6 Y6 r6=>inner _ (fun ξ Y6 z=>fin ξ Y6 z) ζ e6 Y6 u6 r6
 ·cases ov with
  |none=>exact q0 z1
  |some u=>exact m0 (a0r z1 fun _ _ z2=>z2)
end
noncomputable def a7d(cells:List (Str×Nat))(l:List (Str×A4)):List (Str×Nat)->Option (List (Str×Nat)):=E0 (motive:=fun _=>List (Str×Nat)->Option (List (Str×Nat))) (fun acc=>some acc)
 (fun p _ ih acc=>a00 (motive:=fun _=>Option (List (Str×Nat))) p.2 (ih acc) (ih acc) (obd (lk cells p.1) fun c=>ih ((p.1,c)::acc)) (ih acc) (ih acc)) l
noncomputable def relP(e:AE)(p:Str×A4):Str×A4:=a00 (motive:=fun _=>Str×A4) p.2 p p (K0 (motive:=fun _=>Str×A4) p (fun k=>a00 (motive:=fun _=>Str×A4) k p (p.1,.cell) p p p) (lk e.scope.names p.1)) p p
noncomputable def a3l(scope:Scope)(e:AE):Scope:={scope with names:=scope.names.map (relP e)}
noncomputable def P7(o:Option A4):Bool:=K0 (motive:=fun _=>Bool) false (fun k=>a00 (motive:=fun _=>Bool) k true false false false false) o
noncomputable def namesOk(all l:List (Str×A4)):Bool:=E0 (motive:=fun _=>Bool) true (fun p _ ih=>ifb (P7 (some p.2)) (ifb (P7 (lk all p.1)) ih false) ih) l
noncomputable def c7i(scope:Scope)(cl:List (Str×Nat))(e:AE)(x:S):Res AE:=ck x.ok <|ck (b1o scope.kind) <| (b62 scope.names cl (x.new (.ns []))).bd fun cells y=>.ok ⟨scope,x.n,cells,e.qual,none,e.code,e.frame⟩ y
noncomputable def d5a(e:AE)(sc:Scope):AE:=⟨sc,e.locals,e.cells,e.qual,e.func,e.code,e.frame⟩
noncomputable def fst?{α:Type}(l:List α):Option α:=Y2 (motive:=fun _=>Option α) l none fun a _=>some a
noncomputable def compI(h:HK)(ce:Expr)(p:Expr×List i8×Scope)(cl:List (Str×Nat))(it:V)(e:AE)(x:S):Res (V×Nat):=ck x.ok <| (c7i p.2.2 cl e (x.new (.list []))).bd fun e₀ y=>ck (b3l it y) <| (h.cmpL ce 0 it (.ref x.n) (d5a e₀ (a3l p.2.2 e)) y).bd fun _ y=>nd (obd (y.get e₀.locals) oNs) fun _=>.ok (.ref x.n,e₀.locals) y
noncomputable def b6c(h:HK)(ce:Expr)(e:AE)(x:S):Res (V×Nat):=nd (b1e ce) fun p=>nd (fst? p.2.1) fun g=>ck (!b1r g.iter) <|ck (gS g) <|ck (namesOk p.2.2.names p.2.2.names) <|ck (b1o p.2.2.kind) <|nd (a7d e.cells p.2.2.names []) fun cl=>(h.ex g.iter e x).bd fun u x=>(a85 u x).bd fun it x=>compI h ce p cl it e x
noncomputable def c5i(h:HK)(ce:Expr)(e:AE)(x:S):Res V:=(b6c h ce e x).bd fun p y=>.ok p.1 (y.del p.2)
noncomputable def c5h(h:HK)(n:Str)(ce:Expr)(e:AE)(x:S):Res Unit:=(b6c h ce e x).bd fun p y=>(e9 n p.1 e y).bd fun _ y=>nd (obd (y.get p.2) oNs) fun _=>.ok () (y.del p.2)
section
variable{C:Cx}{A:Around}{σ τ:St C}{k:Nat}{h:HK}{e:AE}{env:Env}
theorem b1p{o:Option A4}(h:P7 o=true):o=some .local:=by
 cases o with
 |none=>exact T1 h
 |some k=>cases k <;>first|rfl|exact T1 h
theorem b2q{all:List (Str×A4)}:∀ {l:List (Str×A4)},namesOk all l=true->∀y∈l,y.2=.local->all.lookup y.1=some .local
 | [],_,y,hy,_=>nomatch hy
 |p::l,q,y,hy,hl=>by
  have q:ifb (P7 (some p.2)) (ifb (P7 (lk all p.1)) (namesOk all l) false) (namesOk all l)=true:=q;rcases O0.mp hy with rfl|hy
  ·rw[hl] at q
   refine rF (a0e ..) ?_;cases hq:P7 (lk all y.1) with
   |true=>exact b1p hq
   |false=>rw[hq] at q;exact T1 q
  ·refine b2q (l:=l) ?_ y hy hl
   cases h1:P7 (some p.2) <;>rw[h1] at q
   ·exact q
   ·cases h2:P7 (lk all p.1) <;>rw[h2] at q
    ·exact T1 q
    ·exact q
theorem b9z(scope:Scope)(He:Er σ e env):N9 scope env=a3l scope e:=by
 unfold N9 a3l
 congr 1
 refine a49 fun p _=>?_;obtain ⟨n,kd⟩:=p;have hkd:env.kindOf n=lk e.scope.names n:=by refine rE He.1 (rE (a0e ..) ?_);rfl
 dsimp only;refine rE He.kind (rE hkd ?_);cases kd <;>first
  |rfl
  | (show _=K0 (motive:=fun _=>Str×A4) _ _ (lk e.scope.names n);cases lk e.scope.names n with|none=>rfl|some m=>cases m <;>rfl)
theorem b65(f:Str×A4->List (Str×Addr)->Sem (ForInStep (List (Str×Addr))))(hf:∀name kind cs,f (name,kind) cs=if kind==.free then (do let a<-cellOf env name;pure (.yield ((name,a)::cs))) else pure (.yield cs))(He:Er σ e env):
  ∀ (l:List (Str×A4)) (acc r:List (Str×Nat)) (cs:List (Str×Addr)),a7d e.cells l acc=some r->Cr σ acc cs->∃rs,Cr σ r rs/\forIn l cs f=(pure rs:Sem (List (Str×Addr)))
 | [],acc,r,cs,q,hc=>by cases q;exact ⟨cs,hc,a2i⟩
 | (n,kd)::l,acc,r,cs,q,hc=>by
  refine rE (n7 ..) (rE (hf ..) ?_);cases kd with
  |free=>
   revert q;refine obE fun c hl q=>?_;unfold cellOf;refine rE (if_pos (by rfl)) (rE (show env.cells.lookup n=some (σ.ρ c) from He.1▸b17 (ρ:=σ.ρ) hl) ?_);have hin:c < σ.x.n:=He.2.2.1 (n,c) (mem_of_lookup (a0e n e.cells▸hl));exact b65 f hf He l ((n,c)::acc) r ((n,σ.ρ c)::cs) q ⟨by refine rE hc.1 ?_;rfl,fun d hd=>by
    rcases O0.mp hd with rfl|hd
    ·exact hin
    ·exact hc.2 d hd⟩
  |_=>
   refine rE (if_neg (by decide)) ?_;exact b65 f hf He l acc r cs q hc
theorem b64{scope:Scope}{r:List (Str×Nat)}(He:Er σ e env)(q:a7d e.cells scope.names []=some r):∃rs,Cr σ r rs/\closureFor scope env=pure rs:=by
 refine yea (b65 (fun x cs=>if x.2==.free then (do let a<-cellOf env x.1;pure (.yield ((x.1,a)::cs))) else pure (.yield cs)) (fun _ _ _=>rfl) He scope.names [] r [] q ⟨rfl,fun c hc=>nomatch hc⟩) fun rs h1 h2=>?_;refine ⟨rs,h1,?_⟩;unfold closureFor;have h3:=congrArg (fun t=>t >>=fun cs=>(pure cs:Sem (List (Str×Addr)))) h2;first
  |exact h2
  | (simp only[pure_bind] at h3 ⊢;exact h3)
theorem e0s(He:Er σ e env){scope:Scope}{cl:List (Str×Nat)}{cs:List (Str×Addr)}(hcl:Cr σ cl cs):GoR A (b2s scope env.globals cs [] env.qual none .none (some env)) σ Er (c7i scope cl e σ.x):=.ck fun hx=>.ck fun hk Q E z=>by
 unfold b2s;refine rE (if_pos (by rfl)) ?_;refine m0 (b4d ?_);refine W4 (St.new_k (σ:=σ) (o:=.ns []) (ob:={cls:=.type "dict",data:=.dict #[]}) σ.s.toks hx rfl (fun _=>⟨#[],0,rfl,fun e he=>absurd he (a6j e),fun y _ e=>D0 e⟩)) fun τ e1 e2 X r1=>?_;refine rE (show {σ.s with heap:=σ.h.push {cls:=.type "dict",data:=.dict #[]}}=τ.s from e1) ?_;rw[<-e2] at z;refine m0 ((b0k _ (fun _ _ _=>rfl) _ cl _ τ (X.cr hcl)).use z fun cells cs' υ Y hc z=>?_);have r2:=Y.v r1;have He2:=(X.trans Y).env He;refine m0 (q0 (q0 (z _ υ rfl (X.trans Y) ⟨?_,r2.2,hc.2,He2.2.2.2.1,a82 hk⟩)));refine rE He2.1 (rE hc.1 ?_);unfold AE.env;exact rF (Z6 r2.1) rfl
theorem c5j(H:HOk C k h)(rm:F0 k A)(He:Er σ e env){ce:Expr}{use:Option (Value->Sem Unit)}{Q:Value->Shared->Prop}{E:Value->Shared->Prop}{P:V×Nat->S->Prop}(z:(b6c h ce e σ.x).All P)
  (kk:∀acc c uacc es (τ:St C),Le σ τ->Vr τ acc uacc->τ.x.get c=some (.ns es)->P (acc,c) τ.x->compPost C.m A E use Q uacc (τ.ρ c) (.ok .next) τ.s):
  ∃elt gens scope pos,ce=.ListComp elt gens scope pos/\∀pos':Pos,wpAny C.m A (b0o ce scope env pos' (newList []) (firstAsync gens) (firstIter gens env) use) Q E σ.s:=by
 revert z;refine ndE fun p hp z=>?_;obtain ⟨pos,rfl⟩:=b7c hp;revert z;refine ndE fun g hg z=>?_;revert z;refine ckE fun c1 z=>?_;revert z;refine ckE fun c2 z=>?_;revert z;refine ckE fun c3 z=>?_;revert z;refine ckE fun c4 z=>?_;revert z;refine ndE fun cl hcl z=>?_;refine ⟨_,_,_,pos,rfl,fun pos'=>?_⟩;obtain ⟨gs,hgs⟩:∃gs,p.2.1=g::gs:=by
  cases hq:p.2.1 with
  |nil=>rw[hq] at hg;exact D0 hg
  |cons a l=>rw[hq] at hg;exact ⟨l,by exact rE (C0 hg) rfl⟩
 rw[b7a c2] at hgs;refine rE (show firstAsync p.2.1=false by rw[hgs];rfl) (rE (show firstIter p.2.1 env=eval g.iter env by rw[hgs];rfl) ?_);refine yea (b64 He hcl) fun rs hrs hce=>?_;refine wpAny_comprehension_free (g:=⟨g.target,g.iter,g.ifs,0⟩) (gs:=gs) (show clausesOf (.ListComp p.1 p.2.1 p.2.2 pos)=_ from hgs) (a8l c1 _) hce (a82 c4) (b2q c3) ?_;refine (H.ex rm He g.iter).use z fun u uu τ X r1 z=>(a86 r1).use z fun it uit υ Y r2 z=>?_;have X2:=X.trans Y;revert z;refine ckE fun hx z=>?_;have z0:(newL [] υ.x).All (fun v y=>v=.ref υ.x.n/\y=υ.x.new (.list [])):=by unfold newL;refine rE hx ?_;exact ⟨rfl,rfl⟩
 refine e4n (.nil:Vrs υ [] []) _ _ (Res.All_mono (fun v y z0 uacc φ e3 Z r3=>?_) z0);obtain ⟨rfl,rfl⟩:=z0;rw[<-e3] at z;have X3:=X2.trans Z;refine (e0s (X3.env He) (X3.cr hrs)).use z fun e₀ env₀ ψ W HE z=>?_;revert z;refine ckE fun hself z=>?_;have X4:=X3.trans W;have HW:Er ψ (d5a e₀ (a3l p.2.2 e)) {env₀ with scope:=N9 p.2.2 env}:=⟨by refine rE (b9z p.2.2 He) (rE HE.1 ?_);rfl,HE.2.1,HE.2.2.1,HE.2.2.2.1,a82 c4⟩;have hloc:env₀.locals=ψ.ρ e₀.locals:=by refine rE HE.1 ?_;rfl
 have go:∀ζ:St C,ζ.x=ψ.x->Le ψ ζ->∀u5,Vr ζ it u5->c5 C.m A (.compLoop (.ListComp p.1 p.2.1 p.2.2 pos) 0 u5 uacc {env₀ with scope:=N9 p.2.2 env}) (compPost C.m A E use Q uacc env₀.locals) ζ.s:=fun ζ e5 Y5 u5 r5=>by
  have z':=(Res.All_bd _ _ _).mp z;rw[<-e5] at z';refine H.cmpL rm (Y5.env HW) _ 0 r5 ((W.trans Y5).v r3) _ (Res.All_mono (fun b y z6 f ξ e6 Y6 r6=>?_) z');cases r6;revert z6;refine ndE fun es hns z6=>?_;rw[<-e6] at hns z6;have Y56:=Y5.trans Y6;refine rE hloc (rF (Y56.X.agree _ HE.2.1) ?_);exact kk _ _ uacc es ξ (X4.trans Y56) ((W.trans Y56).v r3) (St.ns hns).1 z6
 have hg0:p.2.1[0]? =some ⟨g.target,g.iter,g.ifs,0⟩:=by refine rE hgs ?_;rfl
 refine c32 hg0 (go ψ rfl .refl uit ((Z.trans W).v r2)) (a86 ((Z.trans W).v r2) _ _ ?_);refine rE (d2o hself) ?_;exact fun u6 ζ e6 Y6 r6=>go ζ e6 Y6 u6 r6
theorem d0h{c:Nat}{es:List (Str×V)}(q:σ.x.get c=some (.ns es)):∃m,σ.h.Ns (σ.ρ c) m:=let ⟨ob,h1,l,k,h2,h3,_⟩:=σ.at q;⟨nsFind l,ob,l,k,h1,h2,h3,fun _=>rfl⟩
theorem d81(H:HOk C k h)(rm:F0 k A)(He:Er σ e env){elt:Expr}{gens:List i8}{scope:Scope}{pos:Pos}:GoR A (eval (.ListComp elt gens scope pos) env) σ Vr (c5i h (.ListComp elt gens scope pos) e σ.x):=fun Q E z=>by
 obtain ⟨elt',gens',scope',pos',hce,hcore⟩:=c5j H rm He (use:=none) (Q:=Q) (E:=E) ((Res.All_bd _ _ _).mp z) fun acc c uacc es τ X r hns z=>by
  obtain ⟨m,hm⟩:=d0h hns;refine ⟨m,hm,fun h'' hs''=>?_⟩;refine R0 (St.del_k (h':=h'') τ.s.toks hns hs''.extBut) fun υ e1 e2 Y=>?_;exact (show {τ.s with heap:=h''}=υ.s from e1)▸z uacc υ e2 (X.trans Y) (Y.v r)
 cases hce;exact hcore _
theorem d80(H:HOk C k h)(rm:F0 k A)(He:Er σ e env){elt:Expr}{gens:List i8}{scope:Scope}{pos:Pos}{n:Str}{f:Value->Sem Unit}(hf:∀u,f u=assign (.Name n pos) env u){pc:Pos}:GoR A (evalThenUse (.ListComp elt gens scope pc) env f) σ Ur (c5h h n (.ListComp elt gens scope pc) e σ.x):=fun Q E z=>by
 obtain ⟨elt',gens',scope',pos',hce,hcore⟩:=c5j H rm He (use:=some f) (Q:=fun _ s'=>Q () s') (E:=E) ((Res.All_bd _ _ _).mp z) fun acc c uacc es τ X r hns z=>by
  show wpAny C.m A (f uacc) _ E _;refine rE (hf ..) ?_;refine wpAny_assign_Name ((a65 (X.env He) r).use z fun _ _ υ Y _ z=>?_);revert z;refine ndE fun es2 hns2 z=>?_;have hns2:=(St.ns hns2).1;obtain ⟨m,hm⟩:=d0h hns2;refine rF (Y.X.agree c (τ.D.lt hns)) ?_;refine ⟨m,hm,fun h'' hs''=>?_⟩;refine R0 (St.del_k (h':=h'') υ.s.toks hns2 hs''.extBut) fun φ e1 e2 Z=>?_;exact (show {υ.s with heap:=h''}=φ.s from e1)▸z () φ e2 ((X.trans Y).trans Z) trivial
 cases hce;show wpAny _ _ (do let _<-b0o (.ListComp elt gens scope pc) scope env (firstIterPos gens pc) (newList []) (firstAsync gens) (firstIter gens env) (some f)) Q E σ.s;exact m0 (F7 (hcore _) (fun _ _ q=>q0 q) fun _ _ q=>q)
end
noncomputable def a37(e:Expr):Bool:=ifb (o0 e.ctorIdx 8) true (ifb (o0 e.ctorIdx 9) true (o0 e.ctorIdx 10))
noncomputable def b7r(e:Expr):Bool:=ifb (a38 e) true (o0 e.ctorIdx 24)
noncomputable def a2u(n:Str)(l:List (Str×A4)):Bool:=E0 (motive:=fun _=>Bool) false (fun p _ ih=>ifb (seq p.1 n) (a00 (motive:=fun _=>Bool) p.2 true true ih ih ih) ih) l
noncomputable def a25(scope:Scope)(n:Str)(p vp:Pos)(e:AE):Bool:=ifb (P7 (lk e.scope.names n)) (ifb (o0 p.line vp.line) (!a2u n scope.names) false) false
noncomputable def swA(a:Str)(pa:Pos)(b:Str)(pb:Pos)(v1 v2:Expr)(e:AE):Option Bool:=ifb (!j7 v1) (ifb (!j7 v2) (ifb (P7 (lk e.scope.names a)) (ifb (P7 (lk e.scope.names b)) (ifb (o0 pb.line pa.line) (ifb (!seq a b)
 (ifb (a7x 8 v1 && a7x 8 v2) (some true) (ifb (!(b6e 8 v1 && b6e 8 v2)) (some false) none)) none) none) none) (some true)) none) none
noncomputable def b12(e:Expr):Option (Str×Pos):=a0u (motive_1:=fun _=>Option (Str×Pos)) e (fun _ _ _=>none) (fun _ _ _=>none) (fun _ _ _ _=>none) (fun _ _ _=>none) (fun _ _ _ _=>none) (fun _ _ _ _=>none) (fun _ _ _=>none) (fun _ _ _=>none) (fun _ _ _ _=>none) (fun _ _ _ _=>none) (fun _ _ _ _ _=>none) (fun _ _ _ _=>none)
 (fun _ _=>none) (fun _ _=>none) (fun _ _=>none) (fun _ _ _ _=>none) (fun _ _ _ _=>none) (fun _ _ _ _=>none) (fun _ _=>none) (fun _ _ _=>none) (fun _ _ _=>none) (fun _ _ _=>none) (fun _ _=>none) (fun n p=>some (n,p)) (fun _ _=>none) (fun _ _ _=>none) (fun _ _ _ _=>none)
noncomputable def eTup(e:Expr):Option (List Expr):=a0u (motive_1:=fun _=>Option (List Expr)) e (fun _ _ _=>none) (fun _ _ _=>none) (fun _ _ _ _=>none) (fun _ _ _=>none) (fun _ _ _ _=>none) (fun _ _ _ _=>none) (fun _ _ _=>none) (fun _ _ _=>none) (fun _ _ _ _=>none) (fun _ _ _ _=>none) (fun _ _ _ _ _=>none) (fun _ _ _ _=>none)
 (fun _ _=>none) (fun _ _=>none) (fun _ _=>none) (fun _ _ _ _=>none) (fun _ _ _ _=>none) (fun _ _ _ _=>none) (fun _ _=>none) (fun _ _ _=>none) (fun _ _ _=>none) (fun _ _ _=>none) (fun _ _=>none) (fun _ _=>none) (fun _ _=>none) (fun ts _ _=>some ts) (fun _ _ _ _=>none)
noncomputable def twoT(t:Expr):Option ((Str×Pos)×(Str×Pos)):=obd (eTup t) fun ts=>two ts fun a b=>obd (b12 a) fun p=>obd (b12 b) fun q=>some (p,q)
noncomputable def twoV(t:Expr):Option (Expr×Expr):=obd (eTup t) fun ts=>two ts fun a b=>some (a,b)
noncomputable def twoU(v:V):Option (V×V):=obd (d8 v) fun ts=>two ts fun a b=>some (a,b)
noncomputable def a75(h:HK)(t v:Expr)(e:AE)(x:S):Res FL:=(h.ex v e x).bd fun u x=>(h.asg t e u x).bd fun _ x=>.ok .next x
noncomputable def d22(v:Expr)(h:HK)(e:AE)(x:S):Res FL:=ck (!a37 v) <| (h.ex v e x).bd fun _ x=>.ok .next x
noncomputable def sRet(o:Option Expr)(h:HK)(e:AE)(x:S):Res FL:=K0 (motive:=fun _=>Res FL) (.ok (.ret .none) x) (fun v=>(h.ex v e x).bd fun u x=>.ok (.ret u) x) o
noncomputable def sIf(t:Expr)(b c:List Stmt)(h:HK)(e:AE)(x:S):Res FL:=(h.tr t e x).bd fun r x=>ifb r (h.sts b e x) (h.sts c e x)
noncomputable def d28(t:Expr)(b c:List Stmt)(h:HK)(e:AE)(x:S):Res FL:=ck (w5 c) <|h.whl t b e x
noncomputable def sFor(t i:Expr)(b c:List Stmt)(h:HK)(e:AE)(x:S):Res FL:=ck (w5 c) <|ck (!b1r i) <| (h.ex i e x).bd fun v x=>(a85 v x).bd fun it x=>h.forL t it b e x
noncomputable def e8s(a b:Str)(u:V)(e:AE)(x:S):Res FL:=nd (twoU u) fun p=>(e9 b p.2 e x).bd fun _ x=>(e9 a p.1 e x).bd fun _ x=>.ok .next x
noncomputable def d26(t v:Expr)(h:HK)(e:AE)(x:S):Res FL:=nd (twoT t) fun p=>nd (twoV v) fun q=>nd (swA p.1.1 p.1.2 p.2.1 p.2.2 q.1 q.2 e) fun o=>ifb o (a75 h t v e x) ((h.ex v e x).bd fun u x=>e8s p.1.1 p.2.1 u e x)
noncomputable def d20(t v:Expr)(h:HK)(e:AE)(x:S):Res FL:=nd (b12 t) fun p=>nd (b1e v) fun q=>ifb (a25 q.2.2 p.1 p.2 v.pos e) ((c5h h p.1 v e x).bd fun _ x=>.ok .next x) (a75 h t v e x)
noncomputable def sAsg1(t v:Expr)(h:HK)(e:AE)(x:S):Res FL:=ck (!j7 t) <|ifb (a37 v) (d20 t v h e x) (ifb (b7r t) (ifb (a38 v) (d26 t v h e x) (a75 h t v e x)) (a75 h t v e x))
noncomputable def sAsg(ts:List Expr)(v:Expr)(h:HK)(e:AE)(x:S):Res FL:=nd (one ts) fun t=>sAsg1 t v h e x
noncomputable def noS:HK->AE->S->Res FL:=fun _ _ _=>.fail
noncomputable def stX(h:HK)(st:Stmt)(e:AE)(x:S):Res FL:=
 Stmt.casesOn (motive_2:=fun _=>HK->AE->S->Res FL) st
  (fun _ _ _ _ _ _ _ _ _ _=>noS) (fun _ _ _ _ _ _ _ _ _ _=>noS) (fun _ _ _ _ _ _ _ _ _ _ _=>noS)
  (fun o _ h e x=>sRet o h e x)
  (fun _ _=>noS)
  (fun ts v _ h e x=>sAsg ts v h e x)
  (fun _ _ _ _ _ _ _=>noS) (fun _ _ _ _=>noS) (fun _ _ _ _ _=>noS)
  (fun t i b c _ h e x=>sFor t i b c h e x)
  (fun _ _ _ _ _=>noS)
  (fun t b c _ h e x=>d28 t b c h e x)
  (fun t b c _ h e x=>sIf t b c h e x)
  (fun _ _ _=>noS) (fun _ _ _=>noS) (fun _ _ _=>noS) (fun _ _ _=>noS) (fun _ _ _ _ _=>noS) (fun _ _ _ _ _=>noS) (fun _ _ _=>noS) (fun _ _=>noS) (fun _ _ _ _=>noS) (fun _ _=>noS) (fun _ _=>noS)
  (fun v _ h e x=>d22 v h e x)
  (fun _ _ _ x=>.ok .next x)
  (fun _ _ _ x=>.ok .brk x)
  (fun _ _ _ x=>.ok .cont x)
  h e x
section
variable{C:Cx}{A:Around}{σ τ:St C}{k:Nat}{h:HK}{e:AE}{env:Env}
theorem c4y(n:Str):∀l:List (Str×A4),(l.any fun x=>match x with| (m,k)=>m==n && (k==.local ||k==.cell))=a2u n l
 | []=>rfl
 | (m,kd)::l=>by
  refine rE List.any_cons (rE (c4y n l) ?_);show ((m==n) && (kd==.local ||kd==.cell) ||a2u n l)=ifb (seq m n) (a00 (motive:=fun _=>Bool) kd true true (a2u n l) (a2u n l) (a2u n l)) (a2u n l);refine rE (show (m==n)=seq m n from (a22 m n).symm) ?_;cases seq m n <;>cases kd <;>rfl
theorem a3w{v:Expr}(q:a37 v=false)(t:Option Expr)(n:Nat)(env:Env):swapsWith v t n env=pure false:=by cases v <;>first|rfl|exact T1 q
theorem b8v(He:Er σ e env):interactive env=false:=by
 unfold interactive;refine rE He.kind ?_;rfl
theorem b0c{t:Expr}(q:j7 t=false)(env:Env):(a18 [t] env).map (·.2)=[assign t env]:=by
 rw[b5q q];rfl
theorem a96(t v:Expr)(l:Nat)(env:Env):swapsWithSole [t] v l env=swapsWith v (some t) l env:=rfl
theorem b6v{t:Expr}{p:Str×Pos}(q:b12 t=some p):t=.Name p.1 p.2:=by cases t <;>first|exact D0 q| (cases q;rfl)
theorem c6k{t:Expr}{ts:List Expr}(q:eTup t=some ts):∃c p,t=.Tuple ts c p:=by cases t <;>first|exact D0 q| (cases q;exact ⟨_,_,rfl⟩)
theorem f21{t:Expr}{p:(Str×Pos)×(Str×Pos)}(q:twoT t=some p):∃c pos,t=.Tuple [.Name p.1.1 p.1.2,.Name p.2.1 p.2.2] c pos:=by
 revert q;refine obE fun ts h1 q=>?_;refine yee (c6k h1) fun c pos ht=>?_;refine B1 (a27 q) fun a b hts q=>?_;revert q;refine obE fun p1 h2 q=>?_;revert q;refine obE fun p2 h3 q=>?_;cases q;exact ⟨c,pos,by exact rE ht (rE hts (rE (b6v h2) (rE (b6v h3) rfl)))⟩
theorem f23{t:Expr}{p:Expr×Expr}(q:twoV t=some p):∃c pos,t=.Tuple [p.1,p.2] c pos:=by
 revert q;refine obE fun ts h1 q=>?_;refine yee (c6k h1) fun c pos ht=>?_;refine B1 (a27 q) fun a b hts q=>?_;cases q;exact ⟨c,pos,by exact rE ht (rE hts rfl)⟩
theorem f22{u:V}{p:V×V}(q:twoU u=some p):u=.tup [p.1,p.2]:=by
 revert q;refine obE fun ts h1 q=>?_;refine B1 (a27 q) fun a b hts q=>?_;cases q;exact rE (V.tup_eq h1) (rE hts rfl)
noncomputable def c30(e:Expr):Bool:=match e with|Expr.Starred ..=>true|_=>false
theorem b3u{v:Expr}(q:(!j7 v)=true):c30 v=false:=by cases v <;>first|rfl|exact T1 q
noncomputable def swG(k:ScopeKind)(c1 c2:Bool)(v1 v2:Expr)(a b:Str):Sem (Option (List Str)):=
 if (k !=.function)=true then pure none else if (c30 v1 || (c30 v2 ||false))=true then pure none else
 if ((a46 (fun p:Bool×Str=>if p.1=true then some p.2 else none) [(c1,a),(c2,b)]).length !=2 || (a46 (fun p:Bool×Str=>if p.1=true then some p.2 else none) [(c1,a),(c2,b)]).eraseDups.length !=(a46 (fun p:Bool×Str=>if p.1=true then some p.2 else none) [(c1,a),(c2,b)]).length)=true then pure none else
 if (a7x 8 v1 && (a7x 8 v2 && true))=true then pure none else
 if (b6e 8 v1 && (b6e 8 v2 && true))=true then (do unsupported "assign.tuple-of-constant-expressions:order-of-the-stores";pure (some (a46 (fun p:Bool×Str=>if p.1=true then some p.2 else none) [(c1,a),(c2,b)])))
 else pure (some (a46 (fun p:Bool×Str=>if p.1=true then some p.2 else none) [(c1,a),(c2,b)]))
theorem d3u(a b:Str)(pa pb:Pos)(v1 v2:Expr)(c1 c2:Nat)(p1 p2:Pos)(env:Env):b3y [.Tuple [.Name a pa,.Name b pb] c1 p1] (.Tuple [v1,v2] c2 p2) env=
  swG env.blockKind (env.kindOf a==some .local && pa.line==pa.line) (env.kindOf b==some .local && pb.line==pa.line) v1 v2 a b:=rfl
theorem f0y{a b:Str}{pa pb:Pos}{v1 v2:Expr}{r:Bool}{c1 c2:Nat}{p1 p2:Pos}(He:Er σ e env)(q:swA a pa b pb v1 v2 e=some r):b3y [.Tuple [.Name a pa,.Name b pb] c1 p1] (.Tuple [v1,v2] c2 p2) env=pure (ifb r none (some [a,b])):=by
 revert q;refine ifE fun s1 q=>?_;revert q;refine ifE fun s2 q=>?_;cases l1:P7 (lk e.scope.names a) with
 |false=>
  rw[l1] at q;obtain rfl:true=r:=C0 q;have hk:(env.kindOf a==some .local)=false:=by
   refine rE (show env.kindOf a=lk e.scope.names a by rw[He.1,a0e];rfl) ?_;exact beq_eq_false_iff_ne.mpr fun h=>by rw[h] at l1;cases l1
  refine rE (d3u ..) (rE (show env.blockKind=.function by unfold Env.blockKind;rw[He.kind];rfl) (rE hk ?_));unfold swG;refine (if_neg Z2).trans ?_;refine rE (b3u s1) (rE (b3u s2) ?_);refine (if_neg Z2).trans (if_pos ?_);cases (env.kindOf b==some .local && pb.line==pa.line) <;>rfl
 |true=>
 rw[l1] at q;revert q;refine ifE fun l2 q=>?_;revert q;refine ifE fun e1 q=>?_;revert q;refine ifE fun e2 q=>?_;have hne':(b==a)=false:=beq_eq_false_iff_ne.mpr (p7 (d2s ((n6 _).mp e2)));refine rE (d3u ..) (rE (show env.blockKind=.function by unfold Env.blockKind;rw[He.kind];rfl) (rE (He.look (b1p l1)) (rE (He.look (b1p l2)) (rE (V1 e1) (rE (beq_self_eq_true ..) (rE (beq_self_eq_true ..) ?_))))));unfold swG;refine (if_neg Z2).trans ?_;refine rE (b3u s1) (rE (b3u s2) ?_);refine (if_neg Z2).trans ?_;refine rE (show a46 (fun p:Bool×Str=>if p.1=true then some p.2 else none) [((true && true),a),((true && true),b)]=[a,b] from rfl) (rE (show [a,b].eraseDups=[a,b] by simp [List.eraseDups_cons,hne']) ?_);refine (if_neg Z2).trans ?_;refine rE (Bool.and_true ..) (rE (Bool.and_true ..) ?_);cases f1:a7x 8 v1 && a7x 8 v2 with
 |true=>rw[f1] at q;cases q;rfl
 |false=>
  rw[f1] at q;revert q;refine ifE fun f2 q=>?_;cases q;refine rE (if_neg Z2) (rE ((n6 _).mp f2) ?_);rfl
theorem ctor_or(x y:Bool)(h:(!ifb x true y)=true):x=false/\y=false:=by
 cases x with
 |true=>exact T1 h
 |false=>exact ⟨rfl,(n6 _).mp h⟩
theorem e29{v:Expr}(h:(!a37 v)=true):a37 v=false:=(n6 _).mp h
theorem c3a{t v:Expr}(q:b7r t=false)(env:Env):b3y [t] v env=pure none:=by cases t <;>first|rfl|exact T1 q
theorem f0z{t v:Expr}(q:a38 v=false)(env:Env):b3y [t] v env=pure none:=by
 cases t with
 |Tuple=>cases v <;>first|rfl|exact T1 q
 |List=>cases v <;>first|rfl|exact T1 q
 |_=>rfl
theorem d3v{elt:Expr}{gens:List i8}{scope:Scope}{vp:Pos}{n:Str}{p:Pos}{line:Nat}(He:Er σ e env):swapsWith (.ListComp elt gens scope vp) (some (.Name n p)) line env=pure (a25 scope n p vp e):=by
 show (pure (env.blockKind==.function && env.kindOf n==some .local && p.line==vp.line && !(scope.names.any fun x=>match x with| (m,k)=>m==n && (k==.local ||k==.cell))):Sem Bool)=_;refine rE (show env.blockKind=.function by unfold Env.blockKind;rw[He.kind];rfl) (rE (c4y ..) (rE (show env.kindOf n=lk e.scope.names n by rw[He.1,a0e];rfl) (rE (show (p.line==vp.line)=o0 p.line vp.line by rw[a07];rfl) ?_)));unfold a25;cases lk e.scope.names n with
 |none=>rfl
 |some m=>cases m <;>first|rfl| (cases o0 p.line vp.line <;>rfl)
variable(H:HOk C k h)(rm:F0 k A)(He:Er σ e env)
include H rm He
theorem b0d{t v:Expr}{pos:Pos}(hs:(!j7 t)=true)(h1:swapsWithSole [t] v pos.line env=pure false)(h2:b3y [t] v env=pure none):GoR A (exec (.Assign [t] v pos) env) σ Fr (a75 h t v e σ.x):=fun Q E z=>by
 refine wpAny_Assign_stores ((H.ex rm He v).use z fun u uu τ X r1 z=>?_) h1 h2;rw[b0c ((n6 _).mp hs)];exact (H.asg rm (X.env He) t r1).use z fun _ _ υ Y _ z=>z .next υ rfl (X.trans Y) rfl
theorem e8n(v:Expr)(pos:Pos):GoR A (exec (.Expr v pos) env) σ Fr (d22 v h e σ.x):=.ck fun hc Q E z=>wpAny_Expr_any ((H.ex rm He v).use z fun u uu τ X r1 z=>z .next τ rfl X rfl) (b8v He) (a3w (e29 hc) _ _ _)
theorem e8r(o:Option Expr)(pos:Pos):GoR A (exec (.Return o pos) env) σ Fr (sRet o h e σ.x):=fun Q E z=>by
 cases o with
 |some v=>exact wpAny_Return_some ((H.ex rm He v).use z fun u uu τ X r1 z=>z _ τ rfl X ⟨_,rfl,r1⟩)
 |none=>exact wpAny_Return_none (A0.here z ⟨_,rfl,rfl⟩)
theorem e8p(t:Expr)(b c:List Stmt)(pos:Pos):GoR A (exec (.If t b c pos) env) σ Fr (sIf t b c h e σ.x):=fun Q E z=>wpAny_If ((H.tr rm He t).use z fun r vr τ X r1 z=>by
  cases r1;cases r with
  |true=>exact (H.sts rm (X.env He) b).fin X z
  |false=>exact (H.sts rm (X.env He) c).fin X z)
theorem e8u(t:Expr)(b c:List Stmt)(pos:Pos):GoR A (exec (.While t b c pos) env) σ Fr (d28 t b c h e σ.x):=.ck fun hc Q E z=>U7 hc▸wpAny_While (H.whl rm He t b _ z)
theorem e8o(t i:Expr)(b c:List Stmt)(pos:Pos):GoR A (exec (.For t i b c pos) env) σ Fr (sFor t i b c h e σ.x):=.ck fun hc=>.ck fun hs Q E z=>U7 hc▸wpAny_For ((H.ex rm He i).use z fun u uu τ X r1 z=>(a86 r1).use z fun it uit υ Y r2 z=>
  H.forL rm ((X.trans Y).env He) t b r2 _ (Res.All_mono (fun _ _ z=>z.up (X.trans Y)) z)) (a8l hs _)
theorem e8t(t v:Expr)(pos:Pos)(hst:(!j7 t)=true)(hc:a37 v=false):GoR A (exec (.Assign [t] v pos) env) σ Fr (d26 t v h e σ.x):=.nd fun p hp=>.nd fun q hq=>.nd fun o ho=>by
 refine yee (f21 hp) fun c1 p1 zx=>?_;subst zx;refine yee (f23 hq) fun c2 p2 zy=>?_;subst zy;have hsw:=f0y (c1:=c1) (c2:=c2) (p1:=p1) (p2:=p2) He ho;cases o with
 |true=>exact b0d H rm He hst (by refine rE (a96 ..) ?_;exact a3w hc _ _ _) hsw
 |false=>
  intro Q E z;refine rE (exec_Assign_arm ..) ?_;refine m0 (H5 ?_);refine rE (a96 ..) ?_;rw[a3w hc];refine m0 (q0 ?_);refine rE (if_neg (by decide)) ?_;refine m0 ((H.ex rm He _).use z fun u uu τ X r1 z=>?_);refine rE hsw ?_;refine m0 (q0 ?_);revert z;refine ndE fun w hu z=>?_;rw[f22 hu] at r1;refine G4 (J5 r1) fun tb us c zz g1 g2=>?_;subst zz;obtain ⟨y1,us,rfl,g3,g2⟩:=g2.consR;obtain ⟨y2,us,rfl,g4,g2⟩:=g2.consR;cases g2;show wpAny _ _ (do rule "assign.swapped-stores";let items<-unpackItems (.ref tb) 2 none;a76 ([p.2.1,p.1.1].map fun n=>bindName env n) items.reverse;pure Flow.next:Sem Flow) _ _ _;refine m0 (a2c (m0 (wpAny_unpackItems_tuple (s:=τ.s) (items:=#[y1,y2]) rm.handled ⟨_,g1,rfl,_,rfl⟩ fun h2 hs2=>?_)));refine R0 (St.grow_k (σ:=τ) (h':=h2) τ.s.toks fun b' o eb=>hs2 b' o (j3 (K3 eb)) eb) fun υ e1 e2 Y=>?_;refine rE (show {τ.s with heap:=h2}=υ.s from e1) ?_;have z:((e9 p.2.1 w.2 e τ.x).bd fun _ x=>(e9 p.1.1 w.1 e x).bd fun _ x=>.ok FL.next x).All (A0 σ Fr Q):=z;rw[<-e2] at z;have X2:=X.trans Y;show wpAny _ _ (do (do O6 [y1] (bindName env p.2.1 y2);(do O6 [] (bindName env p.1.1 y1);a76 [] []));pure Flow.next:Sem Flow) _ _ _;exact m0 (m0 (J2 (wpAny_bindName ((a65 (X2.env He) (Y.v g4)).use z fun _ _ φ Z _ z=>m0 (J2 (wpAny_bindName ((a65 ((X2.trans Z).env He) ((Y.trans Z).v g3)).use z fun _ _ ψ W _ z=>q0 (q0 (z .next ψ rfl ((X2.trans Z).trans W) rfl)))))))))
theorem e8l(t v:Expr)(pos:Pos)(hst:(!j7 t)=true):GoR A (exec (.Assign [t] v pos) env) σ Fr (d20 t v h e σ.x):=.nd fun p hp=>.nd fun q hq Q E z=>by
 obtain ⟨vp,rfl⟩:=b7c hq;rw[b6v hp] at hst z ⊢;have hsw:=d3v (elt:=q.1) (gens:=q.2.1) (scope:=q.2.2) (vp:=vp) (n:=p.1) (p:=p.2) (line:=pos.line) He;cases hb:a25 q.2.2 p.1 p.2 vp e with
 |true=>
  rw[show a25 q.2.2 p.1 p.2 (Expr.ListComp q.1 q.2.1 q.2.2 vp).pos e=true from hb] at z;refine rE (exec_Assign_arm ..) ?_;refine m0 (H5 ?_);refine rE (a96 ..) (rE hsw (rE hb ?_));refine m0 (q0 ?_);refine rE (if_pos rfl) ?_;exact m0 ((d80 H rm He (pos:=p.2) (fun u=>by rw[b0c rfl];rfl)).use z fun _ _ τ X _ z=>q0 (z .next τ rfl X rfl))
 |false=>
  rw[show a25 q.2.2 p.1 p.2 (Expr.ListComp q.1 q.2.1 q.2.2 vp).pos e=false from hb] at z;exact b0d H rm He hst (by exact rE (a96 ..) (rE hsw (rE hb rfl))) (c3a rfl _) Q E z
theorem e8k(ts:List Expr)(v:Expr)(pos:Pos):GoR A (exec (.Assign ts v pos) env) σ Fr (sAsg ts v h e σ.x):=.nd fun t ht=>by
 refine rE (a3h ht) ?_;refine .ck fun hst=>?_;cases hc:a37 v with
 |true=>exact e8l H rm He t v pos hst
 |false=>
  have h1:swapsWithSole [t] v pos.line env=pure false:=a3w hc _ _ _;cases h2:b7r t with
  |false=>exact b0d H rm He hst h1 (c3a h2 _)
  |true=>
   cases h3:a38 v with
   |false=>exact b0d H rm He hst h1 (f0z h3 _)
   |true=>exact e8t H rm He t v pos hst hc
theorem f0l(st:Stmt):GoR A (exec st env) σ Fr (stX h st e σ.x):=by
 cases st with
 |Return o p=>exact e8r H rm He o p
 |Assign ts v p=>exact e8k H rm He ts v p
 |For t i b c p=>exact e8o H rm He t i b c p
 |While t b c p=>exact e8u H rm He t b c p
 |If t b c p=>exact e8p H rm He t b c p
 |Expr v p=>exact e8n H rm He v p
 |Pass p=>exact fun Q E z=>wpAny_Pass (A0.here z rfl)
 |Break p=>exact fun Q E z=>wpAny_Break (A0.here z rfl)
 |Continue p=>exact fun Q E z=>wpAny_Continue (A0.here z rfl)
 |_=>exact .fail
end
section
open PySem.W.Z (eqB eqB_iff)
noncomputable def a7j(o k d:V)(x:S):Option V:=obd (G2 o) fun i=>obd (x.get i) fun o=>obd (a59 o k) fun r=>some (K0 (motive:=fun _=>V) d id r)
noncomputable def lenA(o:V)(x:S):Option V:=obd (K0 (motive:=fun _=>Option (List V)) (obd (G2 o) x.list) some (d8 o)) fun xs=>ifb (fits xs) (some (.int xs.length)) none
noncomputable def revA(o:V)(x:S):Res V:=nd (G2 o) fun j=>nd (x.list j) fun xs=>ck x.ok <| .ok (.ref x.n) (x.new (.rev j ((xs.length:Nat) - 1:Int)))
noncomputable def b33(a b c:Int)(x:S):Res V:=ck x.ok <| .ok (.ref x.n) (x.new (.range a b c))
noncomputable def d18(vs:List V)(x:S):Res V:=Y2 (motive:=fun _=>Res V) vs .fail fun a l=>nd (J3 a) fun i=>Y2 (motive:=fun _=>Res V) l (b33 0 i 1 x) fun b l=>nd (J3 b) fun j=>Y2 (motive:=fun _=>Res V) l (b33 i j 1 x) fun c l=>nd (J3 c) fun k=>ck (w5 l) <|ck (small (j - i)) <|ck (small k) <|ck (!eqB k 0) <|b33 i j k x
noncomputable def c79(o:V)(x:S):Res V:=nd (G2 o) fun j=>nd (x.list j) fun _=>ck x.ok <|ck (x.new (.liter j 0)).ok <| .ok (.ref (x.n+1)) ((x.new (.liter j 0)).new (.enum x.n 0))
noncomputable def d4k(o:V)(x:S):Option V:=obd (G2 o) fun j=>obd (x.list j) fun xs=>ifb (fits xs) (some (.tup xs)) none
noncomputable def a69(l:List V):Option (List V×V):=E0 (motive:=fun _=>Option (List V×V)) none (fun a _ ih=>K0 (motive:=fun _=>Option (List V×V)) (some ([],a)) (fun p=>some (a::p.1,p.2)) ih) l
noncomputable def popA(o:V)(x:S):Res V:=nd (G2 o) fun j=>nd (x.list j) fun xs=>ck (fits xs) <|nd (a69 xs) fun p=>.ok p.2 (x.put j (.list p.1))
noncomputable def extA(o a:V)(x:S):Res V:=nd (G2 o) fun j=>nd (G2 a) fun i=>nd (x.list j) fun xs=>nd (x.list i) fun ys=>ck (fits xs) <|ck (fits ys) <| .ok .none (x.put j (.list (xs++ys)))
noncomputable def b7g(k:Int)(l:List Int):Option Nat:=E0 (motive:=fun _=>Option Nat) none (fun i _ ih=>ifb (eqB i k) (some 0) (obd ih fun n=>some (n+1))) l
noncomputable def c89(o a:V)(x:S):Option V:=obd (G2 o) fun j=>obd (J3 a) fun k=>obd (x.list j) fun xs=>ifb (fits xs) (obd (B9 xs) fun ns=>obd (b7g k ns) fun n=>some (.int (M2 n))) none
noncomputable def L9(k:Str)(l:List (Str×Option V)):List (Str×Option V):=E0 (motive:=fun _=>List (Str×Option V)) [] (fun p _ ih=>ifb (seq p.1 k) ih (p::ih)) l
noncomputable def b2u(o:O):Option (List (Str×Option V)):=O.casesOn (motive:=fun _=>Option (List (Str×Option V))) o (fun _=>none) (fun _=>none) some (fun _=>none) (fun _=>none) (fun _=>none) (fun _ _=>none) (fun _=>none) (fun _ _=>none) (fun _ _=>none) (fun _ _ _=>none) (fun _ _ _=>none) (fun _ _=>none) (fun _ _=>none) (fun _ _ _=>none) (fun _ _=>none) fun _=>none
noncomputable def c6c(o k d:V)(x:S):Res V:=nd (G2 o) fun j=>nd (vStr k) fun n=>nd (obd (x.get j) b2u) fun es=>ck (U0 es.length 1000) <| .ok (K0 (motive:=fun _=>V) d id (y6 seq es n)) (x.put j (.dictS (L9 n es)))
section
variable{C:Cx}{A:Around}{σ τ:St C}{k:Nat}
theorem c66(rm:F0 k A){o i d:V}{uo ui ud:Value}{a0f:List Value}(hm:a0f=[]/\ud=.none∨a0f=[ud])(ro:Vr σ o uo)(ri:Vr σ i ui)(rd:Vr σ d ud):GoR A (call (.builtin "dict.get") (uo::ui::a0f)) σ Vr (lft (a7j o i d σ.x) σ.x):=.nd fun v q Q E z=>by
 revert q;refine obE fun j h1 q=>?_;revert q;refine obE fun o qj q=>?_;revert q;refine obE fun r hr q=>?_;have hv:r.getD d=v:=by refine rF (C0 q) ?_;cases r <;>rfl
 have z:A0 σ Vr Q (r.getD d) σ.x:=hv▸z;refine rE (ro.ref h1) ?_;have hs:=St.not_sys qj;cases St.dk qj ri hr with
 |flat knd kk kvs hk _ hd hr=>
  rcases hm with ⟨rfl,rfl⟩ |rfl
  ·exact a7b b02 hd.typeIs b5c (PySem.F.args_dict_get_2 _ _) (meets_dict_get _ _ hk hs) ⟨_,hd.mapOf,show Q _ _ from z.tok (hr.getD rd)⟩
  ·exact a7b b02 hd.typeIs b5c (PySem.F.args_dict_get_3 _ _ _) (meets_dict_get_default _ _ hk hs ud) ⟨_,hd.mapOf,show Q _ _ from z.tok (hr.getD rd)⟩
 |pair b js xs eb hk hd hr=>
  subst eb;rcases hm with ⟨rfl,rfl⟩ |rfl
  ·exact a7b b02 hd.typeIs b5c (PySem.F.args_dict_get_2 _ _) (meetsH_dict_get (T4 (U2 C.prog C.w)) _ _ hs) ⟨rm.six,js,xs,hk.is,hd,show Q _ _ from z.tok (hr.getD rd)⟩
  ·exact a7b b02 hd.typeIs b5c (PySem.F.args_dict_get_3 _ _ _) (meetsH_dict_get_default (T4 (U2 C.prog C.w)) _ _ hs ud) ⟨rm.six,js,xs,hk.is,hd,show Q _ _ from z.tok (hr.getD rd)⟩
theorem e3h{o:V}{uo:Value}(ro:Vr σ o uo):GoR A (call (.builtin "len") [uo]) σ Vr (lft (lenA o σ.x) σ.x):=.nd fun v q Q E z=>by
 revert q;refine obE fun xs q1 q=>?_;revert q;refine ifE fun hf q=>?_;rw[<-C0 q] at z;cases ht:d8 o with
 |some ys=>
  rw[ht] at q1;cases q1;refine G4 (ro.tup ht) fun b vs n1 zz h1 h2=>?_;subst zz;refine PySem.P.len_tuple h1 (Int.not_le.mpr (c0l (s5 hf h2))) ?_;refine rE p6 (rE (VRl.len h2) ?_);exact A0.tok z ⟨_,rfl⟩
 |none=>
  rw[ht] at q1;revert q1;refine obE fun j h1 qj=>?_;refine rE (ro.ref h1) ?_;refine B1 (St.list qj) fun vs n1 e1 r1=>?_;refine call_len_list (items:=vs.toArray) ⟨_,e1,rfl,_,rfl⟩ (c0l (s5 hf r1)) ?_;refine rE p6 (rE (VRl.len r1) ?_);exact A0.tok z ⟨_,rfl⟩
theorem e7n{o:V}{uo:Value}(ro:Vr σ o uo):GoR A (call (.type "reversed") [uo]) σ Vr (revA o σ.x):=.nd fun j h1=>.nd fun xs qj=>.ck fun hx Q E z=>by
 rw[V.ref_eq h1] at ro;refine rE ro.1 ?_;refine B1 (St.list qj) fun vs n1 e1 r1=>?_;refine call_reversed_list (items:=vs.toArray) ⟨_,e1,rfl,_,rfl⟩ ?_;refine rE (show (vs.toArray.size:Int)=(xs.length:Nat) from congrArg M2 (VRl.len r1)) ?_;exact A0.new z hx rfl fun X=>⟨rfl,_,rfl,X.tell.ref j j _ rfl ⟨rfl,ro.2⟩⟩
theorem b9t{a b c:Int}{t u v:Tok}{Q:Value->Shared->Prop}{tk:Nat}(z:(b33 a b c σ.x).All (A0 σ Vr Q)):Q (.ref σ.h.objs.size) {σ.s with heap:=σ.h.push ⟨.type "range",none,.fields #[.int a t,.int b u,.int c v],#[]⟩,toks:=tk}:=
 ya (t7 z) fun hx z=>A0.new z hx rfl fun X=>⟨_,_,_,rfl⟩
theorem e7c{vs:List V}{us:List Value}(r:Vrs σ vs us):GoR A (call (.type "range") us) σ Vr (d18 vs σ.x):=by
 cases vs with
 |nil=>exact .fail
 |cons a l=>
  refine R3 r.consR fun ua us1 zx ra r1=>?_;subst zx;refine .nd fun i h1=>?_;obtain ⟨t,rfl⟩:=Vr.int ra h1;cases l with
  |nil=>cases r1;exact fun Q E z=>call_range_1 (b9t z)
  |cons b l=>
   refine R3 r1.consR fun ub us2 zy rb r2=>?_;subst zy;refine .nd fun j h2=>?_;obtain ⟨t',rfl⟩:=Vr.int rb h2;cases l with
   |nil=>cases r2;exact fun Q E z=>call_range_2 (b9t z)
   |cons c l=>
    refine R3 r2.consR fun uc us3 zz rc r3=>?_;subst zz;refine .nd fun kk h3=>.ck fun hl=>.ck fun hb=>.ck fun hc=>.ck fun h0 Q E z=>?_;obtain ⟨t'',rfl⟩:=Vr.int rc h3;rw[U7 hl] at r3;cases r3;rw[a7q] at h0;exact call_range_3 (of_decide_eq_false ((n6 _).mp h0)) (b9t z) (.inl (PyProof.noPylong_small (i4 (show kk.natAbs < 1000000 from d3 hc) (by decide))))
theorem e0c{o:V}{uo:Value}(ro:Vr σ o uo):GoR A (call (.type "enumerate") [uo]) σ Vr (c79 o σ.x):=.nd fun j h1=>.nd fun xs qj=>.ck fun hx1=>.ck fun hx2 Q E z=>by
 rw[V.ref_eq h1] at ro;refine rE ro.1 ?_;refine B1 (St.list qj) fun vs n1 e1 r1=>?_;refine call_enumerate_1 e1 fun h' he hi hsz hk=>?_;refine R0 hi fun oi ei hc hd=>?_;clear hi;obtain ⟨D1,X1⟩:=σ.D.grow hk;have n0:∀a,σ.h.objs.size<=a->σ.h.get? a=none:=fun a ha=>a43 ha;have N:=fun a ha=>σ.D.no_at (n0 a ha);have X2:=X1.add (o:=.liter j 0) σ.D.room (n0 _ (i3 _));have D2:=D1.add (o:=.liter j 0) hx1 ei (N _ (i3 _)).1 (N _ (i3 _)).2 ⟨hc,_,hd,X2.tell.ref j j _ rfl ⟨rfl,ro.2⟩⟩;have X3:=X2.add (o:=.enum σ.x.n 0) D2.room (n0 _ (H7 _));have r0:isRef (ext σ.ρ σ.x.n σ.h.objs.size) (σ.x.n+1) σ.x.n (.ref σ.h.objs.size):=⟨congrArg _ (a1e ..).symm,l8 _⟩;have D3:=D2.add (o:=.enum σ.x.n 0) hx2 he (fun i o e q=>by
  rcases a1o σ.D.room e (a:=σ.h.objs.size) (ρ:=σ.ρ) with ⟨_,_,q'⟩ | ⟨_,e,q'⟩
  ·exact absurd (q'.symm.trans q) (j3 (l8 _))
  ·exact (N _ (H7 _)).1 i o e (q'.symm.trans q)) (N _ (H7 _)).2 ⟨_,.none,rfl,⟨congrArg _ ((a7s _ _ _ σ.x.n (l8 _)).trans (a1e ..)).symm,a9x (l8 _)⟩⟩
 exact z _ (σ.to h' σ.s.toks _ _ D3) rfl ⟨X3,rfl⟩ ⟨congrArg _ (a1e ..).symm,l8 _⟩
theorem f1y{o:V}{uo:Value}(ro:Vr σ o uo):GoR A (call (.type "tuple") [uo]) σ Vr (lft (d4k o σ.x) σ.x):=.nd fun v q Q E z=>by
 revert q;refine obE fun j h1 q=>?_;revert q;refine obE fun xs qj q=>?_;revert q;refine ifE fun hf q=>?_;cases q;refine rE (ro.ref h1) ?_;refine B1 (St.list qj) fun vs n1 e1 r1=>?_;refine call_tuple_list (items:=vs.toArray) ⟨_,e1,rfl,_,rfl⟩ (fun h' hk=>?_) (M4 (W0 (s5 hf r1) (by decide)));refine R0 (St.grow_k (h':=h') σ.s.toks hk) fun τ g1 g2 X=>?_;have z:A0 σ Vr Q (.tup xs) σ.x:=z;rw[<-g2] at z;have g:=A0.tup (z.up X) (X.vs r1) (tk:=σ.s.toks) (c:=0);have e2:h'=τ.h:=congrArg a6y g1;rw[<-g1,<-e2] at g;exact g
theorem d4w:∀ {xs:List V} {p:List V×V},a69 xs=some p->xs=p.1++[p.2]
 | [],_,e=>D0 e
 |a::l,p,e=>by
  have e:K0 (motive:=fun _=>Option (List V×V)) (some ([],a)) (fun p=>some (a::p.1,p.2)) (a69 l)=some p:=e;cases h:a69 l with
  |none=>
   rw[h] at e;cases e;cases l with
   |nil=>rfl
   |cons b l=>
    have h:K0 (motive:=fun _=>Option (List V×V)) (some ([],b)) (fun p=>some (b::p.1,p.2)) (a69 l)=none:=h;cases h2:a69 l <;>rw[h2] at h <;>cases h
  |some q=>
   rw[h] at e;cases e;refine rE (d4w h) ?_;rfl
theorem All2.snoc{α β:Type}{R:α->β->Prop}{a:α}:∀ {l:List α} {m:List β},All2 R (l++[a]) m->∃m' b,m=m'++[b]/\All2 R l m'/\R a b
 | [],_,h=>R3 h.consR fun b r e h1 h2=>⟨[],b,by refine rE e (rE h2.nilR ?_);rfl,.nil,h1⟩
 |c::l,_,h=>R3 h.consR fun b r e h1 h2=>R3 (All2.snoc h2) fun m' b' e' h3 h4=>⟨b::m',b',by refine rE e (rE e' ?_);rfl,.cons h1 h3,h4⟩
theorem e6z(us:List Value)(u:Value)(n:Nat):J6 (fun xs=>xs.eraseIdxIfInBounds ((us++[u]).toArray.size - 1)) (T5 (us++[u]) n)=T5 us (n+1):=by
 have:((us++[u]).toArray.eraseIdxIfInBounds ((us++[u]).toArray.size - 1))=us.toArray:=by
  simp;rw[List.eraseIdx_append_of_length_le (i3 _)];simp
 unfold T5;simp only[J6,this];simp
theorem e70{o:V}{uo:Value}(ro:Vr σ o uo):GoR A (call (.builtin "list.pop") [uo]) σ Vr (popA o σ.x):=.nd fun j h1=>.nd fun xs qj=>.ck fun hf=>.nd fun p hp Q E z=>by
 refine rE (ro.ref h1) ?_;refine B1 (St.list qj) fun vs n1 e1 r1=>?_;have f1:=s5 hf r1;rw[d4w hp] at r1;refine R3 (All2.snoc r1) fun us u zz r2 r3=>?_;subst zz;refine a7a PySem.F.slot_list_pop ⟨_,e1,rfl⟩ PySem.F.entry_list_pop (PySem.F.args_list_pop_1 _) (MeetsSeq.list_pop_last (σ.ρ j) (us++[u]).toArray n1 u (by simp) (M4 (W0 f1 (by decide)))) ⟨e1,?_⟩;have hu:=j8 (J6 fun xs=>xs.eraseIdxIfInBounds ((us++[u]).toArray.size - 1)) e1 rfl;rw[e6z] at hu;have z:A0 σ Vr Q p.2 (σ.x.put j (.list p.1)):=z;exact show Q _ _ from z.put (S.list_eq qj) (I5 ..) hu (fun ht=>b88 (r2.mono fun _ _=>VR.tell (.same ht))) fun τ X=>X.v r3
theorem e0l{o a:V}{uo ua:Value}(ro:Vr σ o uo)(ra:Vr σ a ua):GoR A (call (.builtin "list.extend") [uo,ua]) σ Vr (extA o a σ.x):=.nd fun j h1=>.nd fun i h2=>.nd fun xs qj=>.nd fun ys qi=>.ck fun f1=>.ck fun f2 Q E z=>by
 refine rE (ro.ref h1) (rE (ra.ref h2) ?_);refine B1 (St.list qj) fun vs n1 e1 r1=>?_;refine B1 (St.list qi) fun ws n2 e2 r2=>?_;have hz:=c3k (s5 f1 r1) (s5 f2 r2);refine a7a PySem.F.slot_list_extend ⟨_,e1,rfl⟩ PySem.F.entry_list_extend (PySem.F.args_list_extend_2 _ _) (AutoSeq1.list_extend_list_list_0 (σ.ρ j) vs.toArray n1 (σ.ρ i) ws.toArray n2 (by
  refine rE (show Builtin.List.listTooLong (vs.toArray.size+ws.toArray.size)=false from decide_eq_false (M3.mpr hz)) ?_;simp) (M4 (W0 (s5 f1 r1) (by decide))) (Nat.le_succ_of_le hz)) ⟨e1,e2,?_⟩
 have hu:=j8 (J6 fun x=>x++ws.toArray) e1 rfl;obtain ⟨n',ho⟩:∃n',J6 (fun x=>x++ws.toArray) (T5 vs n1)=T5 (vs++ws) n':=⟨_,by unfold T5;simp [J6];rfl⟩;rw[ho] at hu;have z:A0 σ Vr Q .none (σ.x.put j (.list (xs++ys))):=z;exact show Q _ _ from z.put (S.list_eq qj) (I5 ..) hu (fun ht=>b88 ((r1.append r2).mono fun _ _=>VR.tell (.same ht))) fun τ X=>rfl
theorem b7l{H:Heap}{ρ:Nat->Addr}{n:Nat}:∀ {xs:List V} {ns:List Int} {vs:List Value},B9 xs=some ns->VRl H ρ n xs vs->IntsAre vs ns
 | [],ns,vs,e,r=>by cases e;cases r;exact .nil
 |a::xs,ns,vs,e,r=>by
  revert e;refine obE fun i e1 e=>?_;revert e;refine obE fun l' e2 e=>?_;cases e;refine R3 r.consR fun u us zz r1 r2=>?_;subst zz;rw[V.int_eq e1] at r1;obtain ⟨t,rfl⟩:=r1;exact .cons _ _ (b7l e2 r2)
theorem e1s{kk:Int}:∀ {ns:List Int} {vs:List Value} {r:Nat},b7g kk ns=some r->IntsAre vs ns->∃ (hr:r < vs.length),b01 kk vs[r]=true/\∀i (hi:i < vs.length),i < r->b01 kk vs[i]=false:=fun {ns vs r} e h=>by
 induction h generalizing r with
 |nil=>exact D0 e
 |cons i t h2 ih=>
  have e:ifb (eqB i kk) (some 0) (obd (b7g kk _) fun n=>some (n+1))=some r:=e;cases q:eqB i kk with
  |true=>
   rw[q] at e;cases e;obtain rfl:=(eqB_iff _ _).mp q;exact ⟨q9 _,by simp [b01],fun j hj hlt=>absurd hlt (o9 _)⟩
  |false=>
   rw[q] at e;revert e;refine obE fun r' e1 e=>?_;cases e;have hne:i≠kk:=fun e'=>by rw[(eqB_iff _ _).mpr e'] at q;cases q
   refine yea (ih e1) fun g2 g3 g4=>?_;refine ⟨a4f g2,g3,fun j hj hlt=>?_⟩;cases j with
   |zero=>simp [b01,hne]
   |succ j=>exact g4 j (q6 hj) (q6 hlt)
theorem e21{o a:V}{uo ua:Value}(ro:Vr σ o uo)(ra:Vr σ a ua):GoR A (call (.builtin "list.index") [uo,ua]) σ Vr (lft (c89 o a σ.x) σ.x):=.nd fun v q Q E z=>by
 revert q;refine obE fun j h1 q=>?_;revert q;refine obE fun kk h2 q=>?_;revert q;refine obE fun xs qj q=>?_;revert q;refine ifE fun hf q=>?_;revert q;refine obE fun ns hi q=>?_;revert q;refine obE fun m hm q=>?_;cases q;have z:A0 σ Vr Q (.int (M2 m)) σ.x:=z;obtain ⟨t,rfl⟩:=ra.int h2;refine rE (ro.ref h1) ?_;refine B1 (St.list qj) fun vs n1 e1 r1=>?_;have f1:=s5 hf r1;have I:=b7l hi r1;refine yea (e1s hm I) fun g2 g3 g4=>?_;exact a7a PySem.F.slot_list_index ⟨_,e1,rfl⟩ PySem.F.entry_list_index (PySem.F.args_list_index_2 _ _) (MeetsSeq.list_index (σ.ρ j) vs.toArray n1 (.int kk t) (b01 kk) (fun y hy=>eq_isInt kk t I y (by simpa using hy)) m (by simpa using g2) (by omega) (by simpa using g3) (fun i hi hlt=>by simpa using g4 i (by simpa using hi) hlt)) ⟨e1,show Q _ _ from z.tok ⟨_,rfl⟩⟩
theorem a8r(n:Str):∀es:List (Str×Option V),C2 (L9 n es)=(C2 es).filter fun e=>decide (e.1≠n)
 | []=>rfl
 | (a,none)::l=>by
  show C2 (ifb (seq a n) (L9 n l) ((a,none)::L9 n l))=(C2 l).filter _;refine rF (a8r n l) ?_;cases seq a n <;>rfl
 | (a,some v)::l=>by
  show C2 (ifb (seq a n) (L9 n l) ((a,some v)::L9 n l))=((a,v)::C2 l).filter _;refine rE (a22 ..) (rE (z9 ..) ?_);by_cases q:a=n
  ·exact rE (if_pos q) (rE (a6n (by simp [q])) (rE (a8r n l) rfl))
  ·refine rE (if_neg q) (rE (a6o (by simp [q])) (rF (a8r n l) ?_));rfl
theorem d1p{H:Heap}{ρ:Nat->Addr}{m:Nat}{n:Str}{l:List (Str×V)}{kvs:List (Str×Value)}(r:All2 (F5 H ρ m) l kvs):All2 (F5 H ρ m) (l.filter fun e=>decide (e.1≠n)) (without kvs n):=by
 unfold without;induction r with
 |nil=>exact .nil
 | @cons e kv l m h1 h2 ih=>
  by_cases q:e.1=n
  ·refine rE (a6n (by simp [q])) (rE (a6n (by simp [h1.1,q])) ?_);exact ih
  ·refine rE (a6o (by simp [q])) (rE (a6o (by simp [h1.1,q])) ?_);exact .cons h1 ih
theorem e5g{o:O}{i:List (Str×Option V)}(h:b2u o=some i):o=.dictS i:=by cases o <;>first|exact D0 h|exact congrArg _ (C0 h)
theorem f2g{kvs:List (Str×Value)}{n:Str}(h:a0o kvs n=none):without kvs n=kvs:=by
 unfold without;unfold a0o at h;rw[Option.map_eq_none_iff,List.find?_eq_none] at h;rw[List.filter_eq_self];intro a ha;have:=h a ha
 simpa using this
theorem d8s{o i d:V}{uo ui ud:Value}(ro:Vr σ o uo)(ri:Vr σ i ui)(rd:Vr σ d ud):GoR A (call (.builtin "dict.pop") [uo,ui,ud]) σ Vr (c6c o i d σ.x):=.nd fun j h1=>.nd fun n h2=>.nd fun es h3=>.ck fun hsz Q E z=>by
 revert h3;refine obE fun o qj h3=>?_;rw[e5g h3] at qj;refine rE (ro.ref h1) ?_;obtain ⟨t,rfl⟩:=ri.str h2;refine yea (St.asS qj rfl) fun kvs hd hr=>?_;have hq:=c07 hr n;rw[<-a7v d2r] at hq;have hl:kvs.length<=1000:=hr.length▸W0 (a5o es) (d3 hsz);have ov:∀ {h':Heap} {ob:Obj},ovDict C h' σ.ρ σ.x.n (r9 C.prog C.w) (L9 n es) ob->OV C h' σ.ρ σ.x.n (.dictS (L9 n es)) ob:=fun h=>h;cases hv:y6 seq es n with
 |some v'=>
  rw[hv] at z hq;have z:A0 σ Vr Q v' (σ.x.put j (.dictS (L9 n es))):=z;refine yea hq fun u hu ru=>?_;clear hq;refine a7b PySem.F.slot_dict_pop hd.typeIs PySem.F.entry_dict_pop (PySem.F.args_dict_pop_3 _ _ _) (meets_dict_pop_there _ _ b7e [ud] (.inr ⟨_,rfl⟩) rfl) ⟨kvs,u,hd,M4 (W0 hl (by decide)),hu,fun h' hd' hs'=>?_⟩;refine a2d hd' fun o' l' ep' ho' hx' hdat hk' hp' hn'=>?_;clear hd';exact show Q _ _ from z.put qj hs' ho' (fun ht=>ov ⟨l',_,ep',b18 hx' hdat,hk',hp',hn',a8r n es▸(d1p hr).mono fun _ _ r=>⟨r.1,r.2.tell (.same ht)⟩⟩) fun τ X=>X.v ru
 |none=>
  rw[hv] at z hq;have z:A0 σ Vr Q d (σ.x.put j (.dictS (L9 n es))):=z;have hq:a0o kvs n=none:=hq;refine a7b PySem.F.slot_dict_pop hd.typeIs PySem.F.entry_dict_pop (PySem.F.args_dict_pop_3 _ _ _) (meets_dict_pop_default _ _ b7e (St.not_sys qj) rfl ud) ⟨kvs,hd,hq,?_⟩;refine a2d hd fun o' l' ep' ho' hx' hdat hk' hp' hn'=>?_;clear hd;have g6:=d1p (n:=n) hr;rw[f2g hq,<-a8r] at g6;exact show Q _ _ from z.put qj (a9l _ _) ho' (fun ht=>ov ⟨l',kvs,ep',b18 hx' hdat,hk',hp',hn',g6⟩) fun τ X=>X.v rd
end
end
section
open PySem.W.Z (eqB eqB_iff ltB ltB_iff leB leB_iff)
section
variable{prog:W6}{w:World}{K:Type}[DecidableEq K]{knd:HeapKind prog w K}{A:Around}{E:Value->Shared->Prop}{s:Shared}{d a:Addr}{k:K}{xs:List (K×Addr×Value)}
theorem d8m{dflt:Value}{Q:Value->Shared->Prop}(hu:knd.room A)(hkey:knd.is s.heap k a)(hm:s.heap.DictOfH knd d xs)
  (h1:∀p,atKey xs k=some p->Q p.2 {s with toks:=s.toks+knd.draws k})
  (h2:atKey xs k=none->∀h',h'.DictOfH knd d (storedH xs k a dflt)->H6 d s.heap h'->Q dflt {s with heap:=h',toks:=s.toks+knd.draws k})
  (hsz:xs.length<=sizeLine):wpAny (model prog w) A (dictSetDefault d (.ref a) dflt) Q E s:=by
 refine a2d hm fun o es ep ho hc hd he his hn=>?_;clear hm;unfold dictSetDefault;refine J2 (m0 (knd.pyHash hu hkey ?_));refine m0 (wpAny_dictFind_heap (s:={s with toks:=s.toks+knd.draws k}) hu hkey ho hd he his hn ?_ ?_)
 ·intro hno
  have hno':=atKey_none_of_get hno;refine m0 (a2c (m0 (wpAny_updateDictKeys (hz:=(size_of_entries he).symm▸hsz) (s:={s with toks:=s.toks+knd.draws k}) ho hd (q0 (h2 hno' _ ⟨_,_,ep+1,j8 _ ho (Obj.isFreed_of_dict (Obj.data_mapDictKeys hd _)),
   hc.mapDictKeys _,Obj.data_mapDictKeys hd _,?_,?_,?_⟩ (I5 ..))))))
  ·rw[storedH_new hno'];refine rE Array.toList_push (rE he (rE List.map_append ?_))
   rfl
  ·rw[storedH_new hno']
   intro x hx;rcases a4a.mp hx with hx|hx
   ·exact knd.keeps (his x hx) ho hd (I5 ..)
   ·cases S4.mp hx
    exact knd.keeps hkey ho hd (I5 ..)
  ·rw[storedH_new hno'];refine rE List.map_append ?_;rw[List.nodup_append]
   exact ⟨hn,a4b.mpr ⟨G1,a2l⟩,fun x hx y hy e=>not_mem_keys_of_get hno (by rw[e,S4.mp hy] at hx;exact hx)⟩
 ·intro j p hj
  refine m0 (V9 (s:={s with toks:=s.toks+knd.draws k}) ho hd ?_);refine rE (entry_at he j) (rE hj ?_);exact m0 (a2c (q0 (h1 p (atKey_of_get hn hj))))
end
noncomputable def orV(d:V)(o:Option V):V:=K0 (motive:=fun _=>V) d id o
noncomputable def c6f(o k d:V)(x:S):Res V:=nd (G2 o) fun i=>nd (x.get i) fun b=>nd (d8 k) fun ks=>nd (B9 ks) fun js=>nd (asX b) fun l=>nd (put6 l js (orV d (slot6 l js))) fun o'=>.ok (orV d (slot6 l js)) (x.put i o')
noncomputable def flatD(o:O):Bool:=O.casesOn (motive:=fun _=>Bool) o (fun _=>false) (fun es=>U0 es.length 1000) (fun es=>U0 es.length 1000) (fun _=>false) (fun _=>false) (fun _=>false) (fun _ _=>false) (fun _=>false) (fun _ _=>false) (fun _ _=>false) (fun _ _ _=>false) (fun _ _ _=>false) (fun _ _=>false) (fun _ _=>false) (fun _ _ _=>false) (fun _ _=>false) fun _=>false
noncomputable def c62(i:Nat)(b:O)(x:S):Res V:=ck x.ok <|ck (flatD b) <| .ok (.ref x.n) (x.new b)
noncomputable def u7(l:List Int):Int->Int:=E0 (motive:=fun _=>Int->Int) (fun m=>m) (fun a _ ih m=>ifb (ltB m a) (ih a) (ih m)) l
noncomputable def maxA(o:V)(x:S):Option V:=obd (G2 o) fun i=>obd (x.list i) fun xs=>obd (B9 xs) fun l=>Y2 (motive:=fun _=>Option V) l none fun a l=>some (.int (u7 l a))
noncomputable def vByt(v:V):Option (Array UInt8):=V.casesOn (motive_1:=fun _=>Option (Array UInt8)) v none (fun _=>none) (fun _=>none) (fun _=>none) some (fun _=>none) (fun _=>none) (fun _=>none) (fun _=>none)
theorem b8m:∀ (l:List Int) (m:Int),m<=u7 l m/\(∀a∈l,a<=u7 l m)/\(u7 l m=m∨u7 l m∈l)
 | [],m=>⟨a6m _,fun a h=>absurd h G1,.inl rfl⟩
 |a::l,m=>by
  show m<=ifb (ltB m a) (u7 l a) (u7 l m)/\(∀b∈a::l,b<=ifb (ltB m a) (u7 l a) (u7 l m))/\(ifb (ltB m a) (u7 l a) (u7 l m)=m∨ifb (ltB m a) (u7 l a) (u7 l m)∈a::l);cases h:ltB m a with
  |true=>
   refine yaa (b8m l a) fun h1 h2 h3=>?_;exact ⟨a2g (Int.le_of_lt ((ltB_iff _ _).mp h)) h1,fun b hb=>(O0.mp hb).elim (fun e=>e▸h1) (h2 b),.inr (h3.elim (fun e=>O0.mpr (.inl e)) (C3 _))⟩
  |false=>
   refine yaa (b8m l m) fun h1 h2 h3=>?_;have hn:a<=m:=Int.not_lt.mp fun q=>by rw[(ltB_iff _ _).mpr q] at h;cases h
   exact ⟨h1,fun b hb=>(O0.mp hb).elim (fun e=>by refine rE e ?_;exact a2g hn h1) (h2 b),h3.imp id (C3 _)⟩
section
variable{C:Cx}{A:Around}{σ τ:St C}{k:Nat}
theorem d8y(rm:F0 k A){o i d:V}{uo ui ud:Value}(ro:Vr σ o uo)(ri:Vr σ i ui)(rd:Vr σ d ud):GoR A (call (.builtin "dict.setdefault") [uo,ui,ud]) σ Vr (c6f o i d σ.x):=.nd fun j h1=>.nd fun c qj=>.nd fun ks hks=>.nd fun js hjs=>.nd fun l hl=>.nd fun o' ho' Q E z=>by
 refine rE (ro.ref h1) ?_;rw[V.tup_eq hks] at ri;refine yea (d4i hjs ri) fun b zy hk=>?_;subst zy;refine W4 (St.pk qj hl hk) fun xs hm hr hsz hp=>?_;have hd:=St.not_sys qj;refine U9 (b69 PySem.F.slot_dict_setdefault.plain PySem.F.entry_dict_setdefault (PySem.F.slot_dict_setdefault.check _ _ _ _ _ _ _ _ hm.typeIs (PySem.F.args_dict_setdefault_3 _ _ _) ?_));unfold Builtin.«dict.setdefault»;refine m0 ?_;unfold Builtin.Dict.keyAndDefault;refine m0 (b4j hm.typeIs ?_);show wpAny _ _ (pure (σ.ρ j,O2 b,some ud)) _ _ _;refine q0 ?_;show wpAny _ _ (if (σ.ρ j==E6)=true then _ else (dictSetDefault (σ.ρ j) (.ref b) ud >>=_)) _ _ _;refine rE (if_neg (by rw[hd];exact Z2)) ?_;have hrl:=hr js;have hcd:g7 c=false:=by cases c with|code=>exact D0 hl|_=>rfl
 refine m0 (d8m rm.six hk.is hm (fun p hp'=>?_) (fun hn h' hd' hs'=>?_) (M4 (W0 hsz (by decide))))
 ·cases hg:slot6 l js with
  |none=>rw[hg,hp'] at hrl;cases hrl
  |some v=>
   rw[hg,hp'] at hrl;rw[hg] at z ho';refine yea hrl fun u' hu' ru'=>?_;clear hrl;cases hu';have z:A0 σ Vr Q v (σ.x.put j o'):=z;refine yea (d37 ho') fun l' zz hl'=>?_;subst zz;refine q0 (show Q _ _ from z.set (h':=σ.h) qj (fun _ _ _ e=>e) (fun oo e=>?_) (fun τ X=>X.v ru') (.inl hcd));cases e;refine yea (σ.at qj) fun ob g1 g2=>?_;refine ⟨ob,g1,fun _=>?_⟩;have key:∀ks,slot6 l' ks=slot6 l ks:=fun ks=>by
    refine rE (hl' ks) ?_;by_cases e:ks=js
    ·refine rE (if_pos e) (rE e (rE hg ?_));rfl
    ·exact rE (if_neg e) rfl
   cases c with
   |dictI es=>obtain ⟨_,e⟩:=a1i hl;cases e;rw[c2y] at hg;cases hg
   |six m=>cases hl;refine k9 g2 fun d xs k a1 a2 a3 a4 a5=>?_;clear g2;exact ⟨d,xs,k,a1,a2,a3,a4,fun ks=>key ks▸a5 ks⟩
   |_=>exact D0 hl
 ·cases hg:slot6 l js with
  |some v=>rw[hg,hn] at hrl;refine yea hrl fun u' hu' _=>?_;clear hrl;cases hu'
  |none=>
   rw[hg] at z ho';have z:A0 σ Vr Q d (σ.x.put j o'):=z;exact q0 (show Q _ _ from z.set qj (fun b o q e=>(hs'.2 b q).trans e) (fun oo e=>by
    cases e;refine yea (hp d o' ud ho' rd h' (σ.D.set (w:=none) qj (fun b o q e=>(hs'.2 b q).trans e) (fun _ q=>nomatch q) (.inl hcd)).2.tups hd') fun ob g1 g2=>?_;exact ⟨ob,g1,fun _=>g2⟩) (fun τ X=>X.v rd) (.inl hcd))
theorem A0.addA{o:O}{ob:Obj}{a:Addr}{Q:Value->Shared->Prop}{tk:Nat}{h':Heap}(z:A0 σ Vr Q (.ref σ.x.n) (σ.x.new o))(hx:σ.x.ok=true)(ha:σ.h.get? a=none)(hk:∀b o,σ.h.get? b=some o->h'.get? b=some o)(he:h'.get? a=some ob)
  (ho:Tups σ.h h'->OV C h' σ.ρ σ.x.n o ob):Q (.ref a) {σ.s with heap:=h',toks:=tk}:=by
 obtain ⟨D1,X1⟩:=σ.D.grow hk;have N:=σ.D.no_at ha;exact z _ (σ.to h' tk _ _ (D1.add (o:=o) hx he N.1 N.2 ((ho X1.tups).tell (.of .refl (a7s _ _ _) (H7 _))))) rfl ⟨X1.add σ.D.room ha,rfl⟩ ⟨congrArg _ (a1e ..).symm,l8 _⟩
theorem d07(h:Heap):h.get? h.objs.size=none:=a43 (i3 _)
theorem d2l{h h':Heap}{o:Obj}(hs:H6 h.objs.size (h.push o) h'):∀b ob,h.get? b=some ob->h'.get? b=some ob:=
 fun b ob e=>(hs.2 b (j3 (K3 e))).trans (V2 _ e)
theorem c63{κ:Type}[DecidableEq κ]{kd:a4j C.prog C.w κ}{es:List (κ×Option V)}{i:Nat}{b:O}(hq:σ.x.get i=some b)(hb:U0 es.length 1000=true)(hO:∀h ρ n ob,OV C h ρ n b ob=ovDict C h ρ n kd es ob)(hx:σ.x.ok=true)
  {Q:Value->Shared->Prop} {E:Value->Shared->Prop} (z:A0 σ Vr Q (.ref σ.x.n) (σ.x.new b)):wpAny C.m A (call (.type "dict") [.ref (σ.ρ i)]) Q E σ.s:=by
 refine yea (σ.at hq) fun ob e1 e2=>?_;rw[hO] at e2;refine k9 e2 fun l kvs n1 zz h2 h3 h4 h5=>?_;clear e2;subst zz;have hsz:kvs.length<=1000:=h5.length▸W0 (a5o es) (d3 hb);refine kt_call_dict (St.not_sys hq) ⟨_,l,n1,e1,⟨rfl,rfl,rfl⟩,rfl,h2,h3,h4⟩ (M4 (W0 hsz (by decide))) fun h' hd' hs=>?_;refine yea (a8p (ρ:=σ.ρ) (n:=σ.x.n) (es:=es) hd' (h5.mono fun _ _ r=>⟨r.1,r.2.tell (.same fun b vs k e=>d2l hs _ _ e)⟩)) fun ob h1 h2=>?_;exact z.addA hx (d07 _) (d2l hs) h1 fun _=>(hO ..).symm▸h2
theorem d8h{i:Nat}{b:O}(q:σ.x.get i=some b):GoR A (call (.type "dict") [.ref (σ.ρ i)]) σ Vr (c62 i b σ.x):=.ck fun hx=>.ck fun hb Q E z=>by
 cases b with
 |dictI es=>exact c63 q hb (fun _ _ _ _=>rfl) hx z
 |dictS es=>exact c63 q hb (fun _ _ _ _=>rfl) hx z
 |_=>exact T1 hb
theorem e42(rm:F0 k A){o:V}{uo:Value}(ro:Vr σ o uo):GoR A (call (.builtin "max") [uo]) σ Vr (lft (maxA o σ.x) σ.x):=.nd fun v q Q E z=>by
 revert q;refine obE fun j h1 q=>?_;revert q;refine obE fun xs qj q=>?_;revert q;refine obE fun al hi q=>?_;cases al with
 |nil=>exact D0 q
 |cons a l=>
  cases q;refine rE (ro.ref h1) ?_;refine B1 (St.list qj) fun vs n1 e1 r1=>?_;have I:=b7l hi r1;obtain ⟨xs',hxs⟩:=I.allInts.items;have hnum:(xs'.toList.map (·.1))=a::l:=by exact rF (nums_intItems ..) (rF hxs (rE (show vs.toArray.toList=vs from rfl) (rE I.numsOf rfl)))
  have hlen:xs'.size=l.length+1:=(g8).symm.trans ((K4 (f:=(·.1))).symm.trans (congrArg List.length hnum));refine max_intList rm.handled (show σ.h.IsList (σ.ρ j) (intItems xs') from ⟨_,e1,rfl,_,by refine rF hxs ?_;rfl⟩) (hlen▸q9 _) fun u h' tk hv hk=>?_;obtain ⟨t,rfl⟩:=intItems_at hv;obtain ⟨h1,h2⟩:=argBest_gt (numAt xs') (xs'.size - 1);generalize argBest (fun i j=>decide (numAt xs' i > numAt xs' j)) (xs'.size - 1)=m at *;have hmem:numAt xs' m∈(a::l):=by refine rF hnum (rE (numAt_eq ..) ?_);exact getD_mem (by refine rE (K4 ..) (rE g8 ?_);omega)
  have hmax:∀b∈(a::l),b<=numAt xs' m:=fun b hb=>by
   rw[<-hnum] at hb;refine yea (mem_getD hb) fun j hj zz=>?_;subst zz;rw[K4,g8] at hj;refine rF (numAt_eq ..) ?_;exact h2 j (by omega)
  refine yaa (b8m l a) fun m1 m2 m3=>?_;have z:A0 σ Vr Q (.int (u7 l a)) σ.x:=z;exact z.grow hk fun τ _ _=>⟨t,congrArg (u9 · t) (Int.le_antisymm ((O0.mp hmem).elim (fun e=>e▸m1) (m2 _)) (hmax _ (m3.elim (fun e=>O0.mpr (.inl e)) (C3 _))))⟩
theorem d74{o:V}{uo:Value}(ro:Vr σ o uo):GoR A (call (.type "bytes") [uo]) σ Vr (nd (vByt o) fun _=>.ok o σ.x):=.nd fun b q Q E z=>by
 cases o with
 |byt b=>
  have ro':=ro;obtain ⟨t,rfl⟩:=ro';have hT:σ.s.TypeIs (.bytes b t) "bytes":=rfl;refine callType_codes (Q₁:=fun obj s₁=>s₁.TypeIs obj "bytes"/\Q obj s₁) F.bm_called (F.bm_typeCall _) F.entry_object_init ?_ fun obj s₁ h₁=>?_
  rotate_left
  ·exact ⟨h₁.1,F.args_object_init_2 obj _,object_init_meets F.bm_called.init.lookup F.bm_called.made (by decide) C.prog C.w A.in1 _ s₁ ⟨h₁.1,rfl,h₁.2⟩⟩
  refine a2v ?_;show wpAny _ _ (do a7c "bytes.__new__" ⟨[.type "bytes",.bytes b t],[]⟩;again (.builtin "bytes.__new__" ⟨[.type "bytes",.bytes b t],[]⟩)) _ _ _;refine m0 (A5 (F.bm_newCall _) (q0 ⟨plainId_quiet F.bm_plain _,a7f F.bm_entry ?_⟩));refine rE (b4o F.bm_plain _) ?_;unfold Builtin.«bytes.__new__»;refine m0 (A5 (a:=true) rfl ?_);refine bm_if_false rfl ?_;refine m0 (A5 F.bm_sub ?_);refine bm_if_false rfl ?_;refine m0 (A5 (F.bm_bind _) ?_);refine m0 (A5 (a:=()) rfl ?_);refine m0 (A5 (a:=()) rfl ?_);refine bm_if_false rfl ?_;have hb0:typeLookup (.type "bytes") "__bytes__"=pure (some (.builtin "bytes.__bytes__")):=by refine rE (typeLookup_type ..) (rE builtinLookup_eq_fast ?_);kernel_rfl
  refine m0 (c3s hT hb0 ?_);refine m0 (a2c (m0 (a6f hT ?_)));refine bm_if_true rfl ?_;exact A5 (a:=Fin.done (.ret (.bytes b t))) rfl ⟨hT,A0.here z ro⟩
 |_=>exact D0 q
end
end
section
open PySem.W.Z (eqB eqB_iff ltB ltB_iff leB leB_iff)
section
variable{prog:W6}{w:World}{A:Around}{E:Value->Shared->Prop}{s:Shared}
theorem e3j{a:Addr}{xs:Array Value}{k:Nat}{Q:Option Value->Shared->Prop}(hx:s.heap.get? a=some ⟨.type "list",none,.seq xs k,#[]⟩)(hA:A.handled=none)
  (h:∀h' tk,(∀b o,s.heap.get? b=some o->h'.get? b=some o)->Q none {s with heap:=h',toks:=tk}):wpAny (model prog w) A (getAttr? (.ref a) "keys") Q E s:=by
 obtain ⟨hp,g,d,tk,os⟩:=s;have hT:∀tk',(⟨hp,g,d,tk',os⟩:Shared).TypeIs (.ref a) "list":=fun _=>⟨_,hx,rfl⟩;have hmiss:typeLookup (.type "list") "keys"=pure none:=am_miss_of_fast (by kernel_rfl);have hname:(["__module__","__name__","__qualname__","__doc__","__annotations__"]:List Str).contains "keys"=false:=by decide+kernel
 have f1:=sub_AttributeError;have f3:=F.slot_list_getattribute.lookup;have f4:=F.slot_list_getattribute.bind (.ref a);have f5:=am_list_getattr_none;unfold getAttr? getAttrBy?;refine m0 (wpAny_mkText (m0 (a9e ?_)));unfold getAttrBy
 repeat (any_goals (first|assumption|exact hT _| ((with_reducible show wpAny _ _ (call (Value.builtin "list.__getattribute__") _ _) _ _ _);refine a7a F.slot_list_getattribute (hT _) am_entry_list_getattribute (F.args_list_getattribute_2 _ _) (meets_getattribute_miss_list a xs k #[] "keys" _ hmiss hname (by size_fits)) ⟨hx,hA,fun h' tk' e hx'=>?_⟩) |wp_step))
 refine yee hx'.there fun t' u' he=>?_;show wpAny _ _ (getattributeRaised _ _ _ _ _ _ _) _ _ _;unfold getattributeRaised
 repeat (any_goals (first|assumption|wp_step))
 exact h h' tk' hx'.keeps
noncomputable def c8p(n:Nat)(h:Heap)(u:Value)(p:Int×Value):Prop:=∃b t c,u=.ref b/\b < n/\h.get? b=some (F6 [.int p.1 t,p.2] c)
theorem b2z:plainId "dict.update.loop"=true:=by decide+kernel
theorem c76:entryFor table "dict.update.loop"=some Builtin.«dict.update.loop»:=entryFor_of_fast (by kernel_rfl)
theorem f0q(kvs:List (Int×Value))(k:Int)(u:Value):(stored kvs k u).length<=kvs.length+1:=by
 unfold stored;split
 ·refine rE (K4 ..) ?_;exact H7 _
 ·refine rE a48 ?_;exact i3 _
theorem b10{κ:Type}[DecidableEq κ]{kd:a4j prog w κ}{h h':Heap}{a:Addr}{kvs:List (κ×Value)}(k:∀o,h.get? a=some o->h'.get? a=some o):h.DictOf kd a kvs->h'.DictOf kd a kvs:=fun zz=>G3 zz fun o l ep ho r=>⟨o,l,ep,k o ho,r⟩
theorem d4x{N:Nat}{d it l:Addr}{R:Result->Shared->Prop}(hA:A.handled=none)(hd:N<=d)(hi:N<=it)(hdi:d≠it)(hl:l < N):∀ (ps:List (Int×Value)) (pre us:List Value) (n:Nat) {s:Shared} {kvs:List (Int×Value)},All2 (c8p N s.heap) us ps->s.heap.IsListIter it l pre.length->s.heap.IsList l (pre++us).toArray->
  s.heap.DictOf (U2 prog w) d kvs->kvs.length+ps.length<=2000->
  (∀h' tk,h'.DictOf (U2 prog w) d (ps.foldl (fun a p=>stored a p.1 p.2) kvs)->(∀b o,b < N->s.heap.get? b=some o->h'.get? b=some o)->R (.ok (.ret .none)) {s with heap:=h',toks:=tk})->
  c5 (model prog w) A (.builtin "dict.update.loop" ⟨[.ref d,.ref it,rawInt n,.none],[]⟩) R s
 | [],pre,us,n,s,kvs,hp,hit,hL,hD,hsz,hR=>by
  cases hp;refine a7f c76 ?_;refine rE (b4o b2z _) ?_;unfold Builtin.«dict.update.loop»;refine m0 (wpAny_pyNext_list_end (A:=A.in1) hA hit hL (by refine rE (List.append_nil ..) ?_;exact Array.getElem?_eq_none_iff.mpr (i3 _)) fun h' hs'=>?_);show wpAny _ _ (Builtin.Dict.addKeywords d [] >>=_) _ _ _;exact m0 (q0 (q0 (hR h' s.toks (b10 (hs' d · hdi) hD) fun b o hb e=>hs' b o (j3 (H3 hb hi)) e)))
 |p::ps,pre,vs,n,s,kvs,hp,hit,hL,hD,hsz,hR=>by
  cases hp with
  | @cons _ _ us _ h1 h2=>
  refine G4 h1 fun b t c zz hbN hb=>?_;clear h1;subst zz;have hlt:∀ {b:Nat},b < N->b≠it:=fun hb=>j3 (H3 hb hi);refine a7f c76 ?_;refine rE (b4o b2z _) ?_;unfold Builtin.«dict.update.loop»;refine m0 (wpAny_pyNext_list_item (x:=.ref b) hit hL ?_ fun h' hit' hs'=>?_)
  ·refine rE (a2j) (rE (b4x (i3 _)) (rE (b54 ..) ?_))
   rfl
  have hk:∀b o,b < N->s.heap.get? b=some o->h'.get? b=some o:=fun b o hb e=>(hs'.2 b (hlt hb)).trans e;refine m0 (J2 (m0 (wpAny_tryCatch ?_)));unfold Builtin.Dict.pairItems;have hb':=hk b _ hbN hb;refine m0 (a6f (s:={s with heap:=h'}) (T:="tuple") ⟨_,hb',rfl⟩ ?_);refine rE (if_pos (by decide)) ?_;refine m0 (wpAny_seqItems (s:={s with heap:=h'}) hb' rfl (q0 ?_));show wpAny _ _ (O6 [.int p.1 t,p.2] (dictSet d (.int p.1 t) p.2)) _ _ _;refine J2 (wpAny_dictSet_pairs (s:={s with heap:=h'}) (intKind_is prog w p.1 t) (b10 (fun o=>(hs'.2 d hdi).trans) hD) (fun h2' hd2 hs2=>?_) (M4 (W0 (m4 _ _) (W0 hsz (by decide)))));have hk2:∀b o,b < N->s.heap.get? b=some o->h2'.get? b=some o:=fun b o hb e=>(hs2.2 b (j3 (H3 hb hd))).trans (hk b o hb e);refine R0 hL fun ol hol hoc hon=>?_;clear hL;refine R0 hit' fun oi hoi hoic hoid=>?_;clear hit';have hlen:(pre++[O2 b]).length=pre.length+1:=a48;refine q0 ⟨plainId_quiet b2z _,?_⟩;show c5 _ _ (.builtin "dict.update.loop" ⟨[.ref d,.ref it,rawInt ((n+1:Nat):Int),.none],[]⟩) _ _;refine d4x hA hd hi hdi hl ps (pre++[.ref b]) us (n+1) (s:={s with heap:=h2',toks:=s.toks+1}) (kvs:=stored kvs p.1 p.2) (h2.mono fun u q ⟨b,t,c,e1,e3,e2⟩=>⟨b,t,c,e1,e3,hk2 b _ e3 e2⟩) ⟨oi,(hs2.2 it (p7 hdi)).trans hoi,hoic,hlen▸hoid⟩ ⟨ol,hk2 l ol hl hol,hoc,by refine rE (a45 ..) ?_;exact hon⟩ hd2 ?_ fun h3 tk hd3 hk3=>?_
  ·exact W0 (Nat.add_le_add_right (f0q kvs p.1 p.2) _) (by refine rE (Nat.add_right_comm ..) ?_;exact hsz)
  ·exact hR h3 tk hd3 fun b o hb e=>hk3 b o hb (hk2 b o hb e)
end
noncomputable def c6a(l:List V):List (Int×Option V)->Option (List (Int×Option V)):=E0 (motive:=fun _=>List (Int×Option V)->Option (List (Int×Option V))) some (fun a _ ih es=>obd (d8 a) fun t=>obd (two t fun k v=>some (k,v)) fun p=>obd (J3 p.1) fun k=>ih (a23 eqB es k p.2)) l
noncomputable def c69(i:Nat)(xs:List V)(x:S):Res V:=ck x.ok <|ck (fits xs) <|nd (c6a xs []) fun es=>.ok (.ref x.n) (x.new (.dictI es))
section
variable{C:Cx}{A:Around}{σ τ:St C}{k:Nat}
theorem c6b:∀ {xs:List V} {vs:List Value} {es es':List (Int×Option V)} {kvs:List (Int×Value)},c6a xs es=some es'->Vrs σ xs vs->All2 (F5 σ.h σ.ρ σ.x.n) (C2 es) kvs->
  ∃ps,All2 (c8p σ.h.objs.size σ.h) vs ps/\All2 (F5 σ.h σ.ρ σ.x.n) (C2 es') (ps.foldl (fun a p=>stored a p.1 p.2) kvs)
 | [],vs,es,es',kvs,e,r,g=>by obtain rfl:=C0 e;obtain rfl:=All2.nilR r;exact ⟨[],.nil,g⟩
 |a::xs,_,es,es',kvs,e,r,g=>by
  refine R3 (All2.consR r) fun _ _ zx r1 r2=>?_;subst zx;revert e;refine obE fun t e1 e=>?_;revert e;refine obE fun p e2 e=>?_;revert e;refine obE fun kk e3 e=>?_;refine G4 (Vr.tup (σ:=σ) r1 e1) fun b us c zy h1 h2=>?_;subst zy;refine B1 (a27 e2) fun k' v zz e4=>?_;subst zz;cases e4;obtain ⟨_,_,rfl,g1,h2⟩:=h2.consR;obtain ⟨_,_,rfl,g2,h2⟩:=h2.consR;cases h2;obtain ⟨t,rfl⟩:=Vr.int (σ:=σ) g1 e3;refine yea (c6b e r2 (d1o a7q g kk g2)) fun ps p1 p2=>?_;exact ⟨(kk,_)::ps,.cons ⟨b,t,c,rfl,K3 h1,h1⟩ p1,p2⟩
theorem d8r(rm:F0 k A){i:Nat}{xs:List V}(q:σ.x.list i=some xs):GoR A (call (.type "dict") [.ref (σ.ρ i)]) σ Vr (c69 i xs σ.x):=.ck fun hx=>.ck fun hf=>.nd fun es hes Q E z=>by
 refine B1 (St.list q) fun vs n1 e1 r1=>?_;have f1:=s5 hf r1;refine yea (c6b hes r1 (kvs:=[]) .nil) fun ps p1 p2=>?_;have hA:=rm.handled;have hlt:=K3 e1;refine callType_codes (Q₁:=fun obj s₁=>obj=.ref σ.h.objs.size/\s₁={σ.s with heap:=σ.h.push y9}) F.kt_called_dict (F.kt_typeCall_dict_1 _) F.entry_dict_init (kt_code_dict_new _ ⟨rfl,rfl⟩) ?_;rintro obj s₁ ⟨rfl,rfl⟩;have hnew:(σ.h.push y9).DictOf (U2 C.prog C.w) σ.h.objs.size []:=Heap.DictOf.new σ.h;have hk0:∀b o,σ.h.get? b=some o->(σ.h.push y9).get? b=some o:=fun b o e=>V2 _ e;refine ⟨hnew.typeIs,F.args_dict_init_2 _ _,?_⟩;unfold Builtin.«dict.__init__»;refine m0 ?_;unfold Builtin.Dict.selfAndRest;refine m0 (b4j hnew.typeIs ?_);show wpAny _ _ (pure (σ.h.objs.size,[O2 (σ.ρ i)])) _ _ _;refine q0 ?_;show wpAny _ _ (Builtin.Dict.updateFrom "dict.__init__" σ.h.objs.size (.ref (σ.ρ i)) [] .none) _ _ _;unfold Builtin.Dict.updateFrom;refine m0 (a6f (T:="list") ⟨_,hk0 _ _ e1,rfl⟩ ?_);refine rE (if_pos (by decide)) ?_;refine m0 (e3j (s:={σ.s with heap:=σ.h.push y9}) (hk0 _ _ e1) hA fun h1 t1 hk1=>?_);refine rE (if_pos (by decide)) ?_;refine m0 (a2c (m0 ?_));have hl1:h1.IsList (σ.ρ i) vs.toArray:=⟨_,hk1 _ _ (hk0 _ _ e1),rfl,_,rfl⟩;refine wpAny_pyIter_list (s:={σ.s with heap:=h1,toks:=t1}) hl1 ?_;refine q0 ⟨plainId_quiet b2z _,?_⟩;have hD:=b10 (hk1 _) hnew;have hsz1:σ.h.objs.size < h1.objs.size:=G3 hD fun _ _ _ ho' _=>K3 ho';have hk2:∀b o,σ.h.get? b=some o->(h1.push {cls:=.type "list_iterator",data:=.fields #[.ref (σ.ρ i),.int 0 0]}).get? b=some o:=fun b o e=>V2 _ (hk1 _ _ (hk0 _ _ e));refine d4x (prog:=C.prog) (w:=C.w) (A:=A.in1) (N:=σ.h.objs.size) (it:=h1.objs.size) (l:=σ.ρ i) hA (i3 _) (J8 hsz1) (j3 hsz1) hlt ps [] vs 0 (s:={σ.s with heap:=h1.push {cls:=.type "list_iterator",data:=.fields #[.ref (σ.ρ i),.int 0 0]},toks:=t1}) (kvs:=[]) (p1.mono fun u q ⟨b,t,c,e1,e3,e2⟩=>⟨b,t,c,e1,e3,hk2 _ _ e2⟩) ⟨_,c6 _ rfl,rfl,rfl⟩ (hl1.push _) (b10 (fun o=>V2 _) hD) ?_ fun h3 tk hd3 hk3=>⟨rfl,?_⟩
 ·refine rE List.length_nil (rE (K8 ..) (rF p1.length ?_))
  exact W0 f1 (by decide)
 ·have hold:∀b o,σ.h.get? b=some o->h3.get? b=some o:=fun b o e=>hk3 b o (K3 e) (hk2 b o e)
  refine yea (a8p (ρ:=σ.ρ) (n:=σ.x.n) (es:=es) hd3 (p2.mono fun _ _ r=>⟨r.1,r.2.tell (.same fun b vs k e=>hold _ _ e)⟩)) fun ob g1 g2=>?_;have z:A0 σ Vr Q (.ref σ.x.n) (σ.x.new (.dictI es)):=z;exact z.addA hx (d07 _) hold g1 fun _=>g2
end
end
section
open PySem.W.Z (eqB eqB_iff ltB ltB_iff leB leB_iff)
noncomputable def insL{α:Type}(le:α->α->Bool)(a:α)(l:List α):List α:=E0 (motive:=fun _=>List α) [a] (fun b l ih=>ifb (le a b) (a::b::l) (b::ih)) l
noncomputable def a83{α:Type}(le:α->α->Bool)(l:List α):List α:=E0 (motive:=fun _=>List α) [] (fun a _ ih=>insL le a ih) l
noncomputable def leL(l:List Nat):List Nat->Bool:=E0 (motive:=fun _=>List Nat->Bool) (fun _=>true) (fun a _ ih m=>Y2 (motive:=fun _=>Bool) m false fun b m=>ifb (o0 a b) (ih m) (U0 a b)) l
noncomputable def R7(a b:Str):Bool:=leL a.cps.toList b.cps.toList
noncomputable def a4r{α:Type}(le:α->α->Bool)(l:List α):Bool:=E0 (motive:=fun _=>Bool) true (fun a l ih=>Y2 (motive:=fun _=>Bool) l true fun b _=>ifb (le a b) ih false) l
noncomputable def b23{κ:Type}(l:List (κ×Option V)):List κ:=(C2 l).map (·.1)
noncomputable def d3b{κ:Type}(le:κ->κ->Bool)(f:κ->V)(es:List (κ×Option V))(x:S):Res V:=ck (U0 es.length 60) <|ck (a4r le (a83 le (b23 es))) <| .ok (.ref x.n) (x.new (.list ((a83 le (b23 es)).map f)))
noncomputable def sortO(o:O)(x:S):Res V:=O.casesOn (motive:=fun _=>Res V) o (fun _=>.fail) (fun es=>d3b leB .int es x) (fun es=>d3b R7 .str es x) (fun _=>.fail) (fun _=>.fail) (fun _=>.fail) (fun _ _=>.fail) (fun _=>.fail) (fun _ _=>.fail) (fun _ _=>.fail) (fun _ _ _=>.fail) (fun _ _ _=>.fail) (fun _ _=>.fail) (fun _ _=>.fail) (fun _ _ _=>.fail) (fun _ _=>.fail) fun _=>.fail
noncomputable def d3d(o:V)(x:S):Res V:=nd (G2 o) fun i=>nd (x.get i) fun b=>ck x.ok <|sortO b x
theorem c8d{α:Type}(le:α->α->Bool)(a:α):∀l:List α,(insL le a l).Perm (a::l)
 | []=>.refl _
 |b::l=>by
  show (ifb (le a b) (a::b::l) (b::insL le a l)).Perm _;cases le a b with
  |true=>exact .refl _
  |false=>exact (List.Perm.cons b (c8d le a l)).trans (.swap a b l)
theorem b7s{α:Type}(le:α->α->Bool):∀l:List α,(a83 le l).Perm l
 | []=>.refl _
 |a::l=>(c8d le a _).trans (.cons a (b7s le l))
theorem a1k:∀a b:List Nat,leL a b=true ↔ a<=b
 | [],b=>⟨fun _=>List.nil_le b,fun _=>rfl⟩
 |a::l,[]=>⟨fun h=>T1 h,fun h=>absurd h (List.not_le.mpr (List.nil_lt_cons _ _))⟩
 |a::l,b::m=>by
  show ifb (o0 a b) (leL l m) (U0 a b)=true ↔ _;rw[List.cons_le_cons_iff];cases h:o0 a b with
  |true=>exact ⟨fun q=>.inr ⟨V1 h,(a1k l m).mp q⟩,fun q=>q.elim (fun q=>absurd (V1 h) (j3 q)) fun q=>(a1k l m).mpr q.2⟩
  |false=>
   have:=I7 h;exact ⟨fun q=>.inl (Nat.lt_of_le_of_ne (d3 q) this),fun q=>q.elim (fun q=>a9v (J8 q)) fun q=>absurd q.1 this⟩
theorem b0l{α:Type}{le:α->α->Bool}(tr:∀a b c,le a b=true->le b c=true->le a c=true):∀ {l:List α},a4r le l=true->l.Pairwise fun a b=>le a b=true
 | [],_=>.nil
 | [a],_=>List.pairwise_singleton _ _
 |a::b::m,q=>by
  have q:ifb (le a b) (a4r le (b::m)) false=true:=q;cases h:le a b with
  |true=>
   rw[h] at q;exact .cons (fun c hc=>(O0.mp hc).elim (fun e=>e▸h) fun hc=>tr a b c h (List.rel_of_pairwise_cons (b0l tr (l:=b::m) q) hc)) (b0l tr (l:=b::m) q)
  |false=>rw[h] at q;cases q
theorem c9d(a b c:Str)(h1:R7 a b=true)(h2:R7 b c=true):R7 a c=true:=(a1k _ _).mpr (List.le_trans ((a1k _ _).mp h1) ((a1k _ _).mp h2))
theorem e3c(a b:Str)(h1:R7 a b=true)(h2:R7 b a=true):a=b:=by
 have:=List.le_antisymm ((a1k _ _).mp h1) ((a1k _ _).mp h2);obtain ⟨⟨a⟩⟩:=a;obtain ⟨⟨b⟩⟩:=b;exact congrArg (fun l=>Str.mk ⟨l⟩) this
theorem d1g:∀ (p:Str) (l:List Str),risingS p l=true->a4r R7 (p::l)=true
 |p,[],_=>rfl
 |p,x::r,h=>by
  have h':(!PySem.Spec.ltCps x.cps.toList p.cps.toList && risingS x r)=true:=h;rw[a41,ltCps_eq] at h';show ifb (R7 p x) (a4r R7 (x::r)) false=true;refine rE (show R7 p x=true from (a1k _ _).mpr (List.not_lt.mp fun q=>by have:=h'.1;rw[decide_eq_true q] at this;cases this)) ?_;exact d1g x r h'.2
theorem f0e:∀ {l:List Str},sortedS l=true->l.Pairwise fun a b=>R7 a b=true
 | [],_=>.nil
 |p::l,h=>b0l c9d (d1g p l h)
theorem e3a(a b:Int)(h1:leB a b=true)(h2:leB b a=true):a=b:=Int.le_antisymm ((leB_iff _ _).mp h1) ((leB_iff _ _).mp h2)
theorem e3b(a b c:Int)(h1:leB a b=true)(h2:leB b c=true):leB a c=true:=(leB_iff _ _).mpr (a2g ((leB_iff _ _).mp h1) ((leB_iff _ _).mp h2))
theorem d3c{α:Type}{le:α->α->Bool}(as:∀a b,le a b=true->le b a=true->a=b)(tr:∀a b c,le a b=true->le b c=true->le a c=true){l m:List α}(h1:l.Pairwise fun a b=>le a b=true)(h2:a4r le m=true)(p:l.Perm m):l=m:=
 List.Perm.eq_of_pairwise (le:=fun a b=>le a b=true) (fun a b _ _=>as a b) h1 (b0l tr h2) p
section
variable{C:Cx}{A:Around}{E:Value->Shared->Prop}{σ τ:St C}{k:Nat}
theorem d3e{s:Shared}{κ:Type}[DecidableEq κ]{knd:a4j C.prog C.w κ}{d:Addr}{kvs:List (κ×Value)}{Q:Value->Shared->Prop}(hh:A.handled=none)(lo:(d==E6)=false)(hd:s.heap.DictOf knd d kvs)(hn:kvs.length<=60)
  (go:∀ (h':Heap) (tk:Nat) (vs:List Value),(∀b o,s.heap.get? b=some o->h'.get? b=some o)->vs.length=kvs.length->(∀ (j:Nat) (v:Value),vs[j]? =some v->∃k x,kvs[j]? =some (k,x)/\knd.is k v=true)->
   wpAny C.m A.in1.in1 (Builtin.«list.sort» ⟨[.ref h'.objs.size],[]⟩) (fun f s'=>f=.done (.ret .none)/\Q (.ref h'.objs.size) s') E {s with heap:=h'.push (seqObj "list" vs.toArray 0),toks:=tk}):
  wpAny C.m A (call (.builtin "sorted") [.ref d]) Q E s:=by
 obtain ⟨ep,hat⟩:=hd.dictAt;refine call_function_entry kind_sorted plain_sorted entry_sorted (args_sorted1 _) ?_;unfold Builtin.«sorted»;refine m0 (m:=checkCount "sorted" 1 1 _) (q0 ?_);refine m0 (kdu_collect (A:=A.in1) (kdl_dict (knd:=knd) (kvs:=kvs) (ep:=ep) lo) hh hat (M4 (W0 hn (by decide))) fun h' tk acc hk hacc=>?_);have hl:acc.toList.length=kvs.length:=(g8).trans hacc.1;refine m0 (b4i ?_ (hl▸M4 (W0 hn (by decide))));refine m0 (J2 (G8 slot_list_sort ⟨_,c6 _ rfl,rfl⟩ entry_list_sort ?_ (args_list_sort _)));exact F7 (go h' tk acc.toList hk hl fun j v e=>hacc.2 j v (by refine rF (a6i) ?_;exact e)) (fun f s' zz=>ya zz fun e z=>⟨_,e,q0 ⟨_,rfl,z⟩⟩) fun _ _ z=>z
theorem b92{κ:Type}{is:κ->Value->Prop}{R:List Value->List κ->Prop}(h0:R [] [])(h1:∀k v vs ks,is k v->R vs ks->R (v::vs) (k::ks)):∀ {vs:List Value} {kvs:List (κ×Value)},vs.length=kvs.length->(∀ (j:Nat) (v:Value),vs[j]? =some v->∃k x,kvs[j]? =some (k,x)/\is k v)->R vs (kvs.map (·.1))
 | [],kvs,hl,_=>o6 hl.symm▸h0
 |v::vs,kvs,hl,h=>by
  refine B1 (h 0 v rfl) fun k' x' e hk=>?_;cases kvs with
  |nil=>cases e
  |cons p kvs=>
   obtain rfl:=C0 e;exact h1 k' v _ _ hk (b92 h0 h1 (p9 hl) fun j v e=>h (j+1) v e)
theorem a53{k:Int}{v:Value}(h:(U2 C.prog C.w).is k v=true):∃t,v=.int k t:=by
 cases v with
 |int i t=>exact ⟨t,congrArg (u9 · t) (of_decide_eq_true (p:=i=k) (by refine rF (show (i==k)=decide (i=k) from rfl) ?_;exact h))⟩
 |_=>exact T1 h
theorem d3m{k:Str}{v:Value}(h:(r9 C.prog C.w).is k v=true):∃t,v=.str k t:=by
 cases v with
 |str i t=>
  have:i=k:=by simpa [r9,Value.isStrOf,Value.isStr] using h
  exact ⟨t,this▸rfl⟩
 |_=>simp [r9,Value.isStrOf] at h
theorem c96{κ:Type}{H:Heap}{ρ:Nat->Addr}{n:Nat}:∀ {l:List (κ×V)} {kvs:List (κ×Value)},All2 (F5 H ρ n) l kvs->kvs.map (·.1)=l.map (·.1):=fun h=>by
 induction h with
 |nil=>rfl
 |cons h _ ih=>exact rE I8 (rE I8 (rE ih (rE h.1 rfl)))
theorem e28{H:Heap}{ρ:Nat->Addr}{n:Nat}:∀ {vs:List Value} {ns:List Int},IntsAre vs ns->VRl H ρ n (ns.map V.int) vs:=fun h=>by
 induction h with
 |nil=>exact .nil
 |cons n t _ ih=>exact .cons ⟨t,rfl⟩ ih
theorem f0s{H:Heap}{ρ:Nat->Addr}{n:Nat}:∀ {vs:List Value} {ns:List Str},StrsAre vs ns->VRl H ρ n (ns.map V.str) vs:=fun h=>by
 induction h with
 |nil=>exact .nil
 |cons n t _ ih=>exact .cons ⟨t,rfl⟩ ih
theorem d3f{xs:List V}{h':Heap}{vs:List Value}{out:Array Value}{Q:Value->Shared->Prop}{tk:Nat}(z:A0 σ Vr Q (.ref σ.x.n) (σ.x.new (.list xs)))(hx:σ.x.ok=true)(hk:∀b o,σ.h.get? b=some o->h'.get? b=some o)(hv:∀H,VRl H σ.ρ σ.x.n xs out.toList):
  Q (.ref h'.objs.size) {σ.s with heap:=sortedHeap (h'.push (seqObj "list" vs.toArray 0)) h'.objs.size vs out,toks:=tk}:=by
 obtain ⟨e,he⟩:=sortedHeap_at (h:=h'.push (seqObj "list" vs.toArray 0)) (a:=h'.objs.size) (vs:=vs) (n:=0) (out:=out) (c6 _ rfl);refine z.addA hx ?_ (fun b o eb=>?_) he fun _=>⟨out.toList,e,hv _,rfl⟩
 ·cases q:σ.h.get? h'.objs.size with
  |none=>rfl
  |some o=>exact absurd (K3 (hk _ _ q)) (a01 _)
 ·have hb1:=K3 (hk b o eb)
  refine rE (sortedHeap_old (j3 hb1) (by rw[a6l];exact a9x hb1)) ?_;exact V2 _ (hk b o eb)
theorem c9f{κ:Type}{es:List (κ×Option V)}{kvs:List (κ×Value)}{H:Heap}{ρ:Nat->Addr}{n:Nat}(h:U0 es.length 60=true)(r:All2 (F5 H ρ n) (C2 es) kvs):kvs.length<=60:=r.length▸W0 (a5o es) (d3 h)
theorem f0f(rm:F0 k A){o:V}{uo:Value}(ro:Vr σ o uo):GoR A (call (.builtin "sorted") [uo]) σ Vr (d3d o σ.x):=.nd fun j h1=>.nd fun b qj=>.ck fun hx=>by
 refine rE (ro.ref h1) ?_;have hs:=St.not_sys qj;cases b with
 |dictI es=>
  refine .ck fun h60=>.ck fun hch Q E z=>?_;refine yea (St.asI qj rfl) fun kvs hd hr=>?_;have hl60:=c9f h60 hr;refine d3e rm.handled hs hd hl60 fun h' tk vs hk hl hv=>?_;have I:IntsAre vs (kvs.map (·.1)):=b92 .nil (fun k v vs ks h r=>ye (a53 h) fun t e=>e▸.cons _ _ r) hl hv;refine list_sort_tree (s:={σ.s with heap:=h'.push (seqObj "list" vs.toArray 0),toks:=tk}) (c6 _ rfl) I (by refine rE hl ?_;exact Z3 hl60 (by decide)) fun out ns' a1 a2 a3=>⟨rfl,?_⟩;have e:ns'=a83 leB (b23 es):=d3c e3a e3b (a3.imp fun h=>(leB_iff _ _).mpr h) hch (by rw[c96 hr] at a2;exact a2.trans (b7s leB _).symm);subst e;exact d3f z hx hk (fun H=>e28 a1)
 |dictS es=>
  refine .ck fun h60=>.ck fun hch Q E z=>?_;refine yea (St.asS qj rfl) fun kvs hd hr=>?_;have hl60:=c9f h60 hr;refine d3e rm.handled hs hd hl60 fun h' tk vs hk hl hv=>?_;have I:StrsAre vs (kvs.map (·.1)):=b92 .nil (fun k v vs ks h r=>ye (d3m h) fun t e=>e▸.cons _ _ r) hl hv;refine list_sort_treeK (s:={σ.s with heap:=h'.push (seqObj "list" vs.toArray 0),toks:=tk}) strKind_oneLt (c6 _ rfl) I.keysOf (fun v₁ v₂ rest e=>keyKind_strs (by refine rF e ?_;exact I)) (by refine rE hl ?_;exact Z3 hl60 (by decide)) fun st' hp hs=>⟨rfl,?_⟩;refine R0 (sorted_out_str I hp hs) fun ns' a1 a2 a3=>?_;have e:ns'=a83 R7 (b23 es):=d3c e3c c9d (f0e a3) hch (by rw[c96 hr] at a2;exact a2.trans (b7s R7 _).symm);subst e;exact d3f z hx hk (fun H=>f0s a1)
 |_=>exact .fail
end
end
noncomputable def c6e(j:Nat)(i v:V)(x:S):Res Unit:=nd (x.get j) fun b=>nd (a59 b i) fun _=>nd (a3s b i v) fun o=>.ok () (x.put j o)
noncomputable def b6r(j:Nat)(l:List (V×V)):S->Res Unit:=E0 (motive:=fun _=>S->Res Unit) (fun x=>.ok () x) (fun p _ ih x=>(c6e j p.1 p.2 x).bd fun _ x=>ih x) l
noncomputable def d0y(h:HK)(l:List (Option Expr)):List Expr->AE->S->Res (List (V×V)):=E0 (motive:=fun _=>List Expr->AE->S->Res (List (V×V))) (fun vs _ x=>ck (w5 vs) <| .ok [] x)
 (fun k _ ih vs e x=>nd k fun k=>Y2 (motive:=fun _=>Res (List (V×V))) vs .fail fun v vs=>(h.ex k e x).bd fun a x=>(h.ex v e x).bd fun b x=>(ih vs e x).bd fun l x=>.ok ((a,b)::l) x) l
noncomputable def c67(h:HK)(keys:List (Option Expr))(values:List Expr)(e:AE)(x:S):Res V:=ck x.ok <|Y2 (motive:=fun _=>Res V) keys (ck (w5 values) <| .ok (.ref x.n) (x.new (.dictI [])))
 fun _ _=>ck (keys.all (·.isSome)) <|ck (o0 keys.length values.length) <|ck (U0 keys.length 15) <| (d0y h keys values e (x.new (.dictI []))).bd fun l y=>(b6r x.n l y).bd fun _ y=>.ok (.ref x.n) y
set_option genCtorIdx true in
inductive MI where
 |lappend|lpop|lextend|lindex|dget|dset|dpop
noncomputable def MI.id(m:MI):String:=MI.casesOn (motive:=fun _=>String) m "list.append" "list.pop" "list.extend" "list.index" "dict.get" "dict.setdefault" "dict.pop"
noncomputable def lTab:List (Str×MI):=[(⟨#[97,112,112,101,110,100]⟩,.lappend),(⟨#[112,111,112]⟩,.lpop),(⟨#[101,120,116,101,110,100]⟩,.lextend),(⟨#[105,110,100,101,120]⟩,.lindex)]
noncomputable def dTab:List (Str×MI):=[(⟨#[103,101,116]⟩,.dget),(⟨#[112,111,112]⟩,.dpop),(⟨#[115,101,116,100,101,102,97,117,108,116]⟩,.dset)]
noncomputable def bmt(m:MI)(v:V)(vs:List V)(x:S):Res V:=MI.casesOn (motive:=fun _=>Res V) m (nd (one vs) fun a=>(appA v a x).bd fun _ x=>.ok .none x) (ck (w5 vs) <|popA v x) (nd (one vs) fun a=>extA v a x) (nd (one vs) fun a=>lft (c89 v a x) x)
 (Y2 (motive:=fun _=>Res V) vs .fail fun k l=>K0 (motive:=fun _=>Res V) (ck (w5 l) <|lft (a7j v k .none x) x) (fun d=>lft (a7j v k d x) x) (one l)) (nd (two vs fun k d=>some (k,d)) fun p=>c6f v p.1 p.2 x) (nd (two vs fun k d=>some (k,d)) fun p=>c6c v p.1 p.2 x)
noncomputable def dictF(a:V)(x:S):Res V:=nd (G2 a) fun i=>K0 (motive:=fun _=>Res V) (nd (x.get i) fun b=>c62 i b x) (fun xs=>c69 i xs x) (x.list i)
noncomputable def bfn(b:BI)(vs:List V)(x:S):Res V:=BI.casesOn (motive:=fun _=>Res V) b (nd (one vs) fun a=>lft (lenA a x) x) (d18 vs x) (nd (two vs fun a t=>isiA a t x) fun b=>.ok (.bool b) x) (nd (one vs) fun a=>d3d a x) (nd (one vs) fun a=>revA a x) (nd (one vs) fun a=>c79 a x)
 (nd (one vs) fun a=>dictF a x) (nd (one vs) fun a=>lft (d4k a x) x) .fail (nd (one vs) fun a=>lft (maxA a x) x) (nd (one vs) fun a=>nd (vByt a) fun _=>.ok a x) .fail (nd (one vs) fun a=>nd (J3 a) fun _=>.ok a x) .fail (nd (one vs) fun a=>nd (J3 a) fun i=>.ok (.int (.ofNat i.natAbs)) x)
section
variable{C:Cx}{A:Around}{σ τ:St C}{k:Nat}{h:HK}{e:AE}{env:Env}
theorem d8x(rm:F0 k A){j:Nat}{i v:V}{ui u:Value}(ri:Vr σ i ui)(rv:Vr σ v u):GoR A (dictSet (σ.ρ j) ui u) σ Ur (c6e j i v σ.x):=.nd fun b qj=>.nd fun r hr=>.nd fun o' hq Q E z=>by
 cases St.dk qj ri hr with
 |flat knd kk kvs hk _ hd hr st=>
  obtain ⟨hl,st⟩:=st v o' u hq rv;exact wpAny_dictSet_pairs hk hd (fun h' hd' hs'=>A0.set z qj (fun b o q e=>(hs'.2 b q).trans e) (fun o2 e2=>C0 e2▸(G3 hd' fun o3 l3 ep3 ho3 _=>⟨o3,ho3,fun ht=>yea (st h' ht hd') fun ob g1 g2=>C0 (ho3.symm.trans g1)▸g2⟩)) (fun _ _=>trivial) (.inl (b3q hq))) (M4 (W0 hl (by decide)))
 |pair b js xs eb hk hd hr st=>
  subst eb;obtain ⟨hl,st⟩:=st v o' u hq rv;exact wpAny_dictSet_heap (Z3 (m4 _ _) rm.line) hk.is hd (fun h' hd' hs'=>A0.set z qj (fun b o q e=>(hs'.2 b q).trans e) (fun o2 e2=>C0 e2▸(G3 hd' fun o3 l3 ep3 ho3 _=>⟨o3,ho3,fun ht=>yea (st h' ht hd') fun ob g1 g2=>C0 (ho3.symm.trans g1)▸g2⟩)) (fun _ _=>trivial) (.inl (b3q hq))) (M4 (W0 hl (by decide)))
noncomputable def Prs(σ:St C)(l:List (V×V))(m:List (Value×Value)):Prop:=All2 (fun a b=>Vr σ a.1 b.1/\Vr σ a.2 b.2) l m
theorem Le.prs(X:Le σ τ){l:List (V×V)}{m:List (Value×Value)}(r:Prs σ l m):Prs τ l m:=All2.mono (fun _ _ r=>⟨X.v r.1,X.v r.2⟩) r
theorem d10(H:HOk C k h)(rm:F0 k A){pos:Pos}:∀ (ks:List (Option Expr)) (vs:List Expr) {σ:St C},Er σ e env->GoR A (evalPairs (pairTrees ks vs env pos)) σ Prs (d0y h ks vs e σ.x)
 | [],vs,σ,He=>.ck fun q Q E z=>by
  refine rE (U7 q) ?_;exact pairTrees_nil_walk (A0.here z .nil)
 |kx::ks,vs,σ,He=>.nd fun kx q=>by
  refine rE q ?_;cases vs with
  |nil=>exact .fail
  |cons v vs=>
   exact fun Q E z=>pairTrees_cons_walk ((H.ex rm He kx).use z fun a ua τ X r1 z=>(H.ex rm (X.env He) v).use z fun b ub υ Y r2 z=>(d10 H rm ks vs (Y.env (X.env He))).use (F:=fun l x=>.ok ((a,b)::l) x) z fun l m φ Z r3 z=>z _ φ rfl ((X.trans Y).trans Z) (.cons ⟨Z.v (Y.v r1),Z.v r2⟩ r3))
theorem c6g(rm:F0 k A){j:Nat}{a:Addr}:∀ (l:List (V×V)) {m:List (Value×Value)} {σ:St C},Vr σ (.ref j) (.ref a)->Prs σ l m->GoR A (storeAll a m) σ Ur (b6r j l σ.x)
 | [],m,σ,ra,r=>fun Q E z=>by cases r;exact q0 (A0.here z trivial)
 |p::l,m,σ,ra,r=>fun Q E z=>by
  refine R3 (All2.consR r) fun b m zz h1 h2=>?_;subst zz;obtain ⟨ua,ub⟩:=b;unfold storeAll;refine rE (n7 ..) ?_;obtain rfl:a=σ.ρ j:=Z6 ra.1;exact m0 (m0 ((d8x rm h1.1 h1.2).use (F:=fun _ x=>b6r j l x) z fun _ _ τ X _ z=>q0 ((c6g rm l (X.v ra) (X.prs h2)).fin X z)))
theorem d8n(H:HOk C k h)(rm:F0 k A)(He:Er σ e env){keys:List (Option Expr)}{values:List Expr}{pos:Pos}:GoR A (eval (.Dict keys values pos) env) σ Vr (c67 h keys values e σ.x):=.ck fun hx=>by
 have new0:∀ {ρ':Nat->Addr},Ext σ.ρ σ.x σ.h ρ' (σ.x.new (.dictI [])) (σ.h.push y9)->OV C (σ.h.push y9) ρ' (σ.x.n+1) (.dictI []) y9:=fun _=>⟨#[],[],0,rfl,fun e he=>absurd he (a6j e),.nil,a2l,.nil⟩;cases keys with
 |nil=>exact .ck fun q Q E z=>by refine rE (U7 q) ?_;exact wpAny_Dict_empty (A0.new z hx rfl new0)
 |cons kx ks=>
  refine .ck fun c1=>.ck fun c2=>.ck fun c3 Q E z=>?_;refine W4 (St.new_k (o:=.dictI []) (ob:=y9) σ.s.toks hx rfl new0) fun τ e1 e2 X r1=>?_;have e1':{σ.s with heap:=σ.h.push {cls:=.type "dict",data:=.dict #[]}}=τ.s:=e1;refine wpAny_Dict_any c1 (V1 c2) (List.cons_ne_nil _ _) (d3 c3) ?_;refine rE e1' ?_;rw[<-e2] at z;exact (d10 H rm _ _ (X.env He)).use z fun l m υ Y r2 z=>(c6g rm l (Y.v r1) r2).use z fun _ _ φ Z _ z=>z _ φ rfl ((X.trans Y).trans Z) (Z.v (Y.v r1))
theorem c9j{α:Type}{n:Str}{P:Str×α->Prop}{v:α}:∀ {l:List (Str×α)},lk l n=some v->(∀p∈l,P p)->P (n,v)
 | [],q,_=>D0 q
 |p::l,q,h=>by
  have q:ifb (seq p.1 n) (some p.2) (lk l n)=some v:=q;cases hs:seq p.1 n with
  |true=>rw[hs] at q;cases q;refine rF (a0k.mp hs) ?_;exact h p (B3 ..)
  |false=>rw[hs] at q;exact c9j q fun p hp=>h p (C3 _ hp)
noncomputable def MOk(T:String)(p:Str×MI):Prop:=∃t:String,p.1=(t:Str)/\Slot T (t:Str) p.2.id/\typeOf (.builtin p.2.id)=pure (.type "method_descriptor")
theorem e2x:∀p∈lTab,MOk "list" p:=a47.mpr ⟨⟨"append",by decide+kernel,PySem.F.slot_list_append,PySem.F.type_list_append⟩,a47.mpr ⟨⟨"pop",by decide+kernel,PySem.F.slot_list_pop,PySem.F.type_list_pop⟩,a47.mpr ⟨⟨"extend",by decide+kernel,PySem.F.slot_list_extend,PySem.F.type_list_extend⟩,a47.mpr ⟨⟨"index",by decide+kernel,PySem.F.slot_list_index,PySem.F.type_list_index⟩,fun _ h=>nomatch h⟩⟩⟩⟩
theorem b6n:∀p∈dTab,MOk "dict" p:=a47.mpr ⟨⟨"get",by decide+kernel,b02,PySem.F.type_dict_get⟩,a47.mpr ⟨⟨"pop",by decide+kernel,PySem.F.slot_dict_pop,PySem.F.type_dict_pop⟩,a47.mpr ⟨⟨"setdefault",by decide+kernel,PySem.F.slot_dict_setdefault,PySem.F.type_dict_setdefault⟩,fun _ h=>nomatch h⟩⟩⟩
theorem Vrs.one{vs:List V}{us:List Value}{a:V}(r:Vrs σ vs us)(q:Mine.one vs=some a):∃u,us=[u]/\Vr σ a u:=by
 rw[a3h q] at r;refine R3 (All2.consR r) fun u _ zz h1 h2=>?_;subst zz;cases h2;exact ⟨u,rfl,h1⟩
theorem Vrs.two{β:Type}{vs:List V}{us:List Value}{f:V->V->Option β}{c:β}(r:Vrs σ vs us)(q:Mine.two vs f=some c):∃a b u v,f a b=some c/\us=[u,v]/\Vr σ a u/\Vr σ b v:=by
 refine B1 (a27 q) fun a b zz e=>?_;subst zz;obtain ⟨u,_,rfl,h1,r⟩:=All2.consR r;obtain ⟨v,_,rfl,h2,r⟩:=All2.consR r;cases r;exact ⟨a,b,u,v,e,rfl,h1,h2⟩
theorem d6t(rm:F0 k A)(m:MI){v:V}{u:Value}{vs:List V}{us:List Value}(r:Vr σ v u)(rs:Vrs σ vs us):GoR A (p5 (.builtin m.id) (u::us)) σ Vr (bmt m v vs σ.x):=by
 cases m with
 |lappend=>exact .nd fun a q=>by refine yea (rs.one q) fun ua zu ra=>?_;subst zu;exact fun Q E z=>(c4b r ra).use z fun _ _ τ X e z=>z _ τ rfl X e
 |lpop=>exact .ck fun q=>by rw[U7 q] at rs;cases rs;exact e70 r
 |lextend=>exact .nd fun a q=>by refine yea (rs.one q) fun ua zv ra=>?_;subst zv;exact e0l r ra
 |lindex=>exact .nd fun a q=>by refine yea (rs.one q) fun ua zw ra=>?_;subst zw;exact e21 r ra
 |dget=>
  cases rs with
  |nil=>exact .fail
  | @cons k uk l m h1 h2=>
   show GoR _ _ _ _ (K0 (motive:=fun _=>Res V) (ck (w5 l) <|lft (a7j v k .none σ.x) σ.x) (fun d=>lft (a7j v k d σ.x) σ.x) (one l));cases q:one l with
   |none=>exact .ck fun q=>by rw[U7 q] at h2;cases h2;exact c66 rm (.inl ⟨rfl,rfl⟩) r h1 rfl
   |some d=>refine yea (Vrs.one (σ:=σ) h2 q) fun ua zx ra=>?_;subst zx;exact c66 rm (.inr rfl) r h1 ra
 |dset=>exact .nd fun p q=>by refine T6 (rs.two q) fun a b ua ub e zy ra rb=>?_;subst zy;cases e;exact d8y rm r ra rb
 |dpop=>exact .nd fun p q=>by refine T6 (rs.two q) fun a b ua ub e zz ra rb=>?_;subst zz;cases e;exact d8s r ra rb
theorem d6q(rm:F0 k A)(b:BI){vs:List V}{us:List Value}(rs:Vrs σ vs us):GoR A (p5 b.val us) σ Vr (bfn b vs σ.x):=by
 cases b with
 |len=>exact .nd fun a q=>by refine yea (rs.one q) fun ua zp ra=>?_;subst zp;exact e3h ra
 |range=>exact e7c rs
 |isinstance=>exact .nd fun c q=>by refine T6 (rs.two q) fun a b ua ub e zq ra rb=>?_;subst zq;exact fun Q E z=>e2h ra rb e Q E fun tk=>A0.tok z rfl
 |sorted=>exact .nd fun a q=>by refine yea (rs.one q) fun ua zr ra=>?_;subst zr;exact f0f rm ra
 |reversed=>exact .nd fun a q=>by refine yea (rs.one q) fun ua zs ra=>?_;subst zs;exact e7n ra
 |enumerate=>exact .nd fun a q=>by refine yea (rs.one q) fun ua zt ra=>?_;subst zt;exact e0c ra
 |dict=>
  refine .nd fun a q=>.nd fun i hi=>?_;refine yea (rs.one q) fun ua zu ra=>?_;subst zu;refine rE (ra.ref hi) ?_;cases q2:σ.x.list i with
  |some xs=>exact d8r rm q2
  |none=>exact .nd fun b q=>d8h q
 |tuple=>exact .nd fun a q=>by refine yea (rs.one q) fun ua zv ra=>?_;subst zv;exact f1y ra
 |max=>exact .nd fun a q=>by refine yea (rs.one q) fun ua zw ra=>?_;subst zw;exact e42 rm ra
 |bytes=>exact .nd fun a q=>by refine yea (rs.one q) fun ua zx ra=>?_;subst zx;exact d74 ra
 |int=>exact .nd fun a q=>.nd fun i qi Q E z=>by refine yea (rs.one q) fun ua zy ra=>?_;subst zy;obtain ⟨t,rfl⟩:=ra.int qi;exact call_int_int (A0.here z ra)
 |abs=>
   refine .nd fun a q=>.nd fun i qi Q E z=>?_;refine yea (rs.one q) fun ua zz ra=>?_;subst zz;obtain ⟨t,rfl⟩:=ra.int qi;refine call_abs_int fun u tk=>A0.tok z ⟨u,?_⟩;exact rE (show (M2 i.natAbs)=if i < 0 then -i else i by split <;>simp only[b4t] <;>omega) rfl
 |_=>exact .fail
end
noncomputable def a33(args:List Expr)(apos pos:Pos):Bool:=ifb (noStar args) (ifb (J0 args.length 20) (o0 apos.endLine pos.line) false) false
inductive Mt where
 |fn (f:Nat) |bi (m:MI)
noncomputable def biM(l:List (Str×MI))(n:Str):Option Mt:=obd (lk l n) fun m=>some (.bi m)
noncomputable def c9x(n:Str)(o:O)(x:S):Option Mt:=O.casesOn (motive:=fun _=>Option Mt) o (fun _=>biM lTab n) (fun _=>biM dTab n) (fun _=>biM dTab n) (fun _=>biM dTab n) (fun _=>none) (fun _=>none)
 (fun c d=>obd (Pmeth c n) fun f=>obd (x.idict d) fun es=>K0 (motive:=fun _=>Option Mt) (some (.fn f)) (fun _=>none) (lk es n)) (fun _=>none) (fun _ _=>none) (fun _ _=>none) (fun _ _ _=>none) (fun _ _ _=>none) (fun _ _=>none) (fun _ _=>none) (fun _ _ _=>none) (fun _ _=>none) fun _=>none
noncomputable def runM(h:HK)(m:Mt)(ov:V)(vs:List V)(x:S):Res V:=Mt.casesOn (motive:=fun _=>Res V) m (fun f=>h.call (.prog f) (ov::vs) x) (fun m=>bmt m ov vs x)
noncomputable def c9y(h:HK)(o:Expr)(n:Str)(apos pos:Pos)(args:List Expr)(e:AE)(x:S):Res V:=ck (b0e o) <|ck (a33 args apos pos) <| (h.ex o e x).bd fun ov x=>nd (G2 ov) fun i=>nd (x.get i) fun b=>nd (c9x n b x) fun m=>(items h args e x).bd fun vs x=>runM h m ov vs x
noncomputable def b5y(v:V):Bool:=V.casesOn (motive_1:=fun _=>Bool) v false (fun _=>false) (fun _=>false) (fun _=>false) (fun _=>false) (fun _=>true) (fun a=>ifb (Pfn a).isSome true (Pcls a)) (fun _=>false) (fun _=>false)
noncomputable def d03(h:HK)(f:Str)(args:List Expr)(e:AE)(x:S):Res V:=ck (noStar args) <| (A6 f e x).bd fun fv x=>ck (b5y fv) <| (items h args e x).bd fun vs x=>h.call fv vs x
noncomputable def a5l(o:O):Option (Nat×List Nat):=O.casesOn (motive:=fun _=>Option (Nat×List Nat)) o (fun _=>none) (fun _=>none) (fun _=>none) (fun _=>none) (fun _=>none) (fun _=>none) (fun _ _=>none) (fun _=>none) (fun _ _=>none) (fun _ _=>none) (fun _ _ _=>none) (fun _ _ _=>none) (fun _ _=>none) (fun _ _=>none) (fun _ _ _=>none) (fun n g=>some (n,g)) fun _=>none
noncomputable def c6d(vs:List V)(x:S):Res V:=nd (two vs fun a b=>some (a,b)) fun p=>nd (G2 p.1) fun t=>ck (U0 256 t) <|nd (obd (x.get t) a5l) fun c=>ck (U0 c.1 1000000) <|nd (a1n p.2) fun m=>ck (U0 m 16) <|Nat.casesOn (motive:=fun _=>Res V) m .fail fun m=>.ask (Q0 m) fun d=>.ok (.int (.ofNat d)) (x.put t (.tape (Q0 c.1) c.2))
noncomputable def callP(b:Bool)(h:HK)(a:Nat)(vs:List V)(x:S):Res V:=ifb (ifb b (o0 a b00) false) (c6d vs x) (K0 (motive:=fun _=>Res V) (nd (Pinit a) fun f=>c53 h a f vs x) (fun fi=>b0i h a fi vs x) (Pfn a))
noncomputable def c54(b:Bool)(h:HK)(f:V)(vs:List V)(x:S):Res V:=V.casesOn (motive_1:=fun _=>Res V) f .fail (fun _=>.fail) (fun _=>.fail) (fun _=>.fail) (fun _=>.fail) (fun b=>bfn b vs x) (fun a=>callP b h a vs x) (fun _=>.fail) (fun _=>.fail)
noncomputable def V0(C:Cx):Prop:=∀ {A:Around} {σ:St C},F0 20 A->∀ {vs:List V} {us:List Value},Vrs σ vs us->GoR A (p5 (.ref b00) us) σ Vr (c6d vs σ.x)
section
variable{M:Model}{A:Around}{E:Value->Shared->Prop}{s:Shared}{env:Env}
theorem d0a{t:Expr}{l:List Expr}(q:noStar (t::l)=true):(!j7 t)=true/\noStar l=true:=by
 have q:ifb (j7 t) false (noStar l)=true:=q;cases h:j7 t with
 |true=>rw[h] at q;cases q
 |false=>rw[h] at q;exact ⟨rfl,q⟩
theorem a8i(pos:Pos)(env:Env):∀l:List Expr,noStar l=true->(backTo pos (S6 l env)).any (·.1)=false/\(backTo pos (S6 l env)).all (fun x=>!x.1)=true
 | [],_=>⟨rfl,rfl⟩
 |t::l,q=>by
  obtain ⟨h1,h2⟩:=d0a q;obtain ⟨a,b⟩:=a8i pos env l h2;rw[c31 h1];exact ⟨a,b⟩
theorem e0e{f:Value}{pos:Pos}{args:List Expr}{Q:Args->Shared->Prop}(ns:noStar args=true)(h:wpAny M A (spliced (backTo pos (S6 args env))) (fun vs s'=>Q ⟨vs,[]⟩ s') E s):
  wpAny M A (evalArgs f true (backTo pos (S6 args env)) []) Q E s:=by
 cases args with
 |nil=>
  unfold evalArgs;show wpAny M A (spliced [] >>=_) Q E s;exact m0 (F7 h (fun vs s' h'=>m0 (q0 (J2 (m0 (q0 (m0 (q0 (q0 h')))))))) fun _ _ x=>x)
 |cons t l=>
  rw[c31 (d0a ns).1] at h ⊢;exact evalArgs_plain h
theorem a4q{f:Value}{first:List Value}{pos:Pos}{args:List Expr}{PP:Heap->Prop}{Q:Value->Shared->Prop}(ns:noStar args=true)
  (hk:∀h,PP h->∃k,(k=Keeper.frame∨k=b4v∨k=Keeper.boundFrame)/\Looks M h (keeperOf f) k)
  (h:wpAny M A (spliced (backTo pos (S6 args env))) (fun vs s'=>PP s'.heap/\wpAny M A (call f (first++vs)) Q E s') E s):wpAny M A (callWith pos f first (backTo pos (S6 args env)) []) Q E s:=
 callWith_of (by refine rE ((a8i pos env args ns).1) ?_;rfl) hk (e0e ns h)
theorem b1a{args:List Expr}{apos pos:Pos}(q:a33 args apos pos=true):noStar args=true/\args.length < 20/\apos.endLine=pos.line:=by
 unfold a33 at q;cases h1:noStar args with
 |false=>rw[h1] at q;cases q
 |true=>
  cases h2:J0 args.length 20 with
  |false=>rw[h1,h2] at q;cases q
  |true=>rw[h1,h2] at q;exact ⟨rfl,B4 h2,V1 q⟩
theorem e4b{o:Expr}{n:Str}{apos pos:Pos}{args:List Expr}{Q:Value->Shared->Prop}(hb:b0e o=true)(q:a33 args apos pos=true)
  (h:wpAny M A (eval o env) (fun ov s₁=>∃f first,(∀ (pl:Sem Bool) (Q':Value×List Value->Shared->Prop),Q' (f,first) s₁->wpAny M A (a1g ov n pl) Q' E s₁)/\wpAny M A (callWith pos f first (backTo pos (S6 args env)) []) Q E s₁) E s):
  wpAny M A (eval (.Call (.Attribute o n apos) args [] pos) env) Q E s:=by
 refine yaa (b1a q) fun q1 q2 q3=>?_;refine rE (arm_eval_Call ..) ?_;rw[b5u hb];refine m0 (F7 h (fun ov s₁ zz=>B1 zz fun f first hg hc=>m0 (H5 ?_)) fun _ _ x=>x);unfold methodCall;rw[show a8g (args.length+([]:List Keyword).length) (backTo pos (S6 args env)) (backToKw pos (keywordEach [] env))=true by
  unfold a8g;refine rE ((a8i pos env args q1).2) ?_;exact decide_eq_true (show args.length+0+0 < 30 from i4 q2 (by decide))]
 refine m0 (J2 ?_);show wpAny _ _ (a1g ov n _) _ _ _;refine hg _ _ (m0 (A5 ?_ hc));unfold methodCallPos;refine rE q3 (rE (beq_self_eq_true ..) ?_);rfl
end
section
variable{C:Cx}{A:Around}{σ τ:St C}{k:Nat}{h:HK}{e:AE}{env:Env}
theorem d78{b:Bool}(Dr:b=true->V0 C/\20<=k+1)(H:HOk C k h)(rm:F0 (k+1) A){f:V}{uf:Value}{vs:List V}{us:List Value}(rf:Vr σ f uf)(r:Vrs σ vs us):GoR A (p5 uf us) σ Vr (c54 b h f vs σ.x):=by
 cases f with
 |bi b=>cases rf;exact d6q rm b r
 |prog a=>
  cases rf;refine e1w (P:=fun r=>GoR A (p5 (.ref a) us) σ Vr r) (fun ht=>?_) fun _=>?_
  ·cases b with
   |false=>cases ht
   |true=>refine rE (V1 ht) ?_;exact (Dr rfl).1 (rm.mono (Dr rfl).2) r
  ·cases hf:Pfn a with
   |some fi=>exact e0w H rm.space hf r
   |none=>exact .nd fun f hi=>e4p H rm hi r
 |_=>exact .fail
theorem e2r{a:Nat}{fi:FI}(hf:Pfn a=some fi):keepIn C.K (.ref a)=true:=by
 obtain ⟨fd,F⟩:=C.Y.fn a fi hf;refine yea F.at_ fun zz ho hod=>?_;obtain ⟨c,d,dt,sl⟩:=zz;dsimp only at hod;subst hod;unfold keepIn;dsimp only
 erw [ho]
noncomputable def a0v(C:Cx)(f:Value):Prop:=∃PP:Heap->Prop,(∀h',(∀b o,C.hb.get? b=some o->h'.get? b=some o)->PP h')/\∀h,PP h->∃k,(k=Keeper.frame∨k=b4v∨k=Keeper.boundFrame)/\Looks C.m h (keeperOf f) k
theorem a0v.K{a:Addr}(h:keepIn C.K (.ref a)=true):a0v C (.ref a):=⟨fun h'=>C.K.In h',fun h' kk b o eo=>kk b o (C.Y.kin b o eo),keeps_K h⟩
theorem a0v.any{f:Value}(hf:∀M h,Looks M h (keeperOf f) b4v):a0v C f:=⟨fun _=>True,fun _ _=>trivial,fun h _=>⟨_,.inr (.inl rfl),hf _ h⟩⟩
theorem c56{v:V}{u:Value}(r:Vr σ v u)(q:b5y v=true):a0v C u:=by
 cases v with
 |bi b=>cases r;exact .any (by intro M h;cases b <;>exact .now)
 |prog a=>
  cases r;have q:ifb (Pfn a).isSome true (Pcls a)=true:=q;cases hf:Pfn a with
  |some fi=>exact .K (e2r hf)
  |none=>rw[hf] at q;exact .K (C.Y.cls a q).keep
 |_=>exact T1 q
theorem c8w(H:HOk C k h)(rm:F0 k A)(He:Er σ e env){args:List Expr}{pos:Pos}{first:List Value}{f:Value}{G:List V->S->Res V}(ns:noStar args=true)(hk:a0v C f)
  (go:∀vs us (τ:St C),Le σ τ->Vrs τ vs us->GoR A (p5 f (first++us)) τ Vr (G vs τ.x)):GoR A (callWith pos f first (backTo pos (S6 args env)) []) σ Vr ((items h args e σ.x).bd G):=fun Q E z=>
 yea hk fun PP hp hk=>
 a4q (PP:=PP) ns hk ((a54 H rm args He).use z fun vs us τ X r z=>⟨hp _ τ.D.keep,(go vs us τ X r).fin X z⟩)
theorem e4k(H:HOk C k h)(rm:F0 k A)(He:Er σ e env){f:Str}{fp:Pos}{args:List Expr}{pos:Pos}:GoR A (eval (.Call (.Name f fp) args [] pos) env) σ Vr (d03 h f args e σ.x):=.ck fun ns Q E z=>
 b4c ((v8 He).use z fun fv uf τ X r z=>ya (t7 z) fun hc z=>
  (c8w H rm (X.env He) (first:=[]) ns (c56 r hc) fun vs us υ Y r'=>H.call rm (Y.v r) r').fin X z)
noncomputable def Meth(σ:St C)(A:Around)(n:Str)(u f:Value)(m:Mt):Prop:=(∀ (E:Value->Shared->Prop) (pl:Sem Bool) (Q':Value×List Value->Shared->Prop),Q' (f,[u]) σ.s->wpAny C.m A (a1g u n pl) Q' E σ.s)/\a0v C f/\Mt.casesOn (motive:=fun _=>Prop) m (fun a=>f=.ref a) (fun m=>f=.builtin m.id)
theorem b2p{n:Str}{T:String}{l:List (Str×MI)}{m:Mt}{a:Addr}{ob:Obj}(q:biM l n=some m)(hl:∀p∈l,MOk T p)(pa:PlainAttrs T)(h1:σ.h.get? a=some ob)(h2:ob.cls=.type T)(h3:ob.dict=none):∃f,Meth σ A n (.ref a) f m:=by
 revert q;refine obE fun m' q1 q=>?_;cases q;refine R0 (c9j q1 hl) fun t zz sl ty=>?_;subst zz;exact ⟨_,fun E pl Q' hq=>getMethod_builtin ⟨_,h1,h2⟩ pa sl ty (fun a ha=>by cases ha;exact ⟨_,h1,h3⟩) hq,.any fun _ _=>.now,rfl⟩
theorem e46{n:Str}{i:Nat}{b:O}{m:Mt}(q:σ.x.get i=some b)(hm:c9x n b σ.x=some m):∃f,Meth σ A n (.ref (σ.ρ i)) f m:=by
 refine yea (σ.at q) fun ob g1 g2=>?_;cases b with
 |list xs=>refine B1 g2 fun vs n1 _ zv=>?_;clear g2;subst zv;exact b2p hm e2x PySem.F.plainAttrs_list g1 rfl rfl
 |dictI es=>refine G3 g2 fun l kvs n1 zw _=>?_;clear g2;subst zw;exact b2p hm b6n PySem.F.plainAttrs_dict g1 rfl rfl
 |dictS es=>refine G3 g2 fun l kvs n1 zx _=>?_;clear g2;subst zx;exact b2p hm b6n PySem.F.plainAttrs_dict g1 rfl rfl
 |six es=>refine G3 g2 fun l kvs n1 zy _=>?_;clear g2;subst zy;exact b2p hm b6n PySem.F.plainAttrs_dict g1 rfl rfl
 |inst c d=>
  revert hm;refine obE fun f h1 hm=>?_;revert hm;refine obE fun es h2 hm=>?_;cases h3:lk es n with
  |some v=>rw[h3] at hm;cases hm
  |none=>
   rw[h3] at hm;cases hm;refine T6 (St.inst q h2) fun ox od l kk I _ _ zz=>?_;refine Q5 zz fun hd hs _ hf=>?_;clear zz;refine Q5 (C.Y.meth _ _ _ h1) fun hc m1 m2 m3=>?_;have G:=C.Y.cls _ hc;refine ⟨.ref f,fun E pl Q' hq=>method_fn σ.kin I G.ga G.hook m1 m2 ?_ hq,.K m3,rfl⟩;have hfn:=hf n;rw[h3] at hfn;unfold shadowIn;dsimp only;refine rE (c9k hd hs) (rE (show nsFind l n=none from hfn) ?_);rfl
 |_=>exact D0 hm
theorem e47(H:HOk C k h)(rm:F0 k A)(He:Er σ e env){o:Expr}{n:Str}{apos pos:Pos}{args:List Expr}:GoR A (eval (.Call (.Attribute o n apos) args [] pos) env) σ Vr (c9y h o n apos pos args e σ.x):=.ck fun hb=>.ck fun hf Q E z=>by
 refine e4b hb hf ((H.ex rm He o).use z fun ov uo τ X r z=>?_);revert z;refine ndE fun i h1 z=>?_;revert z;refine ndE fun b h2 z=>?_;revert z;refine ndE fun m h3 z=>?_;refine R0 (e46 (A:=A) h2 h3) fun f g1 g2 g3=>?_;refine rE (r.ref h1) ?_;refine ⟨f,[.ref (τ.ρ i)],fun pl Q' hq=>g1 E pl Q' hq,(c8w H rm (X.env He) (first:=[.ref (τ.ρ i)]) (b1a hf).1 g2 fun vs us υ Y r'=>?_).fin X z⟩;have ro:=Y.v (r.ref h1▸r);cases m with
 |fn a=>refine rE (show f=.ref a from g3) ?_;exact H.call rm (f:=.prog a) rfl (.cons ro r')
 |bi m=>refine rE (show f=.builtin m.id from g3) ?_;exact d6t rm m ro r'
end
structure CT where
 ex:Expr->AE->S->Option (Res V)
 sts:List Stmt->AE->S->Option (Res FL)
 call:V->List V->S->Option (Res V)
 tr:Expr->AE->S->Option (Res Bool)
structure Y3(C:Cx)(c:Nat)(ct:CT):Prop where
 ex:∀ {A:Around} {σ:St C} {e:AE} {env:Env},F0 c A->Er σ e env->∀ (ex:Expr) {r:Res V},ct.ex ex e σ.x=some r->GoR A (eval ex env) σ Vr r
 sts:∀ {A:Around} {σ:St C} {e:AE} {env:Env},F0 c A->Er σ e env->∀ (l:List Stmt) {r:Res FL},ct.sts l e σ.x=some r->GoR A (execs l env) σ Fr r
 call:∀ {A:Around} {σ:St C},F0 c A->∀ {f:V} {uf:Value} {vs:List V} {us:List Value} {r:Res V},Vr σ f uf->Vrs σ vs us->ct.call f vs σ.x=some r->GoR A (p5 uf us) σ Vr r
 tr:∀ {A:Around} {σ:St C} {e:AE} {env:Env},F0 c A->Er σ e env->∀ (ex:Expr) {r:Res Bool},ct.tr ex e σ.x=some r->GoR A (isTrue ex env (eval ex env)) σ Br r
noncomputable def ct0:CT:=⟨fun _ _ _=>none,fun _ _ _=>none,fun _ _ _=>none,fun _ _ _=>none⟩
noncomputable def flow(ih:AE->S->Res FL)(e:AE)(f:FL)(x:S):Res FL:=FL.casesOn (motive:=fun _=>Res FL) f (ih e x) (.ok .brk x) (.ok .cont x) (fun v=>.ok (.ret v) x)
noncomputable def orC{α:Type}(o:Option (Res α))(r:Res α):Res α:=K0 (motive:=fun _=>Res α) r (fun r=>r) o
noncomputable def stsC(ct:CT)(h:HK)(l:List Stmt):AE->S->Res FL:=E0 (motive:=fun _=>AE->S->Res FL)
 (fun e x=>orC (ct.sts [] e x) (.ok .next x))
 (fun st l ih e x=>orC (ct.sts (st::l) e x) ((stX h st e x).bd (flow ih e))) l
noncomputable def boolV(op:BoolOp)(t:Bool)(v:V)(r:Res V)(x:S):Res V:=BoolOp.casesOn (motive:=fun _=>Res V) op (ifb t r (.ok v x)) (ifb t (.ok v x) r)
noncomputable def c4w(op:BoolOp)(vs:List Expr)(h:HK)(e:AE)(x:S):Res V:=nd (two vs fun a b=>some (a,b)) fun p=>(h.ex p.1 e x).bd fun v x=>nd (truA v x) fun t=>boolV op t v (h.ex p.2 e x) x
noncomputable def unX(op:UnaryOp)(y:Expr)(h:HK)(e:AE)(x:S):Res V:=(h.ex y e x).bd fun v x=>UnaryOp.casesOn (motive:=fun _=>Res V) op .fail (nd (truA v x) fun b=>.ok (.bool (!b)) x) .fail (nd (J3 v) fun i=>.ok (.int (-i)) x)
noncomputable def cmpE(l:Expr)(ops:List CmpOp)(rs:List Expr)(h:HK)(e:AE)(x:S):Res V:=nd (one ops) fun op=>nd (one rs) fun r=>(cmpX h l op r e x).bd fun b x=>.ok (.bool b) x
noncomputable def callE(f:Expr)(args:List Expr)(kw:List Keyword)(pos:Pos)(h:HK)(e:AE)(x:S):Res V:=ck (w5 kw) <|a0u (motive_1:=fun _=>Res V) f (fun _ _ _=>.fail) (fun _ _ _=>.fail) (fun _ _ _ _=>.fail) (fun _ _ _=>.fail) (fun _ _ _ _=>.fail) (fun _ _ _ _=>.fail) (fun _ _ _=>.fail) (fun _ _ _=>.fail) (fun _ _ _ _=>.fail) (fun _ _ _ _=>.fail) (fun _ _ _ _ _=>.fail) (fun _ _ _ _=>.fail)
 (fun _ _=>.fail) (fun _ _=>.fail) (fun _ _=>.fail) (fun _ _ _ _=>.fail) (fun _ _ _ _=>.fail) (fun _ _ _ _=>.fail) (fun _ _=>.fail) (fun _ _ _=>.fail) (fun o n apos=>c9y h o n apos pos args e x) (fun _ _ _=>.fail) (fun _ _=>.fail) (fun n _=>d03 h n args e x) (fun _ _=>.fail) (fun _ _ _=>.fail) (fun _ _ _ _=>.fail)
noncomputable def noE:HK->AE->S->Res V:=fun _ _ _=>.fail
noncomputable def exX(h:HK)(ex:Expr)(e:AE)(x:S):Res V:=
 a0u (motive_1:=fun _=>HK->AE->S->Res V) ex
  (fun op vs _=>c4w op vs)
  (fun _ _ _=>noE)
  (fun l op r _ h e x=>binX h l op r e x)
  (fun op y _=>unX op y)
  (fun _ _ _ _=>noE)
  (fun t b c _ h e x=>ifX h t b c e x)
  (fun ks vs _ h e x=>c67 h ks vs e x)
  (fun _ _ _=>noE)
  (fun elt gens sc pos h e x=>c5i h (.ListComp elt gens sc pos) e x)
  (fun _ _ _ _=>noE) (fun _ _ _ _ _=>noE) (fun _ _ _ _=>noE) (fun _ _=>noE) (fun _ _=>noE) (fun _ _=>noE)
  (fun l ops rs _=>cmpE l ops rs)
  (fun f args kw pos=>callE f args kw pos)
  (fun _ _ _ _=>noE) (fun _ _=>noE)
  (fun c _ _ _ _ x=>lft (c5k c) x)
  (fun o n _ h e x=>c4m h o n e x)
  (fun o i _ h e x=>subX h o i e x)
  (fun _ _=>noE)
  (fun n _ _ e x=>A6 n e x)
  (fun l _ h e x=>c9i h l e x)
  (fun l _ _ h e x=>tupX h l e x)
  (fun _ _ _ _=>noE)
  h e x
noncomputable def step(b:Bool)(ct:CT)(h:HK):HK where
 ex ex e x:=orC (ct.ex ex e x) (exX h ex e x)
 tr ex e x:=orC (ct.tr ex e x) (trX h ex e x)
 sts:=stsC ct h
 asg:=asgX h
 call f vs x:=orC (ct.call f vs x) (c54 b h f vs x)
 forL:=forX h
 whl:=whlX h
 cmpL:=c5d h
noncomputable def hk0:HK where
 ex _ _ _:=.fail
 tr _ _ _:=.fail
 sts _ _ _:=.fail
 asg _ _ _ _:=.fail
 call _ _ _:=.fail
 forL _ _ _ _ _:=.fail
 whl _ _ _ _:=.fail
 cmpL _ _ _ _ _ _:=.fail
noncomputable def hk(c:Nat)(ct:CT)(n:Nat):HK:=o4 (motive:=fun _=>HK) hk0 (fun k h=>step (U0 20 (Q0 k)) (ifb (U0 c (Q0 k)) ct ct0) h) n
section
variable{C:Cx}{A:Around}{σ τ:St C}{k c:Nat}{h:HK}{e:AE}{env:Env}{ct:CT}
theorem a8n{α β:Type}{t:Sem α}{R:St C->β->α->Prop}{o:Option (Res β)}{r:Res β}(h1:∀r,o=some r->GoR A t σ R r)(h2:GoR A t σ R r):GoR A t σ R (orC o r):=by
 cases o with
 |some r=>exact h1 r rfl
 |none=>exact h2
theorem d3o(CY:Y3 C (k+1) ct)(H:HOk C k h)(rm:F0 (k+1) A):∀ (l:List Stmt) {σ:St C},Er σ e env->GoR A (execs l env) σ Fr (stsC ct h l e σ.x)
 | [],σ,He=>a8n (fun r q=>CY.sts rm He _ q) fun Q E z=>c3o (A0.here z rfl)
 |st::l,σ,He=>a8n (fun r q=>CY.sts rm He _ q) fun Q E z=>by
  refine j9 ((f0l H rm.less He st).use (F:=flow (stsC ct h l) e) z fun f fl τ X r z=>?_);cases f with
  |next=>cases r;exact (d3o CY H rm l (X.env He)).fin X z
  |brk=>cases r;exact z _ τ rfl X rfl
  |cont=>cases r;exact z _ τ rfl X rfl
  |ret v=>refine yea r fun u zz ru=>?_;clear r;subst zz;exact z _ τ rfl X ⟨_,rfl,ru⟩
variable(H:HOk C k h)(rm:F0 k A)(He:Er σ e env)
include H rm He
theorem f24(op:UnaryOp)(y:Expr)(pos:Pos):GoR A (eval (.UnaryOp op y pos) env) σ Vr (unX op y h e σ.x):=fun Q E z=>
 wpAny_UnaryOp ((H.ex rm He y).use z fun v u τ X r z=>by
  cases op with
  |USub=>refine yea (T7 z) fun i q z=>?_;obtain ⟨t,rfl⟩:=r.int q;exact PyProof.Rows.neg_int (z _ (τ.tok _) rfl (X.trans .tok) ⟨_,rfl⟩)
  |Not=>refine yea (T7 z) fun b q z=>?_;exact not_value (c3g r q fun tk=>z _ (τ.tok tk) rfl (X.trans .tok) rfl)
  |_=>exact z.elim)
theorem d6x(op:BoolOp)(vs:List Expr)(pos:Pos):GoR A (eval (.BoolOp op vs pos) env) σ Vr (c4w op vs h e σ.x):=.nd fun p q Q E z=>by
 refine B1 (a27 q) fun a b zz e1=>?_;subst zz;cases e1;refine rE (arm_eval_BoolOp ..) ?_;show wpAny _ _ (do let v<-eval a env;a24 pos;let t<-O6 [v] (truthy v);match op,t with| .And,false| .Or,true=>pure v|_,_=>eval b env) _ _ _;refine m0 ((H.ex rm He a).use z fun v u τ X r z=>m0 (H5 (m0 (J2 ?_))));revert z;refine ndE fun t q z=>?_;refine c3g r q fun tk=>?_;have go:(h.ex b e τ.x).All (A0 σ Vr Q)->wpAny C.m A (eval b env) Q E (τ.tok tk).s:=fun z=>(H.ex (σ:=τ.tok tk) rm ((X.trans .tok).env He) b).fin (X.trans .tok) z;cases op <;>cases t <;>first|exact go z|exact q0 (z u (τ.tok tk) rfl (X.trans .tok) r)
theorem e0f(ex:Expr):GoR A (eval ex env) σ Vr (exX h ex e σ.x):=by
 cases ex with
 |BoolOp op vs p=>exact d6x H rm He op vs p
 |BinOp l op r p=>exact d6r H rm He
 |UnaryOp op y p=>exact f24 H rm He op y p
 |IfExp t b c p=>exact e1v H rm He
 |Dict ks vs p=>exact d8n H rm He
 |ListComp elt gens sc p=>exact d81 H rm He
 |Compare l ops rs p=>exact .nd fun op q1=>.nd fun r q2=>by refine rE (a3h q1) (rE (a3h q2) ?_);exact d7t H rm He
 |Call f args kw p=>
  refine .ck fun q=>?_;refine rE (U7 q) ?_;cases f with
  |Attribute o n ap=>exact e47 H rm He
  |Name f fp=>exact e4k H rm He
  |_=>exact .fail
 |Constant c k p=>refine rE (b5n ..) ?_;exact b0p
 |Attribute o n p=>exact d6m H rm He
 |Subscript o i p=>exact d3s H rm He
 |Name n p=>exact v8 He
 |List l p=>exact e3i H rm He
 |Tuple l k p=>exact f1x H rm He
 |_=>exact .fail
omit H rm He
theorem e1p:HOk C 0 hk0 where
 ex _ _ _:=.fail
 tr _ _ _:=.fail
 sts _ _ _:=.fail
 asg _ _ _ _ _ _:=.fail
 call _ _ _ _ _ _ _:=.fail
 forL _ _ _ _ _ _ _:=fun _ z=>z.elim
 whl _ _ _ _:=fun _ z=>z.elim
 cmpL _ _ _ _ _ _ _ _ _ _:=fun _ z=>z.elim
theorem A3:Y3 C c ct0:=⟨fun _ _ _ _ q=>D0 q,fun _ _ _ _ q=>D0 q,fun _ _ _ _ _ _ _ _ q=>D0 q,fun _ _ _ _ q=>D0 q⟩
theorem Y3.mono{c c':Nat}(CY:Y3 C c ct)(h:c<=c'):Y3 C c' ct:=⟨fun rm=>CY.ex (rm.mono h),fun rm=>CY.sts (rm.mono h),fun rm=>CY.call (rm.mono h),fun rm=>CY.tr (rm.mono h)⟩
theorem f0o{b:Bool}(CY:Y3 C (k+1) ct)(Dr:b=true->V0 C/\20<=k+1)(H:HOk C k h):HOk C (k+1) (step b ct h) where
 ex rm He ex:=a8n (fun r q=>CY.ex rm He ex q) (e0f H rm.less He ex)
 tr rm He t:=a8n (fun r q=>CY.tr rm He t q) (f1q H rm.less He t)
 sts rm He l:=d3o CY H rm l He
 asg rm He t _ _ r:=d6g H rm.less t He r
 call rm _ _ _ _ rf r:=a8n (fun r' q=>CY.call rm rf r q) (d78 Dr H rm rf r)
 forL rm He t _ _ b r:=e11 H rm.less He r
 whl rm He t b:=f2a H rm.less He
 cmpL rm He ce d _ _ _ _ r ra:=d7r H rm.less He r ra
theorem a35(CY:Y3 C c ct):∀n,(n < 20∨V0 C)->HOk C n (hk c ct n)
 |0,_=>e1p
 |n+1,Dr=>by
  refine f0o (b:=U0 20 (n+1)) (ct:=ifb (U0 c (n+1)) ct ct0) ?_ (fun h=>?_) (a35 CY n (Dr.imp (fun h=>Nat.lt_of_succ_lt h) id))
  ·cases h:U0 c (n+1) with
   |true=>exact CY.mono (d3 h)
   |false=>exact A3
  ·have h:=d3 h
   exact ⟨Dr.resolve_left (M3.mpr h),h⟩
theorem f7(CY:Y3 C c ct)(Dr:V0 C)(n:Nat):HOk C n (hk c ct n):=a35 CY n (.inr Dr)
end
noncomputable def mapL{α β:Type}(f:α->β)(l:List α):List β:=E0 (motive:=fun _=>List β) [] (fun a _ ih=>f a::ih) l
noncomputable def nthD(L:List Nat):Nat->Nat:=E0 (motive:=fun _=>Nat->Nat) (fun _=>1000000) (fun a _ ih j=>o4 (motive:=fun _=>Nat) a (fun j _=>ih j) j) L
noncomputable def a5j(a:Nat)(l:List Nat)(j:Nat):Nat:=o4 (motive:=fun _=>Nat) a (fun j _=>E0 (motive:=fun _=>Nat->Nat) (fun _=>a) (fun b _ ih j=>o4 (motive:=fun _=>Nat) b (fun j _=>ih j) j) l j) j
noncomputable def E8(v:V):V:=V.rec (motive_1:=fun _=>V) (motive_2:=fun _=>List V) .none .bool .int .str .byt .bi .prog (fun i=>.ref (O1 i 256)) (fun _ ih=>.tup ih) [] (fun _ _ a l=>a::l) v
noncomputable def D7(l:List V):List V:=V.rec_1 (motive_1:=fun _=>V) (motive_2:=fun _=>List V) .none .bool .int .str .byt .bi .prog (fun i=>.ref (O1 i 256)) (fun _ ih=>.tup ih) [] (fun _ _ a l=>a::l) l
noncomputable def a3u(o:Option V):Option V:=K0 (motive:=fun _=>Option V) none (fun v=>some (E8 v)) o
noncomputable def rS(r:Nat->Nat)(a:Nat):Nat:=ifb (U0 1000 a) (O1 (A2 a 1000) 256) (r a)
noncomputable def a3v(v:V):V:=V.rec (motive_1:=fun _=>V) (motive_2:=fun _=>List V) .none .bool .int .str .byt .bi .prog (fun _=>.none) (fun _ ih=>.tup ih) [] (fun _ _ a l=>a::l) v
noncomputable def a99(l:List V):List V:=V.rec_1 (motive_1:=fun _=>V) (motive_2:=fun _=>List V) .none .bool .int .str .byt .bi .prog (fun _=>.none) (fun _ ih=>.tup ih) [] (fun _ _ a l=>a::l) l
noncomputable def f9(o:Option V):Option V:=K0 (motive:=fun _=>Option V) none (fun v=>some (a3v v)) o
inductive VT where
 |v (a:V) |n (j:Nat) |tp (l:List VT)
inductive DT where
 |o (a:Option V) |t (a:VT) |sub (d:Option VT) (a:Nat) (as:List Nat)
inductive T0 where
 |list (xs:List VT) |idict (es:List (Str×VT)) |inst (c d:Nat) |dI|dS (es:List (Str×Option V))
structure So where
 o:Option V
 ok:a3u o=o
noncomputable def So.no:So:=⟨none,rfl⟩
noncomputable def So.int(i:Int):So:=⟨some (.int i),rfl⟩
inductive OT where
 |list (xs:List VT) |lst (xs:List V) |dictI (es:List (Int×DT)) |dI (es:List (Int×Option V)) |dictS (es:List (Str×DT)) |six (q:Nat->So) |ns (es:List (Str×VT)) |idict (es:List (Str×VT)) |inst (c d:Nat) |cell (v:DT) |tape (n:Nat) (g:List Nat) |sub (t:Option T0) (a:Nat) (as:List Nat) |hole|code (j:Nat)
section
variable(r:Nat->Nat)
noncomputable def VT.val(t:VT):V:=VT.rec (motive_1:=fun _=>V) (motive_2:=fun _=>List V) E8 (fun j=>.ref (r j)) (fun _ ih=>.tup ih) [] (fun _ _ a l=>a::l) t
noncomputable def VT.vals(t:List VT):List V:=VT.rec_1 (motive_1:=fun _=>V) (motive_2:=fun _=>List V) E8 (fun j=>.ref (r j)) (fun _ ih=>.tup ih) [] (fun _ _ a l=>a::l) t
noncomputable def VT.valS(t:VT):V:=VT.rec (motive_1:=fun _=>V) (motive_2:=fun _=>List V) a3v (fun j=>.ref (r j)) (fun _ ih=>.tup ih) [] (fun _ _ a l=>a::l) t
noncomputable def VT.valsS(t:List VT):List V:=VT.rec_1 (motive_1:=fun _=>V) (motive_2:=fun _=>List V) a3v (fun j=>.ref (r j)) (fun _ ih=>.tup ih) [] (fun _ _ a l=>a::l) t
noncomputable def DT.val(d:DT):Option V:=DT.casesOn (motive:=fun _=>Option V) d a3u (fun t=>some (t.val r)) fun d a as=>K0 (motive:=fun _=>Option V) none (fun t=>some (t.valS (a5j (rS r a) (mapL (rS r) as)))) d
noncomputable def entD{κ:Type}(e:κ×DT):κ×Option V:=(e.1,e.2.val r)
noncomputable def entS{κ:Type}(e:κ×Option V):κ×Option V:=(e.1,a3u e.2)
noncomputable def entN(e:Str×VT):Str×V:=(e.1,e.2.val r)
noncomputable def entZ(e:Str×Option V):Str×Option V:=(e.1,f9 e.2)
noncomputable def b72(e:Str×VT):Str×V:=(e.1,e.2.valS r)
noncomputable def a3t(q:Nat->So):O:=.six [(q 0).o,(q 1).o,(q 2).o,(q 3).o,(q 4).o,(q 5).o]
noncomputable def T0.val(t:T0):O:=T0.casesOn (motive:=fun _=>O) t (fun xs=>.list (VT.valsS r xs)) (fun es=>.idict (mapL (b72 r) es)) (fun c d=>.inst c (r d)) (.dictI []) (fun es=>.dictS (mapL entZ es))
noncomputable def OT.val(t:OT):O:=OT.casesOn (motive:=fun _=>O) t (fun xs=>.list (VT.vals r xs)) (fun xs=>.list (D7 xs)) (fun es=>.dictI (mapL (entD r) es)) (fun es=>.dictI (mapL entS es)) (fun es=>.dictS (mapL (entD r) es)) a3t (fun es=>.ns (mapL (entN r) es)) (fun es=>.idict (mapL (entN r) es)) (fun c d=>.inst c (r d)) (fun v=>.cell (v.val r)) .tape (fun t a as=>K0 (motive:=fun _=>O) (.range 0 0 0) (T0.val (a5j (rS r a) (mapL (rS r) as))) t) (.range 0 0 0) fun j=>.code (r j)
noncomputable def subO{α:Type}(t:OT)(a:α)(f:Option T0->α)(b:α):α:=OT.casesOn (motive:=fun _=>α) t (fun _=>a) (fun _=>a) (fun _=>a) (fun _=>a) (fun _=>a) (fun _=>a) (fun _=>a) (fun _=>a) (fun _ _=>a) (fun _=>a) (fun _ _=>a) (fun t _ _=>f t) b fun _=>a
noncomputable def P6(t:OT):Bool:=subO t false (fun t=>K0 (motive:=fun _=>Bool) true (fun _=>false) t) true
noncomputable def b1t(t:OT):Bool:=subO t false (fun _=>true) false
noncomputable def y4(t:OT):Bool:=subO t false (fun _=>false) true
noncomputable def H9(l:List OT):Bool:=E0 (motive:=fun _=>Bool) true (fun t _ ih=>ifb (b1t t) false ih) l
noncomputable def B0(t:Option OT):Option O:=K0 (motive:=fun _=>Option O) none (fun t=>ifb (P6 t) none (some (t.val r))) t
noncomputable def vals(l:List (Option OT)):List (Option O):=mapL (B0 r) l
end
theorem All2.mapL{α β γ:Type}{R:β->γ->Prop}{f:α->β}{g:α->γ}(h:∀a,R (f a) (g a)):∀l:List α,All2 R (Mine.mapL f l) (Mine.mapL g l)
 | []=>.nil
 |a::l=>.cons (h a) (All2.mapL h l)
theorem a3b{α β:Type}(f:α->β):∀ (l:List α) (j:Nat),(mapL f l)[j]? =l[j]?.map f
 | [],_=>rfl
 |_::_,0=>rfl
 |_::l,j+1=>a3b f l j
theorem a5b{α β:Type}(f:α->β):∀l:List α,(mapL f l).length=l.length
 | []=>rfl
 |_::l=>congrArg Q0 (a5b f l)
theorem y0{α β:Type}{f g:α->β}:∀ {l:List α},mapL f l=mapL g l->∀a∈l,f a=g a
 | [],_,a,h=>absurd h G1
 |b::l,e,a,h=>(O0.mp h).elim (fun q=>q▸(Z0 e).1) fun h=>y0 (Z0 e).2 a h
structure Reg(R:Nat->Nat->Prop)(g g':Nat->Nat):Prop where
 st:∀i,i < 256->R i i
 pl:∀j,R (g j) (g' j)
section
variable{R:Nat->Nat->Prop}{g g':Nat->Nat}
theorem c34(h:∀i,i < 256->R i i)(v:V):j4 R (E8 v) (E8 v):=
 @V.rec (fun v=>j4 R (E8 v) (E8 v)) (fun l=>a5v R (D7 l) (D7 l)) rfl (fun _=>rfl) (fun _=>rfl) (fun _=>rfl) (fun _=>rfl) (fun _=>rfl) (fun _=>rfl) (fun i=>⟨_,rfl,h _ (a02 i (by decide))⟩) (fun xs ih=>⟨_,rfl,ih⟩) rfl (fun a l p q=>⟨_,_,rfl,p,q⟩) v
theorem c33(h:∀i,i < 256->R i i)(v:Option V):Vorel R (a3u v) (a3u v):=by
 cases v with
 |none=>exact rfl
 |some v=>exact ⟨_,rfl,c34 h v⟩
theorem So.rel(h:∀i,i < 256->R i i)(v:So):Vorel R v.o v.o:=v.ok▸c33 h v.o
theorem c37(v:V):j4 R (a3v v) (a3v v):=
 @V.rec (fun v=>j4 R (a3v v) (a3v v)) (fun l=>a5v R (a99 l) (a99 l)) rfl (fun _=>rfl) (fun _=>rfl) (fun _=>rfl) (fun _=>rfl) (fun _=>rfl) (fun _=>rfl) (fun i=>rfl) (fun xs ih=>⟨_,rfl,ih⟩) rfl (fun a l p q=>⟨_,_,rfl,p,q⟩) v
theorem a0n(v:Option V):Vorel R (f9 v) (f9 v):=by
 cases v with
 |none=>exact rfl
 |some v=>exact ⟨_,rfl,c37 v⟩
theorem d3n:∀l:List V,All2 (j4 R) (a99 l) (a99 l)
 | []=>.nil
 |a::l=>.cons (c37 a) (d3n l)
section
variable(h:∀j,R (g j) (g' j))
include h
theorem VT.relS(t:VT):j4 R (t.valS g) (t.valS g'):=
 @VT.rec (fun t=>j4 R (t.valS g) (t.valS g')) (fun l=>a5v R (VT.valsS g l) (VT.valsS g' l)) c37 (fun j=>⟨_,rfl,h j⟩) (fun xs ih=>⟨_,rfl,ih⟩) rfl (fun a l p q=>⟨_,_,rfl,p,q⟩) t
theorem VT.relsS:∀t:List VT,All2 (j4 R) (VT.valsS g t) (VT.valsS g' t)
 | []=>.nil
 |a::l=>.cons (a.relS h) (VT.relsS l)
theorem H_pl(a:Nat)(as:List Nat):∀j,R (a5j (g a) (mapL g as) j) (a5j (g' a) (mapL g' as) j):=by
 have go:∀ (as:List Nat) (j:Nat),R (E0 (motive:=fun _=>Nat->Nat) (fun _=>g a) (fun b _ ih j=>o4 (motive:=fun _=>Nat) b (fun j _=>ih j) j) (mapL g as) j) (E0 (motive:=fun _=>Nat->Nat) (fun _=>g' a) (fun b _ ih j=>o4 (motive:=fun _=>Nat) b (fun j _=>ih j) j) (mapL g' as) j):=fun as=>by
  induction as with
  |nil=>exact fun _=>h a
  |cons b as ih=>
   intro j;cases j with
   |zero=>exact h b
   |succ j=>exact ih j
 intro j;cases j with
 |zero=>exact h a
 |succ j=>exact go as j
theorem T0.rel(t:T0):V6 R (t.val g) (t.val g'):=by
 cases t with
 |list xs=>exact ⟨_,rfl,VT.relsS h xs⟩
 |idict es=>exact ⟨_,rfl,.mapL (fun e=>⟨rfl,e.2.relS h⟩) es⟩
 |inst c d=>exact ⟨_,rfl,h d⟩
 |dI=>exact ⟨_,rfl,.nil⟩
 |dS es=>exact ⟨_,rfl,.mapL (fun e=>⟨rfl,a0n e.2⟩) es⟩
end
variable(h:Reg R g g')
include h
theorem d17(a:Nat):R (rS g a) (rS g' a):=by
 show R (ifb (U0 1000 a) _ (g a)) (ifb (U0 1000 a) _ (g' a));cases U0 1000 a with
 |true=>exact h.st _ (a02 _ (by decide))
 |false=>exact h.pl a
theorem VT.rel(t:VT):j4 R (t.val g) (t.val g'):=
 @VT.rec (fun t=>j4 R (t.val g) (t.val g')) (fun l=>a5v R (VT.vals g l) (VT.vals g' l)) (c34 h.st) (fun j=>⟨_,rfl,h.pl j⟩) (fun xs ih=>⟨_,rfl,ih⟩) rfl (fun a l p q=>⟨_,_,rfl,p,q⟩) t
omit h in
theorem d3i(h:∀i,i < 256->R i i):∀l:List V,All2 (j4 R) (D7 l) (D7 l)
 | []=>.nil
 |a::l=>.cons (c34 h a) (d3i h l)
theorem VT.rels:∀t:List VT,All2 (j4 R) (VT.vals g t) (VT.vals g' t)
 | []=>.nil
 |a::l=>.cons (a.rel h) (VT.rels l)
theorem DT.rel(t:DT):Vorel R (t.val g) (t.val g'):=by
 cases t with
 |o a=>exact c33 h.st a
 |t a=>exact ⟨_,rfl,a.rel h⟩
 |sub d a as=>cases d with|none=>exact rfl|some t=>exact ⟨_,rfl,t.relS (H_pl (d17 h) a as)⟩
theorem OT.rel(t:OT):V6 R (t.val g) (t.val g'):=by
 cases t with
 |list xs=>exact ⟨_,rfl,VT.rels h xs⟩
 |lst xs=>exact ⟨_,rfl,d3i h.st xs⟩
 |dictI es=>exact ⟨_,rfl,.mapL (fun e=>⟨rfl,e.2.rel h⟩) es⟩
 |dI es=>exact ⟨_,rfl,.mapL (fun e=>⟨rfl,c33 h.st e.2⟩) es⟩
 |dictS es=>exact ⟨_,rfl,.mapL (fun e=>⟨rfl,e.2.rel h⟩) es⟩
 |six q=>exact ⟨_,rfl,.cons ((q 0).rel h.st) (.cons ((q 1).rel h.st) (.cons ((q 2).rel h.st) (.cons ((q 3).rel h.st) (.cons ((q 4).rel h.st) (.cons ((q 5).rel h.st) .nil)))))⟩
 |ns es=>exact ⟨_,rfl,.mapL (fun e=>⟨rfl,e.2.rel h⟩) es⟩
 |idict es=>exact ⟨_,rfl,.mapL (fun e=>⟨rfl,e.2.rel h⟩) es⟩
 |inst c d=>exact ⟨_,rfl,h.pl d⟩
 |cell v=>exact ⟨_,rfl,v.rel h⟩
 |tape=>exact rfl
 |sub t a as=>cases t with|none=>exact rfl|some t=>exact t.rel (H_pl (d17 h) a as)
 |hole=>exact rfl
 |code j=>exact ⟨_,rfl,h.pl j⟩
end
noncomputable def a4l(x:S)(o:Option O):S:=S.rec (motive:=fun _=>S) (fun t n=>⟨T.set o t n,Q0 n⟩) x
noncomputable def a16(l:List (Option O)):S->S:=E0 (motive:=fun _=>S->S) (fun x=>x) (fun o _ ih x=>ih (a4l x o)) l
noncomputable def T3(j:Nat):Nat:=w0 256 j
noncomputable def base(lo:B):S:=⟨⟨lo,.nil⟩,256⟩
noncomputable def X(lo:B)(ts:List (Option OT)):S:=a16 (vals T3 ts) (base lo)
noncomputable def b7q(o:O):Bool:=O.casesOn (motive:=fun _=>Bool) o (fun _=>false) w5 (fun _=>false) (fun _=>false) (fun _=>false) (fun _=>false) (fun _ _=>false) (fun _=>false) (fun _ _=>false) (fun _ _=>false) (fun _ _ _=>false) (fun _ _ _=>false) (fun _ _=>false) (fun _ _=>false) (fun _ _ _=>false) (fun _ _=>false) fun _=>false
noncomputable def a5m{α:Type}(os:List (Str×V))(es:List (Str×α)):List (Str×V):=E0 (motive:=fun _=>List (Str×V)) [] (fun e _ ih=>K0 (motive:=fun _=>List (Str×V)) ih (fun v=>(e.1,v)::ih) (lk os e.1)) es
noncomputable def a72{κ α:Type}(eq:κ->κ->Bool)(ts:List (κ×α)):List (κ×Option V)->List (κ×Option V):=E0 (motive:=fun _=>List (κ×Option V)->List (κ×Option V)) (fun os=>os) (fun t _ ih os=>Y2 (motive:=fun _=>List (κ×Option V)) os ((t.1,none)::ih []) fun e os'=>ifb (eq t.1 e.1) (e::ih os') ((t.1,none)::ih (e::os'))) ts
noncomputable def wkI{α:Type}(ts:List (Int×α))(o:O):O:=O.casesOn (motive:=fun _=>O) o (fun _=>o) (fun es=>.dictI (a72 PySem.W.Z.eqB ts es)) (fun _=>o) (fun _=>o) (fun _=>o) (fun _=>o) (fun _ _=>o) (fun _=>o) (fun _ _=>o) (fun _ _=>o) (fun _ _ _=>o) (fun _ _ _=>o) (fun _ _=>o) (fun _ _=>o) (fun _ _ _=>o) (fun _ _=>o) fun _=>o
noncomputable def wkS{α:Type}(ts:List (Str×α))(o:O):O:=O.casesOn (motive:=fun _=>O) o (fun _=>o) (fun _=>o) (fun es=>.dictS (a72 seq ts es)) (fun _=>o) (fun _=>o) (fun _=>o) (fun _ _=>o) (fun _=>o) (fun _ _=>o) (fun _ _=>o) (fun _ _ _=>o) (fun _ _ _=>o) (fun _ _=>o) (fun _ _=>o) (fun _ _ _=>o) (fun _ _=>o) fun _=>o
noncomputable def wkO(t:OT)(o:O):O:=OT.casesOn (motive:=fun _=>O) t (fun _=>o) (fun _=>o) (fun es=>wkI es o) (fun _=>o) (fun es=>wkS es o) (fun _=>ifb (b7q o) (.six b2t) o) (fun es=>K0 (motive:=fun _=>O) o (fun os=>.ns (a5m os es)) (oNs o)) (fun _=>o) (fun _ _=>o) (fun _=>o) (fun m g=>K0 (motive:=fun _=>O) o (fun n=>ifb (U0 n.1 m) (.tape m g) o) (a5l o)) (fun _ _ _=>o) o fun _=>o
noncomputable def srcE(t:OT)(o:Option O):Option O:=subO t (K0 (motive:=fun _=>Option O) none (fun o=>some (wkO t o)) o) (fun _=>o) none
noncomputable def b8(ts:List (Option OT)):List Nat->S->List (Option O):=E0 (motive:=fun _=>List Nat->S->List (Option O)) (fun _ _=>[])
 (fun t _ ih L x=>Y2 (motive:=fun _=>List (Option O)) L [none] fun i L=>K0 (motive:=fun _=>Option O) none (fun t=>srcE t (x.get i)) t::ih L x) ts
noncomputable def V7(a:Nat)(L:List Nat):Bool:=E0 (motive:=fun _=>Bool) true (fun b _ ih=>ifb (o0 a b) false ih) L
noncomputable def K7(m:Nat)(L:List Nat):Bool:=E0 (motive:=fun _=>Bool) true (fun a L ih=>ifb (U0 m a) (ifb (V7 a L) ih false) false) L
theorem b5f{x:S}{o:Option O}(hx:x.n < 1000000)(i:Nat):(a4l x o).get i=if i=x.n then o else x.get i:=T.get_set o x.t x.n i hx
theorem b07(x:S)(o:Option O):(a4l x o).n=x.n+1:=rfl
theorem b5e:∀ (l:List (Option O)) (x:S),(a16 l x).n=x.n+l.length
 | [],x=>rfl
 |o::l,x=>by
  show (a16 l (a4l x o)).n=_;rw[b5e l];refine rE (b07 ..) (rE (a2m ..) ?_);rw[a2n 1];rfl
theorem b5d:∀ (l:List (Option O)) (x:S) (i:Nat),x.n+l.length<=1000000->(∀i,x.n<=i->x.get i=none)->(a16 l x).get i=if i < x.n then x.get i else obd l[i - x.n]? id
 | [],x,i,_,hn=>by
  show x.get i=_;by_cases q:i < x.n
  ·exact rE (if_pos q) rfl
  ·refine rE (if_neg q) (rE (hn i (M3.mp q)) ?_);rfl
 |o::l,x,i,h,hn=>by
  have hl:x.n+(l.length+1)<=1000000:=h;have hx:x.n < 1000000:=by omega
  have g:=b5f (o:=o) hx;show (a16 l (a4l x o)).get i=_;refine rE (b5d l (a4l x o) i (by rw[b07];omega) (fun j hj=>by rw[b07] at hj;rw[g,if_neg (by omega)];exact hn j (by omega))) (rE (b07 ..) (rE (g ..) ?_));by_cases q:i < x.n
  ·exact rE (if_pos (by omega)) (rE (if_pos q) (rE (if_neg (by omega)) rfl))
  ·refine rE (if_neg q) ?_
   by_cases r:i=x.n
   ·refine rE (if_pos (by omega)) (rE (if_pos r) (rE r (rE (b54 ..) ?_)));rfl
   ·refine rE (if_neg (by omega)) (rE (show i - x.n=(i - (x.n+1))+1 by omega) ?_);rfl
theorem a1r:∀ {L:List Nat} {j:Nat},nthD L j < 1000000->j < L.length
 | [],_,h=>absurd h (a01 _)
 |_::_,0,_=>q9 _
 |_::L,j+1,h=>a4f (a1r (L:=L) h)
theorem f0k{t:OT}{o:Option O}{v:O}(h:srcE t o=some v):∃o',o=some o'/\wkO t o'=v:=by
 cases o with
 |none=>cases t <;>cases h
 |some o=>exact ⟨o,rfl,by cases t <;>first|exact C0 h|cases h⟩
theorem d54{r:Nat->Nat}{t:OT}(h:P6 t=false):B0 r (some t)=some (t.val r):=by
 show ifb (P6 t) none (some (t.val r))=_;refine rE h ?_;rfl
theorem e2c{t:OT}(h:b1t t=false)(q:y4 t=false):P6 t=false:=by cases t <;>first|rfl|exact T1 (show true=false from h) |exact T1 (show true=false from q)
theorem b8r:∀ {l:List OT} {j:Nat} {t:OT},H9 l=true->l[j]? =some t->y4 t=false->P6 t=false
 | [],_,_,_,h,_=>D0 h
 |a::l,j,t,q,h,hh=>by
  have q:ifb (b1t a) false (H9 l)=true:=q;cases ha:b1t a with
  |true=>rw[ha] at q;cases q
  |false=>
   rw[ha] at q;cases j with
   |zero=>cases h;exact e2c ha hh
   |succ j=>exact b8r q h hh
theorem a98{r:Nat->Nat}{x:S}:∀ {ts:List (Option OT)} {L:List Nat},b8 ts L x=vals r ts->∀ {j:Nat} {t:OT},ts[j]? =some (some t)->P6 t=false->∃o,x.get (nthD L j)=some o/\wkO t o=t.val r/\j < L.length
 | [],_,_,_,_,h,_=>D0 h
 |t::ts,[],e,j,t',h,hn=>by
  obtain ⟨e1,e2⟩:=Z0 (show none::[]=B0 r t::vals r ts from e);cases j with
  |zero=>cases (show some t=some (some t') from h);rw[d54 hn] at e1;cases e1
  |succ j=>cases ts with|nil=>exact D0 h|cons _ _=>cases e2
 |t::ts,i::L,e,j,t',h,hn=>by
  obtain ⟨e1,e2⟩:=Z0 (show K0 (motive:=fun _=>Option O) none (fun t=>srcE t (x.get i)) t::b8 ts L x=B0 r t::vals r ts from e);cases j with
  |zero=>
   cases (show some t=some (some t') from h);rw[d54 hn] at e1;refine yea (f0k e1) fun o h1 h2=>?_;exact ⟨o,h1,h2,q9 _⟩
  |succ j=>refine R0 (a98 e2 h hn) fun o h1 h2 h3=>?_;exact ⟨o,h1,h2,a4f h3⟩
noncomputable def beqB(a b:Bool):Bool:=ifb a b (ifb b false true)
noncomputable def a3i(l:List OT):List OT->Bool:=E0 (motive:=fun _=>List OT->Bool) (fun _=>true) (fun t _ ih m=>Y2 (motive:=fun _=>Bool) m true fun u m=>ifb (beqB (y4 t) (y4 u)) (ih m) false) l
noncomputable def a8e(n:Nat)(L:List Nat):Bool:=E0 (motive:=fun _=>Bool) true (fun a _ ih=>ifb (J0 a n) ih false) L
theorem b98:∀ {l m:List OT},a3i l m=true->∀ {j:Nat} {t u:OT},l[j]? =some t->m[j]? =some u->y4 t=y4 u
 | [],_,_,_,_,_,h,_=>D0 h
 |_::_,[],_,_,_,_,_,h=>D0 h
 |t::l,u::m,q,j,t',u',h1,h2=>by
  have q:ifb (beqB (y4 t) (y4 u)) (a3i l m) false=true:=q;cases hb:beqB (y4 t) (y4 u) with
  |false=>rw[hb] at q;cases q
  |true=>
   rw[hb] at q;cases j with
   |zero=>cases h1;cases h2;unfold beqB at hb;cases h1:y4 t <;>cases h2:y4 u <;>rw[h1,h2] at hb <;>first|rfl|cases hb
   |succ j=>exact b98 q h1 h2
theorem b8i{n:Nat}:∀ {L:List Nat},a8e n L=true->∀ {j:Nat},j < L.length->nthD L j < n
 | [],_,j,hj=>absurd hj (o9 j)
 |a::L,q,j,hj=>by
  have q:ifb (J0 a n) (a8e n L) false=true:=q;cases ha:J0 a n with
  |false=>rw[ha] at q;cases q
  |true=>
   rw[ha] at q;cases j with
   |zero=>exact B4 ha
   |succ j=>exact b8i q (q6 hj)
theorem b8u{a:Nat}:∀ {L:List Nat},V7 a L=true->∀ {j:Nat},j < L.length->nthD L j≠a
 | [],_,j,hj=>absurd hj (o9 j)
 |b::L,h,j,hj=>by
  have h:ifb (o0 a b) false (V7 a L)=true:=h;cases q:o0 a b with
  |true=>rw[q] at h;cases h
  |false=>
   rw[q] at h;cases j with
   |zero=>exact fun e=>I7 q e.symm
   |succ j=>exact b8u h (q6 hj)
theorem a4n{m a:Nat}{L:List Nat}(h:K7 m (a::L)=true):m<=a/\V7 a L=true/\K7 m L=true:=by
 have h:ifb (U0 m a) (ifb (V7 a L) (K7 m L) false) false=true:=h;cases h1:U0 m a with
 |false=>rw[h1] at h;cases h
 |true=>
  cases h2:V7 a L with
  |false=>rw[h1,h2] at h;cases h
  |true=>rw[h1,h2] at h;exact ⟨d3 h1,rfl,h⟩
theorem a73{m:Nat}:∀ {L:List Nat},K7 m L=true->∀ {j:Nat},j < L.length->m<=nthD L j
 | [],_,j,hj=>absurd hj (o9 j)
 |b::L,h,0,hj=>(a4n h).1
 |b::L,h,j+1,hj=>a73 (a4n h).2.2 (q6 hj)
theorem b5l{m:Nat}:∀ {L:List Nat},K7 m L=true->∀ {i j:Nat},i < L.length->j < L.length->nthD L i=nthD L j->i=j
 | [],_,i,j,hi,_,_=>absurd hi (o9 i)
 |b::L,h,0,0,hi,hj,e=>rfl
 |b::L,h,0,j+1,hi,hj,e=>absurd e.symm (b8u (a4n h).2.1 (q6 hj))
 |b::L,h,i+1,0,hi,hj,e=>absurd e (b8u (a4n h).2.1 (q6 hi))
 |b::L,h,i+1,j+1,hi,hj,e=>congrArg Q0 (b5l (a4n h).2.2 (q6 hi) (q6 hj) e)
noncomputable def C5(lo:B):Prop:=∀R:Nat->Nat->Prop,(∀i,i < 256->R i i)->∀i o,lo.get i=some o->V6 R o o
theorem c4n(lo:B)(i:Nat):(base lo).get i=if i < 256 then lo.get i else none:=T.get_eq ⟨lo,.nil⟩ i
theorem X_n{lo:B}{ts:List (Option OT)}:(X lo ts).n=256+ts.length:=by unfold X vals;refine rE (b5e ..) (rE (a5b ..) ?_);rfl
theorem a71{lo:B}{ts:List (Option OT)}(hr:256+ts.length < 1000000)(i:Nat):(X lo ts).get i=if i < 256 then lo.get i else obd ts[i - 256]? (B0 T3):=by
 unfold X vals;refine rE (b5d _ _ _ (by rw[a5b];exact J8 hr) (fun j hj=>by rw[c4n,if_neg (M3.mpr (show 256<=j from hj))])) ?_;show (if i < 256 then (base lo).get i else _)=_;by_cases q:i < 256
 ·exact rE (if_pos q) (rE (if_pos q) (rE (c4n ..) (rE (if_pos q) rfl)))
 ·refine rE (if_neg q) (rE (if_neg q) (rE (a3b ..) ?_))
  show obd (Option.map (B0 T3) ts[i - 256]?) id=_;cases ts[i - 256]? <;>rfl
theorem a6a{r:Nat->Nat}{t:Option OT}{o:O}(h:B0 r t=some o):∃t',t=some t'/\o=t'.val r/\P6 t'=false:=by
 cases t with
 |none=>exact D0 h
 |some t=>
  have h:ifb (P6 t) none (some (t.val r))=some o:=h;cases q:P6 t with
  |true=>rw[q] at h;cases h
  |false=>rw[q] at h;exact ⟨t,rfl,(C0 h).symm,q⟩
section
variable{C:Cx}{h h':Heap}{ρ ρ':Nat->Addr}{x x':S}
theorem b9f{α:Type}{os:List (Str×V)}{y:Str}{b:V}:∀ {es:List (Str×α)},lk (a5m os es) y=some b->lk os y=some b
 | [],e=>D0 e
 |p::es,e=>by
  have e:lk (K0 (motive:=fun _=>List (Str×V)) (a5m os es) (fun v=>(p.1,v)::a5m os es) (lk os p.1)) y=some b:=e;cases q:lk os p.1 with
  |none=>rw[q] at e;exact b9f e
  |some v=>
   rw[q] at e;have e:ifb (seq p.1 y) (some v) (lk (a5m os es) y)=some b:=e;cases hs:seq p.1 y with
   |true=>rw[hs] at e;refine rF (a0k.mp hs) (rE q ?_);exact e
   |false=>rw[hs] at e;exact b9f e
theorem a4m{κ α:Type}{eq:κ->κ->Bool}:∀ {ts:List (κ×α)} {os:List (κ×Option V)},C2 (a72 eq ts os)=C2 os
 | [],os=>rfl
 |t::ts,[]=>a4m (ts:=ts) (os:=[])
 |t::ts,(a,v)::os=>by
  show C2 (ifb (eq t.1 a) ((a,v)::a72 eq ts os) ((t.1,none)::a72 eq ts ((a,v)::os)))=_;cases eq t.1 a with
  |true=>cases v with|none=>exact a4m (ts:=ts) (os:=os) |some v=>exact congrArg ((a,v):: ·) (a4m (ts:=ts) (os:=os))
  |false=>exact a4m (ts:=ts) (os:=(a,v)::os)
theorem OV.wkI{α:Type}{n:Nat}{ts:List (Int×α)}{o:O}{ob:Obj}(e:OV C h ρ n o ob):OV C h ρ n (wkI ts o) ob:=by
 cases o with
 |dictI es=>refine k9 e fun l kvs k h1 h2 h3 h4 h5=>?_;clear e;exact ⟨l,kvs,k,h1,h2,h3,h4,by refine rE a4m ?_;exact h5⟩
 |_=>exact e
theorem OV.wk{n:Nat}{t:OT}{o:O}{ob:Obj}(e:OV C h ρ n o ob):OV C h ρ n (wkO t o) ob:=by
 cases t with
 |dictI es=>exact OV.wkI e
 |dictS es=>
  cases o with
  |dictS os=>refine k9 e fun l kvs k h1 h2 h3 h4 h5=>?_;clear e;exact ⟨l,kvs,k,h1,h2,h3,h4,by refine rE a4m ?_;exact h5⟩
  |_=>exact e
 |six q=>
  show OV C h ρ n (ifb (b7q o) (.six b2t) o) ob;cases q:b7q o with
  |false=>exact e
  |true=>
   cases o with
   |dictI es=>
    rw[U7 q] at e;refine k9 e fun l kvs c zx h2 h3 h4 h5=>?_;clear e;subst zx;cases h5;refine ⟨l,[],c,rfl,?_,a2l,fun y hy=>absurd hy G1,fun ks=>?_⟩
    ·have:=h3.length
     exact o6 this
    ·refine rE (c2y ..) ?_;exact rfl
   |_=>exact T1 q
 |ns es=>
  show OV C h ρ n (K0 (motive:=fun _=>O) o (fun os=>.ns (a5m os es)) (oNs o)) ob;cases q:oNs o with
  |none=>exact e
  |some os=>
   rw[O.ns_eq q] at e;refine R3 e fun l k h1 h2 h3=>?_;clear e;exact ⟨l,k,h1,h2,fun y b hb=>h3 y b (b9f hb)⟩
 |tape m g=>
  show OV C h ρ n (K0 (motive:=fun _=>O) o (fun k=>ifb (U0 k.1 m) (.tape m g) o) (a5l o)) ob;cases q:a5l o with
  |none=>exact e
  |some k=>
   show OV C h ρ n (ifb (U0 k.1 m) (.tape m g) o) ob;cases hk:U0 k.1 m with
   |false=>exact e
   |true=>
    have hk:=d3 hk;cases o with
    |tape k' g'=>
     cases q;refine B1 e fun vs c h1 zz=>?_;clear e;refine n5 zz fun a b d zy=>?_;clear zz;refine a2d zy fun t u v h2 h3 h4 h5 h6 h7=>?_;clear zy;exact ⟨vs,c,h1,a,b,d,t,u,v,h2,h3,h4,h5,h6,a2g h7 (a9o.mpr hk)⟩
    |_=>exact D0 q
 |_=>exact e
theorem At.ren(D:At C ρ x h){R:Nat->Nat->Prop}(pl:Nat->Nat)(hn:x'.n < 1000000)(ho:∀i o',x'.get i=some o'->i < x'.n/\∃t o,x.get (pl i)=some o/\V6 R (wkO t o) o')(inj:∀i j,Live x' i->Live x' j->pl i=pl j->i=j)(hR:∀i i',R i i'->i < x.n->i' < x'.n/\pl i'=i):At C (fun i=>ρ (pl i)) x' h:=by
 refine ⟨D.keep,fun i o' e=>?_,fun i o' e=>?_,fun i j oi oj ei ej q=>?_,hn⟩
 ·refine l7 (ho i o' e) fun hi t o h1 h2=>?_
  refine yea (D.get h1) fun ob g1 g2=>?_;exact ⟨hi,ob,g1,g2.wk.rel ⟨.refl,fun i i' v r e=>ya (hR i i' r e.2) fun a b=>⟨by exact rE e.1 (rE b rfl),a⟩⟩ h2⟩
 ·refine l7 (ho i o' e) fun hi t o h1 h2=>?_
  exact D.fresh _ o h1
 ·refine l7 (ho i oi ei) fun _ _ o1 h1 _=>?_
  refine l7 (ho j oj ej) fun _ _ o2 h2 _=>?_;exact inj i j ⟨_,ei⟩ ⟨_,ej⟩ (D.inj _ _ _ _ h1 h2 q)
end
noncomputable def M5:List Value:=[.ref 46,.type "Exception",.type "BaseException",.type "object"]
noncomputable def b19:Obj:=a7r (N0 "TreeFault") (N0 "TreeFault") 59 58 [.ref 46] M5 true [] [] false none none (some (.ref 50)) none (some (.str (N0 "TreeFault") 236)) (some (.str (N0 "TreeFault") 244)) (some (.bool true)) "Exception.__new__"
noncomputable abbrev exI(di:Option Addr)(a0:Addr):Obj:=⟨.ref 59,di,.fields #[.ref a0,.none,.none,.none,.bool false,.none],#[]⟩
inductive Fc where
 |bo (b:Bool) |sl (l:List Stmt) |sc (s:Scope) |vl (v:Value) |st (s:Str) |oo (o:Option (Option Value)) |ov (o:Option Value) |bi (o:Option (List (Str×Value))) |ob (o:Option Obj)
noncomputable def nF{α:Type}(d:α)(l:List α):Nat->α:=E0 (motive:=fun _=>Nat->α) (fun _=>d) (fun a _ ih k=>o4 (motive:=fun _=>α) a (fun k _=>ih k) k) l
noncomputable def fbo(f:Fc):Bool:=Fc.casesOn (motive:=fun _=>Bool) f (fun b=>b) (fun _=>false) (fun _=>false) (fun _=>false) (fun _=>false) (fun _=>false) (fun _=>false) (fun _=>false) fun _=>false
noncomputable def fsl(f:Fc):List Stmt:=Fc.casesOn (motive:=fun _=>List Stmt) f (fun _=>[]) (fun l=>l) (fun _=>[]) (fun _=>[]) (fun _=>[]) (fun _=>[]) (fun _=>[]) (fun _=>[]) fun _=>[]
noncomputable def fsc(f:Fc):Option Scope:=Fc.casesOn (motive:=fun _=>Option Scope) f (fun _=>none) (fun _=>none) some (fun _=>none) (fun _=>none) (fun _=>none) (fun _=>none) (fun _=>none) fun _=>none
noncomputable def fvl(f:Fc):Value:=Fc.casesOn (motive:=fun _=>Value) f (fun _=>.none) (fun _=>.none) (fun _=>.none) (fun v=>v) (fun _=>.none) (fun _=>.none) (fun _=>.none) (fun _=>.none) fun _=>.none
noncomputable def fst(f:Fc):Option Str:=Fc.casesOn (motive:=fun _=>Option Str) f (fun _=>none) (fun _=>none) (fun _=>none) (fun _=>none) some (fun _=>none) (fun _=>none) (fun _=>none) fun _=>none
noncomputable def foo(f:Fc):Option (Option Value):=Fc.casesOn (motive:=fun _=>Option (Option Value)) f (fun _=>none) (fun _=>none) (fun _=>none) (fun _=>none) (fun _=>none) (fun o=>o) (fun _=>none) (fun _=>none) fun _=>none
noncomputable def fov(f:Fc):Option Value:=Fc.casesOn (motive:=fun _=>Option Value) f (fun _=>none) (fun _=>none) (fun _=>none) (fun _=>none) (fun _=>none) (fun _=>none) (fun o=>o) (fun _=>none) fun _=>none
noncomputable def fbi(f:Fc):Option (List (Str×Value)):=Fc.casesOn (motive:=fun _=>Option (List (Str×Value))) f (fun _=>none) (fun _=>none) (fun _=>none) (fun _=>none) (fun _=>none) (fun _=>none) (fun _=>none) (fun o=>o) fun _=>none
noncomputable def fob(f:Fc):Option Obj:=Fc.casesOn (motive:=fun _=>Option Obj) f (fun _=>none) (fun _=>none) (fun _=>none) (fun _=>none) (fun _=>none) (fun _=>none) (fun _=>none) (fun _=>none) fun o=>o
noncomputable def fX:Fc:=.bo false
theorem gE{α:Type}(f:Fc->α){L R:List Fc}(e:L=R)(k:Nat):f (nF fX L k)=f (nF fX R k):=e▸rfl
theorem gL2{α:Type}{L R:List (List α)}(e:L=R)(k:Nat):nF [] L k=nF [] R k:=e▸rfl
noncomputable def P0:Params:={strHash:=fun _=>0,shareClass:=fun _=>0,mergeTok:=fun t=>t,idOf:=fun _=>0,idOfShared:=fun _ _=>0,followText:=fun _=>false,idOfImm:=fun _=>0}
noncomputable def S0:s9:=⟨o5,P0⟩
noncomputable def usL(u:Nat->Value)(n:Nat):Nat->List Value:=o4 (motive:=fun _=>Nat->List Value) (fun _=>[]) (fun _ ih i=>u i::ih (Q0 i)) n
noncomputable def a1p(v:Value):Value:=match v with| .int i _=>.int i 0| .str s _=>.str s 0|v=>v
noncomputable def a3f(v:V):Value:=V.casesOn (motive_1:=fun _=>Value) v .none .bool (fun i=>.int i 0) (fun s=>.str s 0) (fun _=>.none) (fun _=>.none) (fun _=>.none) (fun _=>.none) fun _=>.none
noncomputable def a92(v:V):Bool:=V.casesOn (motive_1:=fun _=>Bool) v true (fun _=>true) (fun _=>true) (fun _=>true) (fun _=>false) (fun _=>false) (fun _=>false) (fun _=>false) fun _=>false
noncomputable def b2l(f:Value->Value)(l:List (Str×Value)):List (Str×Value):=E0 (motive:=fun _=>List (Str×Value)) [] (fun a l ih=>Y2 (motive:=fun _=>List (Str×Value)) l [(a.1,f a.2)] fun _ _=>a::ih) l
noncomputable def a57(l:List (Str×Value)):Option Value:=E0 (motive:=fun _=>Option Value) none (fun a l ih=>Y2 (motive:=fun _=>Option Value) l (some a.2) fun _ _=>ih) l
noncomputable def bindA(K:Frag)(S:s9)(fd:FuncData)(us:List Value):Option (List (Str×Value)):=peek K S (bindArgs fd ⟨us,[]⟩)
noncomputable def c4t(b:FuncBody):List Stmt:=match b with| .stmts l=>l|_=>[]
noncomputable def c8r(b:FuncBody):Bool:=match b with| .stmts _=>true|_=>false
noncomputable def dfL(K:Frag)(u:Nat->Value)(S:s9)(fi:FI)(fd:FuncData):List Fc:=K0 (motive:=fun _=>List Fc) [] (fun v=>[.bi (obd (bindA K S fd (usL u (s6 fi.params.length) 0)) fun l=>some (b2l a1p l)),.bo (a92 v),.bo (obd (bindA K S fd (usL u (s6 fi.params.length) 0)) a57==obd (bindA K S0 fd (usL (fun _=>.none) (s6 fi.params.length) 0)) a57)]) fi.dflt
noncomputable def dfR(u:Nat->Value)(fi:FI):List Fc:=K0 (motive:=fun _=>List Fc) [] (fun v=>[.bi (some (fi.params.zip (usL u (s6 fi.params.length) 0++[a3f v]))),.bo true,.bo true]) fi.dflt
noncomputable def fdFL(K:Frag)(u:Nat->Value)(S:s9)(fi:FI)(fd:FuncData):List Fc:=
 .sc fd.scope::.vl (.ref fd.globals)::.vl (.ref fd.builtins)::.bo fd.closure.isEmpty::.bo (c8r fd.body)::.sl (c4t fd.body)::.vl fd.code::.st fd.qualname::.bo (codeIn K fd.code fd.qualname)::.bo fd.scope.isCoroutine::.bo fd.scope.isGenerator::.bo (o0 fd.scope.kind.ctorIdx 1)::.bi (bindA K S fd (usL u fi.params.length 0))::dfL K u S fi fd
noncomputable def fdFR(u:Nat->Value)(fi:FI):List Fc:=
 .sc fi.scope::.vl (.ref V3)::.vl (.ref builtinsNs)::.bo true::.bo true::.sl fi.body::.vl fi.code::.st fi.qual::.bo true::.bo false::.bo false::.bo true::.bi (some (fi.params.zip (usL u fi.params.length 0)))::dfR u fi
noncomputable def objFL(K:Frag)(u:Nat->Value)(S:s9)(fi:FI)(o:Obj):List Fc:=match o.data with| .func fd=>fdFL K u S fi fd|_=>[]
noncomputable def fnL(K:Frag)(u:Nat->Value)(S:s9)(a:Nat):List Fc:=K0 (motive:=fun _=>List Fc) [] (fun fi=>K0 (motive:=fun _=>List Fc) [] (objFL K u S fi) (K.lookup a)) (Pfn a)
noncomputable def fnR(u:Nat->Value)(a:Nat):List Fc:=K0 (motive:=fun _=>List Fc) [] (fun fi=>fdFR u fi) (Pfn a)
noncomputable def noTs:List String:=["bool","int","str","NoneType","list","dict","tuple"]
noncomputable def noBs:List String:=["bool","int","list","dict"]
noncomputable def clL(K:Frag)(c:Nat):List Fc:=[.oo (findIn K (.ref c) "__getattribute__"),.oo (findIn K (.ref c) "__getattr__"),.oo (findIn K (.ref c) "__setattr__"),.bo (plainOver K c),.bo ((clsIn K c).any (·.hasDict)),.bo (makesIn K c),.bo (keepIn K (.ref c)),.oo (findIn K (.ref c) "__class__"),.ov (typeIn K (.ref c)),.bo (instIn K (.ref c) (.type "type")==some true),
 .bo (noBs.all fun T=>subIn K (.ref c) (.type T)==some false),.bo (noTs.all fun T=>isNotIn K T c),.bo (mroIn K c (.type "object")==some true)]
noncomputable def clR:List Fc:=[.oo (some (some (.builtin "object.__getattribute__"))),.oo (some none),.oo (some (some (.builtin "object.__setattr__"))),.bo true,.bo true,.bo true,.bo true,.oo (some (some (.builtin "object.__class__"))),.ov (some (.type "type")),.bo true,.bo true,.bo true,.bo true]
noncomputable def strB:List Value->List V->Bool
 | [],[]=>true
 | .str s _::l,.str s'::m=>seq s s' && strB l m
 |_,_=>false
noncomputable def seqB(d:Data)(xs:List V):Bool:=Data.casesOn (motive:=fun _=>Bool) d false (fun _=>false) (fun a _=>strB a.toList xs) (fun _ _=>false) (fun _ _ _=>false) (fun _ _=>false) (fun _=>false) (fun _=>false) (fun _=>false) (fun _=>false) false
noncomputable def tupB(o:Option Obj)(xs:List V):Bool:=Option.casesOn (motive:=fun _=>Bool) o false fun o=>decide (o.cls=.type "tuple") && (decide (o.dict=none) && (decide (o.slots=#[]) && seqB o.data xs))
noncomputable def gL(K:Frag)(nv:Str×V):List Fc:=(fun g=>V.casesOn (motive_1:=fun _=>List Fc) nv.2 [] (fun _=>[]) (fun _=>[.oo (obd g fun o=>some (obd o fun v=>some (a1p v)))]) (fun _=>[]) (fun _=>[]) (fun _=>[.oo g,.oo (nsIn K builtinsNs nv.1)]) (fun _=>[.oo g]) (fun _=>[]) fun xs=>[.oo g,.bo (tupB (K.lookup 373) xs)]) (nsIn K V3 nv.1)
noncomputable def gR(nv:Str×V):List Fc:=V.casesOn (motive_1:=fun _=>List Fc) nv.2 [.bo true] (fun _=>[.bo true]) (fun i=>[.oo (some (some (.int i 0)))]) (fun _=>[.bo true]) (fun _=>[.bo true]) (fun b=>[.oo (some none),.oo (some (some b.val))]) (fun a=>[.oo (some (some (.ref a)))]) (fun _=>[.bo true]) fun _=>[.oo (some (some (.ref 373))),.bo true]
noncomputable def c8a(K:Frag)(p:Nat×Nat):List Fc:=[.oo (findIn K (.ref p.1) "__init__"),.ov (typeIn K (.ref p.2))]
noncomputable def c8b(p:Nat×Nat):List Fc:=[.oo (some (some (.ref p.2))),.ov (some (.type "function"))]
noncomputable def e44(K:Frag)(c:Nat)(p:Str×Nat):List Fc:=[.oo (findIn K (.ref c) p.1),.ov (typeIn K (.ref p.2)),.bo (keepIn K (.ref p.2))]
noncomputable def e45(p:Str×Nat):List Fc:=[.oo (some (some (.ref p.2))),.ov (some (.type "function")),.bo true]
noncomputable def Tr.keys{α:Type}(t:Tr α):List Nat:=Tr.rec (motive:=fun _=>List Nat) [] (fun v _ _ l r=>K0 (motive:=fun _=>List Nat) [] (fun _=>[0]) v++(mapL (fun i=>w0 (C1 2 i) 1) l++mapL (fun i=>w0 (C1 2 i) 2) r)) t
noncomputable def factL(K:Frag)(u:Nat->Value)(S:s9):List (List (List Fc)):=[mapL (fnL K u S) fnT.keys,mapL (clL K) N7,mapL (c8a K) a80,mapL (fun p=>[.oo (findIn K (.builtin "x") "x")]) ([]:List Nat),
 [[.bo (nsOkIn K V3),.bo (nsOkIn K builtinsNs),.bo (nsOkIn K cStatics),.oo (nsIn K cStatics "sys.recursionlimit"),.bo (K.lookup E6).isSome,.oo (specialIn K (.builtin "object.__class__") "__get__"),.bo (takesIn K (.builtin "object.__class__")==some true)]]]++
 (mapL (fun e=>mapL (gL K) e.2) b1h++(mapL (fun e=>mapL (e44 K e.1) e.2) b2o++(mapL (fun e=>mapL (fun n=>[.oo (findIn K (.ref e.1) n.1)]) e.2) b2y++mapL (fun c=>mapL (fun c'=>[.bo (subIn K (.ref c) (.ref c')==some (o0 c c'))]) N7) N7)))
noncomputable def a7t(u:Nat->Value):List (List (List Fc)):=[mapL (fnR u) fnT.keys,mapL (fun _=>clR) N7,mapL c8b a80,[],
 [[.bo true,.bo true,.bo true,.oo (some none),.bo true,.oo (some (some (.builtin "getset_descriptor.__get__"))),.bo true]]]++
 (mapL (fun e=>mapL gR e.2) b1h++(mapL (fun e=>mapL e45 e.2) b2o++(mapL (fun e=>mapL (fun _=>[.oo (some none)]) e.2) b2y++mapL (fun c=>mapL (fun c'=>[.bo true]) N7) N7)))
noncomputable def a31(K K2:Frag):List Fc:=[.ob (K.lookup 59),.oo (findIn K (.ref 59) "__init__"),.ov (typeIn K (.ref 36)),.bo ((clsIn K 59).any fun cd=>cd.mro==[.ref 59,.ref 46,.type "Exception",.type "BaseException",.type "object"] && cd.hasDict),.oo (findIn K (.ref 59) "__setattr__"),.oo (takerIn K 59 "what"),.oo (takerIn K 59 "at"),.bo (keepIn K (.ref 59)),
 .oo (nsIn K V3 "Exception"),.oo (nsIn K builtinsNs "Exception"),.bo (codeHdIn K 542 T2),.oo (nsIn K V3 "__builtins__"),.ob (K.lookup 4),.ob (K2.lookup T2),.bo (K.all fun p=>!p.2.isFreed)]
noncomputable def a32:List Fc:=[.ob (some b19),.oo (some (some (.ref 36))),.ov (some (.type "function")),.bo true,.oo (some (some (.builtin "object.__setattr__"))),.oo (some none),.oo (some none),.bo true,.oo (some none),.oo (some (some (.type "Exception"))),.bo true,.oo (some (some (.ref 4))),.ob (some ⟨.type "module",some builtinsNs,.plain,#[]⟩),.ob (some (tabObj #[])),.bo true]
theorem a5f{K:Frag}{h:Heap}{N:Addr}{m:Str->Option Value}{n:Str}{v:Value}(X:K.In h)(G:h.Ns N m)(e:nsIn K N n=some (some v)):m n=some v:=by
 refine a0s G fun o es ep ho hd _ hf=>?_;unfold nsIn at e;cases q:K.lookup N with
 |none=>rw[q] at e;exact D0 e
 |some ob=>
  have:=X _ _ q;rw[ho] at this;obtain rfl:=C0 this;obtain ⟨a,b,d,c⟩:=o;subst hd;rw[q] at e;dsimp only at e;refine rF (hf ..) ?_;show (es.find? _).map _=_;refine rF Array.find?_toList ?_;cases he:es.toList.find? (·.key.isStr n) with
  |some en=>rw[he] at e;exact congrArg some (C0 (C0 e))
  |none=>
   rw[he] at e;cases hb:es.toList.any (·.refKey) with
   |true=>rw[hb] at e;exact D0 e
   |false=>rw[hb] at e;exact D0 (C0 e)
theorem v7{K:Frag}{h:Heap}{N:Addr}(X:K.In h)(e:nsOkIn K N=true):h.Ns N (h.nsMap N):=.of_isNs (isNs_of_in X e)
theorem b8b{κ α:Type}{eq:κ->κ->Bool}{k:κ}{v:α}:∀ {l:List (κ×α)},lkG eq l k=some v->∃p∈l,p.2=v/\eq p.1 k=true
 | [],h=>D0 h
 |p::l,h=>by
  have h:ifb (eq p.1 k) (some p.2) (lkG eq l k)=some v:=h;cases q:eq p.1 k with
  |true=>rw[q] at h;exact ⟨p,.head _,C0 h,q⟩
  |false=>rw[q] at h;refine yea (b8b h) fun p' h1 h2=>?_;exact ⟨p',.tail _ h1,h2⟩
theorem b8d{α:Type}{n:Str}{v:α}{l:List (Str×α)}(h:lk l n=some v):(n,v)∈l:=by
 refine R0 (b8b h) fun zz h1 h2 h3=>?_;obtain ⟨m,w⟩:=zz;obtain rfl:=a0k.mp h3;obtain rfl:=h2;exact h1
theorem b2g{α:Type}{n:Nat}{v:α}{l:List (Nat×α)}(h:lkG o0 l n=some v):(n,v)∈l:=by
 refine R0 (b8b h) fun zz h1 h2 h3=>?_;obtain ⟨m,w⟩:=zz;obtain rfl:=V1 h3;obtain rfl:=h2;exact h1
theorem c9w{α β:Type}{f:α->β}{a:α}:∀ {l:List α},a∈l->f a∈mapL f l:=fun h=>by
 induction h with
 |head=>exact .head _
 |tail _ _ ih=>exact .tail _ ih
theorem b7z{α:Type}:∀ {t:Tr α} {i:Nat} {v:α},t.get i=some v->i∈t.keys
 | .nil,_,_,h=>D0 h
 | .node w l r,i,v,h=>by
  have h:ifb (o0 i 0) w (ifb (o0 (O1 i 2) 1) (l.get (M1 i 2)) (r.get (A2 (M1 i 2) 1)))=some v:=h;show i∈K0 (motive:=fun _=>List Nat) [] (fun _=>[0]) w++(mapL (fun i=>w0 (C1 2 i) 1) l.keys++mapL (fun i=>w0 (C1 2 i) 2) r.keys);cases h0:o0 i 0 with
  |true=>
   rw[h0] at h;obtain rfl:w=some v:=h;obtain rfl:=V1 h0;exact a0z _ (.head _)
  |false=>
   rw[h0] at h;have hi:=I7 h0;refine a2k _ ?_;cases h1:o0 (O1 i 2) 1 with
   |true=>
    rw[h1] at h;have e:i % 2=1:=V1 h1;have:=c9w (f:=fun i=>w0 (C1 2 i) 1) (b7z (t:=l) (show l.get (i / 2)=some v from h));exact a0z _ (by have z:w0 (C1 2 (i / 2)) 1=i:=(by show 2 * (i / 2)+1=i;omega);exact z▸this)
   |false=>
    rw[h1] at h;have e:i % 2≠1:=I7 h1;have:=c9w (f:=fun i=>w0 (C1 2 i) 2) (b7z (t:=r) (show r.get (i / 2 - 1)=some v from h));exact a2k _ (by have z:w0 (C1 2 (i / 2 - 1)) 2=i:=(by show 2 * (i / 2 - 1)+2=i;omega);exact z▸this)
theorem b2k{α β:Type}{f g:α->β}{x y:List β}:∀ {l:List α},mapL f l++x=mapL g l++y->mapL f l=mapL g l/\x=y
 | [],h=>⟨rfl,h⟩
 |a::l,h=>by
  obtain ⟨h1,h2⟩:=Z0 (show f a::(mapL f l++x)=g a::(mapL g l++y) from h);obtain ⟨h3,h4⟩:=b2k h2;exact ⟨List.cons_eq_cons.mpr ⟨h1,h3⟩,h4⟩
theorem d4z(u:Nat->Value):∀ (us:List Value) (i:Nat),(∀j v,us[j]? =some v->u (i+j)=v)->usL u us.length i=us
 | [],_,_=>rfl
 |x::xs,i,h=>by
  show u i::usL u xs.length (Q0 i)=x::xs;exact rE (show u i=x from h 0 x rfl) (rE (d4z u xs (Q0 i) fun j v e=>by rw[show Q0 i+j=i+(j+1) by omega];exact h (j+1) v e) rfl)
theorem d51(us:List Value):usL (fun i=>us.getD i .none) us.length 0=us:=d4z _ us 0 fun j v e=>by show us.getD (0+j) .none=v;refine rE (K8 ..) (rE (a0y) (rE e ?_));rfl
theorem d50(u:Nat->Value):∀ (n i:Nat),(usL u n i).length=n
 |0,_=>rfl
 |n+1,i=>congrArg Q0 (d50 u n (Q0 i))
theorem c9r{f:Value->Value}:∀ {l:List (Str×Value)} {p:Str} {y:Value} {ini:List (Str×Value)},b2l f l=ini++[(p,y)]->∃ud,l=ini++[(p,ud)]/\f ud=y/\a57 l=some ud
 | [],p,y,ini,h=>by cases ini <;>cases h
 | [a],p,y,ini,h=>by
  have h:[(a.1,f a.2)]=ini++[(p,y)]:=h;cases ini with
  |nil=>cases h;exact ⟨a.2,rfl,rfl,rfl⟩
  |cons b l=>obtain ⟨_,h⟩:=Z0 h;cases l <;>cases h
 |a::b::l,p,y,ini,h=>by
  have h:a::b2l f (b::l)=ini++[(p,y)]:=h;cases ini with
  |nil=>
   obtain ⟨_,h⟩:=Z0 h;cases l <;>cases h
  |cons c ini=>
   obtain ⟨rfl,h'⟩:=Z0 h;refine R0 (c9r h') fun ud h1 h2 h3=>?_;exact ⟨ud,by refine rE h1 ?_;rfl,h2,h3⟩
theorem f2l{ps:List Str}{us:List Value}(h:us.length+1=ps.length):∃ini p,∀x,ps.zip (us++[x])=ini++[(p,x)]:=by
 cases hp:ps.reverse with
 |nil=>rw[List.reverse_eq_nil_iff.mp hp] at h;cases h
 |cons q r=>
  have e:ps=r.reverse++[q]:=by exact rF (List.reverse_reverse ps) (rE hp (rE List.reverse_cons rfl))
  have hl:r.reverse.length=us.length:=by rw[e,a48] at h;exact (p9 h).symm
  exact ⟨r.reverse.zip us,q,fun x=>by refine rE e (rE (List.zip_append hl) ?_);rfl⟩
noncomputable def svD(u:Value):V:=match u with| .bool b=>.bool b| .int i _=>.int i| .str s _=>.str s|_=>.none
noncomputable def simU(u:Value):Bool:=match u with| .none=>true| .bool _=>true| .int _ _=>true| .str _ _=>true|_=>false
theorem f0v{u:Value}(h:simU u=true):∀ (H:Heap) (ρ:Nat->Addr) (n:Nat),VR H ρ n (svD u) u:=fun H ρ n=>by
 cases u with
 |none=>rfl
 |bool b=>rfl
 |int i t=>exact ⟨t,rfl⟩
 |str s t=>exact ⟨t,rfl⟩
 |_=>exact T1 h
theorem f0w(u:Value):svD (a1p u)=svD u:=by cases u <;>rfl
theorem e9u(u:Value):simU (a1p u)=simU u:=by cases u <;>rfl
theorem sv_of{v:V}(h:a92 v=true):svD (a3f v)=v:=by cases v <;>first|rfl|exact T1 h
theorem e9v{v:V}(h:a92 v=true):simU (a3f v)=true:=by cases v <;>first|rfl|exact T1 h
theorem c0k{v:V}{ud:Value}(hs:a92 v=true)(hn:a1p ud=a3f v)(h:Heap)(ρ:Nat->Addr)(n:Nat):VR h ρ n v ud:=by
 have e:svD ud=v:=by exact rF (f0w ..) (rE hn (rE (sv_of hs) rfl))
 exact e▸f0v (by exact rF (e9u ..) (rE hn (rE (e9v hs) rfl))) h ρ n
theorem d3l{h:Heap}{ρ:Nat->Addr}{n:Nat}:∀ {vs:List Value} {xs:List V},strB vs xs=true->VRl h ρ n xs vs
 | [],[],_=>.nil
 |v::vs,x::xs,q=>by
  cases v with
  |str s t=>
   cases x with
   |str s'=>
    obtain ⟨h1,h2⟩:=H8.mp (show (seq s s' && strB vs xs)=true from q);obtain rfl:=a0k.mp h1;exact .cons ⟨t,rfl⟩ (d3l h2)
   |_=>cases q
  |_=>cases q
 | [],_::_,q=>by cases q
 |_::_,[],q=>by rename_i v _;cases v <;>cases q
section
variable{K:Frag}{w:World}{hb:Heap}
theorem fd_ok{a:Nat}{fi:FI}{o:Obj}{fd:FuncData}(ho:K.lookup a=some o)(hd:o.data=.func fd)(e:∀u S,fdFL K u S fi fd=fdFR u fi):FnOk K a fi fd:=by
 have e1:=e (fun _=>.none) S0;refine ⟨⟨o,ho,hd⟩,C0 (gE fsc e1 0),Z6 (gE fvl e1 1),Z6 (gE fvl e1 2),List.isEmpty_iff.mp (gE fbo e1 3),?_,gE fvl e1 6,C0 (gE fst e1 7),gE fbo e1 8,gE fbo e1 9,gE fbo e1 10,a82 (gE fbo e1 11),fun us hl S=>?_,fun v hv=>?_⟩
 ·have h5:c8r fd.body=true:=gE fbo e1 4
  have h6:c4t fd.body=fi.body:=gE fsl e1 5;clear e e1 hd;cases hb:fd.body with
  |stmts l=>rw[hb] at h6;exact congrArg FuncBody.stmts h6
  |expr l=>rw[hb] at h5;cases h5
 ·have h:bindA K S fd (usL (fun i=>us.getD i .none) fi.params.length 0)=some (fi.params.zip (usL (fun i=>us.getD i .none) fi.params.length 0)):=gE fbi (e (fun i=>us.getD i .none) S) 12
  rw[<-hl,d51] at h;exact h
 ·have A:∀u S,obd (bindA K S fd (usL u (s6 fi.params.length) 0)) (fun l=>some (b2l a1p l))=some (fi.params.zip (usL u (s6 fi.params.length) 0++[a3f v]))/\a92 v=true/\(obd (bindA K S fd (usL u (s6 fi.params.length) 0)) a57==obd (bindA K S0 fd (usL (fun _=>.none) (s6 fi.params.length) 0)) a57)=true:=fun u S=>by
   have q:dfL K u S fi fd=dfR u fi:=congrArg (List.drop 13) (e u S);unfold dfL dfR at q;rw[hv] at q;exact ⟨gE fbi q 0,gE fbo q 1,gE fbo q 2⟩
  clear e e1;by_cases hz:fi.params.length=0
  ·refine ⟨a3f v,c0k (A (fun _=>.none) S0).2.1 (by cases v <;>rfl),fun us hl=>?_⟩
   rw[hz] at hl;cases hl
  ·have hp:∀u,(usL u (s6 fi.params.length) 0).length+1=fi.params.length:=fun u=>by refine rE (d50 ..) ?_;exact Nat.succ_pred_eq_of_pos (Nat.pos_of_ne_zero hz)
   have B:∀u S,∃ud,bindA K S fd (usL u (s6 fi.params.length) 0)=some (fi.params.zip (usL u (s6 fi.params.length) 0++[ud]))/\a1p ud=a3f v/\obd (bindA K S fd (usL u (s6 fi.params.length) 0)) a57=some ud:=fun u S=>by
    refine obE (fun l h1 h2=>?_) (A u S).1;refine yee (f2l (hp u)) fun ini p hzip=>?_;rw[hzip] at h2;refine R0 (c9r (C0 h2)) fun ud q1 q2 q3=>?_;exact ⟨ud,by exact rE (hzip ..) (rE h1 (rE q1 rfl)),q2,by refine rE h1 ?_;exact q3⟩
   refine R0 (B (fun _=>.none) S0) fun u0 b1 b2 b3=>?_;refine ⟨u0,c0k (A (fun _=>.none) S0).2.1 b2,fun us hl S=>?_⟩;refine R0 (B (fun i=>us.getD i .none) S) fun ud c1 c2 c3=>?_;have:=beq_iff_eq.mp (A (fun i=>us.getD i .none) S).2.2;rw[c3,b3] at this;obtain rfl:=C0 this;rw[show s6 fi.params.length=us.length by refine rF hl ?_;rfl,d51] at c1;exact c1
theorem d7p{c:Nat}(e:clL K c=clR):a9j K c:=by
 refine ⟨gE foo e 0,gE foo e 1,gE foo e 2,gE fbo e 3,?_,gE fbo e 5,gE fbo e 6,gE foo e 7,gE fov e 8,beq_iff_eq.mp (gE fbo e 9),fun T hT=>?_,fun T hT=>?_,beq_iff_eq.mp (gE fbo e 12)⟩
 ·have:((clsIn K c).any (·.hasDict))=true:=gE fbo e 4
  cases q:clsIn K c with
  |none=>rw[q] at this;cases this
  |some cd=>rw[q] at this;exact ⟨cd,rfl,this⟩
 ·exact beq_iff_eq.mp (X9.mp (gE fbo e 10) T (show T∈["bool","int","list","dict"] by rcases hT with rfl|rfl|rfl|rfl <;>decide))
 ·exact X9.mp (gE fbo e 11) T (show T∈["bool","int","str","NoneType","list","dict","tuple"] by rcases hT with rfl|rfl|rfl|rfl|rfl|rfl|rfl <;>decide)
theorem e23:(a80.all fun p=>U8 o0 N7 p.1)=true:=by kernel_rfl
theorem e48:(b2o.all fun p=>U8 o0 N7 p.1)=true:=by kernel_rfl
theorem e6y:(b2y.all fun p=>U8 o0 N7 p.1)=true:=by kernel_rfl
theorem b5b{c:Nat}(h:U8 o0 N7 c=true):Pcls c=true:=by unfold Pcls;exact h
theorem b5a{c:Nat}(h:Pcls c=true):c∈N7:=b8o (by unfold Pcls at h;exact h)
theorem e1a{n:Str}{v:V}(X:K.In hb)(n3:nsOkIn K V3=true)(n0:nsOkIn K builtinsNs=true)(g:gL K (n,v)=gR (n,v)):∃u,VP hb v u/\(hb.nsMap V3 n=some u∨(hb.nsMap V3 n=none/\hb.nsMap builtinsNs n=some u)):=by
 cases v with
 |prog a=>exact ⟨.ref a,fun _ _ _ _=>rfl,.inl (a5f X (v7 X n3) (gE foo g 0))⟩
 |bi b=>exact ⟨b.val,fun _ _ _ _=>rfl,.inr ⟨ns_none_of X (v7 X n3) (gE foo g 0),a5f X (v7 X n0) (gE foo g 1)⟩⟩
 |int i=>
  refine obE (fun o g1 g2=>?_) (gE foo g 0:obd (nsIn K V3 n) (fun o=>some (obd o fun v=>some (a1p v)))=some (some (.int i 0)));refine obE (fun u g3 g4=>?_) (C0 g2);exact ⟨u,fun h ρ k _=>c0k (v:=.int i) rfl (C0 g4) h ρ k,.inl (a5f X (v7 X n3) (g3▸g1))⟩
 |tup xs=>
  refine ⟨.ref 373,fun h ρ n hk=>?_,.inl (a5f X (v7 X n3) (gE foo g 0))⟩;have g2:tupB (K.lookup 373) xs=true:=gE fbo g 1;cases q:K.lookup 373 with
  |none=>rw[q] at g2;cases g2
  |some o=>
   rw[q] at g2;obtain ⟨s1,g2⟩:=H8.mp g2;obtain ⟨s2,g2⟩:=H8.mp g2;obtain ⟨s3,g2⟩:=H8.mp g2;have hq:=hk _ _ (X _ _ q);obtain ⟨c,d,dt,sl⟩:=o;obtain rfl:=of_decide_eq_true s1;obtain rfl:=of_decide_eq_true s2;obtain rfl:=of_decide_eq_true s3;cases dt with
   |seq arr k=>exact a6z (vs:=arr.toList) (k:=k) hq (d3l g2)
   |_=>exact T1 g2
 |_=>exact T1 (gE fbo g 0)
theorem e15{a:Nat}{fi:FI}(hf:Pfn a=some fi)(g:∀u S,fnL K u S a=fnR u a):∃fd,FnOk K a fi fd:=by
 unfold fnL fnR at g;rw[hf] at g;cases hl:K.lookup a with
 |none=>rw[hl] at g;exact Value.noConfusion (gE fvl (g (fun _=>.none) S0) 1:q7=.ref V3)
 |some o=>
  rw[hl] at g;obtain ⟨c,d,dt,sl⟩:=o;cases dt with
  |func fd=>exact ⟨fd,fd_ok hl rfl fun u S=>g u S⟩
  |_=>exact Value.noConfusion (gE fvl (g (fun _=>.none) S0) 1:q7=.ref V3)
theorem d5r(X:K.In hb)(fe:factL K=fun u _=>a7t u):POk o5 w hb K:=by
 have e:∀u S,factL K u S=a7t u:=fun u S=>congrFun (congrFun fe u) S;have e0:=e (fun _=>.none) S0;have m:=gL2 (gL2 e0 4) 0;have n3:nsOkIn K V3=true:=gE fbo m 0;have n0:nsOkIn K builtinsNs=true:=gE fbo m 1;obtain ⟨eG,r⟩:=b2k (f:=fun e=>mapL (gL K) e.2) (g:=fun e=>mapL gR e.2) (l:=b1h) (congrArg (List.drop 5) e0);obtain ⟨eT,r⟩:=b2k r;obtain ⟨eP,eS⟩:=b2k r;have N2:=v7 X (gE fbo m 2);refine ⟨⟨_,_,v7 X n3,v7 X n0,fun n v hv=>?_⟩,?_,X,⟨_,N2,ns_none_of X N2 (gE foo m 3)⟩,fun c hc=>d7p (y0 (f:=clL K) (g:=fun _=>clR) (l:=N7) (gL2 e0 1) c (b5a hc)),fun a fi hf=>e15 hf fun u S=>y0 (f:=fnL K u S) (g:=fnR u) (l:=fnT.keys) (gL2 (e u S) 0) a (b7z (show fnT.get a=some (some fi) from ?_)),fun c f hi=>?_,fun c n f hm=>?_,fun c n hp=>?_,fun c c' hc hc'=>beq_iff_eq.mp (gE fbo (y0 (y0 eS c (b5a hc)) c' (b5a hc')) 0),gE foo m 5,beq_iff_eq.mp (gE fbo m 6)⟩
 ·unfold Pglob at hv
  revert hv;refine obE fun l h1 h2=>?_;exact e1a X n3 n0 (y0 (y0 eG _ (b2g h1)) _ (b8d h2))
 ·obtain ⟨o,ho⟩:=Option.isSome_iff_exists.mp (gE fbo m 4)
  exact ⟨o,X _ _ ho⟩
 ·unfold Pfn at hf
  revert hf;refine obE fun o h1 h2=>?_;refine rE h1 ?_;exact congrArg some h2
 ·unfold Pinit at hi
  have hm:=b2g hi;have g:=y0 (f:=c8a K) (g:=c8b) (l:=a80) (gL2 e0 2) _ hm;exact ⟨b5b (X9.mp e23 _ hm),gE foo g 0,gE fov g 1⟩
 ·unfold Pmeth at hm
  revert hm;refine obE fun l h1 h2=>?_;have hm1:=b2g h1;have g:=y0 (y0 eT _ hm1) _ (b8d h2);exact ⟨b5b (X9.mp e48 _ hm1),gE foo g 0,gE fov g 1,gE fbo g 2⟩
 ·unfold Pplain at hp
  obtain ⟨v,hv⟩:=Option.isSome_iff_exists.mp hp;revert hv;refine obE fun l h1 h2=>?_;have hm1:=b2g h1;exact ⟨b5b (X9.mp e6y _ hm1),gE foo (y0 (y0 eP _ hm1) _ (b8d h2)) 0⟩
end
noncomputable abbrev pw:=o5
noncomputable def runH(st:a06->Thread->Option (a06×Thread))(thr ok:Thread->Bool):Nat->a06->Thread->Option a06
 |0,_,_=>none
 |n+1,s,t=>match thr t with
  |true=>some s
  |false=>match ok t with
   |false=>none
   |true=>match st s t with
    |some (s',t')=>runH st thr ok n s' t'
    |none=>none
theorem d1v{p:W6}{w:World}{n₀:Nat}{ann:Option Value}:∀ {n:Nat} {s s':a06} {t:Thread},
  runH (stepT (denote treeTable) p w) through (stepOk n₀ ann) n s t=some s'->topRun treeTable p w n₀ ann n s.abs t=some s'.abs
 |0,_,_,_,h=>by cases h
 |n+1,s,s',t,h=>by
  unfold runH at h;unfold topRun;cases ht:through t with
  |true=>rw[ht] at h;cases h;rfl
  |false=>
   rw[ht] at h;cases hk:stepOk n₀ ann t with
   |false=>rw[hk] at h;cases h
   |true=>
    rw[hk] at h;cases hs:stepT (denote treeTable) p w s t with
    |none=>rw[hs] at h;cases h
    |some r=>obtain ⟨s₂,t₂⟩:=r;rw[hs] at h;rw[stepT_spec hs];exact d1v h
theorem e3g{p q:W6}{loose:List Str}{Xt:Shared->Bool}{α:Type}{Yf:Shared->α}{Ya:World->α}{N:Nat}{g0:Bool}{H₀:Params->Heap}{gs₀:Array GenState}{d₀:Drawn}{k₀:Nat}{m₀:Nat}{ann:Option Value}{M:Nat}
  (open_:∀w:World,(fencedOpening treeTable p w N).map (fun s=>(s.heap,s.gens,s.drawn,s.toks))=some (H₀ w.params,gs₀,d₀,k₀))
  (size:∀w:World,((H₀ w.params).isNs V3 && gs₀.size==0,(H₀ w.params).objs.size,(H₀ w.params).nsMap V3 "__annotations__")=(true,m₀,ann))
  (run:∀ (w:World) (os:OsState),∃s₁,topRun treeTable p w m₀ ann M ⟨H₀ w.params,gs₀,d₀,k₀,os⟩ (topStub p)=some s₁/\
   (staticsOk (b1i p.main.body) (H₀ w.params) s₁.heap && namesBound p s₁.heap && gensDone s₁ && laidKept (H₀ w.params) s₁.heap)=true/\
   openSeen q loose (b1i p.main.body) Xt g0 s₁=openGood q loose/\Yf s₁=Ya w) (le:U0 M N=true):LeftO p q loose Xt Yf Ya N g0:=fun w=>by
 obtain ⟨⟨h,gs,d,k,os⟩,e,e'⟩:=a05.mp (open_ w);obtain ⟨rfl,rfl,rfl,rfl⟩:h=H₀ w.params/\gs=gs₀/\d=d₀/\k=k₀:=by simpa using e'
 obtain ⟨z1,z2,z3⟩:_/\_/\_:=by simpa only[Prod.mk.injEq] using size w
 obtain ⟨s₁,r0,l1,l2,l3⟩:=run w os;have r:=topRun_mono (N - M) _ _ _ _ r0;rw[show M+(N - M)=N by have:=d3 le;omega] at r;have t:topFrom treeTable p w N ⟨H₀ w.params,gs,d,k,os⟩=some s₁:=by
  unfold topFrom;dsimp only;rw[z1,z2,z3,r];show (match staticsOk (b1i p.main.body) (H₀ w.params) s₁.heap && namesBound p s₁.heap && gensDone s₁ && laidKept (H₀ w.params) s₁.heap with|true=>_|false=>_)=_;rw[l1]
 unfold openEnds;rw[e];show (topFrom treeTable p w N _).map _=_;rw[t];exact congrArg some (Prod.ext l2 l3)
noncomputable def c4x(P:Params):BT:=((((((((((BT.nil.ins 0 (boot_o_0 P)).ins 1 (boot_o_1 P)).ins 2 (boot_o_2 P)).ins 3 (boot_o_3 P)).ins 4 (boot_o_4 P)).ins 5 (boot_o_5 P)).ins 6 (boot_o_6 P)).ins 7 (boot_o_7 P)).ins 8 (boot_o_8 P)).ins 9 (boot_o_9 P)).ins 10 (boot_o_10 P)
theorem d6y(P:Params):absHeap (c4x P) 11 (a08 P).life=a08 P:=by kernel_rfl
theorem d70:∀w:World,((a08 w.params).isNs V3 && (Array.mk ([]:List GenState)).size==0,(a08 w.params).objs.size,(a08 w.params).nsMap V3 "__annotations__")=(true,11,some (O2 6)):=by
 intro w;kernel_rfl
theorem d6z:∀w:World,(fencedOpening treeTable pw w 10200).map (fun s=>(s.heap,s.gens,s.drawn,s.toks))=some (a08 w.params,Array.mk [],boot_drawn,boot_toks):=
 boot_open (by kernel_rfl) (by decide) (fun s=>by kernel_rfl)
noncomputable def loose:List Str:=[N0 "_wall",N0 "PaperError",N0 "TreeFault",N0 "Decimal",N0 "sign_text",N0 "decimal_of",N0 "MOST_HOPS",N0 "Name",N0 "String",N0 "Stream",N0 "Reference",N0 "kind_of",N0 "told_plain",N0 "told",N0 "told_objects",N0 "Lookup",N0 "Shelf",N0 "INHERITED",N0 "Page",N0 "Spot",N0 "home_of",N0 "is_node",N0 "kids_of",N0 "met",N0 "spots",N0 "fields_of",N0 "page_spots",N0 "pages",N0 "MOST_DEEP",N0 "MOST_PLACES",N0 "key_object",N0 "key_of",N0 "node_of",N0 "row_of",N0 "node_pairs",N0 "longer_way",N0 "tree_pairs",N0 "even_parts",N0 "leaf_node",N0 "inner_node",N0 "as_root",N0 "tree_built",N0 "Element",N0 "structure_root",N0 "page_places",N0 "items_of",N0 "sort_of",N0 "element_of",N0 "elements",N0 "page_told",N0 "content_told",N0 "contents_of",N0 "objects_of",N0 "parents_due",N0 "row_for",N0 "with_key",N0 "put_page_parents",N0 "put_object_parents",N0 "put_parents",N0 "told_parents",N0 "parent_faults",N0 "_law_tape",N0 "_law_draw",N0 "_law_told",N0 "_law_rows",N0 "_law_elements",N0 "_law_wrong",N0 "_law_is_refused"]
noncomputable def asL:List Nat:=[46,59,155,190,212,233,261,316,370,390,411,560,45,58,154,189,211,232,260,315,369,389,410,559,3,0,2,1,4,373,21,36,43,75,82,89,96,103,110,117,124,131,138,145,152,166,173,187,209,230,251,258,272,279,284,299,306,313,334,341,348,355,362,367,387,408,422,429,436,443,450,457,462,467,474,481,488,495,500,507,512,519,526,533,538,543,557,571,576,583,590,597,602,609,616,621,626,633,638,645,652,659,665,672,679,686,693,700,705,710,715,722,727,20,35,42,74,81,88,95,102,109,116,123,130,137,144,151,165,172,186,208,229,250,257,271,278,283,298,305,312,333,340,347,354,361,366,386,407,421,428,435,442,449,456,461,466,473,480,487,494,499,506,511,518,525,532,537,542,556,570,575,582,589,596,601,608,615,620,625,632,637,644,651,658,664,671,678,685,692,699,704,709,714,721,726,29,202,292,660]
noncomputable def KF(get:Nat->Obj)(as:List Nat):Frag:=mapL (fun a=>(a,get a)) as
noncomputable def getT(s:a06)(a:Nat):Obj:=ifb (J0 a s.n) ((s.tree.get a).getD default) default
noncomputable def d4d(w:World)(os:OsState):Option a06:=runH (stepT (denote treeTable) o5 w) through (stepOk 11 (some (O2 6))) 10119 ⟨c4x w.params,11,(a08 w.params).life,Array.mk [],boot_drawn,boot_toks,os⟩ (topStub o5)
noncomputable def b75(s:a06):Bool×((Nat->Value)->s9->List (List (List Fc)))×List Fc:=(U0 728 s.n,factL (KF (getT s) asL),a31 (KF (getT s) asL) (KF (getT s) [T2]))
theorem e0n:∀ (w:World) (os:OsState),(d4d w os).map (fun s=>((staticsOk (b1i o5.main.body) (a08 w.params) s.abs.heap && namesBound o5 s.abs.heap && gensDone s.abs && laidKept (a08 w.params) s.abs.heap,openSeen (view o5 [75]) loose (b1i o5.main.body) (fun s=>xlAt (view o5 [75]) [] s && recOk [] s) true s.abs),b75 s))=some ((true,openGood (view o5 [75]) loose),true,(fun (u:Nat->Value) (S:s9)=>a7t u),a32):=by
 intro w os;unfold d4d;rw[PySem.W.Fast.te10156331382660048174,PySem.W.Fast.te11892475500146522536,PySem.W.Fast.te14364793385576792824,PySem.W.Fast.te6613529449190102663,PySem.W.Fast.te4187177175401517315,PySem.W.Fast.te5923862056798008813];kernel_rfl
section
open PySem.SetTable
structure Stt where
 mask:Nat
 place:List Nat
 es:List Nat
noncomputable def hash6:List Int:=[-8458139203682520985,-1950498447580522560,7204814214171964562,-5164621852614943976,8389048192121911274,-3550055125485641917]
noncomputable def v5(k:Nat):Int:=hash6.getD k 0
noncomputable def Stt.tab(s:Stt):SetTable:={mask:=s.mask,place:=s.place.toArray,dummies:=#[],finger:=0,led:=true,moves:=0,plain:=true}
noncomputable def Q8(es:List Nat):Array Int:=(es.map v5).toArray
noncomputable def b8a(mask:Nat)(owner:Array (Option Nat)):List (Nat×Nat):=(Z9 (mask+1)).filterMap fun j=>(owner.getD j none).map (j,·)
noncomputable def d3p(mask:Nat)(pl:List Nat)(es es':List Nat):Option Stt:=if es'.length=es.length then some ⟨mask,pl,es'⟩ else none
noncomputable def a9a(mask:Nat)(es:List Nat):Option Stt:=match layClean mask (Q8 es) with
 |some owner=>d3p mask ((b8a mask owner).map (·.1)) es (((b8a mask owner).map (·.2)).filterMap (es[·]?))
 |none=>none
noncomputable def Stt.relay(s:Stt)(wanted:Nat):Option Stt:=a9a (sizeAbove wanted - 1) s.es
noncomputable def Stt.room(s:Stt)(m:Nat):Option Stt:=match s.tab.roomFor m with
 |some n=>s.relay n
 |none=>some s
noncomputable def Stt.full(s:Stt)(n:Nat):Option Stt:=if s.tab.tooFull then s.relay (grown n) else some s
noncomputable def Stt.met(s:Stt)(k:Nat):Option Met:=s.tab.probe (fun i=>(Q8 s.es).getD i 0) (v5 k) (s.tab.probeStart (v5 k))
noncomputable def Stt.put(s:Stt)(k j:Nat):Stt:=⟨s.mask,(s.tab.put j).1.place.toList,(insertAt s.es.toArray (s.tab.put j).2 k).toList⟩
noncomputable def Stt.add(s:Stt)(k:Nat):Option Stt:=match s.met k with
 |some (.empty j none)=>(s.put k j).full (s.es.length+1)
 |some (.candidate _ i _)=>if s.es[i]? =some k then some s else none
 |_=>none
noncomputable def Stt.copy(s:Stt):Option Stt:=match s.es with
 | []=>some ⟨7,[],[]⟩
 |_=>match (Stt.mk 7 [] []).room s.es.length with
  |some r=>if r.mask=s.mask then some s else a9a r.mask s.es
  |none=>none
noncomputable def T8(l:List Nat)(j:Nat):Bool:=U8 o0 l j
noncomputable def eqL(a:List Nat):List Nat->Bool:=a5g a
noncomputable def c0g(a b:Stt):Bool:=andB3 (o0 a.mask b.mask) (eqL a.place b.place) (eqL a.es b.es)
 where andB3 (a b c:Bool):Bool:=ifb a (ifb b c false) false
noncomputable def foN{α:Type}(l:List Nat)(n:Nat)(k:Nat->α):α:=E0 (motive:=fun _=>α) (k n) (fun a _ ih=>ifb (o0 n a) (k a) ih) l
theorem b1c{α:Type}{n:Nat}{k:Nat->α}:∀ {l:List Nat},foN l n k=k n
 | []=>rfl
 |a::l=>by
  show ifb (o0 n a) (k a) (foN l n k)=k n;cases h:o0 n a with
  |true=>exact congrArg k (V1 h).symm
  |false=>exact b1c
noncomputable def n32:List Nat:=[0,1,2,3,4,5,6,7,8,9,10,11,12,13,14,15,16,17,18,19,20,21,22,23,24,25,26,27,28,29,30,31]
noncomputable def decL{α:Type}(f:Nat):Nat->(List Nat->List Nat->α)->α:=o4 (motive:=fun _=>Nat->(List Nat->List Nat->α)->α) (fun _ k=>k [] []) (fun _ ih n k=>ifb (o0 n 0) (k [] []) (foN n32 (M1 (s6 (O1 n 256)) 8) fun p=>foN n32 (O1 (s6 (O1 n 256)) 8) fun e=>ih (M1 n 256) fun ps es=>k (p::ps) (e::es))) f
noncomputable def a7i{α:Type}(n:Nat)(k:Stt->α):α:=foN n32 (O1 n 32) fun m=>decL 6 (M1 n 32) fun ps es=>k ⟨m,ps,es⟩
noncomputable def encL(l:List Nat):List Nat->Nat:=E0 (motive:=fun _=>List Nat->Nat) (fun _=>0) (fun p _ ih es=>Y2 (motive:=fun _=>Nat) es 0 fun e es=>w0 (w0 (w0 (C1 p 8) e) 1) (C1 256 (ih es))) l
noncomputable def a7o(s:Stt):Nat:=w0 s.mask (C1 32 (encL s.place s.es))
noncomputable def keys:List Nat:=[7,71,135,98375,615,679,155719,172103,155783,172167,155815,967,245831,245895,1831,467015,467079,475271,39944263,44138567,39944359,63012935,119636039,119619719,246375,246439,63070279,63086663,63070343,63086727,63070375,467559,467623,484007,123904039,119693383,128081991,119709767,123904071,119693447,121790599,128082055,119709831,121806983,123904135,119693479,121790631,467911,119783495,119783559,121880711,122036359,16146071623,16150265927,16146071719,119710055,31719505959,31719522343,30645772359,30641586247,32789069895,30645780551,31719522375,30641569927,32789053575,30645764231,31719506055,30645772423,31182643335,30641569959,30641586343,31178457255,30664654919,30664638599,119784039,119784103,123978407,31738470439,30664712263,32812195911,30664728647,31738470471,30664712327,31201583239,32812195975,30664728711,31201599623,31738470535,30664712359,31201583271,30679392327,30679392391,31216263303,32852041799,31778316359,31241429127,32852041863,31241445511,31778316423,31241429159,31241519239,30664728935,15,79,623,155727,975,245839,1839,467023,2191,557135,2735,696399,246383,63070287,467567,119693391,557679,142762063,696943,178413647,467919,119783503,558031,142852175,697295,178503759,558895,143073359,698159,178724943,698511,178815055,119784047,30664712271,142852719,36570292303,178504303,45697097807,143073903,36626915407,178725487,45753720911,178815599,45776789583,143074255,36627005519,178725839,45753811023,178815951,45776879695,178816815,45777100879,36627006063,9376513548367,45753811567,11712975757391,45776880239,11718881337423,45777101423,11718937960527,45777101775,11718938050639,11718938051183,3000048141099087,245855,467039,696415,1204319,1605727,467935,119783519,697311,178503775,1205215,308527199,1606623,411287647,698175,178724959,1206079,308748383,1607487,411508831,1206975,308977759,1608383,411738207,1610367,412246111,178725855,45753811039,308749279,79039807583,411509727,105346482271,308978655,79098527839,411739103,105405202527,412247007,105535225951,308979519,79098749023,411739967,105405423711,412247871,105535447135,412248767,105535676511,79098749919,20249279971423,105405424607,26983788691551,105535448031,27017074688095,105535677407,27017133408351,105535678271,27017133629535,27017133630431,6916386209382495]
noncomputable def to(o:Option Stt)(p:Stt->Bool):Bool:=K0 (motive:=fun _=>Bool) false (fun s=>ifb (U8 o0 keys (a7o s)) (a7i (a7o s) fun r=>ifb (c0g s r) (p r) false) false) o
noncomputable def all6(f:Nat->Bool):Bool:=ifb (f 0) (ifb (f 1) (ifb (f 2) (ifb (f 3) (ifb (f 4) (f 5) false) false) false) false) false
noncomputable def f8(s s':Stt)(k:Nat):Bool:=all6 fun j=>eqBo (T8 s'.es j) (ifb (o0 j k) true (T8 s.es j))
 where eqBo (a b:Bool):Bool:=ifb a b (ifb b false true)
noncomputable def nodB(l:List Nat):Bool:=E0 (motive:=fun _=>Bool) true (fun a l ih=>ifb (T8 l a) false (ifb (J0 a 6) ih false)) l
noncomputable def fitB(s:Stt):Bool:=ifb (o0 s.place.length s.es.length) (ifb (U0 7 s.mask) (ifb (o0 (O1 s.mask 2) 1) (nodB s.es) false) false) false
noncomputable def a95(pl:List Nat):Nat->Nat
 |0=>0
 |i+1=>pl.getD i 0+1
noncomputable def walkB(s:Stt):Bool:=(Z9 (s.place.length+1)).all fun i=>o0 (below s.place.toArray (a95 s.place i)) i
noncomputable def c39(s:Stt):Bool:=ifb (fitB s) (ifb (all6 fun k=>to (s.add k) fun s'=>f8 s s' k) (ifb (all6 fun m=>to (s.room m) fun s'=>f8 s s' 9) (ifb (to (s.room 6) fun s'=>f8 s s' 9) (ifb (to s.copy fun s'=>f8 s s' 9) (walkB s) false) false) false) false) false
theorem a17{f:Nat->Bool}{l:List Nat}(h1:(l.take 28).all f=true)(h2:(l.drop 28).all f=true):l.all f=true:=by
 have e:=List.all_append (xs:=l.take 28) (ys:=l.drop 28) (f:=f);rw[List.take_append_drop,h1,h2] at e;exact e
noncomputable def a1a(i:Nat):List Nat:=o4 (motive:=fun _=>List Nat) keys (fun _ l=>l.drop 28) i
noncomputable def a0g(n:Nat):Bool:=a7i n c39
theorem e63:((a1a 0).take 28).all a0g=true:=by decide+kernel
theorem e64:((a1a 1).take 28).all a0g=true:=by decide+kernel
theorem e65:((a1a 2).take 28).all a0g=true:=by decide+kernel
theorem e66:((a1a 3).take 28).all a0g=true:=by decide+kernel
theorem e67:((a1a 4).take 28).all a0g=true:=by decide+kernel
theorem e68:((a1a 5).take 28).all a0g=true:=by decide+kernel
theorem e69:((a1a 6).take 28).all a0g=true:=by decide+kernel
theorem e6a:((a1a 7).take 28).all a0g=true:=by decide+kernel
theorem e2v:keys.all a0g=true:=a17 e63 (a17 e64 (a17 e65 (a17 e66 (a17 e67 (a17 e68 (a17 e69 (a17 e6a (by decide+kernel))))))))
end
section
open PySem.SetTable
theorem if3{a b:Bool}(h:ifb a b false=true):a=true/\b=true:=by
 cases a with
 |false=>cases h
 |true=>exact ⟨rfl,h⟩
noncomputable def Ok(s:Stt):Prop:=∃n∈keys,a7i n id=s
theorem d8i(f:Nat):∀n,∃ps es,∀ {α:Type} (k:List Nat->List Nat->α),decL f n k=k ps es:=by
 induction f with
 |zero=>exact fun n=>⟨[],[],fun _=>rfl⟩
 |succ f ih=>
  intro n;refine yee (ih (M1 n 256)) fun ps es h=>?_;cases q:o0 n 0 with
  |true=>exact ⟨[],[],fun k=>by show ifb (o0 n 0) _ _=_;rw[q];rfl⟩
  |false=>exact ⟨M1 (s6 (O1 n 256)) 8::ps,O1 (s6 (O1 n 256)) 8::es,fun k=>by show ifb (o0 n 0) _ _=_;rw[q];exact (show ∀ {a b:_},ifb false a b=b from rfl).trans (b1c.trans (b1c.trans (h _)))⟩
theorem c64(n:Nat):∃s,∀ {α:Type} (k:Stt->α),a7i n k=k s:=yee (d8i 6 (M1 n 32)) fun ps es h=>⟨⟨O1 n 32,ps,es⟩,fun k=>b1c.trans (h _)⟩
theorem Ok.at{s:Stt}(h:Ok s):c39 s=true:=yea h fun n hn e=>(c64 n).elim fun r h=>by
 refine rF e ?_;rw[h];exact h c39▸X9.mp e2v n hn
theorem e9a{a b:Stt}(h:c0g a b=true):a=b:=by
 obtain ⟨h1,h⟩:=if3 h;obtain ⟨h2,h3⟩:=if3 h;obtain ⟨m,p,e⟩:=a;obtain ⟨m',p',e'⟩:=b;obtain rfl:m=m':=V1 h1;have h2:a5g p p'=true:=h2;have h3:a5g e e'=true:=h3;rw[b8x] at h2 h3;exact rE (of_decide_eq_true h2) (rE (of_decide_eq_true h3) rfl)
theorem b44{o:Option Stt}{p:Stt->Bool}(h:to o p=true):∃s,o=some s/\Ok s/\p s=true:=by
 cases o with
 |none=>cases h
 |some s=>
  obtain ⟨h1,h⟩:=if3 (show ifb (U8 o0 keys (a7o s)) (a7i (a7o s) fun r=>ifb (c0g s r) (p r) false) false=true from h);obtain ⟨r,hr⟩:=c64 (a7o s);rw[hr] at h;obtain ⟨h2,h3⟩:=if3 h;cases e9a h2;exact ⟨s,rfl,⟨_,b8o h1,hr id⟩,h3⟩
theorem b5g{f:Nat->Bool}(h:all6 f=true):∀j,j < 6->f j=true:=by
 obtain ⟨h0,h⟩:=if3 h;obtain ⟨h1,h⟩:=if3 h;obtain ⟨h2,h⟩:=if3 h;obtain ⟨h3,h⟩:=if3 h;obtain ⟨h4,h5⟩:=if3 h;intro j hj
 match j,hj with
 |0,_=>exact h0
 |1,_=>exact h1
 |2,_=>exact h2
 |3,_=>exact h3
 |4,_=>exact h4
 |5,_=>exact h5
structure Ok.Facts(s:Stt):Prop where
 fit:fitB s=true
 add:∀k,k < 6->∃s',s.add k=some s'/\Ok s'/\f8 s s' k=true
 room:∀m,m < 7->∃s',s.room m=some s'/\Ok s'/\f8 s s' 9=true
 copy:∃s',s.copy=some s'/\Ok s'/\f8 s s' 9=true
theorem Ok.facts{s:Stt}(h:Ok s):Ok.Facts s:=by
 obtain ⟨h1,h⟩:=if3 h.at;obtain ⟨h2,h⟩:=if3 h;obtain ⟨h3,h⟩:=if3 h;obtain ⟨h4,h⟩:=if3 h;exact ⟨h1,fun k hk=>b44 (b5g h2 k hk),fun m hm=>(Nat.eq_or_lt_of_le (b51 hm)).elim (fun e=>e▸b44 h4) fun q=>b44 (b5g h3 m q),b44 (if3 h).1⟩
theorem b49{s s':Stt}{k:Nat}(h:f8 s s' k=true):∀j,j < 6->T8 s'.es j=ifb (o0 j k) true (T8 s.es j):=fun j hj=>
 have eqB:∀ {a b:Bool},f8.eqBo a b=true->a=b:=fun {a b} h=>by cases a <;>cases b <;>first|rfl|cases h
 eqB (b5g h j hj)
theorem G9{l:List Nat}{j:Nat}:T8 l j=true ↔ j∈l:=by
 induction l with
 |nil=>exact ⟨fun h=>T1 h,fun h=>absurd h G1⟩
 |cons a l ih=>
  show ifb (o0 a j) true (T8 l j)=true ↔ _;cases h:o0 a j with
  |true=>exact ⟨fun _=>by refine rE (V1 h) ?_;exact B3 ..,fun _=>rfl⟩
  |false=>exact ⟨fun q=>C3 _ (ih.mp q),fun q=>(O0.mp q).elim (fun e=>absurd e.symm (I7 h)) ih.mpr⟩
theorem d0c:∀ {l:List Nat},nodB l=true->l.Nodup/\∀j∈l,j < 6
 | [],_=>⟨a2l,fun j h=>absurd h G1⟩
 |a::l,h=>by
  have h:ifb (T8 l a) false (ifb (J0 a 6) (nodB l) false)=true:=h;cases q:T8 l a with
  |true=>rw[q] at h;cases h
  |false=>
   rw[q] at h;obtain ⟨h1,h2⟩:=if3 h;obtain ⟨g1,g2⟩:=d0c h2;exact ⟨a4b.mpr ⟨fun m=>(by rw[G9.mpr m] at q;cases q),g1⟩,fun j hj=>(O0.mp hj).elim (fun e=>e▸d3 h1) (g2 j)⟩
noncomputable def Z1(k:Nat):List Int:=[M2 (k / 3),M2 (k % 3)]
noncomputable def B2(s:Stt)(led:Bool)(mv:Nat):SetTable:={s.tab with led:=led,moves:=mv}
noncomputable def O8(b:Nat->Addr)(k:Nat):Int×Value:=(v5 k,.ref (b k))
noncomputable def Y1(es:List Nat)(b:Nat->Addr):Array (Int×Value):=(es.map (O8 b)).toArray
noncomputable def W5(s:Stt)(led:Bool)(mv ep:Nat)(b:Nat->Addr):Obj:=⟨.type "set",none,.set (Y1 s.es b) ep (B2 s led mv),#[]⟩
structure R5(C:Cx)(h:Heap)(a:Addr)(led:Bool)(s:Stt)(b:Nat->Addr):Prop where
 at_:∃mv ep,h.get? a=some (W5 s led mv ep b)
 keys:∀k∈s.es,TK C h (Z1 k) (b k)
 ok:Ok s
theorem w6(es:List Nat)(b:Nat->Addr):(Y1 es b).size=es.length:=(p6 ..).trans (K4 ..)
theorem Ok.odd{s:Stt}(h:Ok s):s.mask % 2=1:=(V1 (if3 (if3 (if3 h.facts.fit).2).2).1)
theorem Ok.nod{s:Stt}(h:Ok s):s.es.Nodup/\∀j∈s.es,j < 6:=d0c (if3 (if3 (if3 h.facts.fit).2).2).2
theorem I9{t:Stt}(ok:Ok t):t.es.length<=6:=a3e t.es [0,1,2,3,4,5] ok.nod.1 fun a ha=>(by decide:∀a,a < 6->a∈[0,1,2,3,4,5]) a (ok.nod.2 a ha)
theorem Ok.mask{s:Stt}(h:Ok s):7<=s.mask:=d3 (if3 (if3 h.facts.fit).2).1
noncomputable def Fit(s:Stt):Prop:=s.place.length=s.es.length/\s.place.length<=s.mask
theorem Ok.fit{s:Stt}(h:Ok s):Fit s:=have e:=V1 (if3 h.facts.fit).1;⟨e,W0 (e▸I9 h) (W0 (by decide) h.mask)⟩
theorem Fit.fits{s:Stt}(h:Fit s)(led:Bool)(mv:Nat)(b:Nat->Addr):(B2 s led mv).fits (Y1 s.es b).size=true:=by
 refine rE (w6 ..) ?_;show (s.place.toArray.size==s.es.length && decide (s.place.toArray.size+(#[]:Array Nat).size<=s.mask))=true;refine rE p6 (rE h.1 (rE (beq_self_eq_true ..) (rE (Bool.true_and ..) ?_)));exact decide_eq_true (h.1▸h.2)
theorem c7y(t:SetTable)(f:Nat->Int)(h:Int)(n:Nat)(p:Probe):probe.go t f h (n+1) p=Slot.rec (motive:=fun _=>Option Met) (some (.empty p.j p.dummy)) (probe.go t f h n (t.advance {p with dummy:=some p.j}))
  (fun i=>if f i==h then some (.candidate p.j i (t.advance p)) else probe.go t f h n (t.advance p)) (t.slot p.j):=by kernel_rfl
theorem b9k(s:Stt)(led:Bool)(mv:Nat)(f:Nat->Int)(h:Int):∀ (n:Nat) (p:Probe),probe.go (B2 s led mv) f h n p=probe.go s.tab f h n p
 |0,p=>rfl
 |n+1,p=>by
  refine rE (c7y ..) (rE (c7y ..) ?_);rw[b9k s led mv f h n,b9k s led mv f h n];rfl
theorem f0p(es:List Nat)(b:Nat->Addr)(i:Nat):((Y1 es b)[i]?.map (·.1)).getD 0=(Q8 es).getD i 0:=by
 unfold Y1 Q8;refine rE (a2j) (rE (Array.getD_eq_getD_getElem?) (rE (a2j) (rE (m9) (rE (m9) ?_))));cases es[i]? <;>rfl
theorem e43{s:Stt}{led:Bool}{mv k:Nat}{f:Nat->Int}(h:∀i,f i=(Q8 s.es).getD i 0):(B2 s led mv).probe f (v5 k) ((B2 s led mv).probeStart (v5 k))=s.met k:=by
 refine rE (show f=fun i=>(Q8 s.es).getD i 0 from funext h) ?_;exact b9k s led mv _ _ _ _
theorem e1f{prog:W6}{w:World}:∀k,k < 6->(T4 (U2 prog w)).hash (Z1 k)=v5 k
 |0,_=>by kernel_rfl
 |1,_=>by kernel_rfl
 |2,_=>by kernel_rfl
 |3,_=>by kernel_rfl
 |4,_=>by kernel_rfl
 |5,_=>by kernel_rfl
 |k+6,h=>absurd h (M3.mpr (a9w 6 k))
end
section
open PySem.SetTable
section
variable{C:Cx}{A:Around}{E:Value->Shared->Prop}{s:Shared}{a:Addr}{led:Bool}{t:Stt}{b:Nat->Addr}{k:Nat}{x:Addr}
theorem D6{mv ep:Nat}(ho:s.heap.get? a=some (W5 t led mv ep b))(ok:Fit t){Q:(Array (Int×Value)×Nat×SetTable)->Shared->Prop}(h:Q (Y1 t.es b,ep,B2 t led mv) s):wpAny C.m A (setState a) Q E s:=
 wpAny_setState_of ho rfl (ok.fits led mv b) h
theorem d2t{Q:Option (Array Value)->Shared->Prop}{ks:List Int}(hx:TK C s.heap ks x)(h:∀vs n,s.heap.get? x=some (F6 vs n)->ItemsAre (U2 C.prog C.w) ks vs->Q (some vs.toArray) s):wpAny C.m A (seqItems? (.ref x)) Q E s:=by
 refine B1 hx fun vs n e r=>?_;clear hx;unfold seqItems?;refine m0 (wpAny_load e ?_);exact q0 (h vs n e r)
theorem int_item{v:Value}{i:Int}(h:(U2 C.prog C.w).is i v=true):∃t,v=.int i t:=a53 h
theorem d4s{vs:List Value}(h:ItemsAre (U2 C.prog C.w) (Z1 k) vs):∃i j t u,vs=[.int i t,.int j u]:=by
 cases h with
 |cons h1 h=>
  cases h with
  |cons h2 h=>
   cases h;obtain ⟨t,rfl⟩:=a53 h1;obtain ⟨u,rfl⟩:=a53 h2;exact ⟨_,_,t,u,rfl⟩
theorem TK.typeIs{ks:List Int}(hx:TK C s.heap ks x):s.TypeIs (.ref x) "tuple":=B1 hx fun _ _ e _=>⟨_,e,rfl⟩
theorem c84(n:Nat)(i:Int)(t:Tok):hashByValue n (.int i t)=pure true:=by cases n <;>rfl
theorem d0q(n:Nat)(i:Int)(t:Tok):ofAClassStatement n (.int i t)=pure false:=by cases n <;>rfl
theorem d73(hx:TK C s.heap (Z1 k) x){Q:Bool->Shared->Prop}(h:Q true s):wpAny C.m A (hashByValue 8 (.ref x)) Q E s:=by
 unfold hashByValue;refine m0 (c3s hx.typeIs PySem.F.slot_tuple_hash.lookup ?_);dsimp only;refine m0 (d2t hx fun vs n e r=>?_);refine n5 (d4s r) fun i j t zy=>?_;obtain ⟨u,zz⟩:=zy;subst zz;refine rE Option.getD_some (rF Array.forIn_toList (rE (n7 ..) ?_));refine m0 (m0 (m0 (A5 (c84 7 i t) ?_)));refine rE (if_neg (by decide)) (q0 ?_);dsimp only;refine rE (n7 ..) (m0 (m0 (A5 (c84 7 j u) ?_)));refine rE (if_neg (by decide)) ?_;exact q0 (q0 (q0 h))
theorem d0b(hx:TK C s.heap (Z1 k) x){Q:Bool->Shared->Prop}(h:Q false s):wpAny C.m A (ofAClassStatement 8 (.ref x)) Q E s:=by
 delta ofAClassStatement
 with_unfolding_all show wpAny _ _ (typeOf (.ref x) >>=_) _ _ _
 refine m0 (a6f hx.typeIs ?_);show wpAny _ _ (pure true >>=_) _ _ _;refine m0 (q0 ?_);dsimp only;refine rE (if_neg (by decide)) ?_;refine m0 (d2t hx fun vs n e r=>?_);refine n5 (d4s r) fun i j t zy=>?_;obtain ⟨u,zz⟩:=zy;subst zz;dsimp only;refine rF Array.forIn_toList (rE (n7 ..) ?_);refine m0 (m0 (m0 (A5 (d0q 7 i t) ?_)));refine rE (if_neg (by decide)) (q0 ?_);dsimp only;refine rE (n7 ..) (m0 (m0 (A5 (d0q 7 j u) ?_)));refine rE (if_neg (by decide)) ?_;exact q0 (q0 (q0 h))
theorem e4x{y:Addr}(hx:TK C s.heap (Z1 k) x)(hy:TK C s.heap (Z1 k) y){Q:Bool->Shared->Prop}(h:Q false s):wpAny C.m A (searchCouldBeSeen (.ref x) [.ref y]) Q E s:=by
 unfold searchCouldBeSeen;refine rE (n7 ..) (m0 (m0 ?_));by_cases hxy:(x==y ||carriedByValue (.ref x) && carriedByValue (.ref y))=true
 ·refine rE (if_pos hxy) ?_
  exact q0 (q0 (q0 h))
 ·refine rE (if_neg hxy) ?_
  refine m0 ((T4 (U2 C.prog C.w)).quiet hx.is ?_);refine rE (if_neg (by decide)) ?_;refine m0 ((T4 (U2 C.prog C.w)).quiet hy.is ?_);refine rE (if_neg (by decide)) ?_;refine m0 (d0b hx ?_);refine rE (if_neg (by decide)) ?_;refine m0 (d0b hy ?_);refine rE (if_neg (by decide)) ?_;exact q0 (q0 (q0 h))
theorem e4w{mv:Nat}(ok:Ok t):(B2 t led mv).gaveWay=false:=by
 show (t.mask % 2==0)=false;refine rE ok.odd ?_;rfl
theorem c83:∀i,i < 6->∀j,j < 6->v5 i=v5 j->i=j:=by decide+kernel
theorem e5l{l:List Nat}(hn:l.Nodup)(hl:∀j∈l,j < 6)(hk:k < 6)(hm:k∈l):(l.map (O8 b)).filter (fun e=>e.1==v5 k)=[O8 b k]:=by
 induction l with
 |nil=>exact absurd hm G1
 |cons a l ih=>
  obtain ⟨hna,hn⟩:=a4b.mp hn;refine rE I8 (rE List.filter_cons ?_);by_cases e:a=k
  ·subst e
   refine rE (if_pos (by simp [O8])) ?_;rw[List.filter_eq_nil_iff.mpr];intro e he;refine yea (d6.mp he) fun j hj zz=>?_;subst zz;intro q;have:=c83 j (hl j (C3 _ hj)) a hk (beq_iff_eq.mp q);exact hna (this▸hj)
  ·refine rE (if_neg (show ¬ ((O8 b a).1==v5 k)=true from fun q=>e (c83 a (hl a (B3 ..)) k hk (beq_iff_eq.mp q)))) ?_
   exact ih hn (fun j hj=>hl j (C3 _ hj)) ((O0.mp hm).resolve_left fun q=>e q.symm)
theorem e9e{mv ep:Nat}(ho:s.heap.get? a=some (W5 t led mv ep b))(ok:Ok t)(hb:∀k∈t.es,TK C s.heap (Z1 k) (b k))(hA:A.units < cLine)(hk:k < 6)(hx:TK C s.heap (Z1 k) x){Q:SetFound->Shared->Prop}
  (h1:∀j,t.met k=some (.empty j none)->Q (.free j false) s) (h2:∀j i n,t.met k=some (.candidate j i n)->t.es[i]? =some k->Q (.there none) s) (hm:(∃j,t.met k=some (.empty j none))∨∃j i n,t.met k=some (.candidate j i n)/\t.es[i]? =some k):
  wpAny C.m A (setSearch a (.ref x) (v5 k) true) Q E s:=by
 unfold setSearch;show wpAny _ _ (setState a >>=_) _ _ _;refine m0 (D6 ho ok.fit ?_);dsimp only;refine rE (e4w ok) (rE (if_neg (by decide)) ?_);refine m0 (q0 ?_);refine rE (show (none:Option Probe).getD ((B2 t led mv).probeStart (v5 k))=(B2 t led mv).probeStart (v5 k) from rfl) ?_;rw[show ∀f:Nat->Int,(∀i,f i=(Q8 t.es).getD i 0)->(B2 t led mv).probe f (v5 k) ((B2 t led mv).probeStart (v5 k))=t.met k from fun f h=>e43 h]
 ·rcases hm with ⟨j,hj⟩ | ⟨j,i,n,hj,hi⟩
  ·refine rE hj ?_
   exact q0 (h1 j hj)
  ·refine rE hj ?_
   have hmem:k∈t.es:=a6r hi;have hy:=hb k hmem;have hei:(Y1 t.es b)[i]? =some (v5 k,.ref (b k)):=by
    unfold Y1;refine rE (a2j) (rE (m9) (rE hi ?_));rfl
   dsimp only;refine rE hei ?_;dsimp only;refine a0q (fun _=>?_) fun _=>?_
   ·refine m0 ?_
    refine rE Array.toList_filter (rE (show (Y1 t.es b).toList=t.es.map (O8 b) from rfl) (rE (e5l ok.nod.1 ok.nod.2 hk hmem) ?_));refine e4x hx hy ?_;refine rE (if_neg (by decide)) ?_;refine m0 (J2 ((T4 (U2 C.prog C.w)).eqBool hA hy.is hx.is ?_));refine rE (decide_eq_true rfl) ?_;refine m0 (D6 ho ok.fit ?_);exact q0 (h2 j i n hj hi)
   ·refine m0 (J2 ((T4 (U2 C.prog C.w)).eqBool hA hy.is hx.is ?_))
    refine rE (decide_eq_true rfl) ?_;refine m0 (D6 ho ok.fit ?_);exact q0 (h2 j i n hj hi)
 ·exact fun i=>f0p t.es b i
end
end
section
open PySem.SetTable
theorem b83{mask f mv:Nat}{l p:Bool}{es:List Nat}{t':Stt}(h:a9a mask es=some t'):∃ord:List Nat,laid mask f mv l p (Q8 es)=some ({t'.tab with finger:=f,led:=l,moves:=mv,plain:=p},ord.toArray)/\ord.filterMap (es[·]?)=t'.es/\t'.es.length=es.length/\t'.mask=mask:=by
 unfold a9a at h;cases ho:layClean mask (Q8 es) with
 |none=>rw[ho] at h;cases h
 |some owner=>
  rw[ho] at h;unfold d3p at h;dsimp only at h;split at h
  ·rename_i hl
   cases h;refine ⟨(b8a mask owner).map (·.2),?_,rfl,hl,rfl⟩;unfold laid;refine rE ho ?_;rfl
  ·cases h
theorem c78(es:List Nat)(b:Nat->Addr):(Y1 es b).map (·.1)=Q8 es:=by
 unfold Y1 Q8;refine rE List.map_toArray (rE a6p ?_);rfl
theorem b16(es:List Nat)(b:Nat->Addr)(ord:List Nat):ord.toArray.filterMap ((Y1 es b)[·]?)=Y1 (ord.filterMap (es[·]?)) b:=by
 unfold Y1;refine rE List.filterMap_toArray (rE List.map_filterMap ?_)
 congr 1
 refine congrArg (a46 · ord) (funext fun i=>?_);exact rE (a2j) (rE (m9) rfl)
theorem b1l(l:List Nat)(p k:Nat):(insertAt l.toArray p k).toList.length=l.length+1:=by
 show ((l.toArray.extract 0 p).push k++l.toArray.extract p l.length).size=_;refine rE Array.size_append (rE (Array.size_push ..) (rE Array.size_extract (rE Array.size_extract (rE p6 (rE (Nat.min_self ..) (rE (Nat.sub_zero ..) (rE (Nat.add_right_comm ..) ?_)))))));rw[a2n (min p l.length)];exact rE (Nat.min_comm ..) (rE (Nat.sub_add_min_cancel ..) rfl)
theorem f06:∀w,w<=64->sizeAbove w<=3000:=by decide+kernel
section
variable{C:Cx}{A:Around}{E:Value->Shared->Prop}{s:Shared}{a:Addr}{led:Bool}{t t':Stt}{b:Nat->Addr}{k:Nat}{x:Addr}
theorem b31{mv ep:Nat}(ho:s.heap.get? a=some (W5 t led mv ep b)){es':Array (Int×Value)}{t':SetTable}:(s.heap.update a (a6w es' t')).get? a=some ⟨.type "set",none,.set es' (ep+1) t',#[]⟩:=by
 have:=j8 (a6w es' t') ho (by refine rE (putSet_of es' t' (show (W5 t led mv ep b).data=_ from rfl)) ?_;rfl);rw[putSet_of es' t' (show (W5 t led mv ep b).data=_ from rfl)] at this;exact this
theorem d1b{mv ep w:Nat}(ho:s.heap.get? a=some (W5 t led mv ep b))(ok:Fit t)(hw:w<=64)(h:t.relay w=some t')(ok':Ok t'){Q:Unit->Shared->Prop}
  (q:∀mv' ep',(s.heap.update a (a6w (Y1 t'.es b) (B2 t' led mv'))).get? a=some (W5 t' led mv' ep' b)->Q () {s with heap:=s.heap.update a (a6w (Y1 t'.es b) (B2 t' led mv'))}):wpAny C.m A (setRelay a w) Q E s:=by
 refine W4 (b83 (f:=(B2 t led mv).finger) (mv:=(B2 t led mv).movedTo (sizeAbove w - 1)) (l:=led) (p:=true) h) fun ord h1 h2 h3 h4=>?_;unfold setRelay;refine m0 (D6 ho ok ?_);dsimp only;refine rE (if_neg (M3.mpr (M4 (f06 w hw)))) ?_;refine m0 ?_;refine rE (show (B2 t led mv).relaid ((Y1 t.es b).map (·.1)) w=_ from (congrArg (fun hs=>(B2 t led mv).relaid hs w) (c78 t.es b)).trans h1) ?_;have hsz:(ord.toArray.filterMap ((Y1 t.es b)[·]?)).size=(Y1 t.es b).size:=by exact rE (b16 ..) (rE h2 (rE (w6 ..) (rE (w6 ..) (rE h3 rfl))))
 show wpAny _ _ (if ((ord.toArray.filterMap ((Y1 t.es b)[·]?)).size !=(Y1 t.es b).size)=true then _ else _) _ _ _;refine rE hsz (rE (bne_self_eq_false ..) (rE (if_neg Z2) ?_));refine q0 ?_;refine rE (b16 ..) (rE h2 ?_);refine c3t ho rfl (q _ (ep+1) (b31 ho)) ?_;refine rE (w6 ..) ?_;exact M4 (W0 (I9 ok') (by decide))
theorem d1j{mv ep m:Nat}(ho:s.heap.get? a=some (W5 t led mv ep b))(ok:Ok t)(hm:m < 7)(h:t.room m=some t')(ok':Ok t'){Q:Unit->Shared->Prop}
  (q:∀h' mv' ep',H6 a s.heap h'->h'.get? a=some (W5 t' led mv' ep' b)->Q () {s with heap:=h'}):wpAny C.m A (setRoomFor a m) Q E s:=by
 unfold setRoomFor;refine m0 (D6 ho ok.fit ?_);dsimp only;unfold Stt.room at h;refine rE (show (B2 t led mv).roomFor m=t.tab.roomFor m from rfl) ?_;cases hr:t.tab.roomFor m with
 |none=>
  rw[hr] at h;cases h;exact q0 (q s.heap mv ep (a9l _ _) ho)
 |some w=>
  rw[hr] at h;refine d1b ho ok.fit ?_ h ok' fun mv' ep' e=>q _ mv' ep' (I5 ..) e;have hw:(if (t.tab.fill+m) * 5>=t.tab.mask * 3 then some ((t.tab.place.size+m) * 2) else none)=some w:=hr;split at hw
  ·cases hw
   have h1:=ok.fit.fits led mv b;have h2:=I9 ok;unfold SetTable.fits at h1;rw[a41,w6] at h1;have h3:t.tab.place.size=t.es.length:=beq_iff_eq.mp h1.1;refine rE h3 ?_;omega
  ·cases hw
theorem e26(es:List Nat)(b:Nat->Addr)(p k:Nat):insertAt (Y1 es b) p (O8 b k)=Y1 (insertAt es.toArray p k).toList b:=by
 refine Array.ext' ?_;unfold insertAt Y1;simp only[Array.toList_append,Array.toList_push,Array.toList_extract,List.map_append,I8,List.map_nil,List.extract_eq_take_drop,Array.size,K4,List.map_take,List.map_drop]
theorem e0b{es:List Nat}{b b':Nat->Addr}(h:∀k∈es,b k=b' k):Y1 es b=Y1 es b':=congrArg List.toArray (a49 fun k hk=>congrArg (fun x=>(v5 k,O2 x)) (h k hk))
noncomputable def i9(b:Nat->Addr)(k:Nat)(x:Addr)(j:Nat):Addr:=if j=k then x else b j
theorem d65(hS:R5 C s.heap a led t b)(hA:A.units < cLine)(hk:k < 6)(hx:TK C s.heap (Z1 k) x){Q:Bool->Shared->Prop}
  (q:∀r h' t' b',H6 a s.heap h'->(Tups s.heap h'->R5 C h' a led t' b')->f8 t t' k=true->Q r {s with heap:=h'}):wpAny C.m A (setAddHashed a (.ref x) (v5 k)) Q E s:=by
 refine yee hS.at_ fun mv ep ho=>?_;refine R0 (hS.ok.facts.add k hk) fun t' ha ok' hw=>?_;have keysK:∀ {h':Heap} {l:List Nat} {b'':Nat->Addr},Tups s.heap h'->(∀j∈l,TK C s.heap (Z1 j) (b'' j))->∀j∈l,TK C h' (Z1 j) (b'' j):=fun ht h j hj=>(h j hj).up ht;unfold setAddHashed setAddHashedIn;refine J2 (m0 (D6 ho hS.ok.fit ?_));dsimp only;refine rE (if_neg (show ¬ byScan (.ref x) (Y1 t.es b)=true from fun h=>T1 h)) ?_;unfold Stt.add at ha;refine m0 (e9e ho hS.ok hS.keys hA hk hx (fun j hj=>?_) (fun j i n hj hi=>?_) ?_)
 ·rw[hj] at ha
  dsimp only at ha ⊢;refine m0 (D6 ho hS.ok.fit ?_);dsimp only;have hsz:t'.es.length=t.es.length+1:=by
   have hp:(t.put k j).es.length=t.es.length+1:=b1l ..;unfold Stt.full at ha;split at ha
   ·refine W4 (b83 (f:=0) (mv:=0) (l:=led) (p:=true) (show a9a _ _=some t' from ha)) fun _ _ _ h3 _=>?_
    exact h3.trans hp
   ·cases ha;exact hp
  have hnk:k ∉ t.es:=fun hin=>by
   have hle:=a3e t'.es t.es ok'.nod.1 fun i hi=>by
    have h6:=ok'.nod.2 i hi;have e:=b49 hw i h6;rw[G9.mpr hi] at e;cases hik:o0 i k with
    |true=>refine rE (V1 hik) ?_;exact hin
    |false=>rw[hik] at e;exact G9.mp e.symm
   omega
  have hnb:∀i∈t.es,b i=i9 b k x i:=fun i hi=>(if_neg fun e:i=k=>hnk (e▸hi)).symm;refine rE (if_pos (show ((B2 t led mv).put j).fst.plain=true from rfl)) ?_;refine m0 (d73 hx ?_);refine rE (if_pos rfl) ?_;have he:insertAt (Y1 t.es b) ((B2 t led mv).put j).snd (v5 k,O2 x)=Y1 (t.put k j).es (i9 b k x):=by
   refine rE (e0b hnb) (rE (show (v5 k,O2 x)=O8 (i9 b k x) k by unfold O8 i9;rw[if_pos rfl]) (rE (e26 ..) ?_));rfl
  have ht:((B2 t led mv).put j).fst=B2 (t.put k j) led mv:=rfl;have hf:Fit (t.put k j):=by
   have e1:(t.put k j).es.length=t.es.length+1:=b1l ..;have e2:(t.put k j).place.length=t.place.length+1:=b1l ..;have h6:=I9 hS.ok;have h7:=hS.ok.mask;have h8:=hS.ok.fit.1;exact ⟨by omega,show (t.put k j).place.length<=t.mask by omega⟩
  refine rE he (rE ht ?_);have sub:∀i∈t'.es,TK C s.heap (Z1 i) (i9 b k x i):=fun i hi=>by
   have e:=b49 hw i (ok'.nod.2 i hi);rw[G9.mpr hi] at e;cases hik:o0 i k with
   |true=>refine rE (V1 hik) ?_;unfold i9;refine rE (if_pos rfl) ?_;exact hx
   |false=>rw[hik] at e;have hi':=G9.mp e.symm;refine rF (hnb i hi') ?_;exact hS.keys i hi'
  have fin:∀h' mv' ep',H6 a s.heap h'->h'.get? a=some (W5 t' led mv' ep' (i9 b k x))->Q true {s with heap:=h'}:=fun h' mv' ep' hs e=>q true h' t' _ hs (fun ht=>⟨⟨mv',ep',e⟩,fun i hi=>(sub i hi).up ht,ok'⟩) hw;have hl:(Y1 (t.put k j).es (i9 b k x)).size<=sizeLine:=by
   refine rE (w6 ..) (rE (show (t.put k j).es.length=t.es.length+1 from b1l ..) ?_);exact M4 (W0 (a13 (I9 hS.ok)) (by decide))
  have ho1:(s.heap.update a (a6w (Y1 (t.put k j).es (i9 b k x)) (B2 (t.put k j) led mv))).get? a=some (W5 (t.put k j) led mv (ep+1) (i9 b k x)):=b31 ho;refine m0 (c3t ho rfl ?_ hl);unfold Stt.full at ha;refine rE (show (B2 (t.put k j) led mv).tooFull=(t.put k j).tab.tooFull from rfl) (rE (w6 ..) ?_);cases hft:(t.put k j).tab.tooFull with
  |false=>
   rw[hft] at ha;rw[if_neg (by decide)] at ha ⊢;cases ha;exact q0 (fin _ _ _ (I5 ..) ho1)
  |true=>
   rw[hft] at ha;rw[if_pos (by decide)] at ha ⊢;refine m0 (d1b (s:={s with heap:=s.heap.update a (a6w (Y1 (t.put k j).es (i9 b k x)) (B2 (t.put k j) led mv))}) ho1 hf ?_ ha ok' fun mv' ep' e=>q0 (fin _ mv' ep' ((I5 ..).trans (I5 ..)) e));have h6:=I9 hS.ok;have:∀n,n<=7->grown n<=64:=by decide
   exact this _ (a13 h6)
 ·rw[hj] at ha
  dsimp only at ha;rw[if_pos hi] at ha;cases ha;exact q0 (q false s.heap t b (a9l _ _) (fun _=>hS) hw)
 ·cases hm:t.met k with
  |none=>rw[hm] at ha;cases ha
  |some m=>
   rw[hm] at ha;cases m with
   |empty j d=>cases d with|none=>exact .inl ⟨j,rfl⟩ |some d=>cases ha
   |candidate j i n=>
    dsimp only at ha;split at ha
    ·exact .inr ⟨j,i,n,rfl,by assumption⟩
    ·cases ha
end
end
section
open PySem.SetTable
noncomputable def PrsOf(C:Cx)(h:Heap)(xs:List (List Int×Addr×Value))(cs:List Nat):Prop:=All2 (fun x k=>k < 6/\x.1=Z1 k/\TK C h (Z1 k) x.2.1) xs cs
noncomputable def inB(cs:List Nat)(S S':Nat->Prop):Prop:=∀j,j < 6->(S' j ↔ S j∨j∈cs)
section
variable{C:Cx}{A:Around}{E:Value->Shared->Prop}{s:Shared}{a d:Addr}{led:Bool}{t t':Stt}{b:Nat->Addr}{k:Nat}{x:Addr}{xs:List (List Int×Addr×Value)}{cs:List Nat}
theorem f2d(h:f8 t t' k=true)(hk:k < 6):inB [k] (·∈t.es) (·∈t'.es):=fun j hj=>by
 have e:=b49 h j hj;show j∈t'.es ↔ j∈t.es∨j∈[k];rw[<-G9 (l:=t'.es)];refine rE e ?_;rw[<-G9 (l:=t.es)];cases hjk:o0 j k with
 |true=>exact ⟨fun _=>.inr (S4.mpr (V1 hjk)),fun _=>rfl⟩
 |false=>exact ⟨.inl,fun h=>h.elim id fun q=>absurd (S4.mp q) (I7 hjk)⟩
theorem a9d(h:f8 t t' 9=true):inB [] (·∈t.es) (·∈t'.es):=fun j hj=>by
 have e:=b49 h j hj;show j∈t'.es ↔ j∈t.es∨j∈[];rw[<-G9 (l:=t'.es)];refine rE e ?_;rw[<-G9 (l:=t.es)];refine rE (show o0 j 9=false from (a07 j 9).trans (decide_eq_false (by omega))) ?_;exact ⟨.inl,fun h=>h.elim id fun q=>absurd q G1⟩
theorem inB.trans{c1 c2:List Nat}{S1 S2 S3:Nat->Prop}(h1:inB c1 S1 S2)(h2:inB c2 S2 S3):inB (c1++c2) S1 S3:=fun j hj=>by rw[h2 j hj,h1 j hj,a4a,or_assoc]
theorem PrsOf.up{h h':Heap}(p:PrsOf C h xs cs)(ht:Tups h h'):PrsOf C h' xs cs:=p.mono fun _ _ r=>⟨r.1,r.2.1,r.2.2.up ht⟩
theorem R5.up{h h':Heap}(hS:R5 C h a led t b)(k:∀b o,h.get? b=some o->h'.get? b=some o):R5 C h' a led t b:=⟨yee hS.at_ fun mv ep e=>⟨mv,ep,k _ _ e⟩,fun j hj=>(hS.keys j hj).up (Tups.of k),hS.ok⟩
theorem d4l{h h':Heap}{mv ep:Nat}(ho:h.get? a=some (W5 t led mv ep b))(hs:H6 a h h'):Tups h h':=fun c vs k e=>(hs.2 c fun q=>by rw[q,ho] at e;cases congrArg a03 (C0 e)).trans e
theorem c46{es:Array G7}{ep:Nat}{id:String}(had:a≠d)(hes:es.toList=xs.map (r8 (T4 (U2 C.prog C.w))))(hA:A.units < cLine)
  (f:Nat->PUnit->Sem (ForInStep PUnit)) (hf:∀i u,f i u=(do
   let some e:=(<-dictEntries d)[i]?|unsupported "internal:set-from-dict"
   let _<-O6 [e.key] (setAddHashed a e.key e.hash)
   if (<-dictEpoch d) !=ep then unsupported s!"{id}:changed-during-callback"
   pure (.yield PUnit.unit))):∀ (ys:List (List Int×Addr×Value)) (cs:List Nat) (n:Nat) {s:Shared} {t:Stt} {b:Nat->Addr} {Q:PUnit->Shared->Prop},xs.drop n=ys->n+ys.length=xs.length->s.heap.get? d=some (M6 es ep)->R5 C s.heap a led t b->PrsOf C s.heap ys cs->
   (∀h' t' b',H6 a s.heap h'->R5 C h' a led t' b'->inB cs (·∈t.es) (·∈t'.es)->Q PUnit.unit {s with heap:=h'})->wpAny C.m A (forIn (a9t n ys.length) PUnit.unit f) Q E s
 | [],cs,n,s,t,b,Q,_,_,_,hS,hp,q=>by
  cases hp;refine rE List.length_nil (rE List.range'_zero (rE a2i ?_));exact q0 (q s.heap t b (a9l _ _) hS fun j _=>⟨.inl,fun h=>h.elim (fun q=>q) fun q=>absurd q G1⟩)
 |y::ys,cs,n,s,t,b,Q,hdr,hn,hd,hS,hp,q=>by
  cases hp with
  | @cons _ k _ cs h1 h2=>
   refine yaa h1 fun hk hy hx=>?_;clear h1;have hxn:xs[n]? =some y:=by refine rF (List.head?_drop) (rE hdr ?_);rfl
   have hen:es[n]? =some (r8 (T4 (U2 C.prog C.w)) y):=by refine rF (a6i) (rE hes (rE (m9) (rE hxn ?_)));rfl
   refine rE Y9 (rE List.range'_succ (rE (n7 ..) (rE (hf ..) ?_)));refine m0 (m0 (V9 hd rfl ?_));refine rE hen ?_;refine yee hS.at_ fun mv ep' ho=>?_;refine m0 (J2 ?_);refine rE (show (r8 (T4 (U2 C.prog C.w)) y).hash=v5 k from (congrArg _ hy).trans (e1f k hk)) ?_;refine d65 hS hA hk hx fun r h' t' b' hs hS' hw=>?_;have ht:=d4l ho hs;have hd':h'.get? d=some (M6 es ep):=(hs.2 d (p7 had)).trans hd;refine m0 (a6d (s:={s with heap:=h'}) hd' rfl ?_);refine rE (bne_self_eq_false ..) (rE (if_neg Z2) ?_);refine q0 ?_;refine c46 (id:=id) had hes hA f hf ys cs (n+1) (s:={s with heap:=h'}) (by refine rF List.drop_drop (rE hdr ?_);rfl) (by refine rF hn (rE Y9 ?_);omega) hd' (hS' ht) (PrsOf.up h2 ht) fun h'' t'' b'' hs2 hS2 hi=>?_;exact q h'' t'' b'' (hs.trans hs2) hS2 ((f2d hw hk).trans hi)
end
end
section
open PySem.SetTable
section
variable{C:Cx}{A:Around}{E:Value->Shared->Prop}{s:Shared}{a d:Addr}{led:Bool}{t t':Stt}{b:Nat->Addr}{k:Nat}{x:Addr}{xs:List (List Int×Addr×Value)}{cs:List Nat}
theorem f0u:isSubtype (.type "dict") (.type "set")=pure false:=by rw[b1u];kernel_rfl
theorem f0t:isSubtype (.type "dict") (.type "frozenset")=pure false:=by refine rE (b1u ..) ?_;kernel_rfl
theorem e4y(hT:s.TypeIs (.ref d) "dict"){Q:Bool->Shared->Prop}(h:Q false s):wpAny C.m A (Builtin.Frozenset.isAnySet (.ref d)) Q E s:=by
 unfold Builtin.Frozenset.isAnySet;show wpAny _ _ (isInstance (.ref d) (.type "set") >>=fun b=>match toBool b with|true=>pure b|false=>isInstance (.ref d) (.type "frozenset")) _ _ _;exact m0 (a3y hT f0u (a3y hT f0t h))
theorem d4y{es:Array G7}{ep:Nat}{id:String}(hS:R5 C s.heap a led t b)(had:a≠d)(hd:s.heap.get? d=some (M6 es ep))(hes:es.toList=xs.map (r8 (T4 (U2 C.prog C.w))))(hp:PrsOf C s.heap xs cs)(hx:xs.length < 7)(hsys:(d==E6)=false)(hA:A.units < cLine){Q:Unit->Shared->Prop}
  (q:∀h' t' b',H6 a s.heap h'->R5 C h' a led t' b'->inB cs (·∈t.es) (·∈t'.es)->Q () {s with heap:=h'}):wpAny C.m A (Builtin.Frozenset.updateFrom id a (.ref d)) Q E s:=by
 have hT:s.TypeIs (.ref d) "dict":=⟨_,hd,rfl⟩;have hsz:es.size=xs.length:=by exact rF g8 (rE hes (rE (K4 ..) rfl))
 refine yee hS.at_ fun mv ep0 ho=>?_;refine R0 (hS.ok.facts.room es.size (hsz▸hx)) fun t1 hr ok1 hw1=>?_;unfold Builtin.Frozenset.updateFrom;refine m0 (e4y hT ?_);refine rE (if_neg Z2) ?_;refine m0 (a6f hT ?_);refine rE (if_pos (by decide)) ?_;refine m0 (a2c ?_);show wpAny _ _ (pure d >>=_) _ _ _;refine m0 (q0 ?_);refine rE (if_neg (by rw[hsys];exact Z2)) ?_;refine m0 (a6d hd rfl ?_);refine m0 (V9 hd rfl ?_);refine m0 (d1j ho hS.ok (hsz▸hx) hr ok1 fun h1 mv1 ep1 hs1 ho1=>?_);have ht1:=d4l ho hs1;have hd1:h1.get? d=some (M6 es ep):=(hs1.2 d (p7 had)).trans hd;have hS1:R5 C h1 a led t1 b:=⟨⟨mv1,ep1,ho1⟩,fun j hj=>(hS.keys j (((a9d hw1) j (ok1.nod.2 j hj)).mp hj |>.elim (fun q=>q) fun q=>absurd q G1)).up ht1,ok1⟩;refine m0 (V9 (s:={s with heap:=h1}) hd1 rfl ?_);refine rE (Std.Legacy.Range.forIn_eq_forIn_range' ..) ?_;have hrange:(a9t [:es.size].start [:es.size].size [:es.size].step)=a9t 0 xs.length:=by
  exact rF hsz (rE (show [:es.size].size=es.size by simp [Std.Legacy.Range.size]) rfl)
 refine rE hrange ?_;refine m0 (c46 (id:=id) (s:={s with heap:=h1}) had hes hA _ (fun _ _=>rfl) xs cs 0 rfl (K8 _) hd1 hS1 (hp.up ht1) fun h' t' b' hs' hS' hi=>?_);exact q0 (q h' t' b' (hs1.trans hs') hS' fun j hj=>(hi j hj).trans (or_congr_left (((a9d hw1) j hj).trans ⟨fun h=>h.elim (fun q=>q) fun q=>absurd q G1,.inl⟩)))
noncomputable def fresh(led:Bool):Obj:={cls:=.type "set",dict:=none,data:=.set #[] 0 (.fresh 0 0 led)}
noncomputable def st0:Stt:=⟨7,[],[]⟩
theorem b3t:Ok st0:=⟨7,B3 ..,by kernel_rfl⟩
theorem e13{h:Heap}(e:h.get? a=some (fresh led))(b:Nat->Addr):R5 C h a led st0 b:=⟨⟨0,0,e⟩,fun j hj=>absurd hj G1,b3t⟩
theorem f1k{Q:String->Shared->Prop}(hT:s.TypeIs (.ref a) "set")(h:Q "set" s):wpAny C.m A (typeNameOfCut 200 (.ref a)) Q E s:=by
 unfold typeNameOfCut shownTypeOf;refine m0 (m0 (a6f hT ?_));refine rE (if_neg (by decide)) ?_;refine q0 ?_;refine rE (show typeNameCut 200 (.type "set")=typeName (.type "set") from rfl) (rE (show typeName (.type "set")=pure "set" by unfold typeName;rw[find?_eq_fast];kernel_rfl) ?_);exact q0 h
theorem e24{es:Array G7}{ep:Nat}(hS:s.heap.get? a=some (fresh led))(had:a≠d)(hd:s.heap.get? d=some (M6 es ep))(hes:es.toList=xs.map (r8 (T4 (U2 C.prog C.w))))(hp:PrsOf C s.heap xs cs)(hx:xs.length < 7)(hsys:(d==E6)=false)(hA:A.units < cLine){Q:PySem.Fin->Shared->Prop}
  (q:∀h' t' b',H6 a s.heap h'->R5 C h' a led t' b'->(∀j,j < 6->(j∈t'.es ↔ j∈cs))->Q (.done (.ret .none)) {s with heap:=h'}):wpAny C.m A (Builtin.«set.__init__» ⟨[.ref a,.ref d],[]⟩) Q E s:=by
 unfold Builtin.«set.__init__» noKeywords;refine m0 (q0 ?_);refine m0 (f1k ⟨_,hS,rfl⟩ ?_);refine m0 (q0 ?_);refine m0 (q0 ?_);refine m0 (m0 (D6 (t:=st0) (b:=fun _=>0) hS b3t.fit (q0 ?_)));dsimp only;refine rE (if_neg (by rw[show (B2 st0 led 0).fill=0 from rfl];decide)) ?_;refine m0 (d4y (e13 hS fun _=>0) had hd hes hp hx hsys hA fun h' t' b' hs' hS' hi=>?_);exact q0 (q h' t' b' hs' hS' fun j hj=>(hi j hj).trans ⟨fun h=>h.elim (fun q=>absurd q G1) fun q=>q,.inr⟩)
noncomputable def K1(C:Cx):Bool:=!(C.w.params.followText "set-order")
theorem d7x(v:Value){Q:Value->Shared->Prop}
  (h:Q (.ref s.heap.objs.size) {s with heap:=s.heap.push (fresh (K1 C))}):
  c5 C.m A (.call (.builtin "set.__new__") ⟨[.type "set",v],[]⟩) (wants Q E) s:=by
 refine a2v ?_;show wpAny _ A.in1 (do a7c "set.__new__" ⟨[.type "set",v],[]⟩;again (.builtin "set.__new__" ⟨[.type "set",v],[]⟩)) _ _ s;refine m0 (A5 (PySem.F.newCall_set_1 v) (q0 ⟨plainId_quiet PySem.F.plain_set_new _,a7f PySem.F.entry_set_new ?_⟩));refine rE (b4o PySem.F.plain_set_new _) ?_;unfold Builtin.«set.__new__» Builtin.Frozenset.newClass;have hsub:=sub_set_self;obtain ⟨hp,g,d,tk,os⟩:=s;dsimp only
 wp_walk
 refine a3x (q0 ?_);dsimp only;unfold newObj;refine m0 (b4d (q0 ?_));exact q0 h
theorem d79{es:Array G7}{ep:Nat}(hd:s.heap.get? d=some (M6 es ep))(hes:es.toList=xs.map (r8 (T4 (U2 C.prog C.w))))(hp:PrsOf C s.heap xs cs)(hx:xs.length < 7)(hsys:(d==E6)=false)(hA:A.in1.in1.units < cLine){Q:Value->Shared->Prop}
  (q:∀h' t' b',(∀b o,s.heap.get? b=some o->h'.get? b=some o)->R5 C h' s.heap.objs.size (K1 C) t' b'->(∀j,j < 6->(j∈t'.es ↔ j∈cs))->Q (.ref s.heap.objs.size) {s with heap:=h'}):wpAny C.m A (call (.type "set") [.ref d]) Q E s:=by
 refine yee PySem.F.called_set.mro fun c tl hmro=>?_;have hmade:=PySem.F.called_set.made;have hsub:=PySem.F.called_set.sub;have h1:=PySem.F.called_set.notType;have h2:=PySem.F.called_set.canCreate;have hct:=PySem.F.typeCall_set_1 (.ref d);have hli:=PySem.F.called_set.init.lookup;refine U9 (a2v ?_);show wpAny _ _ (callAny (.type "set") _) _ _ _;refine q0 ⟨Code.quiet_builtin _ (by decide+kernel),a7f PySem.F.entry_type_call ?_⟩;rw[Around.under_plain (weight_type_call_type "set" [.ref d] []) rfl]
 repeat (any_goals (first|assumption|wp_step))
 refine codeAny_mono (d7x (.ref d) (E:=E) (Q:=fun obj s₁=>obj=.ref s.heap.objs.size/\s₁={s with heap:=s.heap.push (fresh (K1 C))}) ⟨rfl,rfl⟩) fun r s₁ hr=>?_;cases r with
 |error e=>exact hr
 |ok fl=>
  cases fl with
  |ret obj=>
   obtain ⟨rfl,rfl⟩:=hr;have hS:(s.heap.push (fresh (K1 C))).get? s.heap.objs.size=some (fresh (K1 C)):=c6 _ rfl;have up:∀b o,s.heap.get? b=some o->(s.heap.push (fresh (K1 C))).get? b=some o:=fun b o e=>V2 _ e;have hT:Shared.TypeIs {s with heap:=s.heap.push (fresh (K1 C))} (.ref s.heap.objs.size) "set":=⟨_,hS,rfl⟩;have hbi:=PySem.F.called_set.init.bind (.ref s.heap.objs.size)
   repeat (any_goals (first|assumption|wp_step))
   refine codeAny_mono (b69 (R:=wants (fun r s₂=>r=.none/\Q (.ref s.heap.objs.size) s₂) E) PySem.F.called_set.init.plain PySem.F.entry_set_init (PySem.check_set_init_1 hT ?_)) fun r₂ s₂ hr₂=>?_
   ·exact e24 (s:={s with heap:=s.heap.push (fresh (K1 C))}) hS (p7 (j3 (K3 hd))) (up _ _ hd) hes (hp.up (Tups.of up)) hx hsys hA fun h' t' b' hs' hS' hi=>⟨rfl,q h' t' b' (fun b o e=>(hs'.2 b (j3 (K3 e))).trans (up b o e)) hS' hi⟩
   ·cases r₂ with
    |error e=>exact hr₂
    |ok fl₂=>
     cases fl₂ with
     |ret r=>
      obtain ⟨rfl,hq⟩:=hr₂;clear q hd hes hp hx hsys hA hS up hT;show wpAny _ _ (pure (some q7)) _ _ _;refine q0 ?_;show wpAny _ _ (if (q7 !=q7)=true then _ else _) _ _ _;rw[if_neg (by decide)];exact q0 hq
     |_=>exact hr₂.elim
  |_=>exact hr.elim
end
end
section
open PySem.SetTable
section
variable{C:Cx}{A:Around}{E:Value->Shared->Prop}{s:Shared}{a d:Addr}{led:Bool}{t t':Stt}{b:Nat->Addr}{k:Nat}{x:Addr}{xs:List (List Int×Addr×Value)}{cs:List Nat}
theorem e4o{Q:Value->Shared->Prop}(h:Q (.ref s.heap.objs.size) {s with heap:=s.heap.push (fresh (K1 C))}):wpAny C.m A (newSet (.type "set")) Q E s:=by
 unfold newSet setsByText;refine m0 (m0 (a3x (q0 ?_)));dsimp only;unfold newObj;exact m0 (b4d (q0 h))
theorem f2r(led:Bool)(mv:Nat):(B2 st0 led mv).fill=0:=rfl
theorem d84(hS:R5 C s.heap a (K1 C) t b){Q:Value->Shared->Prop}
  (q:∀h' t',(∀x o,s.heap.get? x=some o->h'.get? x=some o)->R5 C h' s.heap.objs.size (K1 C) t' b->f8 t t' 9=true->Q (.ref s.heap.objs.size) {s with heap:=h'}):wpAny C.m A (Builtin.Frozenset.copyOf a) Q E s:=by
 refine yee hS.at_ fun mv ep ho=>?_;have hT:s.TypeIs (.ref a) "set":=⟨_,ho,rfl⟩;refine R0 hS.ok.facts.copy fun t' hc ok' hw=>?_;unfold Builtin.Frozenset.copyOf Builtin.Frozenset.baseOf;refine m0 (m0 (a3y hT sub_set_self (q0 ?_)));refine rE (if_pos rfl) ?_;refine m0 (e4o ?_);refine m0 (q0 ?_);have up:∀x o,s.heap.get? x=some o->(s.heap.push (fresh (K1 C))).get? x=some o:=fun x o e=>V2 _ e;have hr:(s.heap.push (fresh (K1 C))).get? s.heap.objs.size=some (fresh (K1 C)):=c6 _ rfl;have hne:s.heap.objs.size≠a:=p7 (j3 (K3 ho));refine m0 ?_;unfold setMerge;refine rE (if_neg (by simpa using hne)) ?_;refine m0 (D6 (s:={s with heap:=s.heap.push (fresh (K1 C))}) (up _ _ ho) hS.ok.fit ?_);dsimp only;have hk:∀j,j < 6->(j∈t'.es ↔ j∈t.es):=fun j hj=>((a9d hw) j hj).trans ⟨fun h=>h.elim (fun q=>q) fun q=>absurd q G1,.inl⟩;have kS:∀ {h':Heap},(∀x o,s.heap.get? x=some o->h'.get? x=some o)->∀j∈t'.es,TK C h' (Z1 j) (b j):=fun hu j hj=>(hS.keys j ((hk j (ok'.nod.2 j hj)).mp hj)).up (Tups.of hu);have done:∀ {h':Heap} {mv' ep':Nat},H6 s.heap.objs.size (s.heap.push (fresh (K1 C))) h'->h'.get? s.heap.objs.size=some (W5 t' (K1 C) mv' ep' b)->Q (.ref s.heap.objs.size) {s with heap:=h'}:=fun {h' mv' ep'} hs e=>
  have hu:∀x o,s.heap.get? x=some o->h'.get? x=some o:=fun x o e=>(hs.2 x (j3 (K3 e))).trans (up x o e)
  q h' t' hu ⟨⟨mv',ep',e⟩,kS hu,ok'⟩ hw
 have hsz:=w6 t.es b;unfold Stt.copy at hc;obtain ⟨es,hes⟩:∃es,t.es=es:=⟨_,rfl⟩;rw[hes] at hc;cases es with
 |nil=>
  cases hc;refine rE (show (Y1 t.es b).isEmpty=true by rw[Array.isEmpty_iff_size_eq_zero,hsz,hes];rfl) (rE (if_pos rfl) ?_);exact q0 (q0 (done (a9l _ _) hr))
 |cons e0 es0=>
  refine rE (show (Y1 t.es b).isEmpty=false by rw[Array.isEmpty_eq_false_iff_exists_mem,<-Array.size_pos_iff_exists_mem,hsz,hes];exact q9 _) (rE (if_neg Z2) (rE hsz ?_));refine R0 (b3t.facts.room t.es.length (a2o (I9 hS.ok))) fun r hm okr hwr=>?_;have hre:r.es=[]:=List.eq_nil_iff_forall_not_mem.mpr fun j hj=>(((a9d hwr) j (okr.nod.2 j hj)).mp hj).elim (fun q=>absurd q G1) fun q=>absurd q G1;have hrp:r.place.length=0:=okr.fit.1.trans (by refine rE hre ?_;rfl);dsimp only at hc;rw[<-hes] at hc;rw[show (Stt.mk 7 [] []).room t.es.length=some r from hm] at hc;dsimp only at hc;refine m0 (d1j (s:={s with heap:=s.heap.push (fresh (K1 C))}) (t:=st0) (b:=fun _=>0) (mv:=0) (ep:=0) hr b3t (a2o (I9 hS.ok)) hm okr fun h1 mv1 ep1 hs1 ho1=>?_);refine m0 (D6 (s:={s with heap:=h1}) ho1 okr.fit ?_);dsimp only;have hro:(B2 r (K1 C) mv1).road (B2 t (K1 C) mv)=if r.mask=t.mask then .slotForSlot else .clean:=by
   unfold road;rw[if_neg (by
    have:(B2 r (K1 C) mv1).fill=0:=by show r.place.toArray.size+_=0;refine rE p6 (rE hrp ?_);rfl
    refine rE this ?_;decide)]
   show (if ((r.mask==t.mask) && true)=true then _ else _)=_;refine rE (Bool.and_true ..) ?_;by_cases e:r.mask=t.mask
   ·exact rE (if_pos e) (rE (if_pos (beq_iff_eq.mpr e)) rfl)
   ·exact rE (if_neg e) (rE (if_neg (fun h=>e (beq_iff_eq.mp h))) rfl)
  refine rE hro ?_;have hsm:∀l:List Nat,l.length=t.es.length->(Y1 l b).size<=sizeLine:=fun l e=>by refine rE (w6 ..) (rE e ?_);exact M4 (W0 (I9 hS.ok) (by decide))
  by_cases e:r.mask=t.mask
  ·rw[if_pos e] at hc ⊢
   cases hc;dsimp only;refine c3t ho1 rfl ?_ (hsm t.es rfl);refine q0 (done (mv':=mv1) (ep':=ep1+1) (hs1.trans (I5 ..)) ?_);refine rE (b31 (s:={s with heap:=h1}) ho1) (rE (show ((B2 r (K1 C) mv1).led && (B2 t (K1 C) mv).led)=K1 C from Bool.and_self _) ?_);rfl
  ·rw[if_neg e] at hc ⊢
   dsimp only;refine W4 (b83 (f:=(B2 r (K1 C) mv1).finger) (mv:=(B2 r (K1 C) mv1).moves) (l:=K1 C) (p:=true) hc) fun ord g1 g2 g3 g4=>?_;refine m0 ?_;have hl:laid (B2 r (K1 C) mv1).mask (B2 r (K1 C) mv1).finger (B2 r (K1 C) mv1).moves ((B2 r (K1 C) mv1).led && (B2 t (K1 C) mv).led) ((B2 r (K1 C) mv1).plain && (B2 t (K1 C) mv).plain) ((Y1 t.es b).map (·.1))=_:=((congrArg (fun l=>laid _ _ _ l _ _) (Bool.and_self _)).trans (congrArg (fun hs=>laid _ _ _ _ _ hs) (c78 t.es b))).trans g1;refine rE hl ?_;have hsz':(ord.toArray.filterMap ((Y1 t.es b)[·]?)).size=(Y1 t.es b).size:=by exact rE (b16 ..) (rE g2 (rE (w6 ..) (rE (w6 ..) (rE g3 rfl))))
   show wpAny _ _ (if ((ord.toArray.filterMap ((Y1 t.es b)[·]?)).size !=(Y1 t.es b).size)=true then _ else _) _ _ _;refine rE hsz' (rE (bne_self_eq_false ..) (rE (if_neg Z2) ?_));refine q0 ?_;refine rE (b16 ..) (rE g2 ?_);refine c3t ho1 rfl ?_ (hsm t'.es g3);refine q0 (done (mv':=mv1) (ep':=ep1+1) (hs1.trans (I5 ..)) ?_);refine rE (b31 (s:={s with heap:=h1}) ho1) ?_;rfl
theorem e0a:entryFor table "set.union"=some Builtin.«frozenset.union»:=
 entryFor_alias (id':="frozenset.union") (by kernel_rfl) rfl (by decide+kernel) (by kernel_rfl)
theorem d7a{es:Array G7}{ep:Nat}(hS:R5 C s.heap a (K1 C) t b)(had:a≠d)(hd:s.heap.get? d=some (M6 es ep))(hes:es.toList=xs.map (r8 (T4 (U2 C.prog C.w))))(hp:PrsOf C s.heap xs cs)(hx:xs.length < 7)(hsys:(d==E6)=false)(hA:A.in1.units < cLine){Q:Value->Shared->Prop}
  (q:∀h' t' b',(∀b o,s.heap.get? b=some o->h'.get? b=some o)->R5 C h' s.heap.objs.size (K1 C) t' b'->(∀j,j < 6->(j∈t'.es ↔ j∈t.es∨j∈cs))->Q (.ref s.heap.objs.size) {s with heap:=h'}):wpAny C.m A (call (.builtin "set.union") [.ref a,.ref d]) Q E s:=by
 have hT:s.TypeIs (.ref a) "set":=yee hS.at_ fun _ _ ho=>⟨_,ho,rfl⟩;refine G8 PySem.F.slot_set_union hT e0a ?_ (PySem.F.args_set_union_2 _ _);unfold Builtin.«frozenset.union» Builtin.Frozenset.manyOthers;refine m0 (m0 (q0 (q0 ?_)));refine m0 (d84 hS fun h1 t1 k1 hS1 hw=>?_);refine m0 (J2 ?_);have hne:(O2 d !=.ref a)=true:=by simpa using p7 had
 refine m0 (m:=forIn [O2 d] PUnit.unit _) ?_;refine rE (n7 ..) ?_;refine m0 ?_;show wpAny _ _ (if (O2 d !=.ref a)=true then _ else _) _ _ _;refine rE (if_pos hne) ?_;refine m0 (q0 ?_);refine m0 (d4y (s:={s with heap:=h1}) hS1 (p7 (j3 (K3 hd))) (k1 _ _ hd) hes (hp.up (Tups.of k1)) hx hsys hA fun h' t' b' hs' hS' hi=>?_);refine q0 ?_;refine q0 ?_;refine q0 ?_;exact q0 ⟨_,rfl,q h' t' b' (fun b o e=>(hs'.2 b (j3 (K3 e))).trans (k1 b o e)) hS' fun j hj=>(hi j hj).trans (or_congr_left (((a9d hw) j hj).trans ⟨fun h=>h.elim (fun q=>q) fun q=>absurd q G1,.inl⟩))⟩
end
end
section
open PySem.SetTable
theorem a64:Slot "set_iterator" "__next__" "set_iterator.__next__":=
 .of (owner:="set_iterator") (n:="__next__") (by refine rE (typeLookup_type ..) (rE builtinLookup_eq_fast ?_);kernel_rfl) (by decide+kernel) (by decide+kernel) (by decide+kernel)
  (by first|exact .inl (by decide+kernel) |exact .inr (by decide+kernel)) (by refine rE (b1u ..) ?_;kernel_rfl)
theorem d38:Slot "set_iterator" "__iter__" "set_iterator.__iter__":=
 .of (owner:="set_iterator") (n:="__iter__") (by refine rE (typeLookup_type ..) (rE builtinLookup_eq_fast ?_);kernel_rfl) (by decide+kernel) (by decide+kernel) (by decide+kernel)
  (by first|exact .inl (by decide+kernel) |exact .inr (by decide+kernel)) (by refine rE (b1u ..) ?_;kernel_rfl)
theorem c75:entryFor table "set_iterator.__next__"=some Builtin.«set_iterator.__next__»:=entryFor_of_tree (by kernel_rfl)
theorem e09:entryFor table "set_iterator.__iter__"=some Builtin.«dict_keyiterator.__iter__»:=
 entryFor_alias (id':="dict_keyiterator.__iter__") (by kernel_rfl) rfl (by decide+kernel) (by kernel_rfl)
theorem e08:entryFor table "set.__iter__"=some Builtin.«frozenset.__iter__»:=
 entryFor_alias (id':="frozenset.__iter__") (by kernel_rfl) rfl (by decide+kernel) (by kernel_rfl)
theorem c4c(a:Value):argsOk "set_iterator.__next__" ⟨[a],[]⟩:=by
 unfold argsOk;kernel_rfl
theorem d6d(a:Value):argsOk "set_iterator.__iter__" ⟨[a],[]⟩:=by
 unfold argsOk;kernel_rfl
theorem Ok.walk{t:Stt}(h:Ok t){i:Nat}(hi:i<=t.place.length):below t.place.toArray (a95 t.place i)=i:=
 V1 (X9.mp (if3 (if3 (if3 (if3 (if3 h.at).2).2).2).2).2 i (a9s.mpr (a2o hi)))
theorem c7b{α:Type}:∀ {l:List α} {i:Nat} (h:i < l.length),(l[i]::l.eraseIdx i).Perm l
 |a::l,0,_=>List.Perm.refl _
 |a::l,i+1,h=>(List.Perm.swap _ _ _).trans (List.Perm.cons _ (c7b (q6 h)))
theorem d11{α:Type}(next:Nat->Nat):∀ (f k:Nat) (l:List α) (out:Array α),l.length=f->(pickOrder.go next f k l out).toList.Perm (out.toList++l)
 |0,k,l,out,h=>by
  cases l with
  |nil=>exact (List.append_nil out.toList).symm▸List.Perm.refl out.toList
  |cons a l=>cases h
 |f+1,k,l,out,h=>by
  have hl:next k % l.length < l.length:=a02 _ (h▸q9 f);refine rE (show pickOrder.go next (f+1) k l out=K0 (motive:=fun _=>Array α) out (fun x=>pickOrder.go next f (k+1) (l.eraseIdx (next k % l.length)) (out.push x)) l[next k % l.length]? by kernel_rfl) ?_;rw[R4 hl];refine (d11 next f (k+1) _ _ (by rw[List.length_eraseIdx_of_lt hl,h];rfl)).trans ?_;rw[Array.toList_push,a45];exact List.Perm.append_left _ (c7b hl)
theorem e6v{α:Type}(next:Nat->Nat)(xs:Array α):(pickOrder next xs).toList.Perm xs.toList:=by
 unfold pickOrder;have:=d11 next xs.size 0 xs.toList #[] (g8)
 rwa [show (#[]:Array α).toList=[] from rfl,List.nil_append] at this
section
variable{C:Cx}{A:Around}{E:Value->Shared->Prop}{s:Shared}{a I:Addr}{t:Stt}{b:Nat->Addr}{k:Nat}
noncomputable def x8(C:Cx)(a ep:Nat)(t:Stt)(b:Nat->Addr):Array (Int×Value):=if K1 C=true then Y1 t.es b else pickOrder (C.w.params.setOrder a ep) (Y1 t.es b)
theorem d0v{ep:Nat}:(x8 C a ep t b).toList.Perm (Y1 t.es b).toList:=by
 unfold x8;split
 ·exact List.Perm.refl _
 ·exact e6v _ _
theorem d0w{ep:Nat}:(x8 C a ep t b).size=t.es.length:=by
 exact rF g8 (rE d0v.length_eq (rE g8 (rE (w6 ..) rfl)))
noncomputable def a93(sl i a n ep:Nat):Obj:=⟨.type "set_iterator",none,.fields #[.int (sl:Nat) 0,.int (i:Nat) 0,.ref a,.int (n:Nat) 0,.int (ep:Nat) 0],#[]⟩
noncomputable def SitAt(C:Cx)(h:Heap)(I a:Addr)(t:Stt)(i ep:Nat):Prop:=∃sl,h.get? I=some (a93 sl i a t.es.length ep)/\(K1 C=true->sl=a95 t.place i)
end
end
section
open PySem.SetTable
section
variable{C:Cx}{A:Around}{E:Value->Shared->Prop}{s:Shared}{a I:Addr}{t:Stt}{b:Nat->Addr}{k:Nat}
theorem ents_at(es:List Nat)(i:Nat)(e:Int×Value)(h:(Y1 es b)[i]? =some e):i < es.length:=by
 have:=(Array.getElem?_eq_some_iff.mp h).1
 rwa [w6] at this
theorem d2x{mv ep sl i:Nat}(ho:s.heap.get? a=some (W5 t (K1 C) mv ep b))(ok:Ok t)(hi:i<=t.es.length)(hs:K1 C=true->sl=a95 t.place i){Q:Option (Value×Nat)->Shared->Prop}
  (q:∀sl',(K1 C=true->i < t.es.length->sl'=a95 t.place (i+1))->Q (((x8 C a ep t b)[i]?).map fun e=>(e.2,sl')) s):wpAny C.m A (setNext a sl i ep) Q E s:=by
 unfold setNext;refine m0 (D6 ho ok.fit ?_);dsimp only;refine m0 ?_;unfold setsByText;refine m0 (a3x (q0 ?_));show wpAny _ _ (if C.w.params.followText "set-order"=true then _ else _) _ _ _;cases hf:C.w.params.followText "set-order" with
 |true=>
  have hl:K1 C=false:=by unfold K1;refine rE hf ?_;rfl
  refine rE (if_pos rfl) ?_;refine a0q (fun h=>absurd h (by refine rE (bne_self_eq_false ..) ?_;decide)) fun _=>?_;refine m0 ?_;unfold setWalk;refine m0 (D6 ho ok.fit ?_);dsimp only;refine m0 ?_;unfold setsByText;refine m0 (a3x (q0 ?_));show wpAny _ _ (if C.w.params.followText "set-order"=true then _ else _) _ _ _;refine rE hf (rE (if_pos rfl) ?_);refine m0 (a3x (q0 ?_));have:=q sl fun h=>absurd (hl.symm.trans h) (by decide);unfold x8 at this;rw[hl,if_neg Z2] at this;exact q0 this
 |false=>
  have hl:K1 C=true:=by unfold K1;refine rE hf ?_;rfl
  refine rE (if_neg Z2) ?_;refine a0q (fun h=>absurd h Z2) fun _=>?_;refine m0 ?_;refine a0q (fun h=>absurd h (by refine rE (show (B2 t (K1 C) mv).led=K1 C from rfl) (rE hl ?_);exact Z2)) fun _=>?_;refine q0 ?_;have hb:below (B2 t (K1 C) mv).place sl=i:=by refine rE (hs hl) ?_;exact ok.walk (ok.fit.1▸hi)
  refine rE hb ?_;rcases Nat.lt_or_ge i t.es.length with h|h
  ·have he:(Y1 t.es b)[i]? =some (O8 b t.es[i]):=by
    unfold Y1;refine rE (a2j) (rE (m9) (rE (R4 h) ?_));rfl
   have hp:(B2 t (K1 C) mv).place[i]? =some (t.place.getD i 0):=by
    show t.place.toArray[i]? =_;refine rE (a2j) (rE (a0y) (rE (R4 (ok.fit.1▸h)) ?_));rfl
   refine rE he (rE hp ?_);have:=q (t.place.getD i 0+1) fun _ _=>rfl;unfold x8 at this;rw[if_pos hl,he] at this;exact q0 this
  ·have he:(Y1 t.es b)[i]? =none:=Array.getElem?_eq_none (by refine rE (w6 ..) ?_;exact h)
   refine rE he ?_;have:=q 0 fun _ h'=>absurd h' (M3.mpr h);unfold x8 at this;rw[if_pos hl,he] at this;exact q0 this
theorem sit_type{h:Heap}{sl i n ep:Nat}(e:h.get? I=some (a93 sl i a n ep)){s:Shared}(hs:s.heap=h):s.TypeIs (.ref I) "set_iterator":=⟨_,hs▸e,rfl⟩
noncomputable def a70(C:Cx)(h:Heap)(I a:Addr)(t:Stt)(b:Nat->Addr)(mv i ep:Nat):Prop:=h.get? a=some (W5 t (K1 C) mv ep b)/\SitAt C h I a t i ep
theorem e9z{sl i n ep:Nat}(hI:s.heap.get? I=some (a93 sl i a n ep))(sl' i':Nat):((s.heap.update I (a04 (·.setIfInBounds 0 (rawInt (sl':Nat))))).update I (a04 (·.setIfInBounds 1 (rawInt (i':Nat))))).get? I=some (a93 sl' i' a n ep):=by
 have e1:=j8 (a04 (·.setIfInBounds 0 (rawInt (sl':Nat)))) hI (b56 (a4h rfl _));have e2:=j8 (a04 (·.setIfInBounds 1 (rawInt (i':Nat)))) e1 (b56 (a4h (a4h rfl _) _));exact e2
theorem e9x{mv i ep:Nat}(ok:Ok t)(hi:i < t.es.length)(hW:a70 C s.heap I a t b mv i ep)(hne:a≠I){Q:Option Value->Shared->Prop}
  (q:∀v h',(∃e,(x8 C a ep t b)[i]? =some e/\e.2=v)->a70 C h' I a t b mv (i+1) ep->H6 I s.heap h'->Q (some v) {s with heap:=h'}):wpAny C.m A (pyNext (.ref I)) Q E s:=by
 refine m5 hW fun ho sl hI hs=>?_;clear hW;have hT:s.TypeIs (.ref I) "set_iterator":=⟨_,hI,rfl⟩;have hx:∃e,(x8 C a ep t b)[i]? =some e:=⟨_,a6h (by refine rE d0w ?_;exact hi)⟩;obtain ⟨e,hx⟩:=hx;unfold pyNext;refine m0 (a9e (b4e (name:=N0 "__next__") hT a64
  (G8 a64 hT c75 ?_ (c4c _))))
 unfold Builtin.«set_iterator.__next__»;refine m0 (m:=slotArgs "__next__" 0 _) (q0 ?_);refine m0 (c3p hI rfl ?_);show wpAny _ _ (setEntries a >>=_) _ _ _;refine m0 ?_;unfold setEntries;refine m0 (D6 ho ok.fit (q0 ?_));refine a0q (fun h=>absurd h (by refine rE (w6 ..) (rE (bne_self_eq_false ..) ?_);decide)) fun _=>?_;show wpAny _ _ (setNext a ((sl:Nat):Int).toNat ((i:Nat):Int).toNat ((ep:Nat):Int).toNat >>=_) _ _ _;refine rE (a2h ..) (rE (a2h ..) (rE (a2h ..) ?_));refine m0 (d2x ho ok (J8 hi) hs fun sl' hs'=>?_);refine rE hx ?_;show wpAny _ _ (setField (.ref I) 0 (rawInt (sl':Nat)) >>=_) _ _ _;refine m0 (b4k hI rfl (by simp) ?_);have e1:=j8 (a04 (·.setIfInBounds 0 (rawInt (sl':Nat)))) hI (b56 (a4h rfl _));refine m0 (b4k (s:={s with heap:=s.heap.update I (a04 (·.setIfInBounds 0 (rawInt (sl':Nat))))}) e1 (a4h rfl _) (by simp) ?_);have sb:=(I5 s.heap I (a04 (·.setIfInBounds 0 (rawInt (sl':Nat))))).trans (I5 _ I (a04 (·.setIfInBounds 1 (rawInt ((i+1:Nat):Int)))));exact q0 ⟨_,rfl,q0 (q _ _ ⟨e,hx,rfl⟩ ⟨(sb.2 a hne).trans ho,sl',e9z hI sl' (i+1),fun h=>hs' h hi⟩ sb)⟩
theorem e9w{mv ep:Nat}(ok:Ok t)(hh:A.handled=none)(hW:a70 C s.heap I a t b mv t.es.length ep){Q:Option Value->Shared->Prop}
  (q:∀h',Heap.ExtBut I s.heap h'->Q none {s with heap:=h'}):wpAny C.m A (pyNext (.ref I)) Q E s:=by
 refine m5 hW fun ho sl hI hs=>?_;clear hW;have hT:s.TypeIs (.ref I) "set_iterator":=⟨_,hI,rfl⟩;have hx:(x8 C a ep t b)[t.es.length]? =none:=Array.getElem?_eq_none (by refine rE d0w ?_;exact i3 _);unfold pyNext;refine m0 (a9e (b4e (name:=N0 "__next__") hT a64
  (G8 a64 hT c75 ?_ (c4c _))))
 unfold Builtin.«set_iterator.__next__»;refine m0 (m:=slotArgs "__next__" 0 _) (q0 ?_);refine m0 (c3p hI rfl ?_);show wpAny _ _ (setEntries a >>=_) _ _ _;refine m0 ?_;unfold setEntries;refine m0 (D6 ho ok.fit (q0 ?_));refine a0q (fun h=>absurd h (by refine rE (w6 ..) (rE (bne_self_eq_false ..) ?_);decide)) fun _=>?_;show wpAny _ _ (setNext a ((sl:Nat):Int).toNat ((t.es.length:Nat):Int).toNat ((ep:Nat):Int).toNat >>=_) _ _ _;refine rE (a2h ..) (rE (a2h ..) (rE (a2h ..) ?_));refine m0 (d2x ho ok (i3 _) hs fun sl' hs'=>?_);refine rE hx ?_;show wpAny _ _ (setField (.ref I) 2 .none >>=_) _ _ _;refine m0 (b4k hI rfl (by simp) ?_);show wpAny _ _ (newExc (.type "StopIteration") [] >>=_) _ _ _;refine m0 ?_;unfold newExc newTuple;refine m0 (a9g ?_ (by size_fits));refine m0 (m:=b77 _ _) (A5 (a:=q7) (by first|rfl| (simp only[b77];rfl)) ?_);refine a9g ?_ (by size_fits);unfold raiseNew;refine m0 (wpAny_handled ?_);refine rE (show A.in1.handled=none from hh) ?_;refine m0 (q0 (wpAny_throw ?_));refine m0 (a3y (T:="StopIteration") (b:=true) ⟨_,c6 _ rfl,rfl⟩ isSubtype_stop ?_);exact q0 (q _ (((I5 ..).extBut.push _).push _))
theorem e9y{mv i ep:Nat}(hW:a70 C s.heap I a t b mv i ep){Q:Value->Shared->Prop}(h:Q (.ref I) s):wpAny C.m A (pyIter (.ref I)) Q E s:=by
 refine m5 hW fun ho sl hI hs=>?_;clear hW;have hT:s.TypeIs (.ref I) "set_iterator":=⟨_,hI,rfl⟩;refine wpAny_pyIter_slot hT d38 (G8 d38 hT e09 ?_ (d6d _));show wpAny _ _ (ret (.ref I)) _ _ s;exact q0 ⟨_,rfl,"set_iterator",_,hT,a64.lookup,h⟩
theorem e9j{mv ep:Nat}(ok:Ok t)(hh:A.handled=none)(hne:a≠I):Walks C.prog C.w A I [I,a] [I] t.es.length (fun i v=>∃e,(x8 C a ep t b)[i]? =some e/\e.2=v) (fun i h=>a70 C h I a t b mv i ep) where
 sub:=fun b hb=>by simp at hb;simp [hb]
 frame:=fun _ _ _ st hk=>⟨hk a (by simp) _ st.1,yea st.2 fun sl hI hs=>⟨sl,hk I (by simp) _ hI,hs⟩⟩
 item:=fun i s Q E hi st hQ=>e9x ok hi st hne fun v h' hv hW hs=>hQ v h' s.toks hv hW fun b o hb e=>hs.extBut b o (fun h=>hb (by simp [h])) e
 done:=fun s Q E st hQ=>e9w ok hh st fun h' he=>hQ h' s.toks fun b o hb e=>he b o (fun h=>hb (by simp [h])) e
 self:=fun _ _ _ _ st hQ=>e9y st hQ
theorem e9l{mv ep:Nat}(ho:s.heap.get? a=some (W5 t (K1 C) mv ep b))(ok:Ok t){Q:Value->Shared->Prop}(h:Q (.ref s.heap.objs.size) {s with heap:=s.heap.push (a93 0 0 a t.es.length ep)}):wpAny C.m A (pyIter (.ref a)) Q E s:=by
 have hT:s.TypeIs (.ref a) "set":=⟨_,ho,rfl⟩;refine wpAny_pyIter_slot hT PySem.F.slot_set_iter (G8 PySem.F.slot_set_iter hT e08 ?_ (PySem.F.args_set_iter_1 _));unfold Builtin.«frozenset.__iter__» Builtin.Frozenset.slot0;refine m0 (m0 (m:=slotArgs "__iter__" 0 _) (q0 (q0 ?_)));refine m0 ?_;unfold Builtin.Frozenset.sizeOf setEntries;refine m0 (m0 (D6 ho ok.fit (q0 (q0 ?_))));refine m0 ?_;unfold setDrawn setsByText;refine m0 (D6 ho ok.fit ?_);refine m0 (m0 (a3x (q0 (q0 ?_))));have hd:∀c:Bool,(c && false)=false:=Bool.and_false;refine a0q (fun h=>absurd h (by show ¬ ((_ && (!true && _))=true);refine rE Bool.not_true (rE (Bool.false_and ..) (rE (Bool.and_false ..) ?_));exact Z2)) fun _=>?_;refine m0 (q0 ?_);refine m0 ?_;unfold setEpoch;refine m0 (D6 ho ok.fit (q0 ?_));unfold newFields;refine m0 (a9g ?_ (by size_fits));refine q0 ⟨_,rfl,"set_iterator",_,⟨_,c6 _ rfl,rfl⟩,a64.lookup,?_⟩;refine rE (w6 ..) ?_;exact h
theorem e9k{mv ep:Nat}(ho:s.heap.get? a=some (W5 t (K1 C) mv ep b)){Q:Bool->Shared->Prop}(h:Q false s):wpAny C.m A (Builtin.List.listLengthHint (.ref a)) Q E s:=by
 have hT:s.TypeIs (.ref a) "set":=⟨_,ho,rfl⟩;unfold Builtin.List.listLengthHint;refine m0 (c3s hT PySem.F.slot_set_len.lookup ?_);generalize hid:("set.__len__":String)=id0
 wp_delta
 refine rE (show splitId id0=some ("set","__len__") from by subst hid;decide+kernel) ?_;subst hid;refine m0 (a3y (T:="set") (b:=true) hT (by refine rE (b1u ..) ?_;kernel_rfl) ?_);refine a0q (fun hab=>absurd hab (by decide)) (fun _=>?_);refine a0q (fun _=>?_) (fun hab=>absurd (by decide+kernel) hab);refine m0 (a6f hT ?_);exact q0 h
theorem e9n{mv ep:Nat}(ok:Ok t):KdlSrc C.prog C.w "set" a a t.es.length (fun i v=>∃e,(x8 C a ep t b)[i]? =some e/\e.2=v) (fun h=>h.get? a=some (W5 t (K1 C) mv ep b)) where
 type:=fun _ ho=>⟨_,ho,rfl⟩
 there:=fun _ ho=>⟨K3 ho,K3 ho⟩
 keep:=fun _ _ ho hk=>hk a (.inl rfl) _ ho
 notList:=by decide
 notTuple:=by decide
 hint:=fun _ _ _ _ ho hq=>e9k ho hq
 iter:=fun A s hh ho=>⟨_,_,(fun _ _ hq=>e9l ho ok hq),e9j (mv:=mv) (ep:=ep) ok hh (j3 (K3 ho)),⟨V2 _ ho,0,c6 _ rfl,fun _=>rfl⟩⟩
end
end
section
open PySem.SetTable
noncomputable def bit(m i:Nat):Bool:=o0 (Nat.land (a9y m i) 1) 1
noncomputable def C6(l:Nat)(i j:Nat):Bool:=bit l (w0 (C1 6 i) j)
noncomputable def a74(l:Nat):List Nat->Bool
 | []=>true
 |a::p=>(match p with| []=>true|b::_=>C6 l a b) && a74 l p
noncomputable def leafB(n:Nat)(p:Array Nat)(l:Nat):Bool:=a74 l p.toList && (o0 p.toList.length n && ((Z9 n).all (fun i=>T8 p.toList i) && p.toList.all fun i=>J0 i n))
noncomputable def pairBit(i j:Nat):Nat:=a4e 1 (w0 (C1 6 i) j)
noncomputable def a2s(l j:Nat):Nat:=Nat.lor (Nat.land (a9y l (C1 6 j)) 63) (a4e 1 j)
noncomputable def a0f(l:Nat)(i j:Nat):Nat:=[0,1,2,3,4,5].foldr (fun x m=>ifb (ifb (o0 x i) true (C6 l x i)) (Nat.lor m (a4e (a2s l j) (C1 6 x))) m) l
noncomputable def a7y(n:Nat)(f:Nat->Bool):Bool:=o4 (motive:=fun _=>Bool) (f 0) (fun k _=>f (Q0 k)) n
noncomputable def g9(n:Nat):KasT (Array Nat)->Nat->Bool
 | .ret p,l=>leafB n p l
 | .ask i j k,l=>(J0 i n && (J0 j n && !(o0 i j))) && ((C6 l j i ||a7y (a0f l i j) (g9 n (k true))) && (C6 l i j ||a7y (a0f l j i) (g9 n (k false))))
theorem tree2:g9 2 (kas_sort 2) 0=true:=by decide+kernel
theorem tree3:g9 3 (kas_sort 3) 0=true:=by decide+kernel
theorem tree4:g9 4 (kas_sort 4) 0=true:=by decide+kernel
theorem tree5:g9 5 (kas_sort 5) 0=true:=by decide+kernel
theorem tree6:g9 6 (kas_sort 6) 0=true:=by decide+kernel
theorem b0g(m i:Nat):bit m i=m.testBit i:=by
 show o0 (Nat.land (a9y m i) 1) 1=(1 &&& (m >>> i) !=0);refine rE (show Nat.land (a9y m i) 1=1 &&& (m >>> i) from Nat.and_comm _ _) (rE (Nat.one_and_eq_mod_two ..) ?_);rcases Nat.mod_two_eq_zero_or_one (m >>> i) with h|h <;>refine rE h ?_ <;>rfl
theorem e99{m r x i j:Nat}(hr:r < 64)(hj:j < 6):C6 (Nat.lor m (a4e r (C1 6 x))) i j=true->C6 m i j=true∨(i=x/\r.testBit j=true):=by
 unfold C6;refine rE (b0g ..) (rE (b0g ..) (rE (show Nat.lor m (a4e r (C1 6 x))=m ||| (r <<< (6 * x)) from rfl) (rE (Nat.testBit_or ..) (rE (Nat.testBit_shiftLeft ..) (rE (Bool.or_eq_true ..) (rE (a41 ..) ?_))))));rintro (h| ⟨h1,h2⟩)
 ·exact .inl h
 ·have h1:6 * x<=6 * i+j:=of_decide_eq_true h1
  have h3:6 * i+j - 6 * x < 6:=by
   refine Nat.lt_of_not_le fun h=>?_;have:r.testBit (6 * i+j - 6 * x)=false:=Nat.testBit_lt_two_pow (H3 hr (Nat.pow_le_pow_right (n:=2) (by decide) h));have h2:r.testBit (6 * i+j - 6 * x)=true:=h2;rw[this] at h2;cases h2
  have e:i=x:=Nat.le_antisymm (b51 (Nat.lt_of_mul_lt_mul_left (a:=6) (Z3 (m4 _ j) (Nat.lt_of_lt_of_eq ((Nat.sub_lt_iff_lt_add h1).mp h3) (a2n 6 _))))) (b51 (Nat.lt_of_mul_lt_mul_left (a:=6) (Z3 h1 (n9 hj _))));refine .inr ⟨e,?_⟩;have h2:r.testBit (6 * i+j - 6 * x)=true:=h2
  rwa [e,a6t] at h2
theorem d67{l j:Nat}(hj:j < 6):a2s l j < 64:=by
 unfold a2s;refine Nat.or_lt_two_pow (n:=6) (Z3 Nat.and_le_right (by decide)) ?_;show 1 <<< j < 64;refine rE (Nat.one_shiftLeft ..) ?_;exact Nat.pow_lt_pow_right (by decide) hj
theorem d66{l j y:Nat}(hy:y < 6)(h:(a2s l j).testBit y=true):y=j∨C6 l j y=true:=by
 unfold a2s at h;rw[show Nat.lor (Nat.land (a9y l (C1 6 j)) 63) (a4e 1 j)=((l >>> (6 * j)) &&& 63) ||| (1 <<< j) from rfl,Nat.testBit_or,Bool.or_eq_true,Nat.testBit_and,a41,Nat.testBit_shiftRight] at h;rcases h with h|h
 ·exact .inr (by unfold C6;refine rE (b0g ..) ?_;exact h.1)
 ·rw[Nat.one_shiftLeft,Nat.testBit_two_pow] at h
  exact .inl (of_decide_eq_true h).symm
section
variable{n:Nat}{c:Nat->Nat}
noncomputable def a4k(c:Nat->Nat)(l:Nat):Prop:=∀i j,i < 6->j < 6->C6 l i j=true->c i < c j
theorem c9z{l i j:Nat}(hl:a4k c l)(hi:i < 6)(hj:j < 6)(hij:c i < c j):a4k c (a0f l i j):=by
 have row:∀x,x < 6->ifb (o0 x i) true (C6 l x i)=true->∀y,y < 6->(a2s l j).testBit y=true->c x < c y:=fun x hx h y hy hb=>by
  have h1:c x<=c i:=by
   cases e:o0 x i with
   |true=>refine rE (V1 e) ?_;exact i3 _
   |false=>rw[e] at h;exact J8 (hl x i hx hi h)
  have h2:c j<=c y:=(d66 hy hb).elim (fun e=>e▸i3 _) fun e=>J8 (hl j y hj hy e);exact Z3 h1 (H3 hij h2)
 have go:∀xs:List Nat,(∀x∈xs,x < 6)->a4k c (xs.foldr (fun x m=>ifb (ifb (o0 x i) true (C6 l x i)) (Nat.lor m (a4e (a2s l j) (C1 6 x))) m) l):=fun xs=>by
  induction xs with
  |nil=>exact fun _=>hl
  |cons x xs ih=>
   intro hx;have ih:=ih fun y hy=>hx y (C3 _ hy);refine rE List.foldr_cons ?_;cases h:ifb (o0 x i) true (C6 l x i) with
   |false=>exact ih
   |true=>
    intro u v hu hv hs;rcases e99 (d67 hj) hv hs with h'| ⟨rfl,h'⟩
    ·exact ih u v hu hv h'
    ·exact row u hu h v hv h'
 exact go _ (by decide)
theorem c7v(n:Nat)(f:Nat->Bool):a7y n f=f n:=by cases n <;>rfl
theorem c4d{l:Nat}(hl:a4k c l):∀ {p:List Nat},(∀i∈p,i < 6)->a74 l p=true->(p.map c).Pairwise (· < ·)
 | [],_,_=>List.Pairwise.nil
 | [a],_,_=>List.pairwise_singleton ..
 |a::b::p,hp,h=>by
  have h:(C6 l a b && a74 l (b::p))=true:=h;rw[a41] at h;have ih:=c4d hl (fun i hi=>hp i (C3 _ hi)) h.2;have hab:=hl a b (hp a (.head _)) (hp b (.tail _ (.head _))) h.1;refine a6s.mpr ⟨fun y hy=>?_,ih⟩;rw[I8] at hy ih;rcases O0.mp hy with rfl|hy
  ·exact hab
  ·exact i4 hab ((a6s.mp ih).1 y hy)
structure Done(n:Nat)(c:Nat->Nat)(p:Array Nat):Prop where
 len:p.toList.length=n
 all:∀i,i < n->i∈p.toList
 lt:∀i∈p.toList,i < n
 asc:(p.toList.map c).Pairwise (· < ·)
theorem c3f{cmp:Nat->Nat->(Bool->Shared->Prop)->Shared->Prop}{Q:Array Nat->Shared->Prop}{s:Shared}(hn:n<=6)(hc:∀i j,i < n->j < n->i≠j->c i≠c j)
  (hcmp:∀i j (C:Bool->Shared->Prop),i < n->j < n->i≠j->C (decide (c i < c j)) s->cmp i j C s) (q:∀p,Done n c p->Q p s):∀ (t:KasT (Array Nat)) (l:Nat),g9 n t l=true->a4k c l->t.kasWp cmp Q s
 | .ret p,l,h,hl=>by
  have h:(a74 l p.toList && (o0 p.toList.length n && ((Z9 n).all (fun i=>T8 p.toList i) && p.toList.all fun i=>J0 i n)))=true:=h;simp only[a41,X9] at h;refine Q5 h fun h1 h2 h3 h4=>?_;clear h;have lt:∀i∈p.toList,i < n:=fun i hi=>B4 (h4 i hi);exact q p ⟨V1 h2,fun i hi=>G9.mp (h3 i (a9s.mpr hi)),lt,c4d hl (fun i hi=>H3 (lt i hi) hn) h1⟩
 | .ask i j k,l,h,hl=>by
  have h:((J0 i n && (J0 j n && !(o0 i j))) && ((C6 l j i ||a7y (a0f l i j) (g9 n (k true))) && (C6 l i j ||a7y (a0f l j i) (g9 n (k false)))))=true:=h;rw[c7v,c7v] at h;simp only[a41,Bool.or_eq_true,n6] at h;refine yaa h fun zz h4 h5=>?_;clear h;refine yaa zz fun h1 h2 h3=>?_;clear zz;have hi:=B4 h1;have hj:=B4 h2;have hne:i≠j:=fun e=>by rw[e,Nat.beq_refl] at h3;cases h3
  have hi6:=H3 hi hn;have hj6:=H3 hj hn;refine hcmp i j _ hi hj hne ?_;by_cases hlt:c i < c j
  ·refine rE (decide_eq_true hlt) ?_
   rcases h4 with h4|h4
   ·exact absurd (hl j i hj6 hi6 h4) (Nat.lt_asymm hlt)
   ·exact c3f hn hc hcmp q (k true) _ h4 (c9z hl hi6 hj6 hlt)
  ·refine rE (decide_eq_false hlt) ?_
   have hgt:c j < c i:=Nat.lt_of_le_of_ne (Nat.le_of_not_lt hlt) (hc j i hj hi (p7 hne));rcases h5 with h5|h5
   ·exact absurd (hl i j hi6 hj6 h5) hlt
   ·exact c3f hn hc hcmp q (k false) _ h5 (c9z hl hj6 hi6 hgt)
theorem f1l:a4k c 0:=fun i j _ _ h=>by
 unfold C6 at h;rw[b0g,Nat.zero_testBit] at h;cases h
theorem f0d{cmp:Nat->Nat->(Bool->Shared->Prop)->Shared->Prop}{Q:Array Nat->Shared->Prop}{s:Shared}(h2:2<=n)(hn:n<=6)(hc:∀i j,i < n->j < n->i≠j->c i≠c j)
  (hcmp:∀i j (C:Bool->Shared->Prop),i < n->j < n->i≠j->C (decide (c i < c j)) s->cmp i j C s) (q:∀p,Done n c p->Q p s):(kas_sort n).kasWp cmp Q s:=by
 have h:∀m,2<=m->m<=6->g9 m (kas_sort m) 0=true:=fun m h1 h2=>by
  rcases (by decide:∀m,m < 7->2<=m->m=2∨m=3∨m=4∨m=5∨m=6) m (a2o h2) h1 with rfl|rfl|rfl|rfl|rfl
  ·exact tree2
  ·exact tree3
  ·exact tree4
  ·exact tree5
  ·exact tree6
 exact c3f hn hc hcmp q _ 0 (h n h2 hn) f1l
end
end
section
open PySem.SetTable
section
variable{C:Cx}{A:Around}{E:Value->Shared->Prop}{s:Shared}{a x y:Addr}{i j:Nat}
theorem a28{vs:List Value}{k:Nat}(h:ItemsAre (U2 C.prog C.w) (Z1 k) vs):∃t u,vs=[.int (M2 (k / 3)) t,.int (M2 (k % 3)) u]:=by
 cases h with
 |cons h1 h=>
  cases h with
  |cons h2 h=>
   cases h;obtain ⟨t,rfl⟩:=a53 h1;obtain ⟨u,rfl⟩:=a53 h2;exact ⟨t,u,rfl⟩
theorem e3r:∀i,i < 6->∀j,j < 6->(if (M2 (i / 3)==M2 (j / 3))=true then (if (M2 (i % 3)==M2 (j % 3))=true then false else decide (M2 (i % 3) < M2 (j % 3))) else decide (M2 (i / 3) < M2 (j / 3)))=decide (i < j):=by decide+kernel
theorem e2t(hx:TK C s.heap (Z1 i) x)(hy:TK C s.heap (Z1 j) y)(hi:i < 6)(hj:j < 6){Q:Bool->Shared->Prop}(q:Q (decide (i < j)) s):wpAny C.m A (keyLt' (tuples' true) (.ref x) (.ref y)) Q E s:=by
 refine B1 hx fun vs n ex rx=>?_;clear hx;refine B1 hy fun us k ey ry=>?_;clear hy;refine yee (a28 rx) fun t u zy=>?_;subst zy;refine yee (a28 ry) fun t' u' zz=>?_;subst zz;rw[<-e3r i hi j hj] at q;refine kat_lt ex rfl ey rfl ?_;refine kat_cons (wpAny_eqBool_int ?_);cases h1:(M2 (i / 3)==M2 (j / 3)) with
 |true=>
  rw[h1,if_pos rfl] at q;refine kat_yes (kat_cons (wpAny_eqBool_int ?_));cases h2:(M2 (i % 3)==M2 (j % 3)) with
  |true=>
   rw[h2,if_pos rfl] at q;exact kat_yes (kat_nil q)
  |false=>
   rw[h2,if_neg Z2] at q;exact kat_no (kat_one _ _ (PySem.P.lt_int q))
 |false=>
  rw[h1,if_neg Z2] at q;exact kat_no (oneLt_int q)
noncomputable def a0t(C:Cx)(h:Heap)(ps:List (Nat×Addr)):Prop:=∀p∈ps,p.1 < 6/\TK C h (Z1 p.1) p.2
noncomputable def R2(ps:List (Nat×Addr)):List Value:=ps.map fun p=>.ref p.2
theorem a0t.up{h h':Heap}{ps:List (Nat×Addr)}(c:a0t C h ps)(ht:Tups h h'):a0t C h' ps:=fun p hp=>⟨(c p hp).1,(c p hp).2.up ht⟩
theorem c5g{h:Heap}:∀ {ps:List (Nat×Addr)},a0t C h ps->∃fs:List Value,KatTups h (R2 ps) fs/\fs.length=ps.length/\∀v∈fs,∃i t,v=.int i t
 | [],_=>⟨[],.nil,rfl,fun v hv=>absurd hv G1⟩
 |p::ps,c=>by
  refine R0 (c5g (ps:=ps) fun q hq=>c q (.tail _ hq)) fun fs h1 h2 h3=>?_;refine B1 ((c p (.head _)).2) fun vs n e r=>?_;refine yee (a28 r) fun t u zz=>?_;subst zz;exact ⟨_,.cons e rfl rfl rfl h1,by exact rE Y9 (rE Y9 (rE h2 rfl)),fun v hv=>(O0.mp hv).elim (fun e=>⟨_,_,e⟩) (h3 v)⟩
theorem b9x(ps:List (Nat×Addr)){i:Nat}(h:i < ps.length):(R2 ps).getD i q7=.ref ps[i].2:=by
 unfold R2;refine rE (a0y) (rE (m9) (rE (R4 h) ?_));rfl
structure a9m(ps qs:List (Nat×Addr)):Prop where
 asc:(qs.map (·.1)).Pairwise (· < ·)
 mem:∀p,p∈qs ↔ p∈ps
theorem c68{ps:List (Nat×Addr)}{p:Array Nat}(hp:Done ps.length (fun i=>(ps.getD i (0,0)).1) p):a9m ps (p.toList.map fun i=>ps.getD i (0,0))/\(p.toList.map fun i=>(R2 ps).getD i q7)=R2 (p.toList.map fun i=>ps.getD i (0,0)):=by
 refine ⟨⟨by refine rE a6p ?_;exact hp.asc,fun q=>⟨fun h=>?_,fun h=>?_⟩⟩,?_⟩
 ·refine yea (d6.mp h) fun i hi zz=>?_;subst zz
  refine rE (a0y) (rE (R4 (hp.lt i hi)) ?_);exact b4z _
 ·obtain ⟨i,hi,rfl⟩:=List.getElem_of_mem h
  exact d6.mpr ⟨i,hp.all i hi,by refine rE (a0y) (rE (R4 hi) ?_);rfl⟩
 ·unfold R2
  refine rE a6p ?_;refine a49 fun i hi=>?_;show (R2 ps).getD i q7=.ref (ps.getD i (0,0)).2;refine rE (b9x ps (hp.lt i hi)) (rE (a0y) (rE (R4 (hp.lt i hi)) ?_));rfl
theorem e9t{α:Type}{R:α->α->Prop}{l:List α}(h:l.length < 2):l.Pairwise R:=by
 cases l with
 |nil=>exact .nil
 |cons a l=>refine rE (o6 (Nat.lt_one_iff.mp (q6 h))) ?_;exact List.pairwise_singleton ..
theorem e3k{ps:List (Nat×Addr)}{n:Nat}{P:PySem.Fin->Shared->Prop}(ho:s.heap.get? a=some (seqObj "list" (R2 ps).toArray n))(hc:a0t C s.heap ps)(hn:(ps.map (·.1)).Nodup)(hl:ps.length<=6)
  (q:∀h' qs n',(∀b o,b≠a->s.heap.get? b=some o->h'.get? b=some o)->a9m ps qs->h'.get? a=some (seqObj "list" (R2 qs).toArray n')->P (.done (.ret .none)) {s with heap:=h'}):
  wpAny C.m A (Builtin.«list.sort» ⟨[.ref a],[]⟩) P E s:=by
 have ha:a < s.heap.objs.size:=K3 ho;have hvl:(R2 ps).length=ps.length:=K4 ..;have hvs:(R2 ps).toArray.size=ps.length:=(p6 ..).trans hvl;have s1:=I5 s.heap a (J6 fun _=>(#[]:Array Value));obtain ⟨e1,ho1⟩:∃e1,(s.heap.update a (J6 fun _=>(#[]:Array Value))).get? a=some (seqObj "list" #[] e1):=⟨_,get?_update_seq ho fun _=> #[]⟩;have up:∀b o,b≠a->s.heap.get? b=some o->(((s.heap.update a (J6 fun _=>(#[]:Array Value))).push (seqObj "tuple" (R2 ps).toArray 0)).push (seqObj "list" #[] 0)).get? b=some o:=fun b o hb e=>V2 _ (V2 _ ((s1.2 b hb).trans e));have hoa:(((s.heap.update a (J6 fun _=>(#[]:Array Value))).push (seqObj "tuple" (R2 ps).toArray 0)).push (seqObj "list" #[] 0)).get? a=some (seqObj "list" #[] e1):=V2 _ (V2 _ ho1);have ht:Tups s.heap (((s.heap.update a (J6 fun _=>(#[]:Array Value))).push (seqObj "tuple" (R2 ps).toArray 0)).push (seqObj "list" #[] 0)):=fun b vs k e=>up b _ (fun h=>by rw[h,ho] at e;injection e with e;injection e with e1;exact absurd (Value.type.inj e1) (by decide)) e;have fin:∀out qs,out=(R2 qs).toArray->a9m ps qs->out.size<=6->wpAny C.m A (do
   let touched:=(<-seqEpoch a) !=e1
   Builtin.List.listUpdate (.ref a) fun _=>out
   if touched then rule "list.sort.modified";raiseError "ValueError" "list modified during sort"
   ret .none) P E {s with heap:=(((s.heap.update a (J6 fun _=>(#[]:Array Value))).push (seqObj "tuple" (R2 ps).toArray 0)).push (seqObj "list" #[] 0))}:=fun out qs ho' hord hsz=>by
  refine m0 (seqEpoch_at hoa rfl ?_);refine m0 (listUpdate_at hoa rfl ?_ (D5 _) (W0 hsz (by refine rE a0l ?_;omega)));simp only[bne_self_eq_false,Bool.false_eq_true,if_false];exact q0 (q _ qs _ (fun b o hb e=>((I5 _ a _).2 b hb).trans (up b o hb e)) hord (by exact rE (get?_update_seq hoa fun _=>out) (rE ho' rfl)))
 refine rE (list_sort_plain ..) ?_;refine m0 (listItems_at ho rfl ?_);refine m0 (listUpdate_at ho rfl ?_ (by refine rE hvs (rE a0l ?_);omega) (D5 _));refine m0 (seqEpoch_at ho1 rfl ?_);refine m0 (wpAny_newTuple ?_ (by show (R2 ps).length<=_;refine rE hvl (rE a0l ?_);omega));refine m0 (b4i ?_ (D5 _));refine J2 ?_;show wpAny (model C.prog C.w) A _ P E {s with heap:=((s.heap.update a (J6 fun _=>(#[]:Array Value))).push (seqObj "tuple" (R2 ps).toArray 0)).push (seqObj "list" #[] 0)};dsimp only;by_cases h2:2<=ps.length
 ·have hn2:¬ (R2 ps).toArray.size < 2:=by refine rE hvs ?_;omega
  refine rE (if_neg hn2) (rE (if_neg hn2) ?_);refine R0 (c5g (hc.up ht)) fun fs hf1 hf2 hf3=>?_;refine m0 (kat_kind (T:=.type "int") (s:={s with heap:=_}) hf1 (by omega) (fun v hv=>by refine yee (hf3 v hv) fun i t zz=>?_;subst zz;exact .now) (by decide) ?_);refine m0 (F7 (kat_run (Q:=fun st' s'=>∃p:Array Nat,arrOf st'=p.map (kas_item ((R2 ps).toArray.zip (R2 ps).toArray))/\failedOf st'=none/\Done ps.length (fun i=>(ps.getD i (0,0)).1) p/\s'={s with heap:=((s.heap.update a (J6 fun _=>(#[]:Array Value))).push (seqObj "tuple" (R2 ps).toArray 0)).push (seqObj "list" #[] 0)})
   (G:=fun p s'=>Done ps.length (fun i=>(ps.getD i (0,0)).1) p/\s'={s with heap:=((s.heap.update a (J6 fun _=>(#[]:Array Value))).push (seqObj "tuple" (R2 ps).toArray 0)).push (seqObj "list" #[] 0)})
   (κ:=tuples' true) rfl (by refine rE hvl ?_;exact h2) (by refine rE hvl ?_;omega) (fun p' st' s' a1 a2 a3 a4=>⟨p',a2,a3,a4.1,a4.2⟩) ?_) ?_ fun _ _ e=>e)
  ·refine rE hvl ?_
   refine f0d h2 hl (c:=fun i=>(ps.getD i (0,0)).1) (fun i j hi hj hij h=>hij ?_) (fun i j C' hi hj hij hq=>?_) fun p hp=>⟨hp,rfl⟩
   ·simp only[a0y,R4 hi,R4 hj,Option.getD_some] at h
    exact (List.getElem_inj (xs:=ps.map (·.1)) (h₀:=by refine rE (K4 ..) ?_;exact hi) (h₁:=by refine rE (K4 ..) ?_;exact hj) hn).mp (by refine rE (List.getElem_map ..) (rE (List.getElem_map ..) ?_);exact h)
   ·unfold kas_ask
    refine rE (b9x ps hi) (rE (b9x ps hj) ?_);have ci:=(hc.up ht) _ (b4z hi);have cj:=(hc.up ht) _ (b4z hj);refine e2t ci.2 cj.2 ci.1 cj.1 ?_
    simpa only[a0y,R4 hi,R4 hj,Option.getD_some] using hq
  ·rintro ⟨⟨⟩,st'⟩ s' ⟨p,har,hf,hp,rfl⟩
   dsimp only;refine rE (kat_snds rfl har) (rE ((c68 hp).2) (rE hf ?_));exact fin _ _ rfl (c68 hp).1 (by unfold R2;refine rE p6 (rE (K4 ..) (rE (K4 ..) (rE hp.len ?_)));exact hl)
 ·have hn2:(R2 ps).toArray.size < 2:=by refine rE hvs ?_;omega
  refine rE (if_pos hn2) (rE (if_pos hn2) ?_);refine m0 (q0 ?_);refine m0 (q0 ?_);have hord:a9m ps ps:=⟨by
   exact e9t (by refine rE (K4 ..) ?_;exact Nat.lt_of_not_le h2),fun p=>Iff.rfl⟩
  have ez:(arrOf (SortSt.mk' general' ((R2 ps).toArray.zip (R2 ps).toArray) #[] 7 none)).map (·.2)=(R2 ps).toArray:=by
   show Array.map (·.2) ((R2 ps).toArray.zip (R2 ps).toArray)=_;apply Array.toList_inj.mp
   exact rE Array.toList_map (rE Array.toList_zip (rE (List.map_snd_zip (i3 _)) rfl))
  dsimp only;refine rE ez ?_;exact fin _ ps rfl hord (by refine rE hvs ?_;exact hl)
end
end
section
open PySem.SetTable
theorem e6g{α β:Type}{f:α->β}{l l2:List β}(h:l.Perm l2):∀ {m:List α},l2=m.map f->∃m':List α,m'.Perm m/\l=m'.map f:=by
 induction h with
 |nil=>exact fun {m} e=>⟨[],by rw[List.map_eq_nil_iff.mp e.symm],rfl⟩
 |cons x h ih=>
  intro m e;refine R3 (List.map_eq_cons_iff.mp e.symm) fun a m1 zt zs e2=>?_;subst zt;subst zs;refine yea (ih e2.symm) fun m' hp zu=>?_;subst zu;exact ⟨a::m',hp.cons a,rfl⟩
 |swap x y l=>
  intro m e;refine R3 (List.map_eq_cons_iff.mp e.symm) fun a m1 zw zv e2=>?_;subst zw;subst zv;refine R3 (List.map_eq_cons_iff.mp e2) fun b m2 zz zy zx=>?_;subst zz;subst zy;subst zx;exact ⟨b::a::m2,.swap ..,rfl⟩
 |trans _ _ ih1 ih2=>
  intro m e;refine yea (ih2 e) fun m1 h1 e1=>?_;refine yea (ih1 e1) fun m2 h2 e2=>?_;exact ⟨m2,h2.trans h1,e2⟩
theorem c4e:∀ {l m:List Nat},l.Pairwise (· < ·)->m.Pairwise (· < ·)->(∀j,j∈l ↔ j∈m)->l=m
 | [],[],_,_,_=>rfl
 | [],b::m,_,_,h=>absurd ((h b).mpr (.head _)) G1
 |a::l,[],_,_,h=>absurd ((h a).mp (.head _)) G1
 |a::l,b::m,hl,hm,h=>by
  obtain ⟨h1,h2⟩:=a6s.mp hl;obtain ⟨g1,g2⟩:=a6s.mp hm;have e:a=b:=by
   rcases O0.mp ((h a).mp (.head _)) with e|e
   ·exact e
   ·rcases O0.mp ((h b).mpr (.head _)) with e'|e'
    ·exact e'.symm
    ·exact absurd (h1 b e') (Nat.lt_asymm (g1 a e))
  subst e;rw[c4e h2 g2 fun j=>⟨fun hj=>?_,fun hj=>?_⟩]
  ·rcases O0.mp ((h j).mp (.tail _ hj)) with e|e
   ·exact absurd (h1 j hj) (e▸a01 _)
   ·exact e
  ·rcases O0.mp ((h j).mpr (.tail _ hj)) with e|e
   ·exact absurd (g1 j hj) (e▸a01 _)
   ·exact e
section
variable{C:Cx}{A:Around}{E:Value->Shared->Prop}{s:Shared}{a:Addr}{t:Stt}{b:Nat->Addr}
theorem f0g(hS:R5 C s.heap a (K1 C) t b)(hh:A.handled=none){Q:Value->Shared->Prop}
  (q:∀h' tk D n' qs,(∀x o,s.heap.get? x=some o->h'.get? x=some o)->(∀x o,s.heap.get? x=some o->x≠D)->h'.get? D=some (seqObj "list" (R2 qs).toArray n')->a0t C h' qs->(qs.map (·.1)).Pairwise (· < ·)->(∀j,j∈qs.map (·.1) ↔ j∈t.es)->Q (.ref D) {s with heap:=h',toks:=tk}):
  wpAny C.m A (call (.builtin "sorted") [.ref a]) Q E s:=by
 refine yee hS.at_ fun mv ep ho=>?_;have hn6:=I9 hS.ok;refine Calls.call_function_entry kind_sorted plain_sorted entry_sorted (args_sorted1 _) ?_;unfold Builtin.«sorted»;refine m0 (m:=checkCount "sorted" 1 1 _) (q0 ?_);refine m0 (kdu_collect (A:=A.in1) (e9n (mv:=mv) (ep:=ep) (b:=b) hS.ok) hh ho (W0 hn6 (by refine rE a0l ?_;omega)) fun h1 tk acc k1 hacc=>?_);refine yea (e6g (d0v (C:=C) (a:=a) (ep:=ep) (t:=t) (b:=b)) (show (Y1 t.es b).toList=t.es.map (O8 b) from rfl)) fun es' hp' eo=>?_;have hl':es'.length=t.es.length:=hp'.length_eq;have hacl:acc.toList=R2 (es'.map fun k=>(k,b k)):=by
  refine List.ext_getElem? fun i=>?_;rcases Nat.lt_or_ge i t.es.length with hi|hi
  ·have hx:acc.toList[i]? =some (acc[i]'(hacc.1▸hi)):=by refine rE (a6i) ?_;exact a6h (hacc.1▸hi)
   refine yea (hacc.2 i _ (by refine rF (a6i) ?_;exact hx)) fun e h1 h2=>?_;rw[<-a6i,eo,m9,R4 (hl'▸hi)] at h1;refine rE hx (rF h2 ?_);unfold R2;refine rE a6p (rE (m9) (rE (R4 (hl'▸hi)) ?_));cases h1;rfl
  ·unfold R2
   exact rE (b4y (by rw[g8,hacc.1];exact hi)) (rE (b4y (by rw[K4,K4,hl'];exact hi)) rfl)
 have hcl:acc.toList.length<=6:=by refine rE hacl ?_;unfold R2;refine rE (K4 ..) (rE (K4 ..) (rE hl' ?_));exact hn6
 refine m0 (b4i ?_ (W0 hcl (by refine rE a0l ?_;omega)));refine rE hacl ?_;have hnew:(h1.push (seqObj "list" (R2 (es'.map fun k=>(k,b k))).toArray 0)).get? h1.objs.size=some (seqObj "list" (R2 (es'.map fun k=>(k,b k))).toArray 0):=c6 _ rfl;have k2:∀x o,s.heap.get? x=some o->(h1.push (seqObj "list" (R2 (es'.map fun k=>(k,b k))).toArray 0)).get? x=some o:=fun x o e=>V2 _ (k1 x o e);have hle:∀x o,s.heap.get? x=some o->x≠h1.objs.size:=fun x o e=>j3 (K3 (k1 x o e));have hcod:a0t C (h1.push (seqObj "list" (R2 (es'.map fun k=>(k,b k))).toArray 0)) (es'.map fun k=>(k,b k)):=fun p hp=>by
  refine yea (d6.mp hp) fun k hk zw=>?_;subst zw;have:=hp'.mem_iff.mp hk;exact ⟨hS.ok.nod.2 k this,(hS.keys k this).up (Tups.of k2)⟩
 have hcodes:(es'.map fun k=>(k,b k)).map (·.1)=es':=by refine rE a6p ?_;exact List.map_id es'
 refine m0 (J2 (G8 slot_list_sort ⟨_,hnew,rfl⟩ entry_list_sort ?_ (args_list_sort _)));refine e3k (s:={s with heap:=_,toks:=tk}) hnew hcod (by refine rE hcodes ?_;exact hp'.nodup_iff.mpr hS.ok.nod.1) (by refine rE (K4 ..) (rE hl' ?_);exact hn6) fun h' qs n' k3 hord hD=>⟨_,rfl,q0 ⟨_,rfl,?_⟩⟩;have k4:∀x o,s.heap.get? x=some o->h'.get? x=some o:=fun x o e=>k3 x o (hle x o e) (k2 x o e);refine q h' tk _ n' qs k4 hle hD (fun p hp=>?_) hord.asc fun j=>⟨fun hj=>?_,fun hj=>?_⟩
 ·refine yea (d6.mp ((hord.mem p).mp hp)) fun k hk zx=>?_;subst zx
  have:=hp'.mem_iff.mp hk;exact ⟨hS.ok.nod.2 k this,(hS.keys k this).up (Tups.of k4)⟩
 ·refine yea (d6.mp hj) fun p hp zy=>?_;subst zy
  refine yea (d6.mp ((hord.mem p).mp hp)) fun k hk zz=>?_;subst zz;exact hp'.mem_iff.mp hk
 ·exact d6.mpr ⟨(j,b j),(hord.mem _).mpr (d6.mpr ⟨j,hp'.mem_iff.mpr hj,rfl⟩),rfl⟩
end
end
section
open PySem.SetTable
section
variable{C:Cx}{ρ:Nat->Addr}{x:S}{h:Heap}
theorem At.new_at(D:At C ρ x h){o:O}{ob:Obj}{h':Heap}{a:Addr}(hx:x.ok=true)(k:∀b o,h.get? b=some o->h'.get? b=some o)(hn:h.get? a=none)(he:h'.get? a=some ob)(ho:Ext ρ x h (ext ρ x.n a) (x.new o) h'->OV C h' (ext ρ x.n a) (x.n+1) o ob):
  At C (ext ρ x.n a) (x.new o) h'/\Ext ρ x h (ext ρ x.n a) (x.new o) h':=
 have D1:=D.grow k;have X:=D1.2.add (o:=o) D.room hn
 ⟨D1.1.add hx he (D.no_at hn).1 (D.no_at hn).2 (ho X),X⟩
end
section
variable{C:Cx}{σ:St C}{α β:Type}
theorem A0.new_at{o:O}{ob:Obj}{h':Heap}{a:Addr}{Q:Value->Shared->Prop}{tk:Nat}(z:A0 σ Vr Q (.ref σ.x.n) (σ.x.new o))(hx:σ.x.ok=true)(k:∀b o,σ.h.get? b=some o->h'.get? b=some o)(hn:σ.h.get? a=none)(he:h'.get? a=some ob)
  (ho:∀ {ρ':Nat->Addr},Ext σ.ρ σ.x σ.h ρ' (σ.x.new o) h'->OV C h' ρ' (σ.x.n+1) o ob):Q (.ref a) {σ.s with heap:=h',toks:=tk}:=
 have ⟨D,X⟩:=σ.D.new_at hx k hn he ho
 z _ (σ.to _ tk _ _ D) rfl ⟨X,rfl⟩ ⟨congrArg O2 (a1e ..).symm,l8 _⟩
theorem e1t:∀j,j < 6->idx6 (Z1 j)=some j:=by decide+kernel
theorem a56{ks:List Int}{j:Nat}(e:idx6 ks=some j):ks=Z1 j/\j < 6:=a7z e
theorem d33{h:Heap}{ρ:Nat->Addr}{n:Nat}{l:List (Option V)}{xs:List (List Int×Addr×Value)}(hn:(xs.map (·.1)).Nodup)(hk:∀x∈xs,TK C h x.1 x.2.1)(hr:∀ks,VRo h ρ n (slot6 l ks) ((atKey xs ks).map (·.2))):
  ∃cs,PrsOf C h xs cs/\xs.length < 7/\∀j,j < 6->(j∈cs ↔ (slot6 l (Z1 j)).isSome=true):=by
 have hi:∀y∈xs,∃i,idx6 y.1=some i:=fun y hy=>by
  have h1:=(hr y.1).isSome;rw[a77 hn hy] at h1;cases hi:idx6 y.1 with
  |none=>unfold slot6 at h1;rw[hi] at h1;exact T1 h1
  |some i=>exact ⟨i,rfl⟩
 refine ⟨xs.map fun y=>(idx6 y.1).getD 0,?_,?_,fun j hj=>⟨fun hm=>?_,fun hs=>?_⟩⟩
 ·have go:∀ys:List (List Int×Addr×Value),(∀y∈ys,y∈xs)->PrsOf C h ys (ys.map fun y=>(idx6 y.1).getD 0):=fun ys=>by
   induction ys with
   |nil=>exact fun _=>.nil
   |cons y ys ih=>
    intro hy;obtain ⟨i,e⟩:=hi y (hy y (.head _));refine .cons (show (idx6 y.1).getD 0 < 6/\y.1=Z1 ((idx6 y.1).getD 0)/\TK C h (Z1 ((idx6 y.1).getD 0)) y.2.1 from ?_) (ih fun z hz=>hy z (.tail _ hz));refine rE e ?_;exact ⟨(a56 e).2,(a56 e).1,(a56 e).1▸hk y (hy y (.head _))⟩
  exact go xs fun _ hy=>hy
 ·have:=a3e (xs.map (·.1)) ((Z9 6).map Z1) hn fun ks hk=>by
   refine yea (d6.mp hk) fun y hy zz=>?_;subst zz;obtain ⟨i,e⟩:=hi y hy;exact d6.mpr ⟨i,a9s.mpr (a56 e).2,(a56 e).1.symm⟩
  rw[K4,K4,List.length_range] at this;exact a2o this
 ·refine yea (d6.mp hm) fun y hy e=>?_
  obtain ⟨i,ei⟩:=hi y hy;rw[ei] at e;obtain rfl:i=j:=e;have h1:=(hr y.1).isSome;rw[a77 hn hy] at h1;refine rF ((a56 ei).1) ?_;exact h1.symm
 ·have h1:=(hr (Z1 j)).isSome
  rw[hs] at h1;have fs:∀ {y},(xs.find? fun x=>decide (x.1=Z1 j))=some y->y.1=Z1 j:=fun {y} e=>of_decide_eq_true (List.find?_some (p:=fun x:List Int×Addr×Value=>decide (x.1=Z1 j)) e);cases ha:xs.find? fun x=>decide (x.1=Z1 j) with
  |none=>unfold atKey at h1;rw[ha] at h1;cases h1
  |some y=>
   refine d6.mpr ⟨y,List.mem_of_find?_eq_some ha,?_⟩;show (idx6 y.1).getD 0=j;refine rE (fs ha) (rE (e1t j hj) ?_);rfl
end
end
section
variable{C:Cx}{A:Around}{E:Value->Shared->Prop}{s:Shared}{it d:Addr}{i ep:Nat}{es:Array G7}{xs:List (List Int×Addr×Value)}
theorem e5z(hd:s.heap.get? d=some (M6 es ep))(hes:es.toList=xs.map (r8 (T4 (U2 C.prog C.w))))(hsys:(d==E6)=false){Q:Value->Shared->Prop}
  (q:Q (.ref s.heap.objs.size) {s with heap:=s.heap.push {cls:=.type "dict_keyiterator",data:=.fields #[.ref d,.int 0 0,.int xs.length 0,.int ep 0]}}):wpAny C.m A (pyIter (.ref d)) Q E s:=by
 have hT:s.TypeIs (.ref d) "dict":=⟨_,hd,rfl⟩;have hsz:es.size=xs.length:=by exact rF g8 (rE hes (rE (K4 ..) rfl))
 refine wpAny_pyIter_slot hT PySem.F.slot_dict_iter (G8 PySem.F.slot_dict_iter hT PySem.F.entry_dict_iter ?_ (PySem.F.args_dict_iter_1 _));unfold Builtin.«dict.__iter__»;refine m0 ?_;unfold Builtin.Dict.dictSlotNone;refine m0 (b4j hT ?_);show wpAny _ _ (pure (O2 d)) _ _ s;refine q0 ?_;show wpAny _ _ (Builtin.Dict.showsAll d >>=_) _ _ s;unfold Builtin.Dict.showsAll;refine rE (if_neg (by rw[hsys];exact Z2)) ?_;refine m0 (q0 ?_);refine m0 (V9 hd rfl ?_);refine m0 (a6d hd rfl ?_);refine m0 (a9g (q0 ⟨_,rfl,"dict_keyiterator",_,⟨_,c6 _ rfl,rfl⟩,b03.lookup,?_⟩));refine rE hsz ?_;exact q
theorem e5y(hit:s.heap.IsKeyIter it d i xs.length ep)(hd:s.heap.get? d=some (M6 es ep))(hes:es.toList=xs.map (r8 (T4 (U2 C.prog C.w)))){y:List Int×Addr×Value}(hx:xs[i]? =some y){Q:Option Value->Shared->Prop}
  (hQ:∀h',h'.IsKeyIter it d (i+1) xs.length ep->H6 it s.heap h'->Q (some (.ref y.2.1)) {s with heap:=h'}):wpAny C.m A (pyNext (.ref it)) Q E s:=by
 refine R0 (id hit) fun o ho hc hdt=>?_;have hsz:es.size=xs.length:=by exact rF g8 (rE hes (rE (K4 ..) rfl))
 have hlt':i < es.size:=by refine rE hsz ?_;exact (a9q.mp hx).1
 have hkey:es[i].key=.ref y.2.1:=by
  have:es.toList[i]? =some es[i]:=by refine rE (a6i) ?_;exact a6h hlt'
  rw[hes,m9,hx] at this;exact (congrArg G7.key (C0 this)).symm
 unfold pyNext;refine m0 (a9e (b4e (name:=N0 "__next__") hit.typeIs b03
  (G8 b03 hit.typeIs PySem.F.entry_dict_keyiterator_next ?_ (PySem.F.args_dict_keyiterator_next_1 _))))
 refine m0 (q0 ?_);refine m0 ?_;refine m0 ?_;refine m0 (c3u hit.typeIs (q0 ?_));refine m0 (c3p ho hdt ?_);have hown:Builtin.Dict_items.ownsTuple "dict_keyiterator"=false:=by decide
 refine rE hown (rE (if_neg (by decide)) ?_);show wpAny _ _ (if (O2 d==q7)=true then _ else _) _ _ s;refine rE (if_neg (show ¬ ((O2 d==q7)=true) from Z2)) ?_;refine m0 (q0 ?_);refine m0 (V9 hd rfl ?_);refine rE (if_neg (by rw[hsz];simp)) ?_;refine m0 (q0 ?_);refine m0 (a6d hd rfl ?_);refine rE (if_neg (by simp)) ?_;refine q0 ?_;simp only[show ¬ ((i:Int) < 0) from by omega,if_false,a2h,a6h hlt'];refine m0 ?_;refine m0 (c3u hit.typeIs (q0 ?_));refine m0 (wpAny_isOneOf_keyiter hit.typeIs ?_);show wpAny _ _ (setField (.ref it) 1 (rawInt ((i:Int)+1)) >>=_) _ _ s;refine m0 (b4k ho hdt (by simp) ?_);have hit':(s.heap.update it (a04 (·.setIfInBounds 1 (rawInt ((i:Int)+1))))).IsKeyIter it d (i+1) xs.length ep:=
  ⟨_,j8 _ ho (b56 (a4h hdt _)),(Obj.cls_mapFields ..).trans hc,by rw[a4h hdt];simp [rawInt]⟩
 refine m0 (J2 ?_);refine m0 (wpAny_isOneOf_keyiter (s:={s with heap:=s.heap.update it (a04 (·.setIfInBounds 1 (rawInt ((i:Int)+1))))}) hit'.typeIs ?_);show wpAny _ _ (pure es[i].key) _ _ _;refine rE hkey ?_;exact q0 (q0 ⟨_,rfl,q0 (hQ _ hit' (I5 ..))⟩)
theorem e5x(hh:A.handled=none)(hit:s.heap.IsKeyIter it d xs.length xs.length ep)(hd:s.heap.get? d=some (M6 es ep))(hes:es.toList=xs.map (r8 (T4 (U2 C.prog C.w)))){Q:Option Value->Shared->Prop}
  (hQ:∀h',Heap.ExtBut it s.heap h'->Q none {s with heap:=h'}):wpAny C.m A (pyNext (.ref it)) Q E s:=by
 refine R0 (id hit) fun o ho hc hdt=>?_;have hsz:es.size=xs.length:=by exact rF g8 (rE hes (rE (K4 ..) rfl))
 unfold pyNext;refine m0 (a9e (b4e (name:=N0 "__next__") hit.typeIs b03
  (G8 b03 hit.typeIs PySem.F.entry_dict_keyiterator_next ?_ (PySem.F.args_dict_keyiterator_next_1 _))))
 refine m0 (q0 ?_);refine m0 ?_;refine m0 ?_;refine m0 (c3u hit.typeIs (q0 ?_));refine m0 (c3p ho hdt ?_);have hown:Builtin.Dict_items.ownsTuple "dict_keyiterator"=false:=by decide
 refine rE hown (rE (if_neg (by decide)) ?_);show wpAny _ _ (if (O2 d==q7)=true then _ else _) _ _ s;refine rE (if_neg (show ¬ ((O2 d==q7)=true) from Z2)) ?_;refine m0 (q0 ?_);refine m0 (V9 hd rfl ?_);refine rE (if_neg (by rw[hsz];simp)) ?_;refine m0 (q0 ?_);refine m0 (a6d hd rfl ?_);refine rE (if_neg (by simp)) ?_;refine q0 ?_;have hge:es.size<=xs.length:=a4d hsz;simp only[show ¬ ((xs.length:Int) < 0) from by omega,if_false,a2h,Array.getElem?_eq_none hge];refine m0 ?_;refine m0 (c3u hit.typeIs (q0 ?_));show wpAny _ _ (setField (.ref it) 0 .none >>=_) _ _ s;refine m0 (b4k ho hdt (by simp) ?_);show wpAny _ _ (newExc (.type "StopIteration") [] >>=_) _ _ _;refine m0 ?_;unfold newExc newTuple;refine m0 (a9g ?_ (by size_fits));refine m0 (m:=b77 _ _) (A5 (a:=q7) (by first|rfl| (simp only[b77];rfl)) ?_);refine a9g ?_ (by size_fits);unfold raiseNew;refine m0 (wpAny_handled ?_);refine rE (show A.in1.handled=none from hh) ?_;refine m0 (q0 (wpAny_throw ?_));refine m0 (a3y (T:="StopIteration") (b:=true) ⟨_,c6 _ rfl,rfl⟩ isSubtype_stop ?_);exact q0 (hQ _ (((I5 ..).extBut.push _).push _))
theorem e5w(hh:A.handled=none)(hne:d≠it)(hes:es.toList=xs.map (r8 (T4 (U2 C.prog C.w)))):Walks C.prog C.w A it [it,d] [it] xs.length (fun i v=>∃y,xs[i]? =some y/\v=.ref y.2.1) (fun i h=>h.IsKeyIter it d i xs.length ep/\h.get? d=some (M6 es ep)) where
 sub:=fun b hb=>by simp at hb;simp [hb]
 frame:=fun i h h' st hk=>⟨st.1.at fun o e=>hk it (by simp) o e,hk d (by simp) _ st.2⟩
 item:=fun i s Q E hi st hQ=>by
  obtain ⟨y,hx⟩:∃p,xs[i]? =some p:=⟨xs[i],by simp [hi]⟩;refine e5y st.1 st.2 hes hx fun h' hit' hs'=>?_;exact hQ _ h' s.toks ⟨y,hx,rfl⟩ ⟨hit',(hs'.2 d hne).trans st.2⟩ fun b o hb e=>hs'.extBut b o (fun h=>hb (by simp [h])) e
 done:=fun s Q E st hQ=>e5x hh st.1 st.2 hes fun h' he'=>hQ h' s.toks fun b o hb e=>he' b o (fun h=>hb (by simp [h])) e
 self:=fun _ _ _ _ st hQ=>wpAny_pyIter_keyiter st.1 hQ
end
noncomputable def i7:Str:=⟨#[112,97,105,114]⟩
noncomputable def i5:Str:=⟨#[112,97,103,101]⟩
noncomputable def a8x:Str:=⟨#[46,48]⟩
noncomputable def scP:Scope:=⟨.function,[(a8x,.local),(i7,.local),(i5,.free)],false,false,[]⟩
section
variable{C:Cx}{A:Around}{E:Value->Shared->Prop}{s:Shared}{env:Env}{m:Str->Option Value}{x c:Addr}{k pg:Nat}
theorem TK.inj{h:Heap}{i j:Nat}(hi:i < 6)(hj:j < 6)(a:TK C h (Z1 i) x)(b:TK C h (Z1 j) x):i=j:=by
 refine B1 a fun vs n e r=>?_;clear a;refine B1 b fun us n' e' r'=>?_;clear b;refine yee (a28 r) fun t u zy=>?_;subst zy;refine yee (a28 r') fun t' u' zz=>?_;subst zz;rw[e] at e';have h1:=C0 e';have h2:(#[u9 (M2 (i / 3)) t,u9 (M2 (i % 3)) u]:Array Value)=#[u9 (M2 (j / 3)) t',u9 (M2 (j % 3)) u']:=(Data.seq.inj (congrArg a03 h1)).1;have h3:=congrArg (fun a:Array Value=>a.toList) h2;injection h3 with h4 h5
 injection h5 with h5 _
 injection h4 with h4 _
 injection h5 with h5 _
 have h4:i / 3=j / 3:=M2.inj h4;have h5:i % 3=j % 3:=M2.inj h5;omega
structure t9(C:Cx)(env:Env)(h:Heap)(m:Str->Option Value)(x c:Addr)(k pg:Nat):Prop where
 kind:env.scope.kind=.function
 lp:env.kindOf i7=some .local
 lg:env.kindOf i5=some .cell
 cp:env.cells.lookup i5=some c
 ns:h.Ns env.locals m
 mp:m i7=some (.ref x)
 tk:TK C h (Z1 k) x
 cell:∃t,h.IsCell c (some (.int (M2 pg) t))
theorem t9.pair(T:t9 C env s.heap m x c k pg){p:Pos}{Q:Value->Shared->Prop}(q:Q (.ref x) s):wpAny C.m A (eval (.Name i7 p) env) Q E s:=a0p (b4h T.kind T.lp T.ns T.mp q)
theorem t9.sub(T:t9 C env s.heap m x c k pg){i:Nat}(hi:i < 2){p p' p'':Pos}{Q:Value->Shared->Prop}(q:∀t,Q (.int (M2 (if i=0 then k / 3 else k % 3)) t) {s with toks:=s.toks+1}):
  wpAny C.m A (eval (.Subscript (.Name i7 p) (.Constant (.int (M2 i)) 0 p') p'') env) Q E s:=by
 refine B1 T.tk fun vs n e r=>?_;refine yee (a28 r) fun t u zz=>?_;subst zz;refine wpAny_Subscript_Constant_late (T.pair (wpAny_Constant_int ⟨"tuple",_,PySem.F.slot_tuple_getitem.lookup,⟨_,e,rfl⟩,?_⟩))
 match i,hi with
 |0,_=>exact PySem.P.getItem_tuple (s:={s with toks:=s.toks+1}) (n:=n) (k:=0) e (by decide) (by decide) rfl rfl (q t)
 |1,_=>exact PySem.P.getItem_tuple (s:={s with toks:=s.toks+1}) (n:=n) (k:=1) e (by decide) (by decide) rfl rfl (q u)
theorem t9.tok(T:t9 C env s.heap m x c k pg)(tk:Nat):t9 C env ({s with toks:=tk}:Shared).heap m x c k pg:=T
noncomputable def a7g(a1 a2 a3 a4 a5:Pos):Expr:=.Compare (.Subscript (.Name i7 a1) (.Constant (.int (M2 0)) 0 a2) a3) [.Eq] [.Name i5 a4] a5
theorem t9.test(T:t9 C env s.heap m x c k pg)(hk:k < 6){a1 a2 a3 a4 a5:Pos}{Q:Bool->Shared->Prop}(q:Q (decide (k / 3=pg)) {s with toks:=s.toks+1}):
  wpAny C.m A (isTrue (a7g a1 a2 a3 a4 a5) env (eval (a7g a1 a2 a3 a4 a5) env)) Q E s:=by
 refine wpAny_isTrue_Compare1 (T.sub (i:=0) (by decide) fun t=>?_);obtain ⟨t',hc⟩:=T.cell;refine a0p (c3q (s:={s with toks:=s.toks+1}) T.kind T.lg T.cp hc ?_);refine PySem.P.eq_int (a9h ?_);refine rE (if_pos rfl) ?_;rw[show (M2 (k / 3)==M2 pg)=decide (k / 3=pg) from ?_]
 ·exact q
 ·by_cases h:k / 3=pg
  ·refine rE h ?_;simp
  ·refine rE (decide_eq_false h) ?_
   exact beq_eq_false_iff_ne.mpr fun e=>h (M2.inj e)
end
section
variable{C:Cx}{A:Around}
noncomputable def a1j(C:Cx)(h:Heap)(ev:Bool)(k:Nat)(u:Value):Prop:=if ev=true then ∃t,u=.int (M2 (k % 3)) t else ∃a,u=.ref a/\TK C h (Z1 k) a
noncomputable def eltP(ev:Bool)(b1 b2 b3:Pos):Expr:=if ev=true then .Subscript (.Name i7 b1) (.Constant (.int (M2 1)) 0 b2) b3 else .Name i7 b1
noncomputable def b94(C:Cx)(h:Heap)(pg:Nat)(v:Value):Prop:=∃k a,k < 6/\v=.ref a/\TK C h (Z1 k) a/\k / 3=pg
open Classical in
noncomputable def onP(C:Cx)(h:Heap)(pg:Nat)(v:Value):Bool:=decide (b94 C h pg v)
open Classical in
theorem b93{h:Heap}{pg k:Nat}{a:Addr}(hk:k < 6)(t:TK C h (Z1 k) a):onP C h pg (.ref a)=decide (k / 3=pg):=by
 unfold onP;by_cases e:k / 3=pg
 ·exact (decide_eq_true (show b94 C h pg (.ref a) from ⟨k,a,hk,rfl,t,e⟩)).trans (decide_eq_true e).symm
 ·refine (decide_eq_false (p:=b94 C h pg (.ref a)) ?_).trans (decide_eq_false e).symm
  rintro ⟨k',a',hk',ea,t',e'⟩;cases ea;exact e (TK.inj hk hk' t t'▸e')
noncomputable def b96(C:Cx)(h:Heap)(ev:Bool)(v u:Value):Prop:=if ev=true then ∃k a t,k < 6/\v=.ref a/\TK C h (Z1 k) a/\u=.int (M2 (k % 3)) t else u=v
theorem b7v{h:Heap}{ev:Bool}{pg:Nat}:∀ {xs:List (List Int×Addr×Value)} {cs:List Nat} {us:List Value},PrsOf C h xs cs->Paired (b96 C h ev) ((xs.map fun y=>O2 y.2.1).filter (onP C h pg)) us->All2 (a1j C h ev) (cs.filter fun k=>decide (k / 3=pg)) us
 | [],cs,us,hp,p=>by obtain rfl:=All2.nilR hp;cases p;exact .nil
 |y::xs,_,us,hp,p=>by
  obtain ⟨k,cs,rfl,⟨hk,hkey,tk⟩,hp⟩:=All2.consR hp;rw[I8] at p;by_cases e:k / 3=pg
  ·rw[a6o (by refine rE (b93 hk tk) ?_;exact decide_eq_true e)] at p
   refine rE (a6o (p:=fun k=>decide (k / 3=pg)) (decide_eq_true e)) ?_;cases p with
   |cons hf p=>
    refine .cons ?_ (b7v hp p);unfold a1j;unfold b96 at hf;cases ev with
    |true=>
     rw[if_pos rfl] at hf ⊢;refine a0s hf fun k' a t hk' ea t' zz=>?_;clear hf;subst zz;cases ea;exact ⟨t,by exact rE (TK.inj hk hk' tk t') rfl⟩
    |false=>
     rw[if_neg Z2] at hf ⊢;exact ⟨_,hf,tk⟩
  ·rw[a6n (by refine rE (b93 hk tk) (rE (decide_eq_false e) ?_);exact Z2)] at p
   refine rE (a6n (p:=fun k=>decide (k / 3=pg)) (by rw[decide_eq_false e];exact Z2)) ?_;exact b7v hp p
theorem e7f{xs:List (List Int×Addr×Value)}{vs:List Value}(hl:vs.length=xs.length)(h:∀ (j:Nat) (v:Value),vs[j]? =some v->∃y,xs[j]? =some y/\v=.ref y.2.1):vs=xs.map fun y=>O2 y.2.1:=by
 refine List.ext_getElem? fun i=>?_;refine rE (m9) ?_;cases hv:vs[i]? with
 |none=>
  rw[List.getElem?_eq_none_iff] at hv;refine rE (b4y (hl▸hv)) ?_;rfl
 |some v=>refine yea (h i v hv) fun y h1 zz=>?_;subst zz;refine rE h1 ?_;rfl
end
noncomputable def rOf(L:List Nat)(n:Nat):Nat->Nat:=E0 (motive:=fun _=>Nat->Nat) (fun j=>w0 n j) (fun a _ ih j=>o4 (motive:=fun _=>Nat) a (fun j _=>ih j) j) L
noncomputable def W2(us:List OT)(ns:List (Option OT)):List (Option OT):=E0 (motive:=fun _=>List (Option OT)) ns (fun t _ ih=>some t::ih) us
noncomputable def M9(r:Nat->Nat)(L:List Nat):List OT->S->S:=E0 (motive:=fun _=>List OT->S->S) (fun _ x=>x) (fun i _ ih us x=>Y2 (motive:=fun _=>S) us x fun o l=>ih l (ifb (y4 o) x (x.put i (o.val r)))) L
noncomputable def grf(L:List Nat)(us:List OT)(ns:List (Option OT))(x:S):S:=a16 (vals (rOf L x.n) ns) (M9 (rOf L x.n) L us x)
noncomputable def J4(k:Nat)(L:List Nat):Nat->List Nat:=o4 (motive:=fun _=>Nat->List Nat) (fun _=>L) (fun _ ih a=>a::ih (Q0 a)) k
theorem b9r{n:Nat}:∀ {L:List Nat} {j:Nat},j < L.length->rOf L n j=nthD L j
 | [],j,h=>absurd h (o9 j)
 |a::L,0,_=>rfl
 |a::L,j+1,h=>b9r (L:=L) (q6 h)
theorem b9q{n:Nat}:∀ {L:List Nat} (j:Nat),rOf L n (L.length+j)=n+j
 | [],j=>congrArg (n+·) (K8 j)
 |a::L,j=>by refine rE Y9 (rE (b55 ..) ?_);exact b9q (L:=L) j
theorem a97{ns:List (Option OT)}:∀ {us:List OT} {j:Nat},j < us.length->(W2 us ns)[j]? =us[j]?.map some
 | [],j,h=>absurd h (o9 j)
 |t::us,0,_=>rfl
 |t::us,j+1,h=>a97 (us:=us) (q6 h)
theorem d3a{ns:List (Option OT)}:∀ {us:List OT} (j:Nat),(W2 us ns)[us.length+j]? =ns[j]?
 | [],j=>by refine rE List.length_nil (rE (K8 ..) ?_);rfl
 |t::us,j=>by refine rE Y9 (rE (b55 ..) ?_);exact d3a (us:=us) j
theorem a0m{ns:List (Option OT)}:∀us:List OT,(W2 us ns).length=us.length+ns.length
 | []=>(K8 _).symm
 |_::us=>(congrArg Q0 (a0m us)).trans (b55 ..).symm
theorem d1h{L:List Nat}:∀ {k a j:Nat},j < k->nthD (J4 k L a) j=a+j
 |k+1,a,0,_=>rfl
 |k+1,a,j+1,h=>(d1h (k:=k) (a:=a+1) (q6 h)).trans (Nat.succ_add_eq_add_succ a j)
theorem c00{L:List Nat}:∀ {k a j:Nat},nthD (J4 k L a) (k+j)=nthD L j
 |0,a,j=>by refine rE (K8 ..) ?_;rfl
 |k+1,a,j=>by refine rE (b55 ..) ?_;exact c00 (k:=k) (a:=a+1)
theorem b9n{r:Nat->Nat}:∀ {L:List Nat} {us:List OT} {x:S},(M9 r L us x).n=x.n
 | [],us,x=>rfl
 |i::L,[],x=>rfl
 |i::L,o::l,x=>by
  show (M9 r L l (ifb (y4 o) x (x.put i (o.val r)))).n=_;refine rE (b9n (L:=L)) ?_;cases y4 o <;>rfl
theorem a3k{x:S}{i:Nat}{o:O}(hi:i < 1000000)(j:Nat):(x.put i o).get j=if j=i then some o else x.get j:=get_set hi j
theorem d15{r:Nat->Nat}{m:Nat}:∀ {L:List Nat} {us:List OT} {x:S},K7 m L=true->L.length=us.length->(∀j,j < L.length->nthD L j < 1000000)->∀i,((∀j t,us[j]? =some t->y4 t=false->nthD L j≠i)/\(M9 r L us x).get i=x.get i)∨∃j t,j < L.length/\nthD L j=i/\us[j]? =some t/\y4 t=false/\(M9 r L us x).get i=some (t.val r)
 | [],[],x,_,_,_,i=>.inl ⟨fun j t h=>D0 h,rfl⟩
 | [],_::_,x,_,h,_,i=>nomatch h
 |_::_,[],x,_,h,_,i=>nomatch h
 |a::L,o::us,x,ha,hl,hr,i=>by
  refine yaa (a4n ha) fun _ h2 h3=>?_;have g:=a3k (x:=x) (o:=o.val r) (show a < 1000000 from hr 0 (q9 _));have G:(M9 r (a::L) (o::us) x)=M9 r L us (ifb (y4 o) x (x.put a (o.val r))):=rfl;refine rE G ?_;rcases d15 (r:=r) (x:=ifb (y4 o) x (x.put a (o.val r))) h3 (p9 hl) (fun j hj=>hr (j+1) (a4f hj)) i with ⟨q1,q2⟩ | ⟨j,t,q1,q2,q3,q4,q5⟩
  ·cases hh:y4 o with
   |true=>
    rw[hh] at q2;exact .inl ⟨fun j t h ht=>by cases j with|zero=>cases h;rw[hh] at ht;cases ht|succ j=>exact q1 j t h ht,q2⟩
   |false=>
    rw[hh] at q2;by_cases e:i=a
    ·exact .inr ⟨0,o,q9 _,e.symm,rfl,hh,q2.trans ((g i).trans (if_pos e))⟩
    ·exact .inl ⟨fun j t h ht=>by cases j with|zero=>exact fun q=>e q.symm|succ j=>exact q1 j t h ht,q2.trans ((g i).trans (if_neg e))⟩
  ·exact .inr ⟨j+1,t,a4f q1,q2,q3,q4,q5⟩
structure G6(lo:B)(us₀:List OT)(L:List Nat)(x:S):Prop where
 lo_:∀i,i < 256->∀o,lo.get i=some o->x.get i=some o
 src:b8 (W2 us₀ []) L x=vals (nthD L) (W2 us₀ [])
 ap:K7 256 L=true
 len:L.length=us₀.length
 le:256<=x.n
 room:256+us₀.length < 1000000
 ns:H9 us₀=true
 lts:a8e x.n L=true
noncomputable def plc(L:List Nat)(i:Nat):Nat:=if i < 256 then i else nthD L (i - 256)
theorem W8{L:List Nat}{i:Nat}(h:i < 256):plc L i=i:=if_pos h
theorem z8{L:List Nat}(j:Nat):plc L (256+j)=nthD L j:=by
 unfold plc;exact rE (if_neg (M3.mpr (m4 ..))) (rE (a6t ..) rfl)
noncomputable def RL(g g':Nat->Nat)(i i':Nat):Prop:=(i < 256/\i'=i)∨∃j,i=g j/\i'=g' j
theorem RL.reg(g g':Nat->Nat):Reg (RL g g') g g':=⟨fun _ h=>.inl ⟨h,rfl⟩,fun j=>.inr ⟨j,rfl,rfl⟩⟩
section
variable{C:Cx}{h h':Heap}{ρ ρ₁:Nat->Addr}{x x₁:S}{lo:B}{us₀ us:List OT}{ns:List (Option OT)}{L L':List Nat}
noncomputable def a7(b:B):B:=B.set none 21 b 73
noncomputable def b2m(lo y:B):B:=K0 (motive:=fun _=>B) (a7 y) (fun _=>y) (lo.get 73)
theorem c9s{lo y:B}(e:b2m lo y=lo)(i:Nat)(o:O)(h:lo.get i=some o):y.get i=some o:=by
 unfold b2m at e;cases q:lo.get 73 with
 |none=>
  rw[q] at e;have e:a7 y=lo:=e;rw[<-e] at h;unfold a7 at h;rw[B.get_set none 21 y 73 i (by decide)] at h;by_cases hi:i=73
  ·rw[if_pos hi] at h;cases h
  ·rw[if_neg hi] at h;exact h
 |some o'=>
  rw[q] at e;have e:y=lo:=e;refine rE e ?_;exact h
theorem e3o(e:x.t.lo=lo){i:Nat}(hi:i < 256):x.get i=lo.get i:=by
 show x.t.get i=_;exact rE (T.get_eq ..) (rE (if_pos hi) (rE e rfl))
theorem G6.at(F:G6 lo us₀ L x){j:Nat}{t:OT}(e:us₀[j]? =some t)(hh:y4 t=false):∃o,x.get (nthD L j)=some o/\wkO t o=t.val (nthD L)/\256<=nthD L j:=by
 have hj:j < us₀.length:=(a9q.mp e).1;refine R0 (a98 F.src (j:=j) (t:=t) (by refine rE (a97 hj) (rE e ?_);rfl) (b8r F.ns e hh)) fun o h1 h2 h3=>?_;exact ⟨o,h1,h2,a73 F.ap h3⟩
theorem c8o{t:OT}(h:P6 t=false):y4 t=false:=by cases t <;>first|rfl|exact T1 (show true=false from h)
theorem G6.small(LK:C5 lo)(F:G6 lo us₀ L x){i:Nat}{o:O}(e:(X lo (W2 us₀ [])).get i=some o):i < 256+us₀.length/\∃t o',x.get (plc L i)=some o'/\V6 (RL (nthD L) T3) (wkO t o') o:=by
 have hlen:(W2 us₀ []).length=us₀.length:=a0m us₀;rw[a71 (by refine rE hlen ?_;exact F.room)] at e;by_cases hi:i < 256
 ·rw[if_pos hi] at e
  exact ⟨H3 hi (m4 ..),.lst [],o,by refine rE (W8 hi) ?_;exact F.lo_ i hi o e,LK _ (RL.reg _ _).st i o e⟩
 ·rw[if_neg hi] at e
  obtain ⟨j,rfl⟩:∃j,i=256+j:=⟨i - 256,(a9u (M3.mp hi)).symm⟩;rw[a6t] at e;revert e;refine obE fun t' h1 h2=>?_;have hj:j < us₀.length:=hlen▸(a9q.mp h1).1;rw[a97 hj] at h1;refine yea (a05.mp h1) fun t g1 zy=>?_;subst zy;refine R0 (a6a (show B0 T3 (some t)=some o from h2)) fun t' e' zz hno=>?_;subst zz;obtain rfl:=C0 e';refine R0 (F.at g1 (c8o hno)) fun o' g2 g3 _=>?_;exact ⟨n9 hj 256,t,o',by refine rE (z8 ..) ?_;exact g2,g3▸OT.rel (RL.reg _ _) t⟩
theorem G6.inj(F:G6 lo us₀ L x){i j:Nat}(hi:i < 256+us₀.length)(hj:j < 256+us₀.length)(e:plc L i=plc L j):i=j:=by
 have H:∀ {i},i < 256+us₀.length->i < 256∨∃k,i=256+k/\k < L.length:=fun {i} hi=>by
  by_cases q:i < 256
  ·exact .inl q
  ·exact .inr ⟨i - 256,(a9u (M3.mp q)).symm,by refine rE F.len ?_;omega⟩
 rcases H hi with h1| ⟨a,rfl,h1⟩ <;>rcases H hj with h2| ⟨b,rfl,h2⟩
 ·rwa [W8 h1,W8 h2] at e
 ·rw[W8 h1,z8] at e;exact absurd (e▸a73 F.ap h2) (a12.mpr h1)
 ·rw[W8 h2,z8] at e;exact absurd (e▸a73 F.ap h1) (a12.mpr h2)
 ·rw[z8,z8] at e;exact rE (b5l F.ap h1 h2 e) rfl
theorem G6.shrink(LK:C5 lo)(D:At C ρ x h)(F:G6 lo us₀ L x):At C (fun i=>ρ (plc L i)) (X lo (W2 us₀ [])) h:=by
 have hn:(X lo (W2 us₀ [])).n=256+us₀.length:=X_n.trans (congrArg (256+·) (a0m us₀));refine D.ren (R:=RL (nthD L) T3) (plc L) (hn▸F.room) (fun i o e=>ya (F.small LK e) fun a b=>⟨hn▸a,b⟩) (fun i j ⟨_,a⟩ ⟨_,b⟩ e=>F.inj (F.small LK a).1 (F.small LK b).1 e) fun i i' r hi=>?_;refine rE hn ?_;rcases r with ⟨h1,rfl⟩ | ⟨j,rfl,rfl⟩
 ·exact ⟨H3 h1 (m4 ..),W8 h1⟩
 ·exact ⟨n9 (F.len▸a1r (i4 hi D.room)) 256,z8 j⟩
structure Fend(lo:B)(us:List OT)(ns:List (Option OT))(L':List Nat)(x₁:S):Prop where
 lo_:x₁.t.lo=lo
 src:b8 (W2 us ns) (J4 us.length L' 256) x₁=vals (nthD (J4 us.length L' 256)) (W2 us ns)
 ap:K7 (256+us.length) L'=true
 len:L'.length=ns.length
noncomputable def a3n(ρ ρ₁:Nat->Addr)(n k:Nat)(L':List Nat)(i:Nat):Addr:=if i < n then ρ i else ρ₁ (nthD (J4 k L' 256) (k+(i - n)))
theorem b36(ap:K7 (256+k) L'=true){j:Nat}(h:nthD (J4 k L' 256) j < 1000000):(j < k/\nthD (J4 k L' 256) j=256+j)∨∃d,j=k+d/\d < L'.length/\nthD (J4 k L' 256) j=nthD L' d/\256+k<=nthD L' d:=by
 by_cases hj:j < k
 ·exact .inl ⟨hj,d1h hj⟩
 ·obtain ⟨d,rfl⟩:∃d,j=k+d:=⟨j - k,(a9u (M3.mp hj)).symm⟩
  rw[c00] at h ⊢;exact .inr ⟨d,rfl,a1r h,rfl,a73 ap (a1r h)⟩
theorem e1b(D:At C ρ x h)(F:G6 lo us₀ L x)(hk:L.length=us.length)(room:x.n+ns.length < 1000000){i:Nat}{o:O}(q:(grf L us ns x).get i=some o):
  (i < x.n/\x.get i=some o/\∀j t,us[j]? =some t->y4 t=false->nthD L j≠i)∨(∃j t,j < L.length/\i=nthD L j/\us[j]? =some t/\y4 t=false/\o=t.val (rOf L x.n))∨∃j t,i=x.n+j/\ns[j]? =some (some t)/\o=t.val (rOf L x.n)/\P6 t=false:=by
 have hx:=D.room;have foot:∀j,j < L.length->nthD L j < x.n:=fun j hj=>b8i F.lts hj;have P:=d15 (r:=rOf L x.n) (us:=us) (x:=x) F.ap hk fun j hj=>i4 (foot j hj) hx;have pn:(M9 (rOf L x.n) L us x).n=x.n:=b9n;unfold grf vals at q;rw[b5d _ _ _ (by refine rE (a5b ..) (rE pn ?_);exact J8 room) (fun j hj=>by
  rw[pn] at hj;rcases P j with ⟨_,e⟩ | ⟨a,_,h1,h2,_⟩
  ·refine rE e ?_
   cases e:x.get j with
   |none=>rfl
   |some o=>exact absurd (D.lt e) (M3.mpr hj)
  ·exact absurd (foot a h1) (h2▸M3.mpr hj)),pn,a3b] at q
 by_cases hi:i < x.n
 ·rw[if_pos hi] at q
  rcases P i with ⟨h1,e⟩ | ⟨j,t,h1,h2,h3,hh,e⟩
  ·exact .inl ⟨hi,e▸q,h1⟩
  ·rw[e] at q;exact .inr (.inl ⟨j,t,h1,h2.symm,h3,hh,(C0 q).symm⟩)
 ·rw[if_neg hi] at q
  revert q;refine obE fun o' h1 h2=>?_;cases e:ns[i - x.n]? with
  |none=>rw[e] at h1;cases h1
  |some t=>
   rw[e] at h1;cases h1;refine yea (a6a h2) fun t' zz e2=>?_;subst zz;exact .inr (.inr ⟨i - x.n,t',(a9u (M3.mp hi)).symm,e,e2⟩)
theorem d5y{k n:Nat}(ap:K7 (256+k) L'=true){c i j:Nat}(hc:c < 1000000)(h1:RL (nthD (J4 k L' 256)) (rOf L n) c i)(h2:RL (nthD (J4 k L' 256)) (rOf L n) c j):i=j:=by
 have H:∀ {a},nthD (J4 k L' 256) a < 1000000->¬ nthD (J4 k L' 256) a < 256:=fun {a} h=>by
  rcases b36 ap h with ⟨_,e⟩ | ⟨d,_,_,e,h⟩
  ·refine rE e ?_;exact M3.mpr (m4 ..)
  ·refine rE e ?_;exact M3.mpr (W0 (m4 ..) h)
 rcases h1 with ⟨a1,rfl⟩ | ⟨a,e1,rfl⟩ <;>rcases h2 with ⟨b1,rfl⟩ | ⟨b,e2,rfl⟩
 ·rfl
 ·exact absurd (e2▸a1) (H (e2▸hc))
 ·exact absurd (e1▸b1) (H (e1▸hc))
 ·have e:=e1.symm.trans e2
  rcases b36 ap (e1▸hc:nthD (J4 k L' 256) a < 1000000) with ⟨p1,p2⟩ | ⟨d,rfl,p1,p2,p3⟩ <;>rcases b36 ap (e2▸hc:nthD (J4 k L' 256) b < 1000000) with ⟨q1,q2⟩ | ⟨d',rfl,q1,q2,q3⟩ <;>rw[p2,q2] at e
  ·exact rE (Nat.add_left_cancel e) rfl
  ·exact absurd (e▸q3) (a12.mpr (n9 p1 256))
  ·exact absurd (e.symm▸p3) (a12.mpr (n9 q1 256))
  ·exact rE (b5l ap p1 q1 e) rfl
theorem c7z(hsub:H9 us=true)(hpat:a3i us₀ us=true)(LK:C5 lo)(D:At C ρ x h)(F:G6 lo us₀ L x)(h0:us₀.length=us.length)(D₁:At C ρ₁ x₁ h')(X₁:Ext (fun i=>ρ (plc L i)) (X lo (W2 us₀ [])) h ρ₁ x₁ h')(E:Fend lo us ns L' x₁)(room:x.n+ns.length < 1000000):
  At C (a3n ρ ρ₁ x.n us.length L') (grf L us ns x) h'/\Ext ρ x h (a3n ρ ρ₁ x.n us.length L') (grf L us ns x) h'/\K6 (RL (nthD (J4 us.length L' 256)) (rOf L x.n)) h' ρ₁ x₁.n h' (a3n ρ ρ₁ x.n us.length L') (grf L us ns x).n:=by
 have hk:L.length=us.length:=F.len.trans h0;have hn0:(X lo (W2 us₀ [])).n=256+us.length:=X_n.trans (congrArg (256+·) ((a0m us₀).trans h0));have hN:(grf L us ns x).n=x.n+ns.length:=by unfold grf vals;exact rE (b5e ..) (rE (a5b ..) (rE b9n rfl))
 refine rE hN ?_;have u0:∀ {j t},us[j]? =some t->∃t₀,us₀[j]? =some t₀/\y4 t₀=y4 t:=fun {j t} e=>by
  have hj:j < us₀.length:=h0▸(a9q.mp e).1;exact ⟨_,R4 hj,b98 hpat (R4 hj) e⟩
 have ag:∀ {c},c < 256+us.length->ρ₁ c=ρ (plc L c):=fun {c} hc=>X₁.agree c (hn0▸hc);have r3:∀ {i},i < x.n->a3n ρ ρ₁ x.n us.length L' i=ρ i:=fun hi=>if_pos hi;have hR:∀c i,RL (nthD (J4 us.length L' 256)) (rOf L x.n) c i->c < x₁.n->i < x.n+ns.length/\a3n ρ ρ₁ x.n us.length L' i=ρ₁ c:=fun c i r hc=>by
  rcases r with ⟨h1,rfl⟩ | ⟨j,rfl,rfl⟩
  ·have:=H3 h1 F.le
   exact ⟨H3 this (m4 ..),by exact rE (r3 this) (rE (ag (H3 h1 (m4 ..))) (rE (W8 h1) rfl))⟩
  ·rcases b36 E.ap (i4 hc D₁.room) with ⟨h1,e⟩ | ⟨d,rfl,h1,e,_⟩
   ·refine rE e (rE (b9r (hk▸h1)) (rE (ag (n9 h1 256)) (rE (z8 ..) ?_)))
    have:=b8i F.lts (hk▸h1:j < L.length);exact ⟨H3 this (m4 ..),r3 this⟩
   ·refine rE e (rF hk (rE (b9q ..) ?_))
    refine ⟨n9 (E.len▸h1) _,?_⟩;unfold a3n;exact rE (if_neg (M3.mpr (m4 ..))) (rE (a6t ..) (rE hk (rE c00 rfl)))
 have T:K6 (RL (nthD (J4 us.length L' 256)) (rOf L x.n)) h' ρ₁ x₁.n h' (a3n ρ ρ₁ x.n us.length L') (x.n+ns.length):=⟨.refl,fun c i v r e=>ya (hR c i r e.2) fun a b=>⟨by exact rE e.1 (rE b rfl),a⟩⟩;have newc:∀ {c oc b ob},x₁.get c=some oc->h.get? b=some ob->(∀c,c < (X lo (W2 us₀ [])).n->Live (X lo (W2 us₀ [])) c->ρ (plc L c)≠b)->ρ₁ c≠b:=fun {c oc b ob} q e hb=>by
  by_cases hc:c < (X lo (W2 us₀ [])).n
  ·refine rE (X₁.agree c hc) ?_;exact hb c hc (X₁.live c hc ⟨_,q⟩)
  ·exact X₁.new c (M3.mp hc) ⟨_,q⟩ b ob e hb
 have far:∀ {i o},x.get i=some o->(i < 256->lo.get i=none)->(∀j t,us[j]? =some t->y4 t=false->nthD L j≠i)->∀c,c < (X lo (W2 us₀ [])).n->Live (X lo (W2 us₀ [])) c->ρ (plc L c)≠ρ i:=fun {i o} q hi hne c hc ⟨oc,l⟩ e=>by
  have l':=l;refine l7 (F.small LK l) fun h1 _ o' h2 _=>?_;have e:=D.inj _ _ _ _ h2 q e;by_cases h3:c < 256
  ·rw[W8 h3] at e
   rw[a71 (by refine rE (a0m ..) ?_;exact F.room),if_pos h3] at l;subst e;rw[hi h3] at l;cases l
  ·obtain ⟨j,rfl⟩:∃j,c=256+j:=⟨c - 256,(a9u (M3.mp h3)).symm⟩
   rw[z8] at e;have hj:j < us₀.length:=Nat.lt_of_add_lt_add_left h1;rw[a71 (by refine rE (a0m ..) ?_;exact F.room),if_neg h3,a6t,a97 hj,R4 hj] at l';refine R0 (a6a (show B0 T3 (some us₀[j])=some oc from l')) fun _ e' _ hno=>?_;cases e';have hj':j < us.length:=h0▸hj;exact hne j us[j] (R4 hj') ((b98 hpat (R4 hj) (R4 hj')).symm.trans (c8o hno)) e
 have src:∀i o,(grf L us ns x).get i=some o->(∃c oc t,x₁.get c=some oc/\V6 (RL (nthD (J4 us.length L' 256)) (rOf L x.n)) (wkO t oc) o/\RL (nthD (J4 us.length L' 256)) (rOf L x.n) c i/\(i < x.n->Live x i))∨((i < 256->lo.get i=none)/\i < x.n/\x.get i=some o/\∀j t,us[j]? =some t->y4 t=false->nthD L j≠i):=fun i o q=>by
  have new:∀ {j t},(W2 us ns)[j]? =some (some t)->P6 t=false->∃oc,x₁.get (nthD (J4 us.length L' 256) j)=some oc/\V6 (RL (nthD (J4 us.length L' 256)) (rOf L x.n)) (wkO t oc) (t.val (rOf L x.n)):=fun {j t} e hn=>R0 (a98 E.src e hn) fun oc h1 h2 _=>⟨oc,h1,h2▸OT.rel (RL.reg _ _) t⟩;rcases e1b D F hk room q with ⟨hi,h1,h2⟩ | ⟨j,t,hj,rfl,h1,hh,rfl⟩ | ⟨j,t,rfl,h1,rfl,hno⟩
  ·by_cases hlo:i < 256
   ·cases e:lo.get i with
    |none=>exact .inr ⟨fun _=>rfl,hi,h1,h2⟩
    |some o'=>
    obtain rfl:=C0 ((F.lo_ i hlo o' e).symm.trans h1);exact .inl ⟨i,o',.lst [],by refine rE (e3o E.lo_ hlo) ?_;exact e,LK _ (RL.reg _ _).st i o' e,.inl ⟨hlo,rfl⟩,fun _=>⟨o',h1⟩⟩
   ·exact .inr ⟨fun h=>absurd h hlo,hi,h1,h2⟩
  ·refine yea (new (j:=j) (t:=t) (by refine rE (a97 (hk▸hj)) (rE h1 ?_);rfl) (b8r hsub h1 hh)) fun oc g1 g2=>?_
   exact .inl ⟨_,oc,t,g1,g2,.inr ⟨j,rfl,(b9r hj).symm⟩,fun _=>yea (u0 h1) fun t₀ k1 k2=>yea (F.at k1 (k2.trans hh)) fun o k3 _=>⟨o,k3⟩⟩
  ·refine yea (new (j:=us.length+j) (t:=t) (by refine rE (d3a ..) ?_;exact h1) hno) fun oc g1 g2=>?_
   exact .inl ⟨_,oc,t,g1,g2,.inr ⟨_,rfl,by exact rF hk (rE (b9q ..) rfl)⟩,fun h=>absurd h (M3.mpr (m4 ..))⟩
 have keepHi:∀b o,(∀i,i < x.n->Live x i->ρ i≠b)->h.get? b=some o->h'.get? b=some o:=fun b o hb e=>X₁.keep b o (fun c hc zw=>ye zw fun oc l=>l7 (F.small LK l) fun _ _ o' h2 _=>hb _ (D.lt h2) ⟨_,h2⟩) e;refine ⟨⟨D₁.keep,fun i o q=>?_,fun i o q=>?_,fun i j o o' qi qj e=>?_,hN▸room⟩,⟨fun i hi=>r3 hi,hN▸m4 ..,fun i hi zx=>ye zx fun o q=>?_,fun i hi zy=>ye zy fun o q b ob e hb=>?_,keepHi,X₁.tups,X₁.tab⟩,T⟩
 ·refine rE hN ?_
  rcases src i o q with ⟨c,oc,t,h1,h2,h3,_⟩ | ⟨h1,h2,h3,h4⟩
  ·refine yea (D₁.get h1) fun ob g1 g2=>?_
   obtain ⟨a,b⟩:=hR c i h3 (D₁.lt h1);exact ⟨a,ob,b▸g1,g2.wk.rel T h2⟩
  ·refine yea (D.get h3) fun ob g1 g2=>?_
   exact ⟨H3 h2 (m4 ..),ob,by refine rE (r3 h2) ?_;exact X₁.keep _ _ (far h3 h1 h4) g1,g2.tell (.of X₁.tups (fun j hj=>r3 hj) (m4 ..))⟩
 ·rcases src i o q with ⟨c,oc,t,h1,h2,h3,_⟩ | ⟨h1,h2,h3,h4⟩
  ·refine rE ((hR c i h3 (D₁.lt h1)).2) ?_;exact D₁.fresh c oc h1
  ·refine rE (r3 h2) ?_;exact D.fresh i o h3
 ·have mix:∀ {i:Nat} {o:O} {c:Nat} {oc:O},(i < 256->lo.get i=none)->x.get i=some o->(∀j t,us[j]? =some t->y4 t=false->nthD L j≠i)->x₁.get c=some oc->ρ₁ c≠ρ i:=fun h1 h3 h4 g1=>yea (D.get h3) fun _ e1 _=>newc g1 e1 (far h3 h1 h4)
  rcases src i o qi with ⟨c,oc,t,h1,h2,h3,_⟩ | ⟨h1,h2,h3,h4⟩ <;>rcases src j o' qj with ⟨d,od,t',g1,g2,g3,_⟩ | ⟨g1,g2,g3,g4⟩
  ·rw[(hR c i h3 (D₁.lt h1)).2,(hR d j g3 (D₁.lt g1)).2] at e
   obtain rfl:=D₁.inj c d oc od h1 g1 e;exact d5y E.ap (i4 (D₁.lt h1) D₁.room) h3 g3
  ·rw[(hR c i h3 (D₁.lt h1)).2,r3 g2] at e;exact absurd e (mix g1 g3 g4 h1)
  ·rw[(hR d j g3 (D₁.lt g1)).2,r3 h2] at e;exact absurd e.symm (mix h1 h3 h4 g1)
  ·rw[r3 h2,r3 g2] at e;exact D.inj i j o o' h3 g3 e
 ·rcases src i o q with ⟨_,_,_,_,_,_,l⟩ | ⟨_,_,h3,_⟩
  ·exact l hi
  ·exact ⟨_,h3⟩
 ·rcases src i o q with ⟨c,oc,t,h1,h2,h3,_⟩ | ⟨h1,h2,h3,h4⟩
  ·refine rE ((hR c i h3 (D₁.lt h1)).2) ?_
   exact newc h1 e fun c hc zz=>ye zz fun oc l=>l7 (F.small LK l) fun _ _ o' h2 _=>hb _ (D.lt h2) ⟨_,h2⟩
  ·exact absurd h2 (M3.mpr hi)
end
noncomputable def Res.side{α:Type}(b:Bool)(r:Res α)(f:α->S->List Sd):List Nat->List Nat->List Sd:=
 Res.rec (motive:=fun _=>List Nat->List Nat->List Sd) (fun _ _=>[.bo b]) (fun a x ms _=>.nn (ifb b 0 ms.length)::f a x)
  (fun m _ ih ms ds=>E0 (motive:=fun _=>List Sd) [.bo b] (fun d l _=>E0 (motive:=fun _=>List Sd) [.bo b] (fun m' ms' _=>.nn (ifb b m m')::ih d ms' l) ms) ds)
  (fun p q _ ih ms ds=>ifb b p q::ih ms ds) r
noncomputable def Lt2:List Nat->List Nat->Prop:=All2 fun d m=>d < m
theorem Res.side_all{α:Type}{f g:List Nat->α->S->List Sd}:∀ (r:Res α) (pre ms:List Nat),(∀ds,ds.length=ms.length->r.side true (f (pre++ds)) ms ds=r.side false (g (pre++ds)) ms ds)->
  r.All fun a x=>∃ds,Lt2 ds ms/\f (pre++ds) a x=g (pre++ds) a x:=by
 intro r;induction r with
 |fail=>exact fun pre ms h=>nomatch Sd.bo.inj (Z0 (h (o7 ms.length 0) a9r)).1
 |ok a x=>
  intro pre ms h;obtain ⟨h1,h2⟩:=Z0 (h (o7 ms.length 0) a9r);obtain rfl:=o6 (Sd.nn.inj h1).symm;exact ⟨[],.nil,h2⟩
 |ask m k ih=>
  intro pre ms h d hd;cases ms with
  |nil=>exact nomatch Sd.bo.inj (Z0 (h [] rfl)).1
  |cons m' ms=>
   have e:m=m':=Sd.nn.inj (Z0 (h (d::o7 ms.length 0) (congrArg Q0 a9r))).1;subst e;have app:∀ds,pre++d::ds=pre++[d]++ds:=fun ds=>by refine rE (a45 ..) ?_;rfl
   exact Res.All_mono (fun a x ⟨ds,e1,e2⟩=>⟨d::ds,.cons hd e1,by refine rE (app ..) ?_;exact e2⟩) (ih d (pre++[d]) ms fun ds hl=>by refine rF (app ..) ?_;exact (Z0 (h (d::ds) (congrArg Q0 hl))).2)
 |same p q r ih=>
  intro pre ms h;exact ⟨(Z0 (h (o7 ms.length 0) a9r)).1,ih pre ms fun ds hl=>(Z0 (h ds hl)).2⟩
theorem Res.side_one{α:Type}{f g:α->S->List Sd}{r:Res α}(h:r.side true f [] []=r.side false g [] []):r.All fun a x=>f a x=g a x:=
 Res.All_mono (fun a x ⟨_,_,e⟩=>e) (Res.side_all (f:=fun _=>f) (g:=fun _=>g) r [] [] fun ds hl=>by refine rE (o6 hl) ?_;exact h)
noncomputable def b0j:Tr Nat:=(Nt 383 (Nt 319 (Nt 287 (Nt 271 (Nt 263 (Nt 259 (Nt 257 (Nt 256 .nil .nil) (Nt 258 .nil .nil)) (Nt 261 (Nt 260 .nil .nil) (Nt 262 .nil .nil))) (Nt 267 (Nt 265 (Nt 264 .nil .nil) (Nt 266 .nil .nil)) (Nt 269 (Nt 268 .nil .nil) (Nt 270 .nil .nil)))) (Nt 279 (Nt 275 (Nt 273 (Nt 272 .nil .nil) (Nt 274 .nil .nil)) (Nt 277 (Nt 276 .nil .nil) (Nt 278 .nil .nil))) (Nt 283 (Nt 281 (Nt 280 .nil .nil) (Nt 282 .nil .nil)) (Nt 285 (Nt 284 .nil .nil) (Nt 286 .nil .nil))))) (Nt 303 (Nt 295 (Nt 291 (Nt 289 (Nt 288 .nil .nil) (Nt 290 .nil .nil)) (Nt 293 (Nt 292 .nil .nil) (Nt 294 .nil .nil))) (Nt 299 (Nt 297 (Nt 296 .nil .nil) (Nt 298 .nil .nil)) (Nt 301 (Nt 300 .nil .nil) (Nt 302 .nil .nil)))) (Nt 311 (Nt 307 (Nt 305 (Nt 304 .nil .nil) (Nt 306 .nil .nil)) (Nt 309 (Nt 308 .nil .nil) (Nt 310 .nil .nil))) (Nt 315 (Nt 313 (Nt 312 .nil .nil) (Nt 314 .nil .nil)) (Nt 317 (Nt 316 .nil .nil) (Nt 318 .nil .nil)))))) (Nt 351 (Nt 335 (Nt 327 (Nt 323 (Nt 321 (Nt 320 .nil .nil) (Nt 322 .nil .nil)) (Nt 325 (Nt 324 .nil .nil) (Nt 326 .nil .nil))) (Nt 331 (Nt 329 (Nt 328 .nil .nil) (Nt 330 .nil .nil)) (Nt 333 (Nt 332 .nil .nil) (Nt 334 .nil .nil)))) (Nt 343 (Nt 339 (Nt 337 (Nt 336 .nil .nil) (Nt 338 .nil .nil)) (Nt 341 (Nt 340 .nil .nil) (Nt 342 .nil .nil))) (Nt 347 (Nt 345 (Nt 344 .nil .nil) (Nt 346 .nil .nil)) (Nt 349 (Nt 348 .nil .nil) (Nt 350 .nil .nil))))) (Nt 367 (Nt 359 (Nt 355 (Nt 353 (Nt 352 .nil .nil) (Nt 354 .nil .nil)) (Nt 357 (Nt 356 .nil .nil) (Nt 358 .nil .nil))) (Nt 363 (Nt 361 (Nt 360 .nil .nil) (Nt 362 .nil .nil)) (Nt 365 (Nt 364 .nil .nil) (Nt 366 .nil .nil)))) (Nt 375 (Nt 371 (Nt 369 (Nt 368 .nil .nil) (Nt 370 .nil .nil)) (Nt 373 (Nt 372 .nil .nil) (Nt 374 .nil .nil))) (Nt 379 (Nt 377 (Nt 376 .nil .nil) (Nt 378 .nil .nil)) (Nt 381 (Nt 380 .nil .nil) (Nt 382 .nil .nil))))))) (Nt 447 (Nt 415 (Nt 399 (Nt 391 (Nt 387 (Nt 385 (Nt 384 .nil .nil) (Nt 386 .nil .nil)) (Nt 389 (Nt 388 .nil .nil) (Nt 390 .nil .nil))) (Nt 395 (Nt 393 (Nt 392 .nil .nil) (Nt 394 .nil .nil)) (Nt 397 (Nt 396 .nil .nil) (Nt 398 .nil .nil)))) (Nt 407 (Nt 403 (Nt 401 (Nt 400 .nil .nil) (Nt 402 .nil .nil)) (Nt 405 (Nt 404 .nil .nil) (Nt 406 .nil .nil))) (Nt 411 (Nt 409 (Nt 408 .nil .nil) (Nt 410 .nil .nil)) (Nt 413 (Nt 412 .nil .nil) (Nt 414 .nil .nil))))) (Nt 431 (Nt 423 (Nt 419 (Nt 417 (Nt 416 .nil .nil) (Nt 418 .nil .nil)) (Nt 421 (Nt 420 .nil .nil) (Nt 422 .nil .nil))) (Nt 427 (Nt 425 (Nt 424 .nil .nil) (Nt 426 .nil .nil)) (Nt 429 (Nt 428 .nil .nil) (Nt 430 .nil .nil)))) (Nt 439 (Nt 435 (Nt 433 (Nt 432 .nil .nil) (Nt 434 .nil .nil)) (Nt 437 (Nt 436 .nil .nil) (Nt 438 .nil .nil))) (Nt 443 (Nt 441 (Nt 440 .nil .nil) (Nt 442 .nil .nil)) (Nt 445 (Nt 444 .nil .nil) (Nt 446 .nil .nil)))))) (Nt 479 (Nt 463 (Nt 455 (Nt 451 (Nt 449 (Nt 448 .nil .nil) (Nt 450 .nil .nil)) (Nt 453 (Nt 452 .nil .nil) (Nt 454 .nil .nil))) (Nt 459 (Nt 457 (Nt 456 .nil .nil) (Nt 458 .nil .nil)) (Nt 461 (Nt 460 .nil .nil) (Nt 462 .nil .nil)))) (Nt 471 (Nt 467 (Nt 465 (Nt 464 .nil .nil) (Nt 466 .nil .nil)) (Nt 469 (Nt 468 .nil .nil) (Nt 470 .nil .nil))) (Nt 475 (Nt 473 (Nt 472 .nil .nil) (Nt 474 .nil .nil)) (Nt 477 (Nt 476 .nil .nil) (Nt 478 .nil .nil))))) (Nt 495 (Nt 487 (Nt 483 (Nt 481 (Nt 480 .nil .nil) (Nt 482 .nil .nil)) (Nt 485 (Nt 484 .nil .nil) (Nt 486 .nil .nil))) (Nt 491 (Nt 489 (Nt 488 .nil .nil) (Nt 490 .nil .nil)) (Nt 493 (Nt 492 .nil .nil) (Nt 494 .nil .nil)))) (Nt 503 (Nt 499 (Nt 497 (Nt 496 .nil .nil) (Nt 498 .nil .nil)) (Nt 501 (Nt 500 .nil .nil) (Nt 502 .nil .nil))) (Nt 507 (Nt 505 (Nt 504 .nil .nil) (Nt 506 .nil .nil)) (Nt 509 (Nt 508 .nil .nil) (Nt 510 .nil (Nt 511 .nil .nil)))))))))
noncomputable def a3a{α:Type}(n:Nat)(k:Nat->α)(t:Tr Nat):α:=Tr.rec (motive:=fun _=>α) (k n) (fun v _ _ l r=>K0 (motive:=fun _=>α) (k n) (fun a=>ifb (o0 n a) (k a) (ifb (U0 n a) l r)) v) t
theorem a8b{α:Type}{n:Nat}{k:Nat->α}:∀t:Tr Nat,a3a n k t=k n
 | .nil=>rfl
 | .node none l r=>rfl
 | .node (some a) l r=>by
  show ifb (o0 n a) (k a) (ifb (U0 n a) (a3a n k l) (a3a n k r))=_;refine rE (a8b l) (rE (a8b r) ?_);cases h:o0 n a with
  |true=>refine rE (V1 h) ?_;rfl
  |false=>cases U0 n a <;>rfl
noncomputable def lit{α:Type}(n:Nat)(k:Nat->α):α:=a3a n k b0j
noncomputable def a58{α:Type}(l:List Nat):(List Nat->α)->α:=E0 (motive:=fun _=>(List Nat->α)->α) (fun k=>k []) (fun n _ ih k=>lit n fun m=>ih fun L=>k (m::L)) l
theorem b89{α:Type}:∀ (l:List Nat) (k:List Nat->α),a58 l k=k l
 | [],k=>rfl
 |n::l,k=>by
  show a3a n (fun m=>a58 l fun L=>k (m::L)) b0j=_;refine rE (a8b ..) ?_;exact b89 l _
inductive FT where
 |nx|bk|cn|rt (v:VT)
noncomputable def FT.val(r:Nat->Nat)(f:FT):FL:=FT.casesOn (motive:=fun _=>FL) f .next .brk .cont fun v=>.ret (v.val r)
noncomputable def flS(f:FL):List V:=FL.casesOn (motive:=fun _=>List V) f [] [.none] [.none,.none] fun v=>[v,.none,.none]
theorem a7w{f g:FL}(h:flS f=flS g):f=g:=by
 cases f <;>cases g <;>first|rfl| (cases h <;>rfl)
noncomputable def AE.at(r:Nat->Nat)(e:AE):AE:=⟨e.scope,r e.locals,mapL (fun c=>(c.1,r c.2)) e.cells,e.qual,e.func,e.code,K0 (motive:=fun _=>Option Nat) none (fun i=>some (r i)) e.frame⟩
inductive Pc where
 |call (f:Nat) (as:List VT) |sts (l:List Stmt) (e:AE) |ex (t:Expr) (e:AE) |tr (t:Expr) (e:AE)
noncomputable def Pc.run(r:Nat->Nat)(h:HK)(p:Pc)(x:S):Res FL:=Pc.casesOn (motive:=fun _=>Res FL) p (fun f as=>(h.call (.prog f) (VT.vals r as) x).bd fun v x=>.ok (.ret v) x) (fun l e=>h.sts l (e.at r) x) (fun t e=>(h.ex t (e.at r) x).bd fun v x=>.ok (.ret v) x) fun t e=>(h.tr t (e.at r) x).bd fun b x=>.ok (.ret (.bool b)) x
noncomputable def Cr2{C:Cx}(τ:St C)(f:FL)(u:Value):Prop:=Fr τ f (.ret u)
noncomputable def Cr3{C:Cx}(_:St C)(f:FL)(b:Bool):Prop:=f=.ret (.bool b)
noncomputable def Pc.Go(C:Cx)(A:Around)(r:Nat->Nat)(p:Pc)(σ:St C)(q:Res FL):Prop:=Pc.casesOn (motive:=fun _=>Prop) p (fun f as=>∀us,Vrs σ (VT.vals r as) us->GoR A (p5 (.ref f) us) σ Cr2 q) (fun l e=>∀env,Er σ (e.at r) env->GoR A (execs l env) σ Fr q) (fun t e=>∀env,Er σ (e.at r) env->GoR A (eval t env) σ Cr2 q) fun t e=>∀env,Er σ (e.at r) env->GoR A (isTrue t env (eval t env)) σ Cr3 q
structure Ct where
 pc:Pc
 us₀:List OT
 fl:FT
 us:List OT
 ns:List (Option OT)
structure CtOk(C:Cx)(c:Nat)(lo:B)(t:Ct):Prop where
 go:∀ {A:Around} {σ:St C} {L:List Nat},F0 c A->G6 lo t.us₀ L σ.x->t.us₀.length=t.us.length->H9 t.us=true->a3i t.us₀ t.us=true->σ.x.n+t.ns.length < 1000000->t.pc.Go C A (nthD L) σ (.ok (t.fl.val (rOf L σ.x.n)) (grf L t.us t.ns σ.x))
structure Job where
 lo:B
 t:Ct
 Lf:FL->S->List Nat
noncomputable def Job.L(j:Job)(f:FL)(x:S):List Nat:=J4 j.t.us.length (j.Lf f x) 256
noncomputable def Job.lf(j:Job)(f:FL)(x:S):List Sd:=[.bt x.t.lo,.vs (flS f),.nn (j.Lf f x).length,.oo (b8 (W2 j.t.us j.t.ns) (j.L f x) x),.bo (K7 (w0 256 j.t.us.length) (j.Lf f x))]
noncomputable def Job.rt(j:Job)(f:FL)(x:S):List Sd:=[.bt j.lo,.vs (flS (j.t.fl.val (nthD (j.L f x)))),.nn j.t.ns.length,.oo (vals (nthD (j.L f x)) (W2 j.t.us j.t.ns)),.bo true]
noncomputable def Job.res(c:Nat)(ct:CT)(N:Nat)(j:Job):Res FL:=j.t.pc.run T3 (hk c ct N) (X j.lo (W2 j.t.us₀ []))
noncomputable def Job.side(c:Nat)(ct:CT)(N:Nat)(b:Bool)(j:Job):List Sd:=ifb b ((j.res c ct N).side true j.lf [] []) ((j.res c ct N).side false j.rt [] [])
section
variable{C:Cx}{A:Around}{σ τ:St C}{c N:Nat}{ct:CT}{lo:B}{t:Ct}
theorem AE.at_env{ρ ρ':Nat->Addr}{r r':Nat->Nat}{e:AE}(h:∀j,ρ (r j)=ρ' (r' j)):(e.at r).env ρ=(e.at r').env ρ':=by
 have hc:∀l:List (Str×Nat),((mapL (fun c=>(c.1,r c.2)) l).map fun c=>(c.1,ρ c.2))=(mapL (fun c=>(c.1,r' c.2)) l).map fun c=>(c.1,ρ' c.2):=fun l=>by
  induction l with
  |nil=>rfl
  |cons p l ih=>exact List.cons_eq_cons.mpr ⟨congrArg (Prod.mk p.1) (h p.2),ih⟩
 unfold AE.env AE.at;dsimp only;refine rE (h ..) (rE (hc ..) ?_)
 congr 1
 cases e.frame with
 |none=>rfl
 |some i=>exact congrArg some (h i)
theorem c9q{r:Nat->Nat}{c:Str×Nat}:∀ {l:List (Str×Nat)},c∈mapL (fun c=>(c.1,r c.2)) l->∃d∈l,c.2=r d.2
 | [],h=>absurd h G1
 |p::l,h=>(O0.mp h).elim (fun e=>⟨p,B3 ..,congrArg Prod.snd e⟩) fun h=>yea (c9q h) fun d h1 h2=>⟨d,C3 _ h1,h2⟩
theorem c9v{r:Nat->Nat}{d:Str×Nat}:∀ {l:List (Str×Nat)},d∈l->(d.1,r d.2)∈mapL (fun c=>(c.1,r c.2)) l
 |p::l,h=>(O0.mp h).elim (fun e=>e▸B3 ..) fun h=>C3 _ (c9v h)
theorem AE.small{e:AE}{r r':Nat->Nat}{n n':Nat}(h:(e.at r).In n)(k:∀j,r j < n->r' j < n'):(e.at r').In n':=by
 refine Q5 h fun h1 h2 h3 h4=>?_;clear h;refine ⟨k _ h1,fun c hc=>?_,fun i hi=>?_,h4⟩
 ·refine yea (c9q hc) fun d g1 g2=>?_
  exact g2▸k _ (h2 _ (c9v g1))
 ·have hi:K0 (motive:=fun _=>Option Nat) none (fun i=>some (r' i)) e.frame=some i:=hi
  have h3:∀i,K0 (motive:=fun _=>Option Nat) none (fun i=>some (r i)) e.frame=some i->i < n:=h3;cases q:e.frame with
  |none=>rw[q] at hi;cases hi
  |some j=>rw[q] at hi h3;cases hi;exact k _ (h3 _ rfl)
theorem A0.cr{v:V}{u:Value}(r:Vr τ v u):Cr2 τ (.ret v) u:=⟨u,rfl,r⟩
theorem Vr.bool{v:V}{b:Bool}(r:Vr τ v (.bool b)):v=.bool b:=by
 cases v with
 |bool c=>cases (show a2r b=.bool c from r);rfl
 |none=>cases (show a2r b=.none from r)
 |int i=>obtain ⟨t,e⟩:=(show ∃t,a2r b=.int i t from r);cases e
 |str i=>obtain ⟨t,e⟩:=(show ∃t,a2r b=.str i t from r);cases e
 |byt i=>obtain ⟨t,e⟩:=(show ∃t,a2r b=.bytes i t from r);cases e
 |bi i=>cases i <;>cases (show a2r b=_ from r)
 |prog i=>cases (show a2r b=.ref i from r)
 |ref i=>cases (show a2r b=.ref _ from r.1)
 |tup xs=>refine G3 (J5 r) fun _ _ _ e _=>?_;cases e
theorem Fr.bool{f:FL}{b:Bool}(r:Fr τ f (.ret (.bool b))):f=.ret (.bool b):=by
 cases f with
 |ret v=>refine yea (show ∃u,Flow.ret (.bool b)=.ret u/\Vr τ v u from r) fun u e r=>?_;cases e;exact rE (Vr.bool r) rfl
 |next=>cases (show Flow.ret (.bool b)=.next from r)
 |brk=>cases (show Flow.ret (.bool b)=.brk from r)
 |cont=>cases (show Flow.ret (.bool b)=.cont from r)
theorem Job.ok'(Dr:N < 20∨V0 C)(CY:Y3 C c ct){j:Job}(LK:C5 j.lo)(run:j.side c ct N true=j.side c ct N false):CtOk C N j.lo j.t:=by
 constructor
 intro A σ L rm F h0 hsub hpat room;have D₀:=F.shrink LK σ.D;let σ₀:St C:=⟨σ.s,fun i=>σ.ρ (plc L i),X j.lo (W2 j.t.us₀ []),D₀⟩
 have all:=Res.side_one (f:=j.lf) (g:=j.rt) run;have hplc:∀i,σ.ρ (nthD L i)=(fun i=>σ.ρ (plc L i)) (T3 i):=fun i=>congrArg σ.ρ (z8 i).symm;have hn:(X j.lo (W2 j.t.us₀ [])).n=256+j.t.us₀.length:=X_n.trans (congrArg (256+·) (a0m _));have hlt:∀i,nthD L i < σ.x.n->T3 i < (X j.lo (W2 j.t.us₀ [])).n:=fun i hi=>by refine rE hn ?_;exact n9 (F.len▸a1r (i4 hi σ.D.room)) 256
 have fin:∀ {f:FL} {τ:St C},j.lf f τ.x=j.rt f τ.x->Le σ₀ τ->∃υ:St C,υ.s=τ.s/\υ.x=grf L j.t.us j.t.ns σ.x/\Le σ υ/\∀fl,Fr τ f fl->Fr υ (j.t.fl.val (rOf L σ.x.n)) fl:=fun {f τ} e Xt=>by
  obtain ⟨e1,e⟩:=Z0 e;obtain ⟨e2,e⟩:=Z0 e;obtain ⟨e3,e⟩:=Z0 e;obtain ⟨e4,e⟩:=Z0 e;obtain ⟨e5,_⟩:=Z0 e;refine yaa (c7z (L':=j.Lf f τ.x) hsub hpat LK σ.D F h0 τ.D Xt.X ⟨Sd.bt.inj e1,Sd.oo.inj e4,Sd.bo.inj e5,Sd.nn.inj e3⟩ room) fun D3 X3 T=>?_;refine ⟨⟨τ.s,_,_,D3⟩,rfl,rfl,⟨X3,Xt.e⟩,fun fl r=>?_⟩;rw[a7w (Sd.vs.inj e2)] at r;cases hf:j.t.fl with
  |rt v=>
   rw[hf] at r;obtain ⟨u,rfl,r⟩:=r;exact ⟨u,rfl,VR.rel T (v.rel (RL.reg _ _)) r⟩
  |_=>rw[hf] at r;exact r
 unfold Job.res at all;cases hp:j.t.pc with
 |sts l e=>
  intro env He Q E z;rw[hp] at all;have He':Er σ₀ (e.at T3) env:=⟨He.1.trans (AE.at_env hplc),AE.small He.2 hlt⟩;refine (a35 CY N Dr).sts (σ:=σ₀) rm He' l Q E (Res.All_mono (fun f x' e fl τ hx Xt r=>?_) all);subst hx;refine W4 (fin e Xt) fun υ h1 h2 h3 h4=>?_;exact h1▸z fl υ h2 h3 (h4 fl r)
 |call f as=>
  intro us r0 Q E z;rw[hp] at all;have r0':Vrs σ₀ (VT.vals T3 as) us:=VRl.rel (R:=RL (nthD L) T3) ⟨.refl,fun i i' v r e=>by
   rcases r with ⟨h1,rfl⟩ | ⟨k,rfl,rfl⟩
   ·exact ⟨e.1.trans (congrArg (fun i=>O2 (σ.ρ i)) (W8 h1).symm),by refine rE hn ?_;exact H3 h1 (m4 ..)⟩
   ·exact ⟨e.1.trans (congrArg O2 (hplc k)),hlt k e.2⟩⟩ (VT.rels (RL.reg _ _) as) r0
  refine (a35 CY N Dr).call (σ:=σ₀) rm (f:=.prog f) rfl r0' Q E (Res.All_mono (fun v x' e u τ hx Xt r=>?_) ((Res.All_bd _ _ _).mp all));subst hx;refine W4 (fin (f:=.ret v) e Xt) fun υ h1 h2 h3 h4=>?_;exact h1▸z u υ h2 h3 (h4 (.ret u) ⟨u,rfl,r⟩)
 |ex t e=>
  intro env He Q E z;rw[hp] at all;have He':Er σ₀ (e.at T3) env:=⟨He.1.trans (AE.at_env hplc),AE.small He.2 hlt⟩;refine (a35 CY N Dr).ex (σ:=σ₀) rm He' t Q E (Res.All_mono (fun v x' e u τ hx Xt r=>?_) ((Res.All_bd _ _ _).mp all));subst hx;refine W4 (fin (f:=.ret v) e Xt) fun υ h1 h2 h3 h4=>?_;exact h1▸z u υ h2 h3 (h4 (.ret u) ⟨u,rfl,r⟩)
 |tr t e=>
  intro env He Q E z;rw[hp] at all;have He':Er σ₀ (e.at T3) env:=⟨He.1.trans (AE.at_env hplc),AE.small He.2 hlt⟩;refine (a35 CY N Dr).tr (σ:=σ₀) rm He' t Q E (Res.All_mono (fun v x' e u τ hx Xt r=>?_) ((Res.All_bd _ _ _).mp all));subst hx;cases r;refine W4 (fin (f:=.ret (.bool v)) e Xt) fun υ h1 h2 h3 h4=>?_;have h5:(j.t.fl.val (rOf L σ.x.n))=.ret (.bool v):=Fr.bool (h4 (.ret (.bool v)) ⟨_,rfl,rfl⟩);exact h1▸z v υ h2 h3 h5
theorem Job.ok(Dr:V0 C)(CY:Y3 C c ct){j:Job}(LK:C5 j.lo)(run:j.side c ct N true=j.side c ct N false):CtOk C N j.lo j.t:=Job.ok' (.inr Dr) CY LK run
theorem CtOk.mono(h:CtOk C c lo t)(q:c<=N):CtOk C N lo t:=⟨fun rm=>h.go (rm.mono q)⟩
end
noncomputable def w4(a b:Bool):Bool:=ifb a b false
noncomputable def footB(t:Ct)(L:List Nat)(n:Nat):Bool:=w4 (K7 256 L) (w4 (o0 L.length t.us₀.length) (w4 (o0 t.us₀.length t.us.length) (w4 (U0 256 n) (w4 (J0 (w0 256 t.us₀.length) 1000000) (w4 (J0 (w0 n t.ns.length) 1000000) (w4 (H9 t.us₀) (w4 (H9 t.us) (w4 (a3i t.us₀ t.us) (a8e n L)))))))))
noncomputable def b1d{α:Type}(lo:B)(t:Ct)(L:List Nat)(n:Nat)(x:S)(r:Res α):Res α:=.same (.bt (b2m lo x.t.lo)) (.bt lo) <| .same (.oo (b8 (W2 t.us₀ []) L x)) (.oo (vals (nthD L) (W2 t.us₀ []))) <| .same (.bo (footB t L n)) (.bo true) r
noncomputable def grn(L:List Nat)(n:Nat)(t:Ct)(x:S):S:=a16 (vals (rOf L n) t.ns) (M9 (rOf L n) L t.us x)
noncomputable def c5l(lo:B)(vs:List V)(x:S)(t:Ct)(L:List Nat)(n:Nat):Res V:=Pc.casesOn (motive:=fun _=>Res V) t.pc (fun f as=>.same (.vs vs) (.vs (.prog f::VT.vals (nthD L) as)) <|b1d lo t L n x <|FT.casesOn (motive:=fun _=>Res V) t.fl .fail .fail .fail fun v=>.ok (v.val (rOf L n)) (grn L n t x)) (fun _ _=>.fail) (fun _ _=>.fail) fun _ _=>.fail
noncomputable def c5u(lo:B)(l:List Stmt)(e:AE)(x:S)(t:Ct)(L:List Nat)(n:Nat):Res FL:=Pc.casesOn (motive:=fun _=>Res FL) t.pc (fun _ _=>.fail) (fun l₀ e₀=>.same (.sl l) (.sl l₀) <| .same (.ae e) (.ae (e₀.at (nthD L))) <|b1d lo t L n x <| .ok (t.fl.val (rOf L n)) (grn L n t x)) (fun _ _=>.fail) fun _ _=>.fail
structure Ent where
 key:Nat
 m:List V->S->Option Ct
 L:List V->S->List Nat
noncomputable def entG{α:Type}(k:Nat)(vs:List V)(x:S)(app:Ct->List Nat->Nat->Res α)(es:List Ent):Option (Res α):=E0 (motive:=fun _=>Option (Res α)) none (fun e _ ih=>ifb (o0 e.key k) (obd (e.m vs x) fun t=>some (a58 (e.L vs x) fun L=>lit x.n fun n=>app t L n)) ih) es
noncomputable def C7(l:List Stmt):Nat:=Y2 (motive:=fun _=>Nat) l 0 fun s _=>w0 1000000 s.pos.line
structure a15 where
 ex:Expr
 m:AE->S->Option (Res V)
noncomputable def c7(ex:Expr):Nat:=w0 (C1 1000 (w0 (C1 1000 ex.pos.line) ex.pos.col)) ex.pos.endCol
noncomputable def tabX(ex:Expr)(e:AE)(x:S)(xs:List a15):Option (Res V):=E0 (motive:=fun _=>Option (Res V)) none (fun t _ ih=>ifb (o0 (c7 ex) (c7 t.ex)) (obd (t.m e x) fun r=>some (.same (.ee ex) (.ee t.ex) r)) ih) xs
noncomputable def ctG(lo:B)(es ss:List Ent)(xs:List a15):CT:=⟨fun ex e x=>tabX ex e x xs,fun l e x=>entG (C7 l) [.ref e.locals] x (c5u lo l e x) ss,
 fun f vs x=>V.casesOn (motive_1:=fun _=>Option (Res V)) f none (fun _=>none) (fun _=>none) (fun _=>none) (fun _=>none) (fun _=>none) (fun a=>entG a vs x (c5l lo (f::vs) x) es) (fun _=>none) (fun _=>none),fun _ _ _=>none⟩
section
variable{C:Cx}{A:Around}{σ τ:St C}{c N:Nat}{ct:CT}{lo:B}{t:Ct}
noncomputable def Y4(C:Cx)(c:Nat)(lo:B)(e:Ent):Prop:=∀vs x t,e.m vs x=some t->CtOk C c lo t
noncomputable def XOk(C:Cx)(c:Nat)(t:a15):Prop:=∀ {A:Around} {σ:St C} {e:AE} {env:Env},F0 c A->Er σ e env->∀r,t.m e σ.x=some r->GoR A (eval t.ex env) σ Vr r
theorem Y4.mono{e:Ent}(h:Y4 C c lo e)(q:c<=N):Y4 C N lo e:=fun vs x t m=>(h vs x t m).mono q
theorem c4a{a b:Bool}(h:w4 a b=true):a=true/\b=true:=by
 cases a with
 |false=>cases h
 |true=>exact ⟨rfl,h⟩
theorem anE{a b:Bool}{G:Prop}(k:a=true->b=true->G)(h:w4 a b=true):G:=k (c4a h).1 (c4a h).2
theorem c7t{α:Type}{L:List Nat}{x:S}{r:Res α}{P:α->S->Prop}(z:(b1d lo t L x.n x r).All P):G6 lo t.us₀ L x/\t.us₀.length=t.us.length/\H9 t.us=true/\a3i t.us₀ t.us=true/\x.n+t.ns.length < 1000000/\r.All P:=by
 obtain ⟨e1,e2,e3,z⟩:=z;refine anE (fun h1 h=>?_) (Sd.bo.inj e3);revert h;refine anE fun h2 h=>?_;revert h;refine anE fun h3 h=>?_;revert h;refine anE fun h4 h=>?_;revert h;refine anE fun h5 h=>?_;revert h;refine anE fun h6 h=>?_;revert h;refine anE fun h7 h=>?_;revert h;refine anE fun h8 h=>?_;revert h;refine anE fun h9 h10=>?_;exact ⟨⟨fun i hi o q=>(show x.t.get i=some o by refine rE (T.get_eq ..) (rE (if_pos hi) ?_);exact c9s (Sd.bt.inj e1) i o q),Sd.oo.inj e2,h1,V1 h2,d3 h4,B4 h5,h7,h10⟩,V1 h3,h8,h9,B4 h6,z⟩
theorem d86(H:CtOk C c lo t)(rm:F0 c A){f:V}{uf:Value}{vs:List V}{us:List Value}{L:List Nat}(rf:Vr σ f uf)(r:Vrs σ vs us):GoR A (p5 uf us) σ Vr (c5l lo (f::vs) σ.x t L σ.x.n):=by
 obtain ⟨pc,us₀,fl,us',ns⟩:=t;cases pc with
 |sts=>exact .fail
 |ex=>exact .fail
 |tr=>exact .fail
 |call g as=>
  intro Q E z;obtain ⟨e1,z⟩:=z;obtain ⟨zy,zx⟩:=Z0 (Sd.vs.inj e1);subst zy;subst zx;refine Q5 (c7t (x:=σ.x) z) fun F h0 hs zz=>?_;refine yaa zz fun hp hn z=>?_;clear zz;cases rf;cases fl with
  |rt v=>exact H.go rm F h0 hs hp hn us r Q E fun u τ hx X r'=>yea r' fun u' e r'=>z u τ hx X (by cases e;exact r')
  |_=>exact z.elim
theorem d8a(H:CtOk C c lo t)(rm:F0 c A){e:AE}{env:Env}(He:Er σ e env){l:List Stmt}{L:List Nat}:GoR A (execs l env) σ Fr (c5u lo l e σ.x t L σ.x.n):=by
 obtain ⟨pc,us₀,fl,us',ns⟩:=t;cases pc with
 |call=>exact .fail
 |ex=>exact .fail
 |tr=>exact .fail
 |sts l₀ e₀=>
  intro Q E z;obtain ⟨e1,e2,z⟩:=z;have z:(b1d lo ⟨.sts l₀ e₀,us₀,fl,us',ns⟩ L σ.x.n σ.x (.ok (fl.val (rOf L σ.x.n)) (grn L σ.x.n ⟨.sts l₀ e₀,us₀,fl,us',ns⟩ σ.x))).All (A0 σ Fr Q):=z;refine Q5 (c7t (x:=σ.x) z) fun F h0 hs zz=>?_;refine yaa zz fun hp hn z=>?_;clear zz;rw[Sd.ae.inj e2] at He;refine rE (Sd.sl.inj e1) ?_;exact H.go rm F h0 hs hp hn env He Q E z
theorem b71{α:Type}{k:Nat}{vs:List V}{x:S}{app:Ct->List Nat->Nat->Res α}{r:Res α}{P:Res α->Prop}:∀ {es:List Ent},(∀e∈es,Y4 C c lo e)->(∀t L,CtOk C c lo t->P (app t L x.n))->entG k vs x app es=some r->P r
 | [],_,_,q=>D0 q
 |e::es,h,go,q=>by
  have q:ifb (o0 e.key k) (obd (e.m vs x) fun t=>some (a58 (e.L vs x) fun L=>lit x.n fun n=>app t L n)) (entG k vs x app es)=some r:=q;cases hk:o0 e.key k with
  |true=>
   rw[hk] at q;revert q;refine obE fun t h1 q=>?_;cases q;refine rE (b89 ..) ?_;show P (a3a x.n _ b0j);refine rE (a8b ..) ?_;exact go t _ (h e (B3 ..) vs x t h1)
  |false=>rw[hk] at q;exact b71 (fun e he=>h e (C3 _ he)) go q
theorem d3y(rm:F0 c A){ex:Expr}{e:AE}{env:Env}{r:Res V}(He:Er σ e env):∀ {xs:List a15},(∀t∈xs,XOk C c t)->tabX ex e σ.x xs=some r->GoR A (eval ex env) σ Vr r
 | [],_,q=>D0 q
 |t::xs,h,q=>by
  have q:ifb (o0 (c7 ex) (c7 t.ex)) (obd (t.m e σ.x) fun r=>some (.same (.ee ex) (.ee t.ex) r)) (tabX ex e σ.x xs)=some r:=q;cases hk:o0 (c7 ex) (c7 t.ex) with
  |true=>
   rw[hk] at q;revert q;refine obE fun r' h1 q=>?_;cases q;intro Q E z;refine rE (Sd.ee.inj z.1) ?_;exact h t (B3 ..) rm He r' h1 Q E z.2
  |false=>rw[hk] at q;exact d3y rm He (fun t ht=>h t (C3 _ ht)) q
theorem i6{es ss:List Ent}{xs:List a15}(h:∀e∈es,Y4 C c lo e)(hs:∀e∈ss,Y4 C c lo e)(hx:∀t∈xs,XOk C c t):Y3 C c (ctG lo es ss xs) where
 ex rm He ex _ q:=d3y rm He hx q
 sts rm He l _ q:=b71 (P:=fun r=>GoR _ (execs l _) _ Fr r) hs (fun t L H=>d8a H rm He) q
 call {A σ} rm f uf vs us r rf rs q:=by
  cases f with
  |prog a=>exact b71 (P:=fun r=>GoR A (p5 uf us) σ Vr r) h (fun t L H=>d86 H rm rf rs) q
  |_=>exact D0 q
 tr _ _ _ _ q:=D0 q
theorem Y0{α:Type}{P:α->Prop}{a:α}(h:P a):∀e∈[a],P e:=fun e he=>S4.mp he▸h
theorem j1{α:Type}{P:α->Prop}:∀e∈([]:List α),P e:=fun e he=>absurd he G1
theorem A1{α:Type}{P:α->Prop}{a:α}{l:List α}(h:P a)(k:∀e∈l,P e):∀e∈a::l,P e:=fun e he=>(O0.mp he).elim (fun q=>q▸h) (k e)
end
noncomputable def d29:Str:=⟨#[67,97,116,97,108,111,103]⟩
noncomputable def b3g:Str:=⟨#[80,97,103,101,115]⟩
noncomputable def O4:Str:=⟨#[110,117,109,98,101,114]⟩
noncomputable def B6:Str:=⟨#[103,101,110,101,114,97,116,105,111,110]⟩
noncomputable def a9:Str:=⟨#[116,101,120,116]⟩
noncomputable def b3e:Str:=⟨#[78,117,109,115]⟩
noncomputable def y7:Str:=⟨#[84,121,112,101]⟩
noncomputable def s_K:Str:=⟨#[75]⟩
noncomputable def a8z:Str:=⟨#[80,97,114,101,110,116,84,114,101,101]⟩
noncomputable def e8v:Str:=⟨#[80,97,114,101,110,116,84,114,101,101,78,101,120,116,75,101,121]⟩
noncomputable def b3h:Str:=⟨#[83,116,114,117,99,116,84,114,101,101,82,111,111,116]⟩
noncomputable def d2b:Str:=⟨#[75,105,100,115]⟩
noncomputable def d2a:Str:=⟨#[67,111,117,110,116]⟩
noncomputable def c0b:Str:=⟨#[104,101,97,100]⟩
noncomputable def d2e:Str:=⟨#[111,99,116,101,116,115]⟩
noncomputable def s_P:Str:=⟨#[80]⟩
noncomputable def s_S:Str:=⟨#[83]⟩
noncomputable def a5x:Str:=⟨#[80,103]⟩
noncomputable def b3f:Str:=⟨#[80,97,103,101]⟩
noncomputable def a5w:Str:=⟨#[80,97,114,101,110,116]⟩
noncomputable def a3o:Str:=⟨#[83,116,114,117,99,116,80,97,114,101,110,116,115]⟩
noncomputable def d2c:Str:=⟨#[82,111,111,116]⟩
noncomputable def a20:Str:=⟨#[116,97,98,108,101]⟩
noncomputable def e95:Str:=⟨#[116,114,97,105,108,101,114]⟩
noncomputable def e90:Str:=⟨#[105,115,95,104,101,120]⟩
noncomputable def s_top:Str:=⟨#[116,111,112]⟩
noncomputable def c0d:Str:=⟨#[112,108,97,99,101,115]⟩
noncomputable def s_0:Str:=⟨#[48]⟩
inductive TV where
 |no|dir (w:Nat) |beh
structure Pm where
 ne:Nat
 p0:Nat
 p1:Nat
 p2:Nat
 d0:List Nat
 d1:List Nat
 d2:List Nat
 t0:TV
 t1:TV
 b0:Option Nat
 b1:Option Nat
 c:Nat
 r0:List (Option Nat)
 r1:List (Option Nat)
 r2:List (Option Nat)
 m:Nat->Option Int
 nk:Option Int
noncomputable def W1{α β:Type}(o:Option α)(f:α->β)(b:β):β:=K0 (motive:=fun _=>β) b f o
noncomputable def iV(n:Nat):V:=.int (.ofNat n)
noncomputable def cV(c:Option Nat):V:=W1 c .ref .none
noncomputable def F2{α:Type}(k:Nat):List α->List α:=o4 (motive:=fun _=>List α->List α) (fun _=>[]) (fun _ ih l=>Y2 (motive:=fun _=>List α) l [] fun a l=>a::ih l) k
noncomputable def numsT(c a b d:Nat):List VT:=F2 (w0 c c) [.v (.int 0),.n a,.v (.int 1),.n b,.v (.int 2),.n d]
noncomputable def kT(c a b d:Nat):List VT:=F2 c [.n a,.n b,.n d]
noncomputable def V4(b:Bool)(t:OT):Option OT:=ifb b (some t) none
noncomputable def c3m(b:Bool)(t:VT):DT:=ifb b (.t t) (.o none)
noncomputable def intD(o:Option Int)(a:Nat):DT:=.sub (W1 o (fun i=>some (.v (.int i))) none) a []
noncomputable def iT(n:Nat):VT:=.v (iV n)
noncomputable def digT(l:List Nat)(a:Nat):OT:=.sub (some (.list (mapL iT l))) a []
noncomputable def a5p(i:Int):T0:=.idict [(O4,.v (.int i)),(B6,.v (.int 0))]
noncomputable def K9(o:Option Int):Option T0:=W1 o (fun i=>some (a5p i)) none
noncomputable def A9(o:Option Int):Option T0:=W1 o (fun _=>some (.inst 261 0)) none
noncomputable def wayN(w:Nat):Option VT:=nth [VT.v (.int 0),.v (.int 1),.v (.int 2),.v (.int 7),.v (.bool true),.v (.bool false),.n 0,.n 0,.n 0,.n 0,.n 1,.n 1,.n 1,.n 1,.n 1] w
noncomputable def a6b(w:Nat):Option T0:=W1 (nth [none,none,none,none,none,none,some (T0.list [.v (.int 0)]),some (.list []),some .dI,some (.dS [(s_S,some (.int 1))]),
 some (.idict [(a9,.v (.str s_0))]),some (.idict [(d2e,.v (.byt #[49])),(e90,.v (.bool false))]),some (.idict [(s_top,.v (.int 1)),(c0d,.v (.int 0))]),some (a5p 9),some (a5p 99)] w) id none
noncomputable def a6c(w:Nat):Option T0:=W1 (nth [none,none,none,none,none,none,none,none,none,none,some (T0.inst 190 0),some (.inst 212 0),some (.inst 155 0),some (.inst 261 0),some (.inst 261 0)] w) id none
noncomputable def tvB{α:Type}(t:TV)(a:α)(f:Nat->α)(b:α):α:=TV.casesOn (motive:=fun _=>α) t a f b
noncomputable def a4u(t:TV)(f:Nat->Option T0):Option T0:=tvB t none f none
noncomputable def a4p(b:Option Nat)(f:Nat->Option T0):Option T0:=W1 b f none
noncomputable def a4o(t:TV)(o:T0):Option T0:=tvB t none (fun _=>none) (some o)
noncomputable def tvN(t:TV):Option VT:=tvB t none wayN (some (.n 2))
noncomputable def behN(b:Option Nat):Option VT:=W1 b (fun w=>W1 (wayN w) (fun v=>some (.tp [.v (.int 0),v])) none) none
noncomputable def behD(b:Option Nat)(s0 s1:Nat):DT:=.sub (behN b) s0 [s1]
noncomputable def md(i:Nat):Nat:=O1 i 256
noncomputable def sl0(p:Pm):Option OT:=some (.idict [(a9,.v (.str d29))])
noncomputable def sl1(p:Pm):Option OT:=some (.inst 190 0)
noncomputable def sl2(p:Pm):Option OT:=some (.idict [(O4,.v (.int 2)),(B6,.v (.int 0))])
noncomputable def sl3(p:Pm):Option OT:=some (.inst 261 2)
noncomputable def sl4(p:Pm):Option OT:=some (.idict [(O4,.v (.int 10)),(B6,.v (.int 0))])
noncomputable def sl5(p:Pm):Option OT:=some (.inst 261 4)
noncomputable def sl6(p:Pm):Option OT:=some (.idict [(a9,.v (.str b3g))])
noncomputable def sl7(p:Pm):Option OT:=some (.inst 190 6)
noncomputable def sl8(p:Pm):Option OT:=some (.idict [(O4,.v (.int 3)),(B6,.v (.int 0))])
noncomputable def sl9(p:Pm):Option OT:=some (.inst 261 8)
noncomputable def sl10(p:Pm):Option OT:=some (.idict [(O4,.v (.int 4)),(B6,.v (.int 0))])
noncomputable def sl11(p:Pm):Option OT:=some (.inst 261 10)
noncomputable def sl12(p:Pm):Option OT:=some (.list [.n 9,.n 11])
noncomputable def a62(p:Pm):Option OT:=some (.lst (mapL cV p.r0))
noncomputable def a63(p:Pm):Option OT:=some (.lst (mapL cV p.r1))
noncomputable def a94(p:Pm):Option OT:=some (.lst (mapL cV p.r2))
noncomputable def sl16(p:Pm):Option OT:=some (.list (numsT p.c 13 14 15))
noncomputable def sl17(p:Pm):Option OT:=some (.dictS [(b3e,.t (.n 16))])
noncomputable def sl18(p:Pm):Option OT:=some (.idict [(a9,.v (.str b3h))])
noncomputable def sl19(p:Pm):Option OT:=some (.inst 190 18)
noncomputable def sl20(p:Pm):Option OT:=V4 (J0 0 p.ne) (.idict [(O4,.v (.int 20)),(B6,.v (.int 0))])
noncomputable def sl21(p:Pm):Option OT:=V4 (J0 0 p.ne) (.inst 261 20)
noncomputable def sl22(p:Pm):Option OT:=V4 (J0 1 p.ne) (.idict [(O4,.v (.int 21)),(B6,.v (.int 0))])
noncomputable def sl23(p:Pm):Option OT:=V4 (J0 1 p.ne) (.inst 261 22)
noncomputable def sl24(p:Pm):Option OT:=V4 (J0 2 p.ne) (.idict [(O4,.v (.int 22)),(B6,.v (.int 0))])
noncomputable def sl25(p:Pm):Option OT:=V4 (J0 2 p.ne) (.inst 261 24)
noncomputable def sl26(p:Pm):Option OT:=some (.list (kT p.ne 21 23 25))
noncomputable def sl27(p:Pm):Option OT:=some (.dictS [(y7,.t (.n 19)),(s_K,.t (.n 26)),(a8z,.t (.n 17)),(e8v,intD p.nk 27)])
noncomputable def sl28(p:Pm):Option OT:=some (.dictS [(y7,.t (.n 1)),(b3g,.t (.n 3)),(b3h,.t (.n 5))])
noncomputable def sl29(p:Pm):Option OT:=some (.dictS [(y7,.t (.n 7)),(d2b,.t (.n 12)),(d2a,.t (.v (.int 2)))])
noncomputable def sl30(p:Pm):Option OT:=some (.dictI [])
noncomputable def sl31(p:Pm):Option OT:=some (.idict [(c0b,.n 30),(d2e,.v (.byt #[]))])
noncomputable def sl32(p:Pm):Option OT:=some (.inst 233 31)
noncomputable def sl33(p:Pm):Option OT:=V4 (J0 0 p.ne) (.idict [(a9,.v (.str s_P))])
noncomputable def sl34(p:Pm):Option OT:=V4 (J0 0 p.ne) (.inst 190 33)
noncomputable def sl35(p:Pm):Option OT:=V4 (J0 0 p.ne) (.idict [(O4,.v (.int (.ofNat (w0 3 p.p0)))),(B6,.v (.int 0))])
noncomputable def sl36(p:Pm):Option OT:=V4 (J0 0 p.ne) (.inst 261 35)
noncomputable def sl37(p:Pm):Option OT:=V4 (J0 0 p.ne) (digT p.d0 37)
noncomputable def sl38(p:Pm):Option OT:=V4 (J0 0 p.ne) (.dictS [(s_S,.t (.n 34)),(a5x,.t (.n 36)),(s_K,.t (.n 37))])
noncomputable def sl39(p:Pm):Option OT:=V4 (J0 1 p.ne) (.idict [(a9,.v (.str s_P))])
noncomputable def sl40(p:Pm):Option OT:=V4 (J0 1 p.ne) (.inst 190 39)
noncomputable def sl41(p:Pm):Option OT:=V4 (J0 1 p.ne) (.idict [(O4,.v (.int (.ofNat (w0 3 p.p1)))),(B6,.v (.int 0))])
noncomputable def sl42(p:Pm):Option OT:=V4 (J0 1 p.ne) (.inst 261 41)
noncomputable def sl43(p:Pm):Option OT:=V4 (J0 1 p.ne) (digT p.d1 43)
noncomputable def sl44(p:Pm):Option OT:=V4 (J0 1 p.ne) (.dictS [(s_S,.t (.n 40)),(a5x,.t (.n 42)),(s_K,.t (.n 43))])
noncomputable def sl45(p:Pm):Option OT:=V4 (J0 2 p.ne) (.idict [(a9,.v (.str s_P))])
noncomputable def sl46(p:Pm):Option OT:=V4 (J0 2 p.ne) (.inst 190 45)
noncomputable def sl47(p:Pm):Option OT:=V4 (J0 2 p.ne) (.idict [(O4,.v (.int (.ofNat (w0 3 p.p2)))),(B6,.v (.int 0))])
noncomputable def sl48(p:Pm):Option OT:=V4 (J0 2 p.ne) (.inst 261 47)
noncomputable def sl49(p:Pm):Option OT:=V4 (J0 2 p.ne) (digT p.d2 49)
noncomputable def sl50(p:Pm):Option OT:=V4 (J0 2 p.ne) (.dictS [(s_S,.t (.n 46)),(a5x,.t (.n 48)),(s_K,.t (.n 49))])
noncomputable def sl51(p:Pm):Option OT:=some (.idict [(a9,.v (.str b3f))])
noncomputable def sl52(p:Pm):Option OT:=some (.inst 190 51)
noncomputable def sl53(p:Pm):Option OT:=some (.idict [(O4,.v (.int 2)),(B6,.v (.int 0))])
noncomputable def sl54(p:Pm):Option OT:=some (.inst 261 53)
noncomputable def sl55(p:Pm):Option OT:=some (.sub (a4u p.t0 a6b) 55 [])
noncomputable def sl56(p:Pm):Option OT:=some (.sub (a4u p.t0 a6c) 55 [])
noncomputable def sl57(p:Pm):Option OT:=some (.sub (a4p p.b0 a6b) 57 [])
noncomputable def sl58(p:Pm):Option OT:=some (.sub (a4p p.b0 a6c) 57 [])
noncomputable def sl59(p:Pm):Option OT:=some (.sub (a4o p.t0 (a5p 50)) 59 [])
noncomputable def sl60(p:Pm):Option OT:=some (.sub (a4o p.t0 (.inst 261 0)) 59 [])
noncomputable def sl61(p:Pm):Option OT:=some (.dictS [(y7,.t (.n 52)),(a5w,.t (.n 54)),(a3o,.sub (tvN p.t0) 55 [56,60])])
noncomputable def sl62(p:Pm):Option OT:=some (.idict [(a9,.v (.str b3f))])
noncomputable def sl63(p:Pm):Option OT:=some (.inst 190 62)
noncomputable def sl64(p:Pm):Option OT:=some (.idict [(O4,.v (.int 2)),(B6,.v (.int 0))])
noncomputable def sl65(p:Pm):Option OT:=some (.inst 261 64)
noncomputable def sl66(p:Pm):Option OT:=some (.sub (a4u p.t1 a6b) 66 [])
noncomputable def sl67(p:Pm):Option OT:=some (.sub (a4u p.t1 a6c) 66 [])
noncomputable def sl68(p:Pm):Option OT:=some (.sub (a4p p.b1 a6b) 68 [])
noncomputable def sl69(p:Pm):Option OT:=some (.sub (a4p p.b1 a6c) 68 [])
noncomputable def sl70(p:Pm):Option OT:=some (.sub (a4o p.t1 (a5p 51)) 70 [])
noncomputable def sl71(p:Pm):Option OT:=some (.sub (a4o p.t1 (.inst 261 0)) 70 [])
noncomputable def sl72(p:Pm):Option OT:=some (.dictS [(y7,.t (.n 63)),(a5w,.t (.n 65)),(a3o,.sub (tvN p.t1) 66 [67,71])])
noncomputable def sl73(p:Pm):Option OT:=some (.dictI [(10,.t (.tp [.v (.int 0),.n 27])),(9,.t (.tp [.v (.int 0),.n 32])),(1,.t (.tp [.v (.int 0),.n 28])),(2,.t (.tp [.v (.int 0),.n 29])),(20,c3m (J0 0 p.ne) (.tp [.v (.int 0),.n 38])),(21,c3m (J0 1 p.ne) (.tp [.v (.int 0),.n 44])),(22,c3m (J0 2 p.ne) (.tp [.v (.int 0),.n 50])),(50,behD p.b0 57 58),(3,.t (.tp [.v (.int 0),.n 61])),(51,behD p.b1 68 69),(4,.t (.tp [.v (.int 0),.n 72]))])
noncomputable def sl74(p:Pm):Option OT:=some (.idict [(O4,.v (.int 1)),(B6,.v (.int 0))])
noncomputable def sl75(p:Pm):Option OT:=some (.inst 261 74)
noncomputable def sl76(p:Pm):Option OT:=some (.dictS [(d2c,.t (.n 75))])
noncomputable def sl77(p:Pm):Option OT:=some (.idict [(a20,.n 73),(e95,.n 76)])
noncomputable def sl78(p:Pm):Option OT:=some (.inst 370 77)
noncomputable def sl79(p:Pm):Option OT:=some (.sub (K9 (p.m 0)) 79 [])
noncomputable def sl80(p:Pm):Option OT:=some (.sub (A9 (p.m 0)) 79 [])
noncomputable def sl81(p:Pm):Option OT:=some (.sub (K9 (p.m 1)) 81 [])
noncomputable def sl82(p:Pm):Option OT:=some (.sub (A9 (p.m 1)) 81 [])
noncomputable def sl83(p:Pm):Option OT:=some (.sub (K9 (p.m 2)) 83 [])
noncomputable def sl84(p:Pm):Option OT:=some (.sub (A9 (p.m 2)) 83 [])
noncomputable def sl85(p:Pm):Option OT:=some (.sub (K9 (p.m 3)) 85 [])
noncomputable def sl86(p:Pm):Option OT:=some (.sub (A9 (p.m 3)) 85 [])
noncomputable def sl87(p:Pm):Option OT:=some (.sub (K9 (p.m 4)) 87 [])
noncomputable def sl88(p:Pm):Option OT:=some (.sub (A9 (p.m 4)) 87 [])
noncomputable def sl89(p:Pm):Option OT:=some (.sub (K9 (p.m 5)) 89 [])
noncomputable def sl90(p:Pm):Option OT:=some (.sub (A9 (p.m 5)) 89 [])
noncomputable def sl91(p:Pm):Option OT:=some (.sub (K9 (p.m 6)) 91 [])
noncomputable def sl92(p:Pm):Option OT:=some (.sub (A9 (p.m 6)) 91 [])
noncomputable def sl93(p:Pm):Option OT:=some (.sub (K9 (p.m 7)) 93 [])
noncomputable def sl94(p:Pm):Option OT:=some (.sub (A9 (p.m 7)) 93 [])
noncomputable def sl95(p:Pm):Option OT:=some (.sub (K9 (p.m 8)) 95 [])
noncomputable def sl96(p:Pm):Option OT:=some (.sub (A9 (p.m 8)) 95 [])
noncomputable def Lo(p:Pm):B:=(.node (B0 md (sl0 p)) (.node (B0 md (sl1 p)) (.node (B0 md (sl3 p)) (.node (B0 md (sl7 p)) (.node (B0 md (a94 p)) (.node (B0 md (sl31 p)) (.node (B0 md (sl63 p)) .nil .nil) (.node (B0 md (sl95 p)) .nil .nil)) (.node (B0 md (sl47 p)) (.node (B0 md (sl79 p)) .nil .nil) .nil)) (.node (B0 md (sl23 p)) (.node (B0 md (sl39 p)) (.node (B0 md (sl71 p)) .nil .nil) .nil) (.node (B0 md (sl55 p)) (.node (B0 md (sl87 p)) .nil .nil) .nil))) (.node (B0 md (sl11 p)) (.node (B0 md (sl19 p)) (.node (B0 md (sl35 p)) (.node (B0 md (sl67 p)) .nil .nil) .nil) (.node (B0 md (sl51 p)) (.node (B0 md (sl83 p)) .nil .nil) .nil)) (.node (B0 md (sl27 p)) (.node (B0 md (sl43 p)) (.node (B0 md (sl75 p)) .nil .nil) .nil) (.node (B0 md (sl59 p)) (.node (B0 md (sl91 p)) .nil .nil) .nil)))) (.node (B0 md (sl5 p)) (.node (B0 md (sl9 p)) (.node (B0 md (sl17 p)) (.node (B0 md (sl33 p)) (.node (B0 md (sl65 p)) .nil .nil) .nil) (.node (B0 md (sl49 p)) (.node (B0 md (sl81 p)) .nil .nil) .nil)) (.node (B0 md (sl25 p)) (.node (B0 md (sl41 p)) (.node (B0 md (sl73 p)) .nil .nil) .nil) (.node (B0 md (sl57 p)) (.node (B0 md (sl89 p)) .nil .nil) .nil))) (.node (B0 md (a62 p)) (.node (B0 md (sl21 p)) (.node (B0 md (sl37 p)) (.node (B0 md (sl69 p)) .nil .nil) .nil) (.node (B0 md (sl53 p)) (.node (B0 md (sl85 p)) .nil .nil) .nil)) (.node (B0 md (sl29 p)) (.node (B0 md (sl45 p)) (.node (B0 md (sl77 p)) .nil .nil) .nil) (.node (B0 md (sl61 p)) (.node (B0 md (sl93 p)) .nil .nil) .nil))))) (.node (B0 md (sl2 p)) (.node (B0 md (sl4 p)) (.node (B0 md (sl8 p)) (.node (B0 md (sl16 p)) (.node (B0 md (sl32 p)) (.node (B0 md (sl64 p)) .nil .nil) (.node (B0 md (sl96 p)) .nil .nil)) (.node (B0 md (sl48 p)) (.node (B0 md (sl80 p)) .nil .nil) .nil)) (.node (B0 md (sl24 p)) (.node (B0 md (sl40 p)) (.node (B0 md (sl72 p)) .nil .nil) .nil) (.node (B0 md (sl56 p)) (.node (B0 md (sl88 p)) .nil .nil) .nil))) (.node (B0 md (sl12 p)) (.node (B0 md (sl20 p)) (.node (B0 md (sl36 p)) (.node (B0 md (sl68 p)) .nil .nil) .nil) (.node (B0 md (sl52 p)) (.node (B0 md (sl84 p)) .nil .nil) .nil)) (.node (B0 md (sl28 p)) (.node (B0 md (sl44 p)) (.node (B0 md (sl76 p)) .nil .nil) .nil) (.node (B0 md (sl60 p)) (.node (B0 md (sl92 p)) .nil .nil) .nil)))) (.node (B0 md (sl6 p)) (.node (B0 md (sl10 p)) (.node (B0 md (sl18 p)) (.node (B0 md (sl34 p)) (.node (B0 md (sl66 p)) .nil .nil) .nil) (.node (B0 md (sl50 p)) (.node (B0 md (sl82 p)) .nil .nil) .nil)) (.node (B0 md (sl26 p)) (.node (B0 md (sl42 p)) (.node (B0 md (sl74 p)) .nil .nil) .nil) (.node (B0 md (sl58 p)) (.node (B0 md (sl90 p)) .nil .nil) .nil))) (.node (B0 md (a63 p)) (.node (B0 md (sl22 p)) (.node (B0 md (sl38 p)) (.node (B0 md (sl70 p)) .nil .nil) .nil) (.node (B0 md (sl54 p)) (.node (B0 md (sl86 p)) .nil .nil) .nil)) (.node (B0 md (sl30 p)) (.node (B0 md (sl46 p)) (.node (B0 md (sl78 p)) .nil .nil) .nil) (.node (B0 md (sl62 p)) (.node (B0 md (sl94 p)) .nil .nil) .nil))))))
noncomputable def bSt(t:B):Prop:=∀R:Nat->Nat->Prop,(∀i,i < 256->R i i)->∀i o,t.get i=some o->V6 R o o
theorem G0:bSt .nil:=fun _ _ _ _ e=>D0 e
theorem H0(t:Option OT){l r:B}(hl:bSt l)(hr:bSt r):bSt (.node (B0 md t) l r):=fun R h i o e=>by
 rw[B.get_node] at e;by_cases h0:i=0
 ·rw[if_pos h0] at e
  refine R0 (a6a e) fun t' zz zy _=>?_;subst zz;subst zy;exact OT.rel ⟨h,fun j=>h _ (a02 j (by decide))⟩ t'
 ·rw[if_neg h0] at e
  by_cases h1:i % 2=1
  ·rw[if_pos h1] at e;exact hl R h _ o e
  ·rw[if_neg h1] at e;exact hr R h _ o e
theorem H4(p:Pm):C5 (Lo p):=(H0 (sl0 p) (H0 (sl1 p) (H0 (sl3 p) (H0 (sl7 p) (H0 (a94 p) (H0 (sl31 p) (H0 (sl63 p) G0 G0) (H0 (sl95 p) G0 G0)) (H0 (sl47 p) (H0 (sl79 p) G0 G0) G0)) (H0 (sl23 p) (H0 (sl39 p) (H0 (sl71 p) G0 G0) G0) (H0 (sl55 p) (H0 (sl87 p) G0 G0) G0))) (H0 (sl11 p) (H0 (sl19 p) (H0 (sl35 p) (H0 (sl67 p) G0 G0) G0) (H0 (sl51 p) (H0 (sl83 p) G0 G0) G0)) (H0 (sl27 p) (H0 (sl43 p) (H0 (sl75 p) G0 G0) G0) (H0 (sl59 p) (H0 (sl91 p) G0 G0) G0)))) (H0 (sl5 p) (H0 (sl9 p) (H0 (sl17 p) (H0 (sl33 p) (H0 (sl65 p) G0 G0) G0) (H0 (sl49 p) (H0 (sl81 p) G0 G0) G0)) (H0 (sl25 p) (H0 (sl41 p) (H0 (sl73 p) G0 G0) G0) (H0 (sl57 p) (H0 (sl89 p) G0 G0) G0))) (H0 (a62 p) (H0 (sl21 p) (H0 (sl37 p) (H0 (sl69 p) G0 G0) G0) (H0 (sl53 p) (H0 (sl85 p) G0 G0) G0)) (H0 (sl29 p) (H0 (sl45 p) (H0 (sl77 p) G0 G0) G0) (H0 (sl61 p) (H0 (sl93 p) G0 G0) G0))))) (H0 (sl2 p) (H0 (sl4 p) (H0 (sl8 p) (H0 (sl16 p) (H0 (sl32 p) (H0 (sl64 p) G0 G0) (H0 (sl96 p) G0 G0)) (H0 (sl48 p) (H0 (sl80 p) G0 G0) G0)) (H0 (sl24 p) (H0 (sl40 p) (H0 (sl72 p) G0 G0) G0) (H0 (sl56 p) (H0 (sl88 p) G0 G0) G0))) (H0 (sl12 p) (H0 (sl20 p) (H0 (sl36 p) (H0 (sl68 p) G0 G0) G0) (H0 (sl52 p) (H0 (sl84 p) G0 G0) G0)) (H0 (sl28 p) (H0 (sl44 p) (H0 (sl76 p) G0 G0) G0) (H0 (sl60 p) (H0 (sl92 p) G0 G0) G0)))) (H0 (sl6 p) (H0 (sl10 p) (H0 (sl18 p) (H0 (sl34 p) (H0 (sl66 p) G0 G0) G0) (H0 (sl50 p) (H0 (sl82 p) G0 G0) G0)) (H0 (sl26 p) (H0 (sl42 p) (H0 (sl74 p) G0 G0) G0) (H0 (sl58 p) (H0 (sl90 p) G0 G0) G0))) (H0 (a63 p) (H0 (sl22 p) (H0 (sl38 p) (H0 (sl70 p) G0 G0) G0) (H0 (sl54 p) (H0 (sl86 p) G0 G0) G0)) (H0 (sl30 p) (H0 (sl46 p) (H0 (sl78 p) G0 G0) G0) (H0 (sl62 p) (H0 (sl94 p) G0 G0) G0))))))
section
open PySem.W.Z (eqB)
noncomputable def k7(p:Pm)(n:Nat):Pm:={p with ne:=n}
noncomputable def sh:VT:=.v (.ref 78)
noncomputable def e8x:Str:=⟨#[99,111,110,116,101,110,116]⟩
noncomputable def a5y:Str:=⟨#[101,108,101,109,101,110,116]⟩
noncomputable def noF(_:FL)(_:S):List Nat:=[]
noncomputable def noL(_:List V)(_:S):List Nat:=[]
noncomputable def ctR(f:Nat)(as:List VT)(v:VT)(ns:List (Option OT)):Ct:=⟨.call f as,[],.rt v,[],ns⟩
noncomputable def rd(p:Pm)(f:Nat)(as:List VT)(v:V):Job:=⟨Lo p,ctR f as (.v v) [],noF⟩
noncomputable def argR(vs:List V)(k:Nat):Option Nat:=obd (nth vs k) G2
noncomputable def jm(js:List Job)(i:Nat):Option Ct:=obd (nth js i) fun j=>some j.t
noncomputable def c91(p:Pm):Job:=rd p 571 [sh] (.ref 27)
noncomputable def c8z(p:Pm):List Job:=rd p 583 [sh,.v (.ref 27)] (.ref 26)::F2 p.ne [rd p 583 [sh,.v (.ref 38)] (.ref 37),rd p 583 [sh,.v (.ref 44)] (.ref 43),rd p 583 [sh,.v (.ref 50)] (.ref 49)]
noncomputable def c92(p:Pm):List Job:=F2 p.ne [rd p 590 [sh,.v (.ref 21)] (.str a5y),rd p 590 [sh,.v (.ref 23)] (.str a5y),rd p 590 [sh,.v (.ref 25)] (.str a5y)]
noncomputable def c8y(p:Pm)(d:Nat):Job:=rd p 590 [sh,.v (iV d)] (.str e8x)
noncomputable def c94(p:Pm)(d:Nat):List Job:=c91 p::c8y p d::(c8z p++c92 p)
noncomputable def c08(b:Bool)(d:Nat)(p:Pm):List (List Sd):=mapL (Job.side 0 ct0 60 b) (c94 p d)
theorem run1(p:Pm)(d:Nat):mapL (fun n=>c08 true d (k7 p n)) [1,2,3]=mapL (fun n=>c08 false d (k7 p n)) [1,2,3]:=by kernel_rfl
noncomputable def mRoot(p:Pm)(_:List V)(_:S):Option Ct:=some (c91 p).t
noncomputable def e3y(p:Pm)(vs:List V)(_:S):Option Ct:=obd (argR vs 1) fun i=>jm (c8z p) (ifb (o0 i 27) 0 (Q0 (M1 (A2 i 34) 6)))
noncomputable def mSort(p:Pm)(vs:List V)(_:S):Option Ct:=obd (nth vs 1) fun v=>K0 (motive:=fun _=>Option Ct) (obd (G2 v) fun i=>jm (c92 p) (M1 (A2 i 21) 2)) (fun i=>W9 (motive:=fun _=>Option Ct) i (fun d=>some (c8y p d).t) fun _=>none) (J3 v)
noncomputable def b73(p:Pm):List Ent:=[⟨571,mRoot p,noL⟩,⟨583,e3y p,noL⟩,⟨590,mSort p,noL⟩]
structure Pm.Ok(p:Pm):Prop where
 ne:p.ne∈[1,2,3]
 d0:p.d0.length<=3
 d1:p.d1.length<=3
 d2:p.d2.length<=3
 e1:p.ne=1->p.d1=[]
 e2:p.ne=1∨p.ne=2->p.d2=[]
section
variable{C:Cx}{p:Pm}{c:Nat}{lo:B}
theorem e4l{α:Type}{F:Bool->Pm->α}(h:mapL (fun n=>F true (k7 p n)) [1,2,3]=mapL (fun n=>F false (k7 p n)) [1,2,3])(hn:p.ne∈[1,2,3]):F true p=F false p:=y0 h p.ne hn
theorem b8y{α:Type}{l:List α}{i:Nat}{a:α}(h:nth l i=some a):a∈l:=a6r ((Q6 l i)▸h)
theorem c93{js:List Job}{i:Nat}{t:Ct}(h:∀j∈js,CtOk C c lo j.t)(q:jm js i=some t):CtOk C c lo t:=by
 revert q;refine obE fun j h1 q=>?_;cases q;exact h j (b8y h1)
theorem b21(Dr:V0 C)(G:p.Ok)(d:Nat):∀j∈c94 p d,CtOk C 60 (Lo p) j.t:=fun j h=>by
 have e:j.lo=Lo p:=by
  have al:∀ {n:Nat} {l:List Job},(∀j∈l,j.lo=Lo p)->∀j∈F2 n l,j.lo=Lo p:=fun {n l} h=>by
   induction n generalizing l with
   |zero=>exact j1
   |succ n ih=>cases l with|nil=>exact j1|cons a l=>exact A1 (h a (B3 ..)) (ih fun j hj=>h j (C3 _ hj))
  rcases O0.mp h with rfl|h
  ·rfl
  rcases O0.mp h with rfl|h
  ·rfl
  rcases a4a.mp h with h|h
  ·rcases O0.mp h with rfl|h
   ·rfl
   ·exact al (A1 rfl (A1 rfl (Y0 rfl))) j h
  ·exact al (A1 rfl (A1 rfl (Y0 rfl))) j h
 exact e▸Job.ok Dr (c:=0) (ct:=ct0) A3 (e▸H4 p) (y0 (e4l (F:=fun b p=>c08 b d p) (run1 p d) G.ne) j h)
theorem c77(Dr:V0 C)(G:p.Ok):∀e∈b73 p,Y4 C 60 (Lo p) e:=A1 (fun vs x t q=>by cases q;exact b21 Dr G 0 _ (B3 ..)) <|
 A1 (fun vs x t q=>yea (W7 q) fun i _ q=>c93 (fun j hj=>b21 Dr G 0 j (C3 _ (C3 _ (a0z _ hj)))) q) <|Y0 fun vs x t q=>by
  revert q;refine obE fun v _ q=>?_;cases hv:J3 v with
  |none=>
   rw[hv] at q;revert q;refine obE fun i _ q=>?_;exact c93 (fun j hj=>b21 Dr G 0 j (C3 _ (C3 _ (a2k _ hj)))) q
  |some i=>
   rw[hv] at q;cases i with
   |ofNat d=>cases q;exact b21 Dr G d _ (C3 _ (B3 ..))
   |negSucc d=>exact D0 q
end
end
noncomputable def c0e:Str:=⟨#[114,101,102,101,114,101,110,99,101]⟩
noncomputable def e8y:Str:=⟨#[100,101,112,116,104]⟩
noncomputable def e8w:Str:=⟨#[97,98,111,118,101]⟩
noncomputable def c0a:Str:=⟨#[102,105,101,108,100,115]⟩
noncomputable def ofO{α:Type}(o:Option α)(d:α):α:=W1 o id d
noncomputable def M0(v:V):Nat:=ofO (G2 v) 0
noncomputable def S8(x:S)(v:V):List V:=ofO (x.list (M0 v)) []
noncomputable def b91(o:O):Option Nat:=O.casesOn (motive:=fun _=>Option Nat) o (fun _=>none) (fun _=>none) (fun _=>none) (fun _=>none) (fun _=>none) (fun _=>none) (fun _ d=>some d) (fun _=>none) (fun _ _=>none) (fun _ _=>none) (fun _ _ _=>none) (fun _ _ _=>none) (fun _ _=>none) (fun _ _=>none) (fun _ _ _=>none) (fun _ _=>none) fun _=>none
noncomputable def a0d(x:S)(v:V):Nat:=ofO (obd (x.get (M0 v)) b91) 0
noncomputable def b5s(x:S)(v:V)(n:Str):V:=ofO (obd (x.idict (a0d x v)) fun es=>lk es n) .none
noncomputable def O9(f:FL):V:=FL.casesOn (motive:=fun _=>V) f .none .none .none id
noncomputable def a0b(f:V->List Nat)(l:List V):List Nat:=E0 (motive:=fun _=>List Nat) [] (fun a _ ih=>f a++ih) l
noncomputable def elLf(f:FL)(x:S):List Nat:=M0 (O9 f)::a0b (fun v=>[a0d x v,M0 v]) (S8 x (O9 f))
noncomputable def b7(r h:Nat):OT:=.idict [(c0e,.v (.ref r)),(c0b,.v (.ref h)),(e8y,.v (.int 0)),(e8w,.v (.int (-1)))]
noncomputable def elTs(ne:Nat):List (Option OT):=some (.list (F2 ne [.n 2,.n 4,.n 6]))::F2 (w0 ne ne) [some (b7 21 38),some (.inst 560 1),some (b7 23 44),some (.inst 560 3),some (b7 25 50),some (.inst 560 5)]
noncomputable def b7x(p:Pm):Job:=⟨Lo p,ctR 602 [sh] (.n 0) (elTs p.ne),elLf⟩
noncomputable def d59(p:Pm)(n:Nat)(d0 d1 d2:List Nat):Pm:={p with ne:=n,d0:=d0,d1:=d1,d2:=d2}
noncomputable def a1c(b:Bool)(p:Pm):List Sd:=(b7x p).side 60 (ctG (Lo p) (b73 p) [] []) 160 b
noncomputable def C4:List Nat:=[0,1,2,3]
noncomputable def elC(p:Pm)(n:Nat)(a:Nat->Nat)(i j k:Nat):Pm:=d59 p n (F2 i [a 0,a 1,a 2]) (F2 j [a 3,a 4,a 5]) (F2 k [a 6,a 7,a 8])
theorem d9i(p:Pm)(a:Nat->Nat):mapL (fun i=>a1c true (elC p 1 a i 0 0)) C4=mapL (fun i=>a1c false (elC p 1 a i 0 0)) C4:=by kernel_rfl
theorem d9j(p:Pm)(a:Nat->Nat):mapL (fun i=>mapL (fun j=>a1c true (elC p 2 a i j 0)) C4) C4=mapL (fun i=>mapL (fun j=>a1c false (elC p 2 a i j 0)) C4) C4:=by kernel_rfl
theorem d9k(p:Pm)(a:Nat->Nat):mapL (fun i=>mapL (fun j=>mapL (fun k=>a1c true (elC p 3 a i j k)) C4) C4) C4=mapL (fun i=>mapL (fun j=>mapL (fun k=>a1c false (elC p 3 a i j k)) C4) C4) C4:=by kernel_rfl
theorem a66{α:Type}{f:Nat->α}:∀ {l:List α},l.length<=3->(∀i a,l[i]? =some a->f i=a)->F2 l.length [f 0,f 1,f 2]=l
 | [],_,_=>rfl
 | [a],_,h=>by rw[h 0 a rfl];rfl
 | [a,b],_,h=>by rw[h 0 a rfl,h 1 b rfl];rfl
 | [a,b,c],_,h=>by rw[h 0 a rfl,h 1 b rfl,h 2 c rfl];rfl
 |_::_::_::_::l,h,_=>absurd h (a12.mpr (a9w 4 l.length))
theorem a5h:∀ {l:List Nat} {i a:Nat},l[i]? =some a->nthD l i=a
 | [],_,_,h=>D0 h
 |_::_,0,_,h=>C0 h
 |_::l,i+1,_,h=>a5h (l:=l) h
theorem le4{n:Nat}(h:n<=3):n∈C4:=by
 have:∀n,n < 4->n∈[0,1,2,3]:=by decide
 exact this n (a2o h)
noncomputable def a4t(p:Pm)(i:Nat):Nat:=nthD [nthD p.d0 0,nthD p.d0 1,nthD p.d0 2,nthD p.d1 0,nthD p.d1 1,nthD p.d1 2,nthD p.d2 0,nthD p.d2 1,nthD p.d2 2] i
theorem d9a{p:Pm}(G:p.Ok):elC p p.ne (a4t p) p.d0.length p.d1.length p.d2.length=p:=by
 show d59 p p.ne (F2 p.d0.length [nthD p.d0 0,nthD p.d0 1,nthD p.d0 2]) (F2 p.d1.length [nthD p.d1 0,nthD p.d1 1,nthD p.d1 2]) (F2 p.d2.length [nthD p.d2 0,nthD p.d2 1,nthD p.d2 2])=p;rw[a66 G.d0 fun _ _=>a5h,a66 G.d1 fun _ _=>a5h,a66 G.d2 fun _ _=>a5h];rfl
theorem d9l{p:Pm}(G:p.Ok):a1c true p=a1c false p:=by
 have e:=d9a G;have run:=y0 (y0 (y0 (d9k p (a4t p)) _ (le4 G.d0)) _ (le4 G.d1)) _ (le4 G.d2);rcases O0.mp G.ne with h|h
 ·rw[h,G.e1 h,G.e2 (.inl h)] at e
  have run:=y0 (d9i p (a4t p)) _ (le4 G.d0);rw[show elC p 1 (a4t p) p.d0.length 0 0=p from e] at run;exact run
 rcases O0.mp h with h|h
 ·rw[h,G.e2 (.inr h)] at e
  have run:=y0 (y0 (d9j p (a4t p)) _ (le4 G.d0)) _ (le4 G.d1);rw[show elC p 2 (a4t p) p.d0.length p.d1.length 0=p from e] at run;exact run
 ·rw[S4.mp h] at e
  rw[e] at run;exact run
noncomputable def a7m(p:Pm):Ent:=⟨602,fun _ _=>some (b7x p).t,noL⟩
noncomputable def pgD(a b:Nat)(o:DT):OT:=.dictS [(y7,.o (some (.ref a))),(a5w,.o (some (.ref b))),(a3o,o)]
noncomputable def pgO(p:Pm)(a:Nat):OT:=ifb (o0 a 0) (pgD 52 54 (.sub (tvN p.t0) (w0 1000 55) [w0 1000 56,w0 1000 60])) (pgD 63 65 (.sub (tvN p.t1) (w0 1000 66) [w0 1000 67,w0 1000 71]))
noncomputable def pgF(r j:Nat):OT:=.idict [(c0e,.v (.ref r)),(c0a,.n j)]
noncomputable def pgTs(p:Pm):List (Option OT):=[some (.list [.n 3,.n 6]),some (pgO p 0),some (pgF 9 1),some (.inst 390 2),some (pgO p 1),some (pgF 11 4),some (.inst 390 5)]
noncomputable def pgLf(f:FL)(x:S):List Nat:=M0 (O9 f)::a0b (fun v=>[M0 (b5s x v c0a),a0d x v,M0 v]) (S8 x (O9 f))
noncomputable def b1y(p:Pm):Job:=⟨Lo p,ctR 467 [sh] (.n 0) (pgTs p),pgLf⟩
theorem e6t(p:Pm):(b1y p).side 0 ct0 160 true=(b1y p).side 0 ct0 160 false:=by kernel_rfl
noncomputable def a7n(p:Pm):Ent:=⟨467,fun _ _=>some (b1y p).t,noL⟩
noncomputable def plO:OT:=.dI [(3,some (.int 0)),(4,some (.int 1))]
noncomputable def a1t(f:FL)(_:S):List Nat:=[M0 (O9 f)]
noncomputable def b1z(p:Pm):Job:=⟨Lo p,ctR 576 [sh] (.n 0) [some plO],a1t⟩
theorem e6x(p:Pm):(b1z p).side 160 (ctG (Lo p) [a7n p] [] []) 240 true=(b1z p).side 160 (ctG (Lo p) [a7n p] [] []) 240 false:=by kernel_rfl
noncomputable def enPl(p:Pm):Ent:=⟨576,fun _ _=>some (b1z p).t,noL⟩
section
variable{C:Cx}{p:Pm}{c:Nat}
theorem Y4.of{k:Nat}{t:Ct}{L:List V->S->List Nat}{lo:B}(h:CtOk C c lo t):Y4 C c lo ⟨k,fun _ _=>some t,L⟩:=fun vs x t' q=>by cases q;exact h
theorem b13(Dr:V0 C)(G:p.Ok):Y4 C 160 (Lo p) (a7m p):=.of (Job.ok (j:=b7x p) Dr (i6 (c77 Dr G) j1 j1) (H4 p) (d9l G))
theorem b9c(Dr:V0 C):Y4 C 160 (Lo p) (a7n p):=.of (Job.ok (j:=b1y p) Dr (c:=0) (ct:=ct0) A3 (H4 p) (e6t p))
theorem pl_ok(Dr:V0 C):Y4 C 240 (Lo p) (enPl p):=.of (Job.ok (j:=b1z p) Dr (i6 (Y0 (b9c Dr)) j1 j1) (H4 p) (e6x p))
end
section
open PySem.W.Z (eqB)
noncomputable def b48(p:Pm)(c:Nat):Pm:={p with c:=c}
noncomputable def prR(i:Int)(j:Nat):V:=.tup [.int i,.ref j]
noncomputable def b20(p:Pm):Job:=⟨Lo p,ctR 512 [sh,.v (.ref 17),.v (.str b3e)] (.n 0) [some (.lst (F2 p.c [prR 0 13,prR 1 14,prR 2 15]))],a1t⟩
theorem f1p(p:Pm):mapL (fun c=>(b20 (b48 p c)).side 0 ct0 160 true) C4=mapL (fun c=>(b20 (b48 p c)).side 0 ct0 160 false) C4:=by kernel_rfl
noncomputable def enTp(p:Pm):Ent:=⟨512,fun _ _=>some (b20 p).t,noL⟩
noncomputable def a3q:Str:=⟨#[115,104,101,108,102]⟩
noncomputable def e91:Str:=⟨#[114,111,111,116]⟩
noncomputable def a1z:Str:=⟨#[114,111,119,115]⟩
noncomputable def b3i:Str:=⟨#[102,111,117,110,100]⟩
noncomputable def k6:Str:=⟨#[97,116]⟩
noncomputable def Y8:Str:=⟨#[112,97,103,101]⟩
noncomputable def m6:Str:=⟨#[107,101,121]⟩
noncomputable def a90:Str:=⟨#[114,111,119]⟩
noncomputable def e97:Str:=⟨#[118,97,108,117,101]⟩
noncomputable def fnE(a:Nat):AE:=W1 (Pfn a) (fun fi=>⟨fi.scope,0,[],fi.qual++ ".<locals>.",some a,fi.code,some 0⟩) ⟨⟨.function,[],false,false,[]⟩,0,[],⟨#[]⟩,none,.none,none⟩
noncomputable def E4(a:Nat):List Stmt:=W1 (Pfn a) (fun fi=>fi.body) []
noncomputable def a34(l:List Stmt):List Stmt:=E0 (motive:=fun _=>List Stmt) [] (fun s _ ih=>match s with| .For _ _ b _ _=>b|_=>ih) l
noncomputable def cN(p:Pm)(c:Option Nat):Option Int:=W1 c (fun i=>ifb (U0 80 i) (p.m (M1 (A2 i 80) 2)) (some (.ofNat (w0 20 (M1 (A2 i 21) 2))))) none
noncomputable def slot(a i:Nat):Nat:=w0 (C1 3 a) i
noncomputable def sixC(a i:Nat)(n:Option Int)(q:Nat->So)(j:Nat):So:=ifb (o0 j (slot a i)) (W1 n So.int (q j)) (q j)
noncomputable def f1n(a:Nat)(ext:List (Str×VT)):OT:=.ns ((a3q,sh)::(e91,.v (.ref 17))::(a1z,.n 2)::(b3i,.n 1)::(k6,.v (iV a))::(Y8,.n 3)::ext)
noncomputable def exT(k r:V)(tl:Option (V×V)):List (Str×VT):=(m6,.v k)::(a90,.v r)::W1 tl (fun nv=>[(O4,.v nv.1),(e97,.v nv.2)]) []
noncomputable def d1n(c:Nat):List (Int×Option V):=F2 c [(0,some (.ref 13)),(1,some (.ref 14)),(2,some (.ref 15))]
noncomputable def pgRef(a:Nat):Nat:=ifb (o0 a 0) 9 11
noncomputable def tpS(p:Pm)(a:Nat)(q:Nat->So)(ext:List (Str×VT)):List OT:=[f1n a ext,.six q,.dI (d1n p.c),.inst 390 4,pgF (pgRef a) 5,pgO p a]
noncomputable def c3e:List Stmt:=a34 (E4 672)
noncomputable def d4e:List Stmt:=a34 c3e
noncomputable def b0r(p:Pm)(a i:Nat)(c:Option Nat)(q:Nat->So)(k r:V):Ct:=⟨.sts d4e (fnE 672),tpS p a q (exT k r (some (iV i,cV c))),.nx,tpS p a (sixC a i (cN p c) q) (exT k r (some (iV i,cV c))),[]⟩
noncomputable def a5u(b:Bool)(q:Nat->So)(k r:V)(p:Pm)(c:Option Nat)(a:Nat×Nat):List Sd:=Job.side 0 ct0 60 b ⟨Lo p,b0r p a.1 a.2 c q k r,noF⟩
noncomputable def b4a(p:Pm)(j:Nat)(n:Int):Pm:={p with m:=fun i=>ifb (o0 i j) (some n) (p.m i)}
noncomputable def ats:List (Nat×Nat):=[(0,0),(0,1),(0,2),(1,0),(1,1),(1,2)]
noncomputable def rrC(j:Nat):Option Nat:=some (w0 80 (C1 2 j))
noncomputable def krC(j:Nat):Option Nat:=some (w0 21 (C1 2 j))
noncomputable def len9:List Nat:=[0,1,2,3,4,5,6,7,8]
noncomputable def nks:List (Nat×Nat):=[(1,0),(2,0),(2,1),(3,0),(3,1),(3,2)]
theorem d7f(p:Pm)(q:Nat->So)(k r:V):mapL (a5u true q k r p none) ats=mapL (a5u false q k r p none) ats:=by kernel_rfl
theorem d7h(p:Pm)(n:Int)(q:Nat->So)(k r:V):mapL (fun j=>mapL (a5u true q k r (b4a p j n) (rrC j)) ats) len9=mapL (fun j=>mapL (a5u false q k r (b4a p j n) (rrC j)) ats) len9:=by kernel_rfl
theorem d7e(p:Pm)(q:Nat->So)(k r:V):mapL (fun j=>mapL (a5u true q k r (k7 p j.1) (krC j.2)) ats) nks=mapL (fun j=>mapL (a5u false q k r (k7 p j.1) (krC j.2)) ats) nks:=by kernel_rfl
noncomputable def Z5(p:Pm)(c:Option Nat):Prop:=c=none∨(∃j n,j∈len9/\c=rrC j/\p.m j=some n)∨∃j,(p.ne,j)∈nks/\c=krC j
theorem d6l:∀a,a < 2->∀i,i < 3->(a,i)∈ats:=by unfold ats;decide
section
variable{C:Cx}{p:Pm}{c:Nat}
theorem f2e{j:Nat}{n:Int}(h:p.m j=some n):b4a p j n=p:=by
 have:(fun i=>ifb (o0 i j) (some n) (p.m i))=p.m:=by
  funext d
  cases q:o0 d j with
  |true=>refine rE (V1 q) ?_;exact h.symm
  |false=>rfl
 unfold b4a;exact rE this rfl
theorem tp_ok(Dr:V0 C)(hc:p.c<=3):Y4 C 160 (Lo p) (enTp p):=.of (Job.ok (j:=b20 p) Dr (c:=0) (ct:=ct0) A3 (H4 p) (y0 (f1p p) p.c (le4 hc)))
theorem d7g(Dr:V0 C){a i:Nat}{c:Option Nat}{q:Nat->So}{k r:V}(ha:a < 2)(hi:i < 3)(hc:Z5 p c):CtOk C 60 (Lo p) (b0r p a i c q k r):=by
 refine Job.ok (j:=⟨Lo p,b0r p a i c q k r,noF⟩) Dr (c:=0) (ct:=ct0) A3 (H4 p) ?_;have hm:=d6l a ha i hi;rcases hc with rfl| ⟨j,n,hj,rfl,hn⟩ | ⟨j,hj,rfl⟩
 ·exact y0 (d7f p q k r) (a,i) hm
 ·have:=y0 (y0 (d7h p n q k r) j hj) (a,i) hm
  rw[f2e hn] at this;exact this
 ·exact y0 (y0 (d7e p q k r) (p.ne,j) hj) (a,i) hm
end
end
section
open PySem.W.Z (eqB)
noncomputable def wayF(w s0 s1:Nat):V:=ofO (nth [V.int 0,.int 1,.int 2,.int 7,.bool true,.bool false,.ref s0,.ref s0,.ref s0,.ref s0,.ref s1,.ref s1,.ref s1,.ref 32,.none] w) .none
noncomputable def tvF(t:TV)(b:Option Nat)(s0 s1 z0 z1:Nat):V:=tvB t .none (fun w=>wayF w s0 s1) (W1 b (fun w=>wayF w z0 z1) .none)
noncomputable def keyV(p:Pm)(a:Nat):V:=ifb (o0 a 0) (tvF p.t0 p.b0 55 56 57 58) (tvF p.t1 p.b1 66 67 68 69)
noncomputable def a8u(p:Pm)(a:Nat):V:=W1 (J3 (keyV p a)) (fun i=>ofO (y6 eqB (d1n p.c) i) .none) .none
noncomputable def rowO(p:Pm)(a:Nat):List (Option Nat):=W1 (G2 (a8u p a)) (fun i=>ofO (nth [p.r0,p.r1,p.r2] (A2 i 13)) []) []
noncomputable def d9(p:Pm)(a:Nat)(l:List (Option Nat)):Nat->(Nat->So)->Nat->So:=E0 (motive:=fun _=>Nat->(Nat->So)->Nat->So) (fun _ q=>q) (fun c _ ih i q=>ih (Q0 i) (sixC a i (cN p c) q)) l
noncomputable def J9(l:List (Option Nat))(i:Nat):Option Nat:=ofO (nth l i) none
noncomputable def lastC(l:List (Option Nat)):Option Nat->Option Nat:=E0 (motive:=fun _=>Option Nat->Option Nat) id (fun c _ ih _=>ih c) l
noncomputable def tlS(tl:Option (V×V))(l:List (Option Nat)):Option (V×V):=Y2 (motive:=fun _=>Option (V×V)) l tl fun c l=>some (iV l.length,cV (lastC l c))
noncomputable def exO(o:Option (V×V))(tl:Option (V×V)):List (Str×VT):=W1 o (fun kr=>exT kr.1 kr.2 tl) []
noncomputable def nsN(e:V)(x:S)(n:Str):V:=ofO (obd (obd (x.get (M0 e)) oNs) fun es=>lk es n) .none
noncomputable def hd(vs:List V):V:=ofO (nth vs 0) .none
noncomputable def D4(v:V):Nat:=ofO (a1n v) 9
noncomputable def tpL(vs:List V)(x:S):List Nat:=[M0 (hd vs),M0 (nsN (hd vs) x b3i),M0 (nsN (hd vs) x a1z),M0 (nsN (hd vs) x Y8),a0d x (nsN (hd vs) x Y8),M0 (b5s x (nsN (hd vs) x Y8) c0a)]
noncomputable def mCell(p:Pm)(a:Nat)(q:Nat->So)(vs:List V)(x:S):Option Ct:=(fun i=>ifb (J0 i 3) (some (b0r p a i (J9 (rowO p a) i) (d9 p a (F2 i (rowO p a)) 0 q) (keyV p a) (a8u p a))) none) (D4 (nsN (hd vs) x O4))
noncomputable def d9n(p:Pm)(a:Nat)(q:Nat->So):Ent:=⟨C7 d4e,mCell p a q,tpL⟩
noncomputable def ctB(p:Pm)(a:Nat)(q q':Nat->So)(o:Option (V×V))(tl tl':Option (V×V)):Ct:=⟨.sts c3e (fnE 672),tpS p a q (exO o tl),.nx,tpS p a q' (exT (keyV p a) (a8u p a) tl'),[]⟩
noncomputable def b6f(p:Pm)(a:Nat)(q:Nat->So)(o:Option (V×V))(tl:Option (V×V)):Ct:=ctB p a q (d9 p a (rowO p a) 0 q) o tl (tlS tl (rowO p a))
noncomputable def b3d(b:Bool)(q:Nat->So)(p:Pm)(o:Nat×Option (V×V)×Option (V×V)):List Sd:=Job.side 60 (ctG (Lo p) [] [d9n p o.1 q] []) 120 b ⟨Lo p,b6f p o.1 q o.2.1 o.2.2,noF⟩
noncomputable def pC(p:Pm)(a:Nat)(t:TV)(b:Option Nat)(c:Nat):Pm:=ifb (o0 a 0) {p with t0:=t,b0:=b,c:=c} {p with t1:=t,b1:=b,c:=c}
noncomputable def pR(p:Pm)(n:Nat)(l:List (Option Nat)):Pm:=ifb (o0 n 0) {p with r0:=l} (ifb (o0 n 1) {p with r1:=l} (ifb (o0 n 2) {p with r2:=l} p))
noncomputable def a8m(kr nv:V×V):List (Nat×Option (V×V)×Option (V×V)):=[(0,none,none),(1,some kr,none),(1,some kr,some nv)]
noncomputable def a1l:List Nat:=[4,5,6,7,8,9,10,11,12,13,14]
noncomputable def a5t(s:Bool)(p:Pm)(b:Option Nat)(q:Nat->So)(kr nv:V×V)(t:TV):List (List Sd):=mapL (fun o=>b3d s q (pC p o.1 t b p.c) o) (a8m kr nv)
theorem e8i(p:Pm)(b:Option Nat)(q:Nat->So)(kr nv:V×V):a5t true p b q kr nv .no=a5t false p b q kr nv .no:=by kernel_rfl
theorem e8h(p:Pm)(b:Option Nat)(q:Nat->So)(kr nv:V×V):mapL (fun w=>a5t true p b q kr nv (.dir w)) a1l=mapL (fun w=>a5t false p b q kr nv (.dir w)) a1l:=by kernel_rfl
theorem e8g(p:Pm)(q:Nat->So)(kr nv:V×V):mapL (fun w=>a5t true p (some w) q kr nv .beh) a1l=mapL (fun w=>a5t false p (some w) q kr nv .beh) a1l:=by kernel_rfl
noncomputable def wcs:List (Nat×Nat):=[(0,3),(1,3),(2,3),(3,3),(0,1),(0,2),(1,2)]
noncomputable def runI(s:Bool)(p:Pm)(t:TV)(b:Option Nat)(c:Nat->Option Nat)(q:Nat->So)(kr nv:V×V)(w:Nat×Nat):List (List (List Sd)):=mapL (fun o=>mapL (fun l=>b3d s q (pR (pC p o.1 t b w.2) w.1 (F2 l [c 0,c 1,c 2])) o) C4) (a8m kr nv)
theorem e8e(p:Pm)(b:Option Nat)(c:Nat->Option Nat)(q:Nat->So)(kr nv:V×V):mapL (fun w=>runI true p (.dir w.1) b c q kr nv w) wcs=mapL (fun w=>runI false p (.dir w.1) b c q kr nv w) wcs:=by kernel_rfl
theorem e8f(p:Pm)(c:Nat->Option Nat)(q:Nat->So)(kr nv:V×V):mapL (fun w=>runI true p .beh (some w) c q kr nv (w,3)) C4=mapL (fun w=>runI false p .beh (some w) c q kr nv (w,3)) C4:=by kernel_rfl
noncomputable def TVOk(c:Nat)(t:TV)(b:Option Nat):Prop:=t=.no∨(∃w,(w,c)∈wcs/\t=.dir w)∨(∃w,w∈a1l/\t=.dir w)∨(∃w,(w,c)∈wcs/\w∈C4/\c=3/\t=.beh/\b=some w)∨∃w,w∈a1l/\t=.beh/\b=some w
structure Pm.Okt(p:Pm):Prop where
 c0:∀c∈p.r0,Z5 p c
 c1:∀c∈p.r1,Z5 p c
 c2:∀c∈p.r2,Z5 p c
 l0:p.r0.length<=3
 l1:p.r1.length<=3
 l2:p.r2.length<=3
 c:p.c<=3
 v0:TVOk p.c p.t0 p.b0
 v1:TVOk p.c p.t1 p.b1
noncomputable def tA(p:Pm)(a:Nat):TV:=ifb (o0 a 0) p.t0 p.t1
noncomputable def bA(p:Pm)(a:Nat):Option Nat:=ifb (o0 a 0) p.b0 p.b1
noncomputable def rW(p:Pm)(w:Nat):List (Option Nat):=ifb (o0 w 0) p.r0 (ifb (o0 w 1) p.r1 (ifb (o0 w 2) p.r2 []))
section
variable{C:Cx}{p:Pm}
theorem pC_id(p:Pm)(a:Nat):pC p a (tA p a) (bA p a) p.c=p:=by unfold pC tA bA;cases o0 a 0 <;>rfl
theorem pR_id(p:Pm)(w:Nat):pR p w (rW p w)=p:=by unfold pR rW;cases o0 w 0 <;>first|rfl| (cases o0 w 1 <;>first|rfl| (cases o0 w 2 <;>rfl))
theorem b9s(G:p.Okt)(w:Nat):(rW p w).length<=3:=by
 unfold rW;cases o0 w 0 with
 |true=>exact G.l0
 |false=>cases o0 w 1 with|true=>exact G.l1|false=>cases o0 w 2 with|true=>exact G.l2|false=>exact D5 3
theorem e50{l:List (Option Nat)}{i:Nat}{c:Option Nat}(h:l[i]? =some c):J9 l i=c:=by unfold J9;rw[Q6,h];rfl
theorem d6v(G:p.Okt){a:Nat}{o tl:Option (V×V)}{kr nv:V×V}{q:Nat->So}(ho:(a,o,tl)∈a8m kr nv):b3d true q p (a,o,tl)=b3d false q p (a,o,tl):=by
 have T:TVOk p.c (tA p a) (bA p a):=by unfold tA bA;cases o0 a 0 with|true=>exact G.v0|false=>exact G.v1
 have e:=pC_id p a;have e2:∀w,pR p w (F2 (rW p w).length [J9 (rW p w) 0,J9 (rW p w) 1,J9 (rW p w) 2])=p:=fun w=>by rw[a66 (b9s G w) fun _ _=>e50,pR_id]
 rcases T with ht| ⟨w,hw,ht⟩ | ⟨w,hw,ht⟩ | ⟨w,_,hw,hc,ht,hb⟩ | ⟨w,hw,ht,hb⟩
 ·have:=y0 (e8i p (bA p a) q kr nv) _ ho
  rw[<-ht,e] at this;exact this
 ·have:=y0 (y0 (y0 (e8e p (bA p a) (J9 (rW p w)) q kr nv) (w,p.c) hw) _ ho) _ (le4 (b9s G w))
  rw[<-ht,e,e2] at this;exact this
 ·have:=y0 (y0 (e8h p (bA p a) q kr nv) w hw) _ ho
  rw[<-ht,e] at this;exact this
 ·have:=y0 (y0 (y0 (e8f p (J9 (rW p w)) q kr nv) w hw) _ ho) _ (le4 (b9s G w))
  rw[<-ht,<-hb,show ((w,3):Nat×Nat).2=p.c from hc.symm,e,e2] at this;exact this
 ·have:=y0 (y0 (e8g p q kr nv) w hw) _ ho
  rw[<-hb,<-ht,e] at this;exact this
theorem e7v(G:p.Okt)(a:Nat):∀c∈rowO p a,Z5 p c:=fun c hc=>by
 unfold rowO at hc;cases h:G2 (a8u p a) with
 |none=>rw[h] at hc;exact absurd hc G1
 |some i=>
  rw[h] at hc;have hc:c∈ofO (nth [p.r0,p.r1,p.r2] (A2 i 13)) []:=hc;cases h2:nth [p.r0,p.r1,p.r2] (A2 i 13) with
  |none=>rw[h2] at hc;exact absurd hc G1
  |some l=>
   rw[h2] at hc;exact A1 (P:=fun l=>∀c∈l,Z5 p c) G.c0 (A1 G.c1 (Y0 G.c2)) l (b8y h2) c hc
theorem e51{l:List (Option Nat)}(i:Nat)(h:∀c∈l,Z5 p c):Z5 p (J9 l i):=by
 unfold J9;cases q:nth l i with
 |none=>exact .inl rfl
 |some c=>exact h c (b8y q)
theorem c4u(Dr:V0 C)(G:p.Okt){a:Nat}{q:Nat->So}{o tl:Option (V×V)}{kr nv:V×V}(ho:(a,o,tl)∈a8m kr nv):CtOk C 120 (Lo p) (b6f p a q o tl):=by
 have ha:a < 2:=by
  have:∀x∈a8m kr nv,x.1 < 2:=A1 (show 0 < 2 by decide) (A1 (show 1 < 2 by decide) (Y0 (show 1 < 2 by decide)));exact this _ ho
 refine Job.ok (j:=⟨Lo p,b6f p a q o tl,noF⟩) Dr (i6 j1 (Y0 fun vs x t h=>?_) j1) (H4 p) (d6v G ho);refine ifE (fun h1 h=>?_) (show ifb (J0 (D4 (nsN (hd vs) x O4)) 3) (some _) none=some t from h);cases h;exact d7g Dr ha (B4 h1) (e51 _ (e7v G a))
end
end
noncomputable def noQ(_:Nat):So:=.no
noncomputable def kr0(p:Pm):V×V:=(keyV p 0,a8u p 0)
noncomputable def mBody(p:Pm)(q1 q2:Nat->So)(tl1 tl2:Option (V×V))(vs:List V)(x:S):Option Ct:=(fun i=>ifb (o0 i 0) (some (ctB p 0 noQ q1 none none tl1)) (ifb (o0 i 1) (some (ctB p 1 q1 q2 (some (kr0 p)) tl1 tl2)) none)) (D4 (nsN (hd vs) x k6))
noncomputable def a87(p:Pm)(f:Nat)(q:Nat->So):Job:=⟨Lo p,ctR f [sh] (.n 0) [some (.six q)],a1t⟩
noncomputable def q8(p:Pm)(f:Nat)(q:Nat->So):Ent:=⟨f,fun _ _=>some (a87 p f q).t,noL⟩
noncomputable def d27(b:Bool)(q1 q2:Nat->So)(tl2:Option (V×V))(p:Pm)(tl1:Option (V×V)):List Sd:=(a87 p 672 q2).side 160 (ctG (Lo p) [enTp p,a7n p] [⟨C7 c3e,mBody p q1 q2 tl1 tl2,tpL⟩] []) 240 b
theorem f1m(p:Pm)(q1 q2:Nat->So)(tl2:Option (V×V))(nv:V×V):mapL (fun c=>mapL (d27 true q1 q2 tl2 (b48 p c)) [none,some nv]) C4=mapL (fun c=>mapL (d27 false q1 q2 tl2 (b48 p c)) [none,some nv]) C4:=by kernel_rfl
noncomputable def tq1(p:Pm):Nat->So:=d9 p 0 (rowO p 0) 0 noQ
noncomputable def tl1(p:Pm):Option (V×V):=tlS none (rowO p 0)
noncomputable def tq2(p:Pm):Nat->So:=d9 p 1 (rowO p 1) 0 (tq1 p)
noncomputable def tl2(p:Pm):Option (V×V):=tlS (tl1 p) (rowO p 1)
section
variable{C:Cx}{p:Pm}
theorem b2v{α:Type}(d:α)(o:Option α):o∈[none,some (o.getD d)]:=by
 cases o with
 |none=>exact B3 ..
 |some a=>exact C3 _ (B3 ..)
theorem d4a(Dr:V0 C)(G:p.Okt):Y4 C 240 (Lo p) (q8 p 672 (tq2 p)):=.of (by
 refine Job.ok (j:=a87 p 672 (tq2 p)) Dr (i6 (A1 (tp_ok Dr G.c) (Y0 (b9c Dr))) (Y0 fun vs x t h=>?_) j1) (H4 p) (y0 (y0 (f1m p (tq1 p) (tq2 p) (tl2 p) ((tl1 p).getD (.none,.none))) p.c (le4 G.c)) (tl1 p) (b2v _ _));have nv:V×V:=(.none,.none);have h:ifb (o0 (D4 (nsN (hd vs) x k6)) 0) (some (ctB p 0 noQ (tq1 p) none none (tl1 p))) (ifb (o0 (D4 (nsN (hd vs) x k6)) 1) (some (ctB p 1 (tq1 p) (tq2 p) (some (kr0 p)) (tl1 p) (tl2 p))) none)=some t:=h;cases h1:o0 (D4 (nsN (hd vs) x k6)) 0 with
 |true=>rw[h1] at h;cases h;exact (c4u (a:=0) (q:=noQ) (o:=none) (tl:=none) (kr:=kr0 p) (nv:=nv) Dr G (B3 ..)).mono (by decide)
 |false=>
  rw[h1] at h;revert h;refine ifE fun _ h=>?_;cases h;refine (c4u (a:=1) (q:=tq1 p) (o:=some (kr0 p)) (tl:=tl1 p) (kr:=kr0 p) (nv:=(tl1 p).getD nv) Dr G (C3 _ ?_)).mono (by decide);cases tl1 p with
  |none=>exact B3 ..
  |some a=>exact C3 _ (B3 ..))
end
noncomputable def byK{α:Type}(k:Nat)(a b c:α):α:=ifb (o0 k 0) a (ifb (o0 k 1) b c)
noncomputable def pE(p:Pm)(k pg:Nat)(ds:List Nat):Pm:=byK k {p with p0:=pg,d0:=ds} {p with p1:=pg,d1:=ds} {p with p2:=pg,d2:=ds}
noncomputable def pgE(p:Pm)(k:Nat):Nat:=byK k p.p0 p.p1 p.p2
noncomputable def dsE(p:Pm)(k:Nat):List Nat:=byK k p.d0 p.d1 p.d2
noncomputable def elF(k:Nat):OT:=byK k (b7 21 38) (b7 23 44) (b7 25 50)
noncomputable def prD(pg d:Nat):V:=.tup [iV pg,iV d]
noncomputable def ctCo(p:Pm)(k:Nat):Ct:=⟨.call 621 [sh,.n 0,.n 2],[.inst 560 1,elF k,plO],.rt (.n 3),[.inst 560 1,elF k,plO],[some (.lst (mapL (prD (pgE p k)) (dsE p k)))]⟩
noncomputable def sCo(b:Bool)(k:Nat)(p:Pm):List Sd:=Job.side 60 (ctG (Lo p) (b73 p) [] []) 160 b ⟨Lo p,ctCo p k,a1t⟩
noncomputable def d1s(b:Bool)(p:Pm)(a:Nat->Nat)(n:Nat×Nat):List (List (List Sd)):=mapL (fun pg=>mapL (fun l=>sCo b n.2 (k7 (pE p n.2 pg (F2 l [a 0,a 1,a 2])) n.1)) C4) [0,1]
theorem d7w(p:Pm)(a:Nat->Nat):mapL (d1s true p a) nks=mapL (d1s false p a) nks:=by kernel_rfl
noncomputable def coL(vs:List V)(x:S):List Nat:=[M0 (ofO (nth vs 1) .none),a0d x (ofO (nth vs 1) .none),M0 (ofO (nth vs 2) .none)]
noncomputable def enCo(p:Pm)(k:Nat):Ent:=⟨621,fun _ _=>some (ctCo p k),coL⟩
noncomputable def a2e(l:List Nat):Prop:=l.length<=3/\∀d∈l,d < 3
structure Pm.Okd(p:Pm):Prop where
 ok:p.Ok
 g0:p.p0 < 2
 g1:p.p1 < 2
 g2:p.p2 < 2
 d0:a2e p.d0
 d1:a2e p.d1
 d2:a2e p.d2
noncomputable def A7:Str:=⟨#[112,97,105,114]⟩
noncomputable def So.dflt(k:Nat)(s:So):So:=⟨some (orV (iV k) s.o),by obtain ⟨o,h⟩:=s;cases o with|none=>rfl|some v=>exact h⟩
noncomputable def sixS(a i k:Nat)(q:Nat->So)(j:Nat):So:=ifb (o0 j (slot a i)) ((q j).dflt k) (q j)
noncomputable def b9(pg v:Nat)(l:List Nat):(Nat->So)->Nat->So:=E0 (motive:=fun _=>(Nat->So)->Nat->So) id (fun d _ ih q=>ih (sixS pg d v q)) l
noncomputable def b29(pg:Nat)(l:List Nat):Option V->Option V:=E0 (motive:=fun _=>Option V->Option V) id (fun d _ ih _=>ih (some (prD pg d))) l
noncomputable def d8z(k:Nat)(o:Option V):OT:=.ns ((a3q,sh)::(c0d,.n 2)::(b3i,.n 1)::(k6,.v (iV k))::(a5y,.n 3)::W1 o (fun v=>[(A7,.v v)]) [])
noncomputable def duS(k:Nat)(q:Nat->So)(o:Option V):List OT:=[d8z k o,.six q,plO,.inst 560 4,elF k]
noncomputable def c6h:List Stmt:=a34 (E4 633)
noncomputable def ctD(k:Nat)(q q':Nat->So)(o o':Option V):Ct:=⟨.sts c6h (fnE 633),duS k q o,.nx,duS k q' o',[]⟩
noncomputable def ctDu(p:Pm)(k:Nat)(q:Nat->So)(o:Option V):Ct:=ctD k q (b9 (pgE p k) k (dsE p k) q) o (b29 (pgE p k) (dsE p k) o)
noncomputable def sDu(b:Bool)(q:Nat->So)(p:Pm)(o:Nat×Option V):List Sd:=Job.side 160 (ctG (Lo p) [enCo p o.1] [] []) 200 b ⟨Lo p,ctDu p o.1 q o.2,noF⟩
noncomputable def a7l(v:V):List (Nat×Option V):=[(0,none),(1,none),(1,some v),(2,none),(2,some v)]
noncomputable def b6q:List (List Nat):=[[0],[1],[2]]
noncomputable def b6d(l:List (List Nat)):List (List Nat):=mapL (fun s=>0::s) l++(mapL (fun s=>1::s) l++mapL (fun s=>2::s) l)
noncomputable def a7k:List (List Nat):=[]::(b6q++(b6d b6q++b6d (b6d b6q)))
noncomputable def d1t(b:Bool)(p:Pm)(q:Nat->So)(o:Nat×Option V):List (List (List Sd)):=mapL (fun pg=>mapL (fun ds=>sDu b q (pE p o.1 pg ds) o) a7k) [0,1]
theorem d90(p:Pm)(q:Nat->So)(v:V):mapL (d1t true p q) (a7l v)=mapL (d1t false p q) (a7l v):=by kernel_rfl
section
variable{C:Cx}{p:Pm}
theorem b8g:∀ {n:Nat},n < 2->n∈[0,1]:=fun h=>(by decide:∀n,n < 2->n∈[0,1]) _ h
theorem e3q:∀ {n:Nat},n < 3->n∈[0,1,2]:=fun h=>(by decide:∀n,n < 3->n∈[0,1,2]) _ h
theorem e4r(hn:p.ne∈[1,2,3]){k:Nat}(hk:k < p.ne):(p.ne,k)∈nks:=by
 have:∀n∈[1,2,3],∀k,k < n->(n,k)∈nks:=by unfold nks;decide
 exact this _ hn k hk
theorem c4z{α:Type}{P:α->Prop}{k:Nat}{a b c:α}(h1:P a)(h2:P b)(h3:P c):P (byK k a b c):=by
 unfold byK;cases o0 k 0 with
 |true=>exact h1
 |false=>cases o0 k 1 with|true=>exact h2|false=>exact h3
theorem Pm.Okd.pg(G:p.Okd)(k:Nat):pgE p k∈[0,1]:=c4z (P:=(·∈[0,1])) (b8g G.g0) (b8g G.g1) (b8g G.g2)
theorem Pm.Okd.ds(G:p.Okd)(k:Nat):a2e (dsE p k):=c4z G.d0 G.d1 G.d2
theorem d0x(p:Pm)(k:Nat):pE p k (pgE p k) (dsE p k)=p:=by unfold pE pgE dsE byK;cases o0 k 0 <;>first|rfl| (cases o0 k 1 <;>rfl)
theorem co_ok(Dr:V0 C)(G:p.Okd){k:Nat}(hk:k < p.ne):CtOk C 160 (Lo p) (ctCo p k):=by
 refine Job.ok (j:=⟨Lo p,ctCo p k,a1t⟩) Dr (i6 (c77 Dr G.ok) j1 j1) (H4 p) ?_;have:=y0 (y0 (y0 (d7w p (nthD (dsE p k))) (p.ne,k) (e4r G.ok.ne hk)) (pgE p k) (G.pg k)) _ (le4 (G.ds k).1);dsimp only at this;rw[a66 (G.ds k).1 fun _ _=>a5h,d0x] at this;exact this
theorem d8p{l:List Nat}(h:a2e l):l∈a7k:=by
 have h1:∀a∈[0,1,2],[a]∈a7k:=by decide+kernel
 have h2:∀a∈[0,1,2],∀b∈[0,1,2],[a,b]∈a7k:=by decide+kernel
 have h3:∀a∈[0,1,2],∀b∈[0,1,2],∀c∈[0,1,2],[a,b,c]∈a7k:=by decide+kernel
 obtain ⟨hl,hd⟩:=h;have hd:∀d∈l,d∈[0,1,2]:=fun d h=>e3q (hd d h);cases l with
 |nil=>exact B3 ..
 |cons a l=>
  have ha:=hd a (B3 ..);cases l with
  |nil=>exact h1 a ha
  |cons b l=>
   have hb:=hd b (C3 _ (B3 ..));cases l with
   |nil=>exact h2 a ha b hb
   |cons c l=>
    cases l with
    |nil=>exact h3 a ha b hb c (hd c (C3 _ (C3 _ (B3 ..))))
    |cons d l=>exact absurd hl (a12.mpr (a9w 4 l.length))
theorem b6s(Dr:V0 C)(G:p.Okd){k:Nat}{q:Nat->So}{o:Option V}{v:V}(hk:k < p.ne)(hm:(k,o)∈a7l v):CtOk C 200 (Lo p) (ctDu p k q o):=by
 refine Job.ok (j:=⟨Lo p,ctDu p k q o,noF⟩) Dr (i6 (Y0 (Y4.of (k:=621) (L:=coL) (co_ok Dr G hk))) j1 j1) (H4 p) ?_;have:=y0 (y0 (y0 (d90 p q v) (k,o) hm) (pgE p k) (G.pg k)) _ (d8p (G.ds k));dsimp only at this;rw[d0x] at this;exact this
end
noncomputable def mDu(n:Nat)(q1 q2 q3:Nat->So)(o1 o2 o3:Option V)(vs:List V)(x:S):Option Ct:=(fun i=>ifb (J0 i n) (ifb (o0 i 0) (some (ctD 0 noQ q1 none o1)) (ifb (o0 i 1) (some (ctD 1 q1 q2 o1 o2)) (ifb (o0 i 2) (some (ctD 2 q2 q3 o2 o3)) none))) none) (D4 (nsN (hd vs) x k6))
noncomputable def duL(vs:List V)(x:S):List Nat:=[M0 (hd vs),M0 (nsN (hd vs) x b3i),M0 (nsN (hd vs) x c0d),M0 (nsN (hd vs) x a5y),a0d x (nsN (hd vs) x a5y)]
noncomputable def sDue(b:Bool)(q q1 q2 q3:Nat->So)(o1 o2 o3:Option V)(p:Pm):List Sd:=(a87 p 633 q).side 240 (ctG (Lo p) [a7m p,enPl p] [⟨C7 c6h,mDu p.ne q1 q2 q3 o1 o2 o3,duL⟩] []) 260 b
noncomputable def d1u(b:Bool)(p:Pm)(q1 q2 q3:Nat->So)(v1 v2:V)(o3:Option V)(n:Nat×(Nat->So)):List (List (List Sd)):=mapL (fun o1=>mapL (fun o2=>sDue b n.2 q1 q2 q3 o1 o2 o3 (k7 p n.1)) [none,some v2]) [none,some v1]
theorem d91(p:Pm)(q1 q2 q3:Nat->So)(v1 v2:V)(o3:Option V):mapL (d1u true p q1 q2 q3 v1 v2 o3) [(1,q1),(2,q2),(3,q3)]=mapL (d1u false p q1 q2 q3 v1 v2 o3) [(1,q1),(2,q2),(3,q3)]:=by kernel_rfl
noncomputable def dq1(p:Pm):Nat->So:=b9 (pgE p 0) 0 (dsE p 0) noQ
noncomputable def dq2(p:Pm):Nat->So:=b9 (pgE p 1) 1 (dsE p 1) (dq1 p)
noncomputable def dq3(p:Pm):Nat->So:=b9 (pgE p 2) 2 (dsE p 2) (dq2 p)
noncomputable def do1(p:Pm):Option V:=b29 (pgE p 0) (dsE p 0) none
noncomputable def do2(p:Pm):Option V:=b29 (pgE p 1) (dsE p 1) (do1 p)
noncomputable def do3(p:Pm):Option V:=b29 (pgE p 2) (dsE p 2) (do2 p)
noncomputable def dq(p:Pm):Nat->So:=ifb (o0 p.ne 1) (dq1 p) (ifb (o0 p.ne 2) (dq2 p) (dq3 p))
section
variable{C:Cx}{p:Pm}
theorem d8t(hn:p.ne∈[1,2,3]):(p.ne,dq p)∈[(1,dq1 p),(2,dq2 p),(3,dq3 p)]:=by
 have:∀n∈[1,2,3],(n,ifb (o0 n 1) (dq1 p) (ifb (o0 n 2) (dq2 p) (dq3 p)))∈[(1,dq1 p),(2,dq2 p),(3,dq3 p)]:=
  A1 (B3 ..) (A1 (C3 _ (B3 ..)) (Y0 (C3 _ (C3 _ (B3 ..)))))
 exact this p.ne hn
theorem c6i{k:Nat}{o:Option V}(h:k=1∨k=2):(k,o)∈a7l (o.getD .none):=by
 unfold a7l;rcases h with rfl|rfl <;>cases o <;>simp
theorem b6u(Dr:V0 C)(G:p.Okd):Y4 C 260 (Lo p) (q8 p 633 (dq p)):=.of (by
 have e:∀n,n=p.ne->k7 p n=p:=fun n h=>by refine rE h ?_;rfl
 have run:=y0 (y0 (y0 (d91 p (dq1 p) (dq2 p) (dq3 p) ((do1 p).getD .none) ((do2 p).getD .none) (do3 p)) _ (d8t G.ok.ne)) (do1 p) (b2v _ _)) (do2 p) (b2v _ _);dsimp only at run;rw[e _ rfl] at run;refine Job.ok (j:=a87 p 633 (dq p)) Dr (i6 (A1 ((b13 Dr G.ok).mono (by decide)) (Y0 (pl_ok Dr))) (Y0 fun vs x t h=>?_) j1) (H4 p) run;refine ifE (fun hk h=>?_) (show ifb (J0 (D4 (nsN (hd vs) x k6)) p.ne) _ none=some t from h);have hk:=B4 hk;cases h0:o0 (D4 (nsN (hd vs) x k6)) 0 with
 |true=>
  rw[h0] at h;cases h;rw[V1 h0] at hk;exact (b6s (k:=0) (q:=noQ) (o:=none) (v:=.none) Dr G hk (B3 ..)).mono (by decide)
 |false=>
  cases h1:o0 (D4 (nsN (hd vs) x k6)) 1 with
  |true=>
   rw[h0,h1] at h;cases h;rw[V1 h1] at hk;exact (b6s (k:=1) (q:=dq1 p) (o:=do1 p) Dr G hk (c6i (.inl rfl))).mono (by decide)
  |false=>
   rw[h0,h1] at h;revert h;refine ifE fun h2 h=>?_;cases h;rw[V1 h2] at hk;exact (b6s (k:=2) (q:=dq2 p) (o:=do2 p) Dr G hk (c6i (.inr rfl))).mono (by decide))
end
section
open PySem.W.Z (eqB)
noncomputable def U4:Str:=⟨#[100,117,101]⟩
noncomputable def a5z:Str:=⟨#[116,111,108,100,95,111,110,101,115]⟩
noncomputable def d2j:Str:=⟨#[119,114,111,110,103]⟩
noncomputable def prV(j:Nat):V:=prD (M1 j 3) (O1 j 3)
noncomputable def D8(q:Nat->So)(j:Nat)(v:So)(i:Nat):So:=ifb (o0 i j) v (q i)
noncomputable def vI{α:Type}(o:Option V)(f:Int->α)(d:α):α:=W1 o (fun v=>W1 (J3 v) f d) d
noncomputable def isW(d t:Option V):Bool:=vI d (fun k=>vI t (fun n=>ifb (eqB n (Int.add 20 k)) false true) true) true
noncomputable def wrS(b:Bool)(wr:List V)(v:V):List V:=ifb b (wr++[v]) wr
noncomputable def refV(d:Option V):V:=vI d (fun i=>W9 (motive:=fun _=>V) i (fun k=>.ref (w0 21 (C1 2 k))) fun _=>.none) .none
noncomputable def e6h(j:Nat)(o:Option V):OT:=.ns ((a3q,sh)::(a1z,.n 4)::(U4,.n 1)::(a5z,.n 2)::(d2j,.n 3)::(A7,.v (prV j))::W1 o (fun v=>[(c0e,.v v)]) [])
noncomputable def e6i(ne:Nat):List OT:=.list (F2 ne [.n 6,.n 8,.n 10])::F2 (w0 ne ne) [b7 21 38,.inst 560 5,b7 23 44,.inst 560 7,b7 25 50,.inst 560 9]
noncomputable def pfS(ne j:Nat)(d t:Nat->So)(wr:List V)(o:Option V):List OT:=e6h j o::.six d::.six t::.lst wr::e6i ne
noncomputable def b99:List Stmt:=a34 (E4 679)
noncomputable def ifB(l:List Stmt):List Stmt:=E0 (motive:=fun _=>List Stmt) [] (fun s _ ih=>match s with| .If _ b _ _=>b|_=>ih) l
noncomputable def pfIf:List Stmt:=ifB b99
noncomputable def ctPf(ne j:Nat)(d t:Nat->So)(wr:List V)(o:Option V):Ct:=⟨.sts b99 (fnE 679),pfS ne j d t wr o,.nx,pfS ne j d t (wrS (isW (d j).o (t j).o) wr (prV j)) (some (refV (d j).o)),[]⟩
noncomputable def ctAp(ne j:Nat)(d t:Nat->So)(wr:List V)(v:V):Ct:=⟨.sts pfIf (fnE 679),pfS ne j d t wr (some v),.nx,pfS ne j d t (wr++[prV j]) (some v),[]⟩
noncomputable def len3:List Nat:=[1,2,3]
noncomputable def S7:List Nat:=[0,1,2,3,4,5]
noncomputable def d1r(b:Bool)(p:Pm)(j:Nat)(d t:Nat->So)(v:V)(w:Nat->V)(ne:Nat):List (List Sd):=mapL (fun l=>Job.side 0 ct0 60 b ⟨Lo (k7 p ne),ctAp ne j d t (F2 l [w 0,w 1,w 2,w 3,w 4]) v,noF⟩) S7
theorem d69(p:Pm)(j:Nat)(d t:Nat->So)(v:V)(w:Nat->V):mapL (d1r true p j d t v w) len3=mapL (d1r false p j d t v w) len3:=by kernel_rfl
noncomputable def pfL(vs:List V)(x:S):List Nat:=M0 (hd vs)::M0 (nsN (hd vs) x U4)::M0 (nsN (hd vs) x a5z)::M0 (nsN (hd vs) x d2j)::M0 (nsN (hd vs) x a1z)::a0b (fun v=>[a0d x v,M0 v]) (S8 x (nsN (hd vs) x a1z))
noncomputable def enAp(ne j:Nat)(d t:Nat->So)(wr:List V):Ent:=⟨C7 pfIf,fun _ _=>some (ctAp ne j d t wr (refV (d j).o)),pfL⟩
noncomputable def sPf(b:Bool)(wr:List V)(p:Pm)(j:Nat)(d t:Nat->So)(o:Option V):List Sd:=Job.side 60 (ctG (Lo p) [] [enAp p.ne j d t wr] []) 100 b ⟨Lo p,ctPf p.ne j d t wr o,noF⟩
noncomputable def F8:List So:=[.no,.int 20,.int 21,.int 22,.int 30]
noncomputable def a2y:List (Nat×So):=[(1,.no),(2,.no),(3,.no),(1,.int 0),(2,.int 0),(2,.int 1),(3,.int 0),(3,.int 1),(3,.int 2)]
noncomputable def d1y(b:Bool)(p:Pm)(d t:Nat->So)(wr:List V)(o:Option V)(j:Nat):List (List (List Sd)):=mapL (fun dv=>mapL (fun tv=>sPf b wr (k7 p dv.1) j (D8 d j dv.2) (D8 t j tv) o) F8) a2y
theorem e6k(p:Pm)(d t:Nat->So)(wr:List V)(v:V):mapL (fun o=>mapL (d1y true p d t wr o) S7) [none,some v]=mapL (fun o=>mapL (d1y false p d t wr o) S7) [none,some v]:=by kernel_rfl
section
variable{C:Cx}{p:Pm}
theorem a91(q:Nat->So)(j:Nat):D8 q j (q j)=q:=by
 funext i
 unfold D8;cases h:o0 i j with
 |true=>rw[V1 h];rfl
 |false=>rfl
noncomputable def a1s(l:List V)(i:Nat):V:=ofO (nth l i) .none
theorem nthV_at{l:List V}{i:Nat}{c:V}(h:l[i]? =some c):a1s l i=c:=by unfold a1s;rw[Q6,h];rfl
theorem take5:∀ {l:List V},l.length<=5->F2 l.length [a1s l 0,a1s l 1,a1s l 2,a1s l 3,a1s l 4]=l
 | [],_=>rfl
 | [_],_=>rfl
 | [_,_],_=>rfl
 | [_,_,_],_=>rfl
 | [_,_,_,_],_=>rfl
 | [_,_,_,_,_],_=>rfl
 |_::_::_::_::_::_::l,h=>absurd h (a12.mpr (a9w 6 l.length))
theorem b2i:∀ {n:Nat},n < 6->n∈S7:=fun h=>(by unfold S7;decide:∀n,n < 6->n∈S7) _ h
theorem ap_ok(Dr:V0 C)(hn:p.ne∈[1,2,3]){j:Nat}{d t:Nat->So}{wr:List V}{v:V}(hl:wr.length<=5):CtOk C 60 (Lo p) (ctAp p.ne j d t wr v):=by
 refine Job.ok (j:=⟨Lo p,ctAp p.ne j d t wr v,noF⟩) Dr (c:=0) (ct:=ct0) A3 (H4 p) ?_;have:=y0 (y0 (d69 p j d t v (a1s wr)) p.ne hn) wr.length (b2i (a2o hl));rw[take5 hl] at this;exact this
theorem pf_ok(Dr:V0 C)(hn:p.ne∈[1,2,3]){j:Nat}{d t:Nat->So}{wr:List V}{o:Option V}(hj:j < 6)(hdv:(p.ne,d j)∈a2y)(htv:t j∈F8)(hl:wr.length<=5):CtOk C 100 (Lo p) (ctPf p.ne j d t wr o):=by
 refine Job.ok (j:=⟨Lo p,ctPf p.ne j d t wr o,noF⟩) Dr (i6 j1 (Y0 (Y4.of (k:=C7 pfIf) (L:=pfL) (ap_ok (j:=j) (d:=d) (t:=t) (v:=refV (d j).o) Dr hn hl))) j1) (H4 p) ?_;have:=y0 (y0 (y0 (y0 (e6k p d t wr (o.getD .none)) o (b2v _ o)) j (b2i hj)) (p.ne,d j) hdv) (t j) htv;dsimp only at this;rw[a91,a91] at this;exact this
end
end
noncomputable def forI(l:List Stmt):Expr:=E0 (motive:=fun _=>Expr) (.Constant .none 0 ⟨0,0,0,0⟩) (fun s _ ih=>match s with| .For _ i _ _ _=>i|_=>ih) l
noncomputable def a9c:Expr:=forI (E4 679)
noncomputable def y8(fl:List Bool):Nat->List V:=E0 (motive:=fun _=>Nat->List V) (fun _=>[]) (fun b _ ih j=>ifb b (prV j::ih (Q0 j)) (ih (Q0 j))) fl
noncomputable def wrF(d t:Nat->So)(fl:List Bool):Nat->List V->List V:=E0 (motive:=fun _=>Nat->List V->List V) (fun _ wr=>wr) (fun b _ ih j wr=>ih (Q0 j) (ifb b (wrS (isW (d j).o (t j).o) wr (prV j)) wr)) fl
noncomputable def oF(d:Nat->So)(fl:List Bool):Nat->Option V->Option V:=E0 (motive:=fun _=>Nat->Option V->Option V) (fun _ o=>o) (fun b _ ih j o=>ih (Q0 j) (ifb b (some (refV (d j).o)) o)) fl
noncomputable def b3k:Str:=⟨#[115,111,114,116,101,100]⟩
noncomputable def d2i:Str:=⟨#[115,101,116]⟩
noncomputable def e96:Str:=⟨#[117,110,105,111,110]⟩
noncomputable def mUni(d t:Nat->So)(fl:List Bool)(e:AE)(x:S):Option (Res V):=some ((A6 b3k e x).bd fun f x=>.same (.vs [f]) (.vs [.bi .sorted]) <| (A6 d2i e x).bd fun g x=>.same (.vs [g]) (.vs [.bi .set]) <| (A6 U4 e x).bd fun a x=>.same (.oo [obd (G2 a) x.get]) (.oo [some (a3t d)]) <| (A6 a5z e x).bd fun b x=>.same (.oo [obd (G2 b) x.get]) (.oo [some (a3t t)]) <|ck x.ok <| .ok (.ref x.n) (x.new (.list (y8 fl 0))))
noncomputable def jOf(v:V):Nat:=ofO (obd (d8 v) fun l=>two l fun a b=>some (slot (D4 a) (D4 b))) 9
noncomputable def mPf(ne:Nat)(d t:Nat->So)(fl:List Bool)(vs:List V)(x:S):Option Ct:=(fun j=>ifb (J0 j 6) (some (ctPf ne j d t (wrF d t (F2 j fl) 0 []) (oF d (F2 j fl) 0 none))) none) (jOf (nsN (hd vs) x A7))
noncomputable def a39(p:Pm)(d t:Nat->So)(fl:List Bool):Job:=⟨Lo p,ctR 679 [sh] (.n 0) [some (.lst (wrF d t fl 0 []))],a1t⟩
noncomputable def sPfj(b:Bool)(d t:Nat->So)(p:Pm)(fl:List Bool):List Sd:=(a39 p d t fl).side 260 (ctG (Lo p) [a7m p,q8 p 633 d,q8 p 672 t] [⟨C7 b99,mPf p.ne d t fl,pfL⟩] [⟨a9c,mUni d t fl⟩]) 285 b
noncomputable def dbl(l:List (List Bool)):List (List Bool):=mapL (true:: ·) l++mapL (false:: ·) l
noncomputable def t8:List (List Bool):=dbl (dbl (dbl (dbl (dbl (dbl [[]])))))
theorem e6l(p:Pm)(d t:Nat->So):mapL (fun n=>mapL (sPfj true d t (k7 p n)) t8) len3=mapL (fun n=>mapL (sPfj false d t (k7 p n)) t8) len3:=by kernel_rfl
section
variable{C:Cx}{p:Pm}{d t:Nat->So}
structure DT6(ne:Nat)(d t:Nat->So):Prop where
 dv:∀j,j < 6->(ne,d j)∈a2y
 tv:∀j,j < 6->t j∈F8
theorem d5b:∀ {l:List Bool} {j:Nat} {wr:List V},(wrF d t l j wr).length<=wr.length+l.length
 | [],_,_=>i3 _
 |b::l,j,wr=>by
  have h:=d5b (l:=l) (j:=Q0 j) (wr:=ifb b (wrS (isW (d j).o (t j).o) wr (prV j)) wr);have h2:(ifb b (wrS (isW (d j).o (t j).o) wr (prV j)) wr).length<=wr.length+1:=by
   cases b with
   |false=>exact H7 _
   |true=>
    show (wrS (isW (d j).o (t j).o) wr (prV j)).length<=_;cases isW (d j).o (t j).o with
    |false=>exact H7 _
    |true=>exact a4d a48
  exact W0 h (W0 (Nat.add_le_add_right h2 _) (a4d (by rw[Y9,a2m,a2n 1])))
theorem d3z{α:Type}:∀ {k:Nat} {l:List α},(F2 k l).length<=k
 |0,_=>i3 _
 |k+1,[]=>D5 _
 |k+1,_::l=>a13 (d3z (k:=k) (l:=l))
theorem c7o:∀a b c d e f:Bool,[a,b,c,d,e,f]∈t8:=by decide+kernel
theorem c7g(Dr:V0 C)(G:p.Ok)(T:DT6 p.ne d t){fl:List Bool}(hf:fl∈t8)(D:Y4 C 260 (Lo p) (q8 p 633 d))(H:Y4 C 240 (Lo p) (q8 p 672 t))(U:XOk C 260 ⟨a9c,mUni d t fl⟩):CtOk C 285 (Lo p) (a39 p d t fl).t:=by
 refine Job.ok (j:=a39 p d t fl) Dr (i6 (A1 ((b13 Dr G).mono (by decide)) (A1 D (Y0 (H.mono (by decide))))) (Y0 fun vs x ct h=>?_) (Y0 U)) (H4 p) (y0 (y0 (e6l p d t) p.ne G.ne) fl hf);refine ifE (fun hj h=>?_) (show ifb (J0 (jOf (nsN (hd vs) x A7)) 6) (some _) none=some ct from h);have hj:=B4 hj;cases h;refine (pf_ok (o:=oF d (F2 (jOf (nsN (hd vs) x A7)) fl) 0 none) Dr G.ne hj (T.dv _ hj) (T.tv _ hj) ?_).mono (by decide);have:=W0 (d5b (d:=d) (t:=t) (l:=F2 (jOf (nsN (hd vs) x A7)) fl) (j:=0) (wr:=[])) (show ([]:List V).length+_<=_ from k8 (d3z (k:=jOf (nsN (hd vs) x A7)) (l:=fl)) 0);exact b51 (Z3 this (by rw[K8];exact hj))
end
section
open PySem.SetTable
section
variable{M:Model}{A:Around}{E:Value->Shared->Prop}{s:Shared}{env:Env}
theorem e4a{o:Expr}{n:Str}{apos pos:Pos}{args:List Expr}{Q:Value->Shared->Prop}(hb:∀whole,attributeBase o n env whole=whole)(q:a33 args apos pos=true)
  (h:wpAny M A (eval o env) (fun ov s₁=>∃f first,(∀ (pl:Sem Bool) (Q':Value×List Value->Shared->Prop),Q' (f,first) s₁->wpAny M A (a1g ov n pl) Q' E s₁)/\wpAny M A (callWith pos f first (backTo pos (S6 args env)) []) Q E s₁) E s):
  wpAny M A (eval (.Call (.Attribute o n apos) args [] pos) env) Q E s:=by
 refine yaa (b1a q) fun q1 q2 q3=>?_;refine rE (arm_eval_Call ..) (rE (hb ..) ?_);refine m0 (F7 h (fun ov s₁ zz=>B1 zz fun f first hg hc=>m0 (H5 ?_)) fun _ _ x=>x);unfold methodCall;rw[show a8g (args.length+([]:List Keyword).length) (backTo pos (S6 args env)) (backToKw pos (keywordEach [] env))=true by
  unfold a8g;refine rE ((a8i pos env args q1).2) ?_;exact decide_eq_true (show args.length+0+0 < 30 from i4 q2 (by decide))]
 refine m0 (J2 ?_);show wpAny _ _ (a1g ov n _) _ _ _;refine hg _ _ (m0 (A5 ?_ hc));unfold methodCallPos;refine rE q3 (rE (beq_self_eq_true ..) ?_);rfl
theorem c55{f:Value}{first:List Value}{pos p:Pos}{n:Str}{Q:Value->Shared->Prop}(hk:∀h,Looks M h (keeperOf f) b4v)
  (h:wpAny M A (eval (.Name n p) env) (fun v s'=>wpAny M A (call f (first++[v])) Q E s') E s):wpAny M A (callWith pos f first (backTo pos (S6 [.Name n p] env)) []) Q E s:=
 a4q (PP:=fun _=>True) rfl (fun h _=>⟨_,.inr (.inl rfl),hk h⟩) (a9f (F7 h (fun v s' h=>b4g ⟨trivial,h⟩) fun _ _ e=>e))
end
noncomputable def a4s(fl:List Bool):Nat->List Nat:=E0 (motive:=fun _=>Nat->List Nat) (fun _=>[]) (fun b _ ih j=>ifb b (j::ih (Q0 j)) (ih (Q0 j))) fl
theorem b97:∀ {fl:List Bool} {j:Nat},y8 fl j=(a4s fl j).map prV
 | [],_=>rfl
 |true::fl,j=>congrArg (prV j:: ·) (b97 (fl:=fl) (j:=Q0 j))
 |false::fl,j=>b97 (fl:=fl) (j:=Q0 j)
theorem b6b:∀ {fl:List Bool} {k j:Nat},j∈a4s fl k ↔ k<=j/\nth fl (j - k)=some true
 | [],k,j=>⟨fun h=>absurd h G1,fun h=>by have:=h.2;cases this⟩
 |b::fl,k,j=>by
  have ih:=b6b (fl:=fl) (k:=Q0 k) (j:=j);have hs:k < j->nth (b::fl) (j - k)=nth fl (j - Q0 k):=fun h=>by
   obtain ⟨m,rfl⟩:=Nat.exists_eq_add_of_lt h;refine rE (show k+m+1 - k=m+1 by omega) (rE (show k+m+1 - Q0 k=m by omega) ?_);rfl
  cases b with
  |true=>
   show j∈k::a4s fl (Q0 k) ↔ _;rw[O0,ih];constructor
   ·rintro (rfl| ⟨h1,h2⟩)
    ·exact ⟨i3 _,by refine rE (b54 ..) ?_;rfl⟩
    ·exact ⟨b52 h1,(hs h1).trans h2⟩
   ·rintro ⟨h1,h2⟩
    rcases Nat.eq_or_lt_of_le h1 with rfl|h1
    ·exact .inl rfl
    ·exact .inr ⟨h1,(hs h1).symm.trans h2⟩
  |false=>
   show j∈a4s fl (Q0 k) ↔ _;rw[ih];constructor
   ·rintro ⟨h1,h2⟩
    exact ⟨b52 h1,(hs h1).trans h2⟩
   ·rintro ⟨h1,h2⟩
    rcases Nat.eq_or_lt_of_le h1 with rfl|h1
    ·rw[b54] at h2;exact absurd (C0 h2) (by decide)
    ·exact ⟨h1,(hs h1).symm.trans h2⟩
theorem b6a:∀ {fl:List Bool} {k:Nat},(a4s fl k).Pairwise (· < ·)
 | [],_=>List.Pairwise.nil
 |true::fl,k=>a6s.mpr ⟨fun j hj=>(b6b.mp hj).1,b6a⟩
 |false::fl,k=>b6a (fl:=fl)
section
variable{C:Cx}{A:Around}{p:Pm}{d t:Nat->So}{h:Heap}{ρ:Nat->Addr}{n:Nat}
theorem c5f:∀ {qs:List (Nat×Addr)},a0t C h qs->VRl h ρ n ((qs.map (·.1)).map prV) (R2 qs)
 | [],_=>.nil
 |q::qs,c=>by
  refine .cons ?_ (c5f fun p hp=>c p (.tail _ hp));refine l7 (c q (.head _)) fun h6 vs k e r=>?_;refine yee (a28 r) fun t u zz=>?_;subst zz;exact a6z e (.cons ⟨t,rfl⟩ (.cons ⟨u,rfl⟩ .nil))
theorem d39(q:Nat->So):∀j,j < 6->slot6 [(q 0).o,(q 1).o,(q 2).o,(q 3).o,(q 4).o,(q 5).o] (Z1 j)=(q j).o
 |0,_=>rfl
 |1,_=>rfl
 |2,_=>rfl
 |3,_=>rfl
 |4,_=>rfl
 |5,_=>rfl
theorem f26:a9c=.Call (.Name b3k ⟨472,16,472,22⟩) [.Call (.Attribute (.Call (.Name d2i ⟨472,23,472,26⟩) [.Name U4 ⟨472,27,472,30⟩] [] ⟨472,23,472,31⟩) e96 ⟨472,23,472,37⟩) [.Name a5z ⟨472,38,472,47⟩] [] ⟨472,23,472,48⟩] [] ⟨472,16,472,49⟩:=by kernel_rfl
theorem f25:a33 [.Name a5z ⟨472,38,472,47⟩] ⟨472,23,472,37⟩ ⟨472,23,472,48⟩=true:=by kernel_rfl
theorem d32{σ:St C}{v:V}{u:Value}{q:Nat->So}(r:Vr σ v u)(e:obd (G2 v) σ.x.get=some (a3t q)):∃i,u=.ref (σ.ρ i)/\σ.x.get i=some (a3t q)/\∃es k xs cs,σ.h.get? (σ.ρ i)=some (M6 es k)/\es.toList=xs.map (r8 (T4 (U2 C.prog C.w)))/\PrsOf C σ.h xs cs/\xs.length < 7/\∀j,j < 6->(j∈cs ↔ (q j).o.isSome=true):=by
 revert e;refine obE fun i h1 e=>?_;refine a6g (σ.at e) fun ob g1 es xs k zz g2 g3 g4 g5=>?_;subst zz;refine R0 (d33 g3 g4 g5) fun cs c1 c2 c3=>?_;exact ⟨i,r.ref h1,e,es,k,xs,cs,g1,g2,c1,c2,fun j hj=>(c3 j hj).trans (by rw[d39 q j hj])⟩
theorem d4v{fl:List Bool}(hf:∀j,nth fl j=if j < 6 then some ((d j).o.isSome || (t j).o.isSome) else none):XOk C 260 ⟨a9c,mUni d t fl⟩:=fun {A σ e env} rm He r hr=>by
 cases hr;show GoR A (eval a9c env) σ Vr _;refine rE f26 ?_;intro Q E z;have hl:=rm.line;have hu:A.in1.units < cLine:=Z3 (show A.units+1<=A.units+65 from k8 (by decide) _) hl;have hu2:A.in1.in1.units < cLine:=Z3 (show A.units+1+1<=A.units+65 from k8 (show 2<=65 by decide) _) hl;refine b4c ((v8 He).use z fun fv uf τ X r z=>?_);obtain ⟨e1,z⟩:=z;obtain rfl:=(Z0 (Sd.vs.inj e1)).1;cases r;refine a4q (PP:=fun _=>True) rfl (fun h _=>⟨_,.inr (.inl rfl),.now⟩) (a9f ?_);refine e4a (fun _=>rfl) f25 ?_;refine b4c ((v8 (X.env He)).use z fun fv uf τ2 X2 r z=>?_);obtain ⟨e1,z⟩:=z;obtain rfl:=(Z0 (Sd.vs.inj e1)).1;cases r;refine c55 (fun h=>.now) ((v8 (X2.env (X.env He))).use z fun av ua τ3 X3 ra z=>?_);obtain ⟨e1,z⟩:=z;refine R0 (d32 ra (Z0 (Sd.oo.inj e1)).1) fun i zw hi zv=>?_;refine T6 zv fun es ep xs cs hd hes hp zu=>?_;clear zv;obtain ⟨hx,hcs⟩:=zu;subst zw;refine d79 hd hes hp hx (τ3.not_sys hi) hu2 fun h1 t1 b1 k1 hS1 hi1=>?_;have hSne:∀j o,τ3.x.get j=some o->τ3.ρ j≠τ3.h.objs.size:=fun j o q=>yea (τ3.at q) fun ob g _=>j3 (K3 g);let τ4:St C:=τ3.to h1 τ3.s.toks τ3.ρ τ3.x (τ3.D.grow k1).1
 have X4:Le τ3 τ4:=⟨(τ3.D.grow k1).2,rfl⟩;refine ⟨.builtin "set.union",[.ref τ3.h.objs.size],fun pl Q' hq=>getMethod_builtin (yee hS1.at_ fun _ _ ho=>⟨_,ho,rfl⟩) PySem.F.plainAttrs_set PySem.F.slot_set_union PySem.F.type_set_union (fun a ha=>by cases ha;exact yee hS1.at_ fun _ _ ho=>⟨_,ho,rfl⟩) hq,?_⟩;refine c55 (fun h=>.now) ((v8 (σ:=τ4) (X4.env (X3.env (X2.env (X.env He))))).use (show (Res.bd (A6 a5z e τ4.x) _).All _ from z) fun bv ub τ5 X5 rb z=>?_);obtain ⟨e2,z⟩:=z;revert z;refine ckE fun hok z=>?_;have z:A0 σ Vr Q (.ref τ5.x.n) (τ5.x.new (.list (y8 fl 0))):=z;refine R0 (d32 rb (Z0 (Sd.oo.inj e2)).1) fun i' zz hi' zy=>?_;refine T6 zy fun es' ep' xs' cs' hd' hes' hp' zx=>?_;clear zy;obtain ⟨hx',hcs'⟩:=zx;subst zz;have keep5:∀o,h1.get? τ3.h.objs.size=some o->τ5.h.get? τ3.h.objs.size=some o:=fun o eo=>X5.X.keep _ o (fun j _ zt=>ye zt fun o' q=>hSne j o' q) eo;have hS5:R5 C τ5.h τ3.h.objs.size (K1 C) t1 b1:=⟨yee hS1.at_ fun mv ep ho=>⟨mv,ep,keep5 _ ho⟩,fun j hj=>(hS1.keys j hj).up X5.X.tups,hS1.ok⟩;have hne5:τ3.h.objs.size≠τ5.ρ i':=fun h=>by
  refine yee hS5.at_ fun mv ep ho=>?_;rw[h,hd'] at ho;cases congrArg a03 (C0 ho)
 refine d7a hS5 hne5 hd' hes' hp' hx' (τ5.not_sys hi') hu fun h2 t2 b2 k2 hS2 hi2=>?_;refine b4g ⟨trivial,?_⟩;refine f0g (s:={τ5.s with heap:=h2}) hS2 rm.handled fun h3 tk D n' qs k3 hD0 hD hcod hasc hmem=>?_;have k5:∀x o,τ5.h.get? x=some o->h3.get? x=some o:=fun x o e=>k3 x o (k2 x o e);have hDn:τ5.h.get? D=none:=by
  cases hq:τ5.h.get? D with
  |none=>rfl
  |some o=>exact absurd rfl (hD0 D o (k2 D o hq))
 have hcodes:qs.map (·.1)=a4s fl 0:=c4e hasc b6a fun j=>by
  rw[hmem j,b6b];refine rE (Nat.sub_zero ..) (rE (hf j) ?_);by_cases hj:j < 6
  ·refine rE (if_pos hj) ?_;rw[hi2 j hj,hi1 j hj,hcs j hj,hcs' j hj]
   simp [D5]
  ·refine rE (if_neg hj) ?_
   exact ⟨fun h=>absurd (hS2.ok.nod.2 j h) hj,fun h=>by cases h.2⟩
 exact A0.new_at (σ:=τ5) (z.up (X.trans (X2.trans (X3.trans (X4.trans X5))))) hok k5 hDn hD fun {ρ'} X'=>show ∃vs k,VRl h3 ρ' (τ5.x.n+1) (y8 fl 0) vs/\seqObj "list" (R2 qs).toArray n'=T5 vs k from ⟨R2 qs,n',by refine rE b97 (rF hcodes ?_);exact c5f hcod,rfl⟩
end
end
section
variable{C:Cx}{A:Around}{k:Nat}{τ:St C}{e:AE}{env:Env}
noncomputable def ceP(ev:Bool)(b1 b2 b3 a1 a2 a3 a4 a5 a6 a8:Pos)(it:Expr):Expr:=.ListComp (eltP ev b1 b2 b3) [⟨.Name i7 a6,it,[a7g a1 a2 a3 a4 a5],0⟩] scP a8
theorem e9b(He:Er τ e env)(hkp:lk e.scope.names i5=some .cell):N9 scP env=⟨.function,[(a8x,.local),(i7,.local),(i5,.cell)],false,false,[]⟩:=by
 refine rE (b9z scP He) ?_;unfold a3l scP;simp only[I8,List.map_nil];rw[show relP e (i5,A4.free)=(i5,.cell) by
  show K0 (motive:=fun _=>Str×A4) _ _ (lk e.scope.names i5)=_;exact rE hkp rfl]
 rfl
theorem d82(rm:F0 k A)(He:Er τ e env){ev:Bool}{b1 b2 b3 a1 a2 a3 a4 a5 a6 a8:Pos}{it:Expr}{use:Option (Value->Sem Unit)}{Q:Value->Shared->Prop}{E:Value->Shared->Prop}{q:Nat->So}{pg c i:Nat}
  (hi:τ.x.get i=some (a3t q)) (hkp:lk e.scope.names i5=some .cell) (hcp:lk e.cells i5=some c) (hcell:τ.x.get c=some (.cell (some (iV pg))))
  (kk:∀ (h':Heap) (tk:Nat) (D L:Addr) (us:Array Value) (ks:List Nat) (n':Nat) (m:Str->Option Value),(∀b o,τ.h.get? b=some o->h'.get? b=some o)->τ.h.get? D=none->τ.h.get? L=none->D≠L->h'.get? D=some (seqObj "list" us n')->h'.Ns L m->ks.Nodup->(∀j,j < 6->(j∈ks ↔ (q j).o.isSome=true))->(∀j∈ks,j < 6)->All2 (a1j C h' ev) (ks.filter fun k=>decide (k / 3=pg)) us.toList->
   compPost C.m A E use Q (.ref D) L (.ok .next) {τ.s with heap:=h',toks:=tk}):
  wpAny C.m A (pyIter (.ref (τ.ρ i))) (fun it' s₂=>wpAny C.m A (newList []) (fun acc s₃=>wpAny C.m A (b2s scP env.globals [(i5,τ.ρ c)] [] env.qual none .none (some env)) (fun cenv s₄=>
   c5 C.m A (.compStart (ceP ev b1 b2 b3 a1 a2 a3 a4 a5 a6 a8 it) 0 it' acc {cenv with scope:=N9 scP env}) (compPost C.m A E use Q acc cenv.locals) s₄) E s₃) E s₂) E τ.s:=by
 refine a6g (τ.at hi) fun ob g1 es xs ep zs g2 g3 g4 g5=>?_;subst zs;refine R0 (d33 g3 g4 g5) fun cs hp hx hcs=>?_;refine yea (τ.at hcell) fun obc hc1 zt=>?_;refine yea zt fun uc hc2 hc3=>?_;clear zt;refine yea hc3 fun uc' zw zu=>?_;clear hc3;obtain ⟨tc,zv⟩:=zu;subst zw;subst zv;refine e5z g1 g2 (τ.not_sys hi) ?_;refine b4i ?_ (D5 _);refine wpAny_newFunctionEnv (fun x hx=>?_) (fun x hx=>absurd hx G1) (fun h2 hn2 hs2=>?_) rfl
 ·have hx:x∈scP.names:=hx
  unfold scP at hx;rcases O0.mp hx with rfl|hx
  ·exact fun h=>nomatch h
  rcases O0.mp hx with rfl|hx
  ·exact fun h=>nomatch h
  rcases O0.mp hx with rfl|hx
  ·exact fun h=>nomatch h
  ·exact absurd hx G1
 have hI0:(τ.h.push {cls:=.type "dict_keyiterator",data:=.fields #[.ref (τ.ρ i),.int 0 0,.int xs.length 0,.int ep 0]}).get? τ.h.objs.size=some {cls:=.type "dict_keyiterator",data:=.fields #[.ref (τ.ρ i),.int 0 0,.int xs.length 0,.int ep 0]}:=c6 _ rfl;generalize hH1:τ.h.push {cls:=.type "dict_keyiterator",data:=.fields #[.ref (τ.ρ i),.int 0 0,.int xs.length 0,.int ep 0]}=H1 at hI0;have up1:∀b o,τ.h.get? b=some o->H1.get? b=some o:=fun b o e=>hH1▸V2 _ e;have hI1:τ.h.objs.size < H1.objs.size:=K3 hI0;have hD0:(H1.push {cls:=.type "list",data:=.seq #[]}).get? H1.objs.size=some {cls:=.type "list",data:=.seq #[]}:=c6 _ rfl;have h2n:∃L,L=(H1.push {cls:=.type "list",data:=.seq #[]}).objs.size:=⟨_,rfl⟩;generalize hH2:H1.push {cls:=.type "list",data:=.seq #[]}=H2 at hD0 h2n;have up2:∀b o,H1.get? b=some o->H2.get? b=some o:=fun b o e=>hH2▸V2 _ e;have hn2:h2.Ns H2.objs.size (fun _=>none):=by subst hH1;subst hH2;exact hn2
 have hs2:H6 H2.objs.size (H2.push {cls:=.type "dict",data:=.dict #[]}) h2:=by subst hH1;subst hH2;exact hs2
 have hD1:H1.objs.size < H2.objs.size:=K3 hD0;have up3:∀b o,H2.get? b=some o->h2.get? b=some o:=fun b o e=>(hs2.2 b (j3 (K3 e))).trans (V2 _ e);have upA:∀b o,τ.h.get? b=some o->h2.get? b=some o:=fun b o e=>up3 b o (up2 b o (up1 b o e));have lt1:∀b o,τ.h.get? b=some o->b < τ.h.objs.size:=fun b o e=>K3 e;have none_of:∀a,τ.h.objs.size<=a->τ.h.get? a=none:=fun a h=>a43 h;obtain ⟨envC,hE⟩:∃envC:Env,envC={newEnv scP H2.objs.size env.globals [(i5,τ.ρ c)] env.qual none .none (some env) builtinsNs with scope:=N9 scP env}:=⟨_,rfl⟩;have hEs:envC.scope=⟨.function,[(a8x,.local),(i7,.local),(i5,.cell)],false,false,[]⟩:=by rw[hE];exact e9b He hkp
 have hEl:envC.locals=H2.objs.size:=by rw[hE];rfl
 have hEc:envC.cells=[(i5,τ.ρ c)]:=by rw[hE];rfl
 have hlp:envC.kindOf i7=some .local:=by unfold Env.kindOf;rw[hEs];decide+kernel
 have hlg:envC.kindOf i5=some .cell:=by unfold Env.kindOf;rw[hEs];decide+kernel
 have hcl:envC.cells.lookup i5=some (τ.ρ c):=by rw[hEc,List.lookup_cons_self]
 have hI2:h2.IsKeyIter τ.h.objs.size (τ.ρ i) 0 xs.length ep:=⟨_,up3 _ _ (up2 _ _ hI0),rfl,rfl⟩;have hD2:h2.get? H1.objs.size=some {cls:=.type "list",data:=.seq #[]}:=up3 _ _ hD0;have hiI:τ.ρ i < τ.h.objs.size:=lt1 _ _ g1;have loop:∀s':Shared,s'={τ.s with heap:=h2}->c5 C.m A (.compLoop (ceP ev b1 b2 b3 a1 a2 a3 a4 a5 a6 a8 it) 0 (.ref τ.h.objs.size) (.ref H1.objs.size) envC) (compPost C.m A E use Q (.ref H1.objs.size) H2.objs.size) s':=fun s' es'=>by
  subst es';have turnE:∀ {s₂:Shared} {m₂:Str->Option Value} {j:Nat} {v:Value},(∃y,xs[j]? =some y/\v=.ref y.2.1)->s₂.heap.Ns envC.locals m₂->m₂ i7=some v->(∀b o,b≠envC.locals->b ∉ [τ.h.objs.size]->b≠H1.objs.size->h2.get? b=some o->s₂.heap.get? b=some o)->∃kc a,kc < 6/\v=.ref a/\TK C τ.h (Z1 kc) a/\t9 C envC s₂.heap m₂ a (τ.ρ c) kc pg:=fun {s₂ m₂ j v} hv hns hm hk=>by
   refine yea hv fun y hy zx=>?_;clear hv;subst zx;have hpj:∃kc,kc < 6/\TK C τ.h (Z1 kc) y.2.1:=by
    have go:∀ {xs:List (List Int×Addr×Value)} {cs:List Nat} {j:Nat},PrsOf C τ.h xs cs->xs[j]? =some y->∃kc,kc < 6/\TK C τ.h (Z1 kc) y.2.1:=fun {xs}=>by
     induction xs with
     |nil=>exact fun _ h=>D0 h
     |cons x xs ih=>
      intro cs j p h;cases p with
      |cons h1 p=>
       cases j with
       |zero=>cases h;exact ⟨_,h1.1,h1.2.2⟩
       |succ j=>exact ih p h
    exact go hp hy
   refine yea hpj fun kc hk6 tk=>?_;clear hpj;have keep:∀b o,τ.h.get? b=some o->s₂.heap.get? b=some o:=fun b o e=>hk b o (by rw[hEl];exact j3 (i4 (lt1 b o e) (i4 hI1 hD1))) (by rw[S4];exact j3 (lt1 b o e)) (j3 (i4 (lt1 b o e) hI1)) (upA b o e);exact ⟨kc,y.2.1,hk6,rfl,tk,⟨by rw[hEs],hlp,hlg,hcl,hns,hm,tk.up (Tups.of keep),tc,obc,keep _ _ hc1,hc2⟩⟩
  unfold ceP;refine codeAny_compLoop_walk (m:=fun _=>none) (e5w rm.handled (j3 hiI) g2) (onP C τ.h pg) (b96 C τ.h ev) hlp ?_ ?_ ?_ ?_ ⟨hI2,upA _ _ g1⟩ ⟨0,hD2⟩ ?_ ?_ ?_ ?_ ?_
  ·rw[hEs];rfl
  ·rw[hEl];exact j3 hD1
  ·simp only[O0,G1,or_false,not_or];exact ⟨b53 hI1,b53 (i4 hiI hI1)⟩
  ·rw[hEl];simp only[O0,G1,or_false,not_or];exact ⟨b53 (i4 hI1 hD1),b53 (i4 hiI (i4 hI1 hD1))⟩
  ·rw[hEl];exact hn2
  ·intro j v s₂ m₂ hv hns hm hk htk
   refine a3z (turnE hv hns hm hk) fun kc a hk6 zy tk T=>?_;subst zy;rw[n7];refine m0 ?_;rw[if_pos rfl];refine m0 (T.test hk6 (q0 ?_));dsimp only;rw[a2i];exact q0 ⟨(b93 hk6 tk).symm,s₂.heap,s₂.toks+1,rfl,fun _ _ e=>e⟩
  ·intro j v s₂ m₂ hv hpv hns hm hk htk
   refine a3z (turnE hv hns hm hk) fun kc a hk6 zz tk T=>?_;subst zz;cases ev with
   |true=>exact T.sub (i:=1) (by decide) fun t=>⟨⟨kc,a,t,hk6,rfl,tk,rfl⟩,s₂.heap,s₂.toks+1,rfl,fun _ _ e=>e⟩
   |false=>exact T.pair ⟨rfl,s₂.heap,s₂.toks,rfl,fun _ _ e=>e⟩
  ·intro h' tk m' ys vs hns hl hpl hlen hP hF hk
   obtain ⟨n',hD'⟩:=hpl;have keep:∀b o,τ.h.get? b=some o->h'.get? b=some o:=fun b o e=>hk b o (by rw[hEl];exact j3 (i4 (lt1 b o e) (i4 hI1 hD1))) (by rw[S4];exact j3 (lt1 b o e)) (j3 (i4 (lt1 b o e) hI1)) (upA b o e);rw[e7f hlen hP] at hF;have hit:=(b7v hp hF);have ndc:cs.Nodup:=by
    have go:∀ {xs:List (List Int×Addr×Value)} {cs:List Nat},PrsOf C τ.h xs cs->cs.map Z1=xs.map (·.1):=fun {xs}=>by
     induction xs with
     |nil=>intro cs p;cases p;rfl
     |cons x xs ih=>intro cs p;cases p with|cons h1 p=>rw[I8,I8,ih p,h1.2.1]
    exact (List.pairwise_map.mp (show (cs.map Z1).Pairwise (·≠ ·) by rw[go hp];exact g3)).imp fun {a b} (h:Z1 a≠Z1 b) (e:a=b)=>h (congrArg Z1 e)
   have lt6:∀j∈cs,j < 6:=by
    have go:∀ {xs:List (List Int×Addr×Value)} {cs:List Nat},PrsOf C τ.h xs cs->∀j∈cs,j < 6:=fun {xs}=>by
     induction xs with
     |nil=>intro cs p;cases p;exact fun j h=>absurd h G1
     |cons x xs ih=>intro cs p;cases p with|cons h1 p=>exact fun j h=>(O0.mp h).elim (fun e=>e▸h1.1) (ih p j)
    exact go hp
   refine kk h' tk _ _ ys cs n' m' keep (none_of _ (J8 hI1)) (none_of _ (J8 (i4 hI1 hD1))) (j3 hD1) hD' (hEl▸hns) ndc (fun j hj=>(hcs j hj).trans (by rw[d39 q j hj])) lt6 ?_;refine hit.mono fun k u r=>?_;unfold a1j at r ⊢;cases ev with
   |true=>exact r
   |false=>rw[if_neg Z2] at r ⊢;refine yea r fun a e t=>?_;clear r;exact ⟨a,e,t.up (Tups.of keep)⟩
  ·exact W0 (J8 hx) (by rw[a0l];omega)
 have main:c5 C.m A (.compStart (ceP ev b1 b2 b3 a1 a2 a3 a4 a5 a6 a8 it) 0 (.ref τ.h.objs.size) (.ref H1.objs.size) envC) (compPost C.m A E use Q (.ref H1.objs.size) H2.objs.size) {τ.s with heap:=h2}:=
  c32 rfl (loop _ rfl) (wpAny_pyIter_keyiter hI2 (loop _ rfl))
 rw[hE] at main;exact main
end
noncomputable def a1b(a b c:Bool):List Nat:=ifb a (0::ifb b (1::ifb c [2] []) (ifb c [2] [])) (ifb b (1::ifb c [2] []) (ifb c [2] []))
noncomputable def pk6(k a b c d e f:Nat):Nat:=ifb (o0 k 0) a (ifb (o0 k 1) b (ifb (o0 k 2) c (ifb (o0 k 3) d (ifb (o0 k 4) e f))))
noncomputable def Y7(k:Nat)(l:List Nat):List Nat:=Y2 (motive:=fun _=>List Nat) l [] fun a l=>Y2 (motive:=fun _=>List Nat) l [a] fun b l=>Y2 (motive:=fun _=>List Nat) l [pk6 k a b a b a b,pk6 k b a b a b a] fun c _=>[pk6 k a a b b c c,pk6 k b c a c a b,pk6 k c b c a b a]
noncomputable def w8(l:List Nat):Nat:=(fun n=>ifb (o0 n 3) 6 (ifb (o0 n 2) 2 1)) l.length
noncomputable def isS(q:So):Bool:=q.o.isSome
noncomputable def O7(q:Nat->So)(pg:Nat):List Nat:=a1b (isS (q (C1 3 pg))) (isS (q (w0 (C1 3 pg) 1))) (isS (q (w0 (C1 3 pg) 2)))
theorem perm2:∀a,a < 3->∀b,b < 3->a≠b->∃k,k < 2/\Y7 k (a1b ([a,b].contains 0) ([a,b].contains 1) ([a,b].contains 2))=[a,b]:=by decide+kernel
theorem perm1:∀a,a < 3->∃k,k < 1/\Y7 k (a1b ([a].contains 0) ([a].contains 1) ([a].contains 2))=[a]:=by decide+kernel
noncomputable def p3B(a b c:Nat):Bool:=ifb (o0 a b) true (ifb (o0 a c) true (ifb (o0 b c) true ([0,1,2,3,4,5].any fun k=>Y7 k (a1b ([a,b,c].contains 0) ([a,b,c].contains 1) ([a,b,c].contains 2))==[a,b,c])))
theorem e6e:∀a,a < 3->∀b,b < 3->∀c,c < 3->p3B a b c=true:=by decide+kernel
theorem perm3{a b c:Nat}(ha:a < 3)(hb:b < 3)(hc:c < 3)(h1:a≠b)(h2:a≠c)(h3:b≠c):∃k,k < 6/\Y7 k (a1b ([a,b,c].contains 0) ([a,b,c].contains 1) ([a,b,c].contains 2))=[a,b,c]:=by
 have h:=e6e a ha b hb c hc;unfold p3B at h;rw[show o0 a b=false from (a07 a b).trans (decide_eq_false h1),show o0 a c=false from (a07 a c).trans (decide_eq_false h2),show o0 b c=false from (a07 b c).trans (decide_eq_false h3)] at h;refine yea (List.any_eq_true.mp h) fun k hk e=>?_;exact ⟨k,(by decide:∀k,k∈[0,1,2,3,4,5]->k < 6) k hk,beq_iff_eq.mp e⟩
theorem e6f{l:List Nat}(hn:l.Nodup)(h3:∀a∈l,a < 3):∃k,k < w8 l/\Y7 k (a1b (l.contains 0) (l.contains 1) (l.contains 2))=l:=by
 match l,hn,h3 with
 | [],_,_=>exact ⟨0,by decide,rfl⟩
 | [a],_,h=>exact perm1 a (h a (.head _))
 | [a,b],hn,h=>exact perm2 a (h a (.head _)) b (h b (.tail _ (.head _))) fun e=>(a4b.mp hn).1 (e▸.head _)
 | [a,b,c],hn,h=>
  have n1:=a4b.mp hn;have n2:=a4b.mp n1.2;exact perm3 (h a (.head _)) (h b (.tail _ (.head _))) (h c (.tail _ (.tail _ (.head _)))) (fun e=>n1.1 (e▸.head _)) (fun e=>n1.1 (e▸.tail _ (.head _))) fun e=>n2.1 (e▸.head _)
 |a::b::c::d::l,hn,h=>
  have:=a3e (a::b::c::d::l) [0,1,2] hn fun x hx=>(by decide:∀x,x < 3->x∈[0,1,2]) x (h x hx);exact absurd this (by simp)
theorem e5v{q:Nat->So}{pg:Nat}{ks:List Nat}(hp:pg < 2)(hn:ks.Nodup)(hm:∀j,j < 6->(j∈ks ↔ (q j).o.isSome=true))(h6:∀j∈ks,j < 6):∃k,k < w8 (O7 q pg)/\(Y7 k (O7 q pg)).map (fun d=>3 * pg+d)=ks.filter fun k=>decide (k / 3=pg):=by
 have hN:((ks.filter fun k=>decide (k / 3=pg)).map (· % 3)).Nodup:=by
  refine (List.pairwise_map).mpr ((hn.filter _).imp_of_mem fun {a b} ha hb hne e=>hne ?_);have ha:=of_decide_eq_true (a6q.mp ha).2;have hb:=of_decide_eq_true (a6q.mp hb).2;exact by exact rF (a6u a 3) (rF (a6u b 3) (rE ha (rE hb (rE (show a % 3=b % 3 from e) rfl))))
 have h3:∀a∈(ks.filter fun k=>decide (k / 3=pg)).map (· % 3),a < 3:=fun a ha=>by
  refine yea (d6.mp ha) fun b _ zz=>?_;subst zz;exact a02 _ (by decide)
 refine yea (e6f hN h3) fun k hk e=>?_;have hc:∀d,d < 3->((ks.filter fun k=>decide (k / 3=pg)).map (· % 3)).contains d=(q (3 * pg+d)).o.isSome:=fun d hd=>by
  have h6':3 * pg+d < 6:=H3 (n9 hd _) (Nat.mul_le_mul_left 3 hp);rw[Bool.eq_iff_iff,List.contains_iff_mem,<-hm _ h6'];constructor
  ·intro h
   refine yea (d6.mp h) fun b hb e=>?_;have h1:=of_decide_eq_true (a6q.mp hb).2;have e:b % 3=d:=e;refine rF h1 (rF e (rE (a6u ..) ?_));exact (a6q.mp hb).1
  ·intro h
   exact d6.mpr ⟨_,a6q.mpr ⟨h,decide_eq_true (by rw[Nat.mul_add_div (by decide)];refine rE (Nat.div_eq_of_lt hd) ?_;rfl)⟩,by show (3 * pg+d) % 3=d;exact rE (Nat.mul_add_mod ..) (rE (Nat.mod_eq_of_lt hd) rfl)⟩
 have hlen:∀k l,(Y7 k l).length<=l.length/\(l.length<=3->(Y7 k l).length=l.length):=fun k l=>by
  match l with
  | []=>exact ⟨i3 _,fun _=>rfl⟩
  | [a]=>exact ⟨i3 _,fun _=>rfl⟩
  | [a,b]=>exact ⟨i3 _,fun _=>rfl⟩
  |a::b::c::l=>exact ⟨by simp [Y7],fun h=>by simp at h;subst h;rfl⟩
 refine ⟨k,?_,?_⟩
 ·unfold w8 at hk ⊢
  rw[<-e,hc 0 (by decide),hc 1 (by decide),hc 2 (by decide),(hlen _ _).2 (by generalize (q (3 * pg+0)).o.isSome=a;generalize (q (3 * pg+1)).o.isSome=b;generalize (q (3 * pg+2)).o.isSome=c;cases a <;>cases b <;>cases c <;>decide)] at hk;exact hk
 rw[hc 0 (by decide),hc 1 (by decide),hc 2 (by decide)] at e;have e:Y7 k (O7 q pg)=(ks.filter fun k=>decide (k / 3=pg)).map (· % 3):=e;refine rE e (rE a6p ?_);have:∀b∈ks.filter fun k=>decide (k / 3=pg),((fun d=>3 * pg+d) ∘ (· % 3)) b=b:=fun b hb=>by
  have h1:=of_decide_eq_true (a6q.mp hb).2;show 3 * pg+b % 3=b;exact rF h1 (rE (a6u ..) rfl)
 exact (a49 this).trans (List.map_id _)
noncomputable def b7n(o:Option A4):Bool:=K0 (motive:=fun _=>Bool) false (fun k=>a00 (motive:=fun _=>Bool) k false true false false false) o
theorem c8i{o:Option A4}(h:b7n o=true):o=some .cell:=by
 cases o with
 |none=>exact T1 h
 |some k=>cases k <;>first|rfl|exact T1 h
noncomputable def a8q{α:Type}(q:Nat->So)(e:AE)(x:S)(F:Nat->S->Res α):Res α:=nd (lk e.cells i5) fun c=>.same (.bo (b7n (lk e.scope.names i5))) (.bo true) <| (A6 U4 e x).bd fun a x=>.same (.oo [obd (G2 a) x.get]) (.oo [some (a3t q)]) <|nd (obd (x.get c) a3g) fun v=>nd (obd v a1n) fun pg=>.same (.oo [x.get c]) (.oo [some (.cell (some (iV pg)))]) <|ck (J0 pg 2) <|ck x.ok <|F pg x
noncomputable def b7t(ev:Bool)(pg d:Nat):V:=ifb ev (iV d) (prV (w0 (C1 3 pg) d))
noncomputable def C9(ev:Bool)(q:Nat->So)(pg k:Nat):List V:=mapL (b7t ev pg) (Y7 k (O7 q pg))
section
variable{C:Cx}{A:Around}{k:Nat}{σ τ:St C}{e:AE}{env:Env}
theorem e2p{h:Heap}{ρ:Nat->Addr}{n pg d:Nat}{ev:Bool}{u:Value}(hd:d < 3)(r:a1j C h ev (3 * pg+d) u):VR h ρ n (b7t ev pg d) u:=by
 unfold a1j at r;cases ev with
 |true=>
  rw[if_pos rfl] at r;obtain ⟨t,rfl⟩:=r;refine ⟨t,?_⟩;exact rE (show (3 * pg+d) % 3=d by omega) rfl
 |false=>
  rw[if_neg Z2] at r;obtain ⟨a,rfl,vs,kk,e,r⟩:=r;refine yee (a28 r) fun t u zz=>?_;subst zz;exact a6z e (.cons ⟨t,rfl⟩ (.cons ⟨u,rfl⟩ .nil))
theorem d8q:∀a b c k,∀d∈Y7 k (a1b a b c),d < 3:=by
 intro a b c k;have pk:∀ {k x1 x2 x3 x4 x5 x6:Nat},x1 < 3->x2 < 3->x3 < 3->x4 < 3->x5 < 3->x6 < 3->pk6 k x1 x2 x3 x4 x5 x6 < 3:=fun {k x1 x2 x3 x4 x5 x6} h1 h2 h3 h4 h5 h6=>by
  unfold pk6;cases o0 k 0 <;>cases o0 k 1 <;>cases o0 k 2 <;>cases o0 k 3 <;>cases o0 k 4 <;>assumption
 cases a <;>cases b <;>cases c <;>(intro d hd;simp only[a1b,Y7,ifb,O0,G1,or_false] at hd) <;>first
  | (rcases hd with rfl|rfl|rfl <;>exact pk (by decide) (by decide) (by decide) (by decide) (by decide) (by decide))
  | (rcases hd with rfl|rfl <;>exact pk (by decide) (by decide) (by decide) (by decide) (by decide) (by decide))
  | (subst hd;decide)
  |exact hd.elim
theorem c8x{h:Heap}{ρ:Nat->Addr}{n pg:Nat}{ev:Bool}:∀ {l:List Nat} {us:List Value},(∀d∈l,d < 3)->All2 (a1j C h ev) (l.map fun d=>3 * pg+d) us->VRl h ρ n (mapL (b7t ev pg) l) us
 | [],_,_,r=>by cases r;exact .nil
 |d::l,_,hl,r=>by cases r with|cons h1 r=>exact .cons (e2p (hl d (.head _)) h1) (c8x (fun d hd=>hl d (.tail _ hd)) r)
theorem d7o{c:Nat}(h:lk e.cells i5=some c):a7d e.cells scP.names []=some [(i5,c)]:=by
 show obd (lk e.cells i5) _=_;refine rE h ?_;rfl
theorem d0z(rm:F0 k A)(He:Er σ e env){ev:Bool}{b1 b2 b3 a1 a2 a3 a4 a5 a6 a8 pd:Pos}{use:Option (Value->Sem Unit)}{Q:Value->Shared->Prop}{E:Value->Shared->Prop}{q:Nat->So}{α:Type}{F:Nat->S->Res α}{P:α->S->Prop}{pos':Pos}
  (z:(a8q q e σ.x F).All P)
  (kk:∀ (τ:St C) (pg kp:Nat) (h':Heap) (tk:Nat) (D L:Addr) (us:Array Value) (n':Nat) (m:Str->Option Value),Le σ τ->pg < 2->kp < w8 (O7 q pg)->τ.x.ok=true->(F pg τ.x).All P->(∀b o,τ.h.get? b=some o->h'.get? b=some o)->τ.h.get? D=none->τ.h.get? L=none->D≠L->h'.get? D=some (seqObj "list" us n')->h'.Ns L m->
   (∀ρ n h'',(∀b o,b≠L->h'.get? b=some o->h''.get? b=some o)->VRl h'' ρ n (C9 ev q pg kp) us.toList)->compPost C.m A E use Q (.ref D) L (.ok .next) {τ.s with heap:=h',toks:=tk}):
  wpAny C.m A (b0o (ceP ev b1 b2 b3 a1 a2 a3 a4 a5 a6 a8 (.Name U4 pd)) scP env pos' (newList []) false (eval (.Name U4 pd) env) use) Q E σ.s:=by
 revert z;refine ndE fun c hcp z=>?_;obtain ⟨ek,z⟩:=z;have hkp:=c8i (Sd.bo.inj ek);refine yea (b64 He (d7o hcp)) fun rs hrs hce=>?_;refine wpAny_comprehension_free (g:=⟨.Name i7 a6,.Name U4 pd,[a7g a1 a2 a3 a4 a5],0⟩) (gs:=[]) rfl (a8l rfl env) hce rfl (b2q (by decide+kernel)) ?_;refine (v8 He).use z fun av ua τ X ra z=>?_;obtain ⟨e1,z⟩:=z;refine obE (fun i h1 hi=>?_) (Z0 (Sd.oo.inj e1)).1;revert z;refine ndE fun v hv z=>?_;revert z;refine ndE fun pg hpg z=>?_;obtain ⟨e2,z⟩:=z;revert z;refine ckE fun h2 z=>?_;revert z;refine ckE fun hok z=>?_;have hcell:=(Z0 (Sd.oo.inj e2)).1;refine rE (ra.ref h1) (rE (show rs=[(i5,τ.ρ c)] from (X.cr hrs).1) ?_);refine d82 rm (X.env He) hi hkp hcp hcell fun h' tk D L us ks n' m k1 hD hL hDL hDo hns hnd hmem h6 hit=>?_;refine yea (e5v (B4 h2) hnd hmem h6) fun kp hk6 ep=>?_;rw[<-ep] at hit;refine kk τ pg kp h' tk D L us n' m X (B4 h2) hk6 hok z k1 hD hL hDL hDo hns fun ρ n h'' hk=>?_;refine c8x (C:=C) (h:=h'') (ev:=ev) (d8q _ _ _ _) (hit.mono fun j u r=>?_);unfold a1j at r ⊢;cases ev with
 |true=>exact r
 |false=>
  rw[if_neg Z2] at r ⊢;obtain ⟨a,ea,vs,kk,et,r⟩:=r;refine ⟨a,ea,vs,kk,hk a _ (fun h=>?_) et,r⟩;refine G4 hns fun ol lo lep hl1 hl2 _=>?_;clear hns;rw[h,hl1] at et;cases C0 et;cases hl2
theorem e61{c:Nat}{ev:Bool}{b1 b2 b3 a1 a2 a3 a4 a5 a6 a8 pd:Pos}{q:Nat->So}:XOk C c ⟨ceP ev b1 b2 b3 a1 a2 a3 a4 a5 a6 a8 (.Name U4 pd),fun e x=>some (a8q q e x fun pg x=>.ask (w8 (O7 q pg)) fun k=>.ok (.ref x.n) (x.new (.list (C9 ev q pg k))))⟩:=fun {A σ e env} rm He r hr=>by
 cases hr;intro Q E z;show wpAny _ _ (b0o (ceP ev b1 b2 b3 a1 a2 a3 a4 a5 a6 a8 (.Name U4 pd)) scP env _ (newList []) false (eval (.Name U4 pd) env) none) Q E σ.s;refine d0z rm He z fun τ pg kp h' tk D L us n' m X hp hk hok z k1 hD hL hDL hDo hns hit=>?_;refine ⟨m,hns,fun h'' hs=>?_⟩;have hk2:∀b o,b≠L->h'.get? b=some o->h''.get? b=some o:=fun b o hb e=>(hs.2 b hb).trans e;have z:A0 σ Vr Q (.ref τ.x.n) (τ.x.new (.list (C9 ev q pg kp))):=z kp hk;exact A0.new_at (σ:=τ) (z.up X) hok (fun b o e=>hk2 b o (fun h=>by rw[h,hL] at e;cases e) (k1 b o e)) hD (hk2 _ _ hDL hDo) fun {ρ'} X'=>show ∃vs k,VRl h'' ρ' (τ.x.n+1) (C9 ev q pg kp) vs/\seqObj "list" us n'=T5 vs k from ⟨us.toList,n',hit ρ' _ h'' hk2,by unfold T5 seqObj;exact rE Array.toArray_toList rfl⟩
end
section
variable{C:Cx}{ρ ρ':Nat->Addr}{x x':S}{h h' h'':Heap}{L:Addr}
theorem At.aside(D:At C ρ x h)(k:∀b o,b≠L->h.get? b=some o->h'.get? b=some o)(hL:∀i o,x.get i=some o->ρ i≠L)(hb:C.hb.get? L=none)(ht:Tups h h'):At C ρ x h':=by
 refine ⟨fun b o e=>k b o (fun q=>by rw[q,hb] at e;cases e) (D.keep b o e),fun i o e=>?_,D.fresh,D.inj,D.room⟩;refine m5 (D.obj i o e) fun hi ob g1 g2=>?_;exact ⟨hi,ob,k _ _ (hL i o e) g1,g2.tell (.same ht)⟩
theorem Ext.aside(X:Ext ρ x h ρ' x' h')(k:∀b o,b≠L->h'.get? b=some o->h''.get? b=some o)(h0:h.get? L=none):Ext ρ x h ρ' x' h'':=
 ⟨X.agree,X.le,X.live,X.new,fun b o hb e=>k b o (fun q=>by rw[q,h0] at e;cases e) (X.keep b o hb e),fun b vs n e=>k b _ (fun q=>by rw[q,h0] at e;cases e) (X.tups b vs n e),fun t=>ye (X.tab t) fun ps e=>⟨ps,k _ _ (fun q=>by obtain ⟨ps',e'⟩:=t;rw[q,h0] at e';cases e') e⟩⟩
end
section
variable{C:Cx}{A:Around}{k:Nat}{σ τ:St C}{e:AE}{env:Env}
theorem e60(rm:F0 k A)(He:Er σ e env){ev:Bool}{b1 b2 b3 a1 a2 a3 a4 a5 a6 a8 pd np apos:Pos}{n:Str}{rest:List Stmt}{q:Nat->So}{R:AE->S->Res FL}(hsw:a25 scP n np a8 e=true)(hl:apos.line=np.line)
  (hr:∀τ:St C,Le σ τ->GoR A (execs rest env) τ Fr (R e τ.x)):
  GoR A (execs (.Assign [.Name n np] (ceP ev b1 b2 b3 a1 a2 a3 a4 a5 a6 a8 (.Name U4 pd)) apos::rest) env) σ Fr (a8q q e σ.x fun pg x=>.ask (w8 (O7 q pg)) fun k=>(e9 n (.ref x.n) e (x.new (.list (C9 ev q pg k)))).bd fun _ x=>R e x):=fun Q E z=>by
 have hsw':swapsWithSole [.Name n np] (ceP ev b1 b2 b3 a1 a2 a3 a4 a5 a6 a8 (.Name U4 pd)) apos.line env=pure true:=by
  have h:=d3v (elt:=eltP ev b1 b2 b3) (gens:=[⟨.Name i7 a6,.Name U4 pd,[a7g a1 a2 a3 a4 a5],0⟩]) (scope:=scP) (vp:=a8) (n:=n) (p:=np) (line:=apos.line) He;rw[hsw] at h;exact h
 refine j9 ?_;refine rE (exec_Assign_arm ..) (rE hsw' ?_);refine m0 (H5 ?_);refine m0 (q0 ?_);refine rE (if_pos rfl) ?_;refine m0 ?_;generalize hf:(fun v=>assignAll v ((a18 [.Name n np] env).map (·.2)))=f;show wpAny _ _ (do let _<-b0o (ceP ev b1 b2 b3 a1 a2 a3 a4 a5 a6 a8 (.Name U4 pd)) scP env _ (newList []) false (eval (.Name U4 pd) env) (some f)) _ E σ.s;refine m0 (d0z rm He (Q:=fun _ s'=>wpAny C.m A (pure ()) _ E s') z fun τ pg kp h' tk D L us n' m X hp hk hok z k1 hD hL hDL hDo hns hit=>?_);show wpAny C.m A (f (.ref D)) _ E _;refine rF hf ?_;show wpAny C.m A (assignAll (.ref D) ((a18 [.Name n np] env).map (·.2))) _ E _;rw[b0c rfl];show wpAny C.m A (assign (.Name n np) env (.ref D)) _ E _;have z:((e9 n (.ref τ.x.n) e (τ.x.new (.list (C9 ev q pg kp)))).bd fun _ x=>R e x).All (A0 σ Fr Q):=z kp hk;obtain ⟨D1,X1⟩:=τ.D.new_at hok k1 hD hDo (o:=.list (C9 ev q pg kp)) fun X'=>show ∃vs k,VRl h' (ext τ.ρ τ.x.n D) (τ.x.n+1) (C9 ev q pg kp) vs/\seqObj "list" us n'=T5 vs k from ⟨us.toList,n',hit _ _ h' fun _ _ _ e=>e,by unfold T5 seqObj;exact rE Array.toArray_toList rfl⟩;let υ:St C:=τ.to h' tk _ _ D1
 have Xu:Le τ υ:=⟨X1,rfl⟩;have rD:Vr υ (.ref τ.x.n) (.ref D):=⟨congrArg O2 (a1e ..).symm,l8 _⟩;have notL:∀ (ζ:St C),Le υ ζ->∀i o,ζ.x.get i=some o->ζ.ρ i≠L:=fun ζ Y i o e=>by
  have liveU:∀j,Live υ.x j->υ.ρ j≠L:=fun j zy=>ye zy fun o' q'=>by
   refine yea (υ.at q') fun ob g _=>?_;rcases a1o (a:=D) (ρ:=τ.ρ) τ.D.room q' with ⟨_,_,e2⟩ | ⟨_,e1,e2⟩
   ·show ext τ.ρ τ.x.n D j≠L
    refine rE e2 ?_;exact hDL
   ·show ext τ.ρ τ.x.n D j≠L
    refine rE e2 ?_;refine yea (τ.at e1) fun ob' g' _=>?_;exact fun h=>by rw[h,hL] at g';cases g'
  refine G3 hns fun ol lo lep hl1 _=>?_;clear hns;by_cases hi:i < υ.x.n
  ·refine rE (Y.X.agree i hi) ?_
   exact liveU i (Y.X.live i hi ⟨o,e⟩)
  ·exact Y.X.new i (M3.mp hi) ⟨o,e⟩ L ol hl1 fun j hj lj=>liveU j lj
 refine wpAny_assign_Name ((a65 (Xu.env (X.env He)) rD).use z fun _ _ φ Y _ z=>?_);refine a0s hns fun ol lo lep hl1 hl2 hl3 hl4=>?_;clear hns;have hLφ:φ.h.get? L=some ol:=Y.X.keep L ol (fun i hi zz=>ye zz fun o q'=>notL υ .refl i o q') hl1;refine ⟨m,⟨ol,lo,lep,hLφ,hl2,hl3,hl4⟩,fun h'' hs=>?_⟩;have hk2:∀b o,b≠L->φ.h.get? b=some o->h''.get? b=some o:=fun b o hb e=>(hs.2 b hb).trans e;have hb:C.hb.get? L=none:=by
  cases hq:C.hb.get? L with
  |none=>rfl
  |some o=>have:=τ.D.keep L o hq;rw[hL] at this;cases this
 have ht:Tups φ.h h'':=fun b vs kk e=>hk2 b _ (fun q'=>by
  rw[q',hLφ] at e;cases C0 e;cases hl2) e
 have D2:At C φ.ρ φ.x h'':=φ.D.aside hk2 (notL φ Y) hb ht;have X2:Le τ ⟨{φ.s with heap:=h''},φ.ρ,φ.x,D2⟩:=by
  have X3:=Xu.trans Y;exact ⟨X3.X.aside hk2 hL,by exact rE X3.e rfl⟩
 exact q0 (q0 ((hr ⟨{φ.s with heap:=h''},φ.ρ,φ.x,D2⟩ (X.trans X2)).fin (X.trans X2) z))
end
noncomputable def N8{α:Type}(ms:List Nat):(List Nat->Res α)->Res α:=E0 (motive:=fun _=>(List Nat->Res α)->Res α) (fun f=>f []) (fun m _ ih f=>.ask m fun d=>ih fun ds=>f (d::ds)) ms
theorem d6h{α:Type}:∀ {ms:List Nat} {f:List Nat->Res α} {P:α->S->Prop},(N8 ms f).All P->∀ds,Lt2 ds ms->(f ds).All P:=fun {ms f P} h ds l=>by
 induction l generalizing f with
 |nil=>exact h
 |cons hd _ ih=>exact ih (f:=fun ds=>f (_::ds)) (h _ hd)
structure CtD where
 pc:Pc
 us₀:List OT
 ms:List Nat
 fl:List Nat->FT
 us:List Nat->List OT
 nn:Nat
 ns:List Nat->List (Option OT)
noncomputable def CtD.lens(t:CtD)(ds:List Nat):Bool:=w4 (o0 t.us₀.length (t.us ds).length) (w4 (o0 (t.ns ds).length t.nn) (w4 (H9 (t.us ds)) (a3i t.us₀ (t.us ds))))
noncomputable def CtD.end(t:CtD)(L:List Nat)(x:S)(ds:List Nat):Res FL:=.same (.bo (t.lens ds)) (.bo true) <| .ok ((t.fl ds).val (rOf L x.n)) (grf L (t.us ds) (t.ns ds) x)
structure CtDOk(C:Cx)(c:Nat)(lo:B)(t:CtD):Prop where
 go:∀ {A:Around} {σ:St C} {L:List Nat},F0 c A->G6 lo t.us₀ L σ.x->σ.x.n+t.nn < 1000000->t.pc.Go C A (nthD L) σ (N8 t.ms (t.end L σ.x))
structure U1 where
 lo:B
 t:CtD
 Lf:FL->S->List Nat
noncomputable def U1.at(j:U1)(ds:List Nat):Job:=⟨j.lo,⟨j.t.pc,j.t.us₀,j.t.fl ds,j.t.us ds,j.t.ns ds⟩,j.Lf⟩
noncomputable def U1.res(c:Nat)(ct:CT)(N:Nat)(j:U1):Res FL:=j.t.pc.run T3 (hk c ct N) (X j.lo (W2 j.t.us₀ []))
noncomputable def U1.side(c:Nat)(ct:CT)(N:Nat)(b:Bool)(j:U1)(ds:List Nat):List Sd:=ifb b ((j.res c ct N).side true (j.at ds).lf j.t.ms ds) ((j.res c ct N).side false (j.at ds).rt j.t.ms ds)
inductive a0x(α:Type) where
 |bad|eq (p q:Sd) |fin (a:α) (x:S)
noncomputable def catR{α:Type}(f:Nat->List α)(m:Nat):Nat->List α:=o4 (motive:=fun _=>Nat->List α) (fun _=>[]) (fun _ ih d=>f d++ih (Q0 d)) m
noncomputable def Res.leaves{α:Type}(r:Res α):List (a0x α):=Res.rec (motive:=fun _=>List (a0x α)) [.bad] (fun a x=>[.fin a x]) (fun m _ ih=>catR ih m 0) (fun p q _ ih=>.eq p q::ih) r
noncomputable def S5{α:Type}(b:Bool)(f:Nat->α->S->List Sd)(l:List (a0x α)):Nat->List (List Sd):=E0 (motive:=fun _=>Nat->List (List Sd)) (fun k=>[[.nn k]]) (fun v _ ih k=>a0x.casesOn (motive:=fun _=>List (List Sd)) v [[.bo b]] (fun p q=>[ifb b p q]::ih k) (fun a x=>f k a x::ih (Q0 k))) l
theorem c58{α:Type}{f:Nat->List α}{a:α}:∀ {m k d:Nat},d < m->a∈f (k+d)->a∈catR f m k
 |0,k,d,h,_=>absurd h (o9 d)
 |m+1,k,0,_,ha=>a0z _ ha
 |m+1,k,d+1,h,ha=>a2k _ (c58 (m:=m) (k:=Q0 k) (q6 h) (by refine rE (Nat.succ_add_eq_add_succ ..) ?_;exact ha))
noncomputable def b4w{α:Type}(P:α->S->Prop)(v:a0x α):Prop:=a0x.casesOn (motive:=fun _=>Prop) v False (fun p q=>p=q) P
theorem Res.leaves_all{α:Type}{P:α->S->Prop}:∀ (r:Res α),(∀v∈r.leaves,b4w P v)->r.All P:=by
 intro r;induction r with
 |fail=>exact fun h=>h .bad (.head _)
 |ok a x=>exact fun h=>h (.fin a x) (.head _)
 |ask m k ih=>exact fun h d hd=>ih d fun v hv=>h v (c58 (k:=0) hd (by refine rE (K8 ..) ?_;exact hv))
 |same p q r ih=>exact fun h=>⟨h (.eq p q) (.head _),ih fun v hv=>h v (.tail _ hv)⟩
theorem b86{α:Type}{f g:Nat->α->S->List Sd}:∀ {l:List (a0x α)} {k n:Nat},S5 true f l k=S5 false g l k->(S5 true f l k).getLast? =some [.nn n]->k<=n/\∀v∈l,b4w (fun a x=>∃i,k<=i/\i < n/\f i a x=g i a x) v
 | [],k,n,_,h=>by
  have h:some [Sd.nn k]=some [Sd.nn n]:=h;exact ⟨a4d (Sd.nn.inj (Z0 (C0 h)).1),fun v hv=>absurd hv G1⟩
 | .bad::l,k,n,e,h=>by cases e
 | .eq p q::l,k,n,e,h=>by
  have e:[p]::S5 true f l k=[q]::S5 false g l k:=e;have h:([p]::S5 true f l k).getLast? =some [.nn n]:=h;obtain ⟨e1,e2⟩:=Z0 e;have hne:S5 true f l k≠[]:=by cases l with|nil=>exact fun h=>by cases h|cons v l=>cases v <;>exact fun h=>by cases h
  rw[List.getLast?_cons,b50 hne] at h;obtain ⟨h1,h2⟩:=b86 e2 (n:=n) (by refine rE (b50 hne) ?_;exact h);exact ⟨h1,fun v hv=>(O0.mp hv).elim (fun e=>e▸(Z0 e1).1) (h2 v)⟩
 | .fin a x::l,k,n,e,h=>by
  have e:f k a x::S5 true f l (k+1)=g k a x::S5 false g l (k+1):=e;have h:(f k a x::S5 true f l (k+1)).getLast? =some [.nn n]:=h;obtain ⟨e1,e2⟩:=Z0 e;have hne:S5 true f l (k+1)≠[]:=by cases l with|nil=>exact fun h=>by cases h|cons v l=>cases v <;>exact fun h=>by cases h
  rw[List.getLast?_cons,b50 hne] at h;obtain ⟨h1,h2⟩:=b86 e2 (n:=n) (by refine rE (b50 hne) ?_;exact h);refine ⟨b52 h1,fun v hv=>(O0.mp hv).elim (fun e=>e▸⟨k,i3 _,h1,e1⟩) fun hv=>?_⟩;have:=h2 v hv;cases v with
  |bad=>exact this
  |eq p q=>exact this
  |fin a x=>refine yea this fun i g1 g2=>?_;clear this;exact ⟨i,b52 g1,g2⟩
section
variable{C:Cx}{A:Around}{σ τ:St C}{c N:Nat}{ct:CT}{lo:B}
theorem U1.core(Dr:V0 C)(CY:Y3 C c ct){j:U1}(LK:C5 j.lo)(all:(j.res c ct N).All fun f x=>∃ds,Lt2 ds j.t.ms/\(j.at ds).lf f x=(j.at ds).rt f x):CtDOk C N j.lo j.t:=by
 constructor
 intro A σ L rm F room;have D₀:=F.shrink LK σ.D;let σ₀:St C:=⟨σ.s,fun i=>σ.ρ (plc L i),X j.lo (W2 j.t.us₀ []),D₀⟩
 have hplc:∀i,σ.ρ (nthD L i)=(fun i=>σ.ρ (plc L i)) (T3 i):=fun i=>congrArg σ.ρ (z8 i).symm;have hn:(X j.lo (W2 j.t.us₀ [])).n=256+j.t.us₀.length:=X_n.trans (congrArg (256+·) (a0m _));have hlt:∀i,nthD L i < σ.x.n->T3 i < (X j.lo (W2 j.t.us₀ [])).n:=fun i hi=>by refine rE hn ?_;exact n9 (F.len▸a1r (i4 hi σ.D.room)) 256
 have fin:∀ {f:FL} {τ:St C} {ds:List Nat},j.t.lens ds=true->(j.at ds).lf f τ.x=(j.at ds).rt f τ.x->Le σ₀ τ->∃υ:St C,υ.s=τ.s/\υ.x=grf L (j.t.us ds) (j.t.ns ds) σ.x/\Le σ υ/\∀fl,Fr τ f fl->Fr υ ((j.t.fl ds).val (rOf L σ.x.n)) fl:=fun {f τ ds} hl e Xt=>by
  revert hl;refine anE fun l1 l2=>?_;revert l2;refine anE fun l2 l3=>?_;revert l3;refine anE fun l3 l4=>?_;have l1:=V1 l1;have l2:=V1 l2;obtain ⟨e1,e⟩:=Z0 e;obtain ⟨e2,e⟩:=Z0 e;obtain ⟨e3,e⟩:=Z0 e;obtain ⟨e4,e⟩:=Z0 e;obtain ⟨e5,_⟩:=Z0 e;refine yaa (c7z (us:=j.t.us ds) (ns:=j.t.ns ds) (L':=j.Lf f τ.x) l3 l4 LK σ.D F l1 τ.D Xt.X ⟨Sd.bt.inj e1,Sd.oo.inj e4,Sd.bo.inj e5,Sd.nn.inj e3⟩ (l2▸room)) fun D3 X3 T=>?_;refine ⟨⟨τ.s,_,_,D3⟩,rfl,rfl,⟨X3,Xt.e⟩,fun fl r=>?_⟩;rw[a7w (Sd.vs.inj e2)] at r;have r:Fr τ ((j.t.fl ds).val (nthD ((j.at ds).L f τ.x))) fl:=r;cases hf:j.t.fl ds with
  |rt v=>
   rw[hf] at r;have r:∃u,fl=.ret u/\Vr τ (v.val (nthD ((j.at ds).L f τ.x))) u:=r;obtain ⟨u,e,r⟩:=r;exact ⟨u,e,VR.rel T (v.rel (RL.reg _ _)) r⟩
  |_=>rw[hf] at r;exact r
 have ends:∀ {P:FL->S->Prop},(N8 j.t.ms (j.t.end L σ.x)).All P->∀ds,Lt2 ds j.t.ms->j.t.lens ds=true/\P ((j.t.fl ds).val (rOf L σ.x.n)) (grf L (j.t.us ds) (j.t.ns ds) σ.x):=fun z ds hd=>ya (d6h z ds hd) fun a b=>⟨Sd.bo.inj a,b⟩;unfold U1.res at all;cases hp:j.t.pc with
 |sts l e=>
  intro env He Q E z;rw[hp] at all;have He':Er σ₀ (e.at T3) env:=⟨He.1.trans (AE.at_env hplc),AE.small He.2 hlt⟩;refine (f7 CY Dr N).sts (σ:=σ₀) rm He' l Q E (Res.All_mono (fun f x' e fl τ hx Xt r=>?_) all);subst hx;obtain ⟨ds,hd,e⟩:=e;obtain ⟨hl,z⟩:=ends z ds hd;refine W4 (fin hl e Xt) fun υ h1 h2 h3 h4=>?_;exact h1▸z fl υ h2 h3 (h4 fl r)
 |call f as=>
  intro us r0 Q E z;rw[hp] at all;have r0':Vrs σ₀ (VT.vals T3 as) us:=VRl.rel (R:=RL (nthD L) T3) ⟨.refl,fun i i' v r e=>by
   rcases r with ⟨h1,rfl⟩ | ⟨k,rfl,rfl⟩
   ·exact ⟨e.1.trans (congrArg (fun i=>O2 (σ.ρ i)) (W8 h1).symm),by refine rE hn ?_;exact H3 h1 (m4 ..)⟩
   ·exact ⟨e.1.trans (congrArg O2 (hplc k)),hlt k e.2⟩⟩ (VT.rels (RL.reg _ _) as) r0
  refine (f7 CY Dr N).call (σ:=σ₀) rm (f:=.prog f) rfl r0' Q E (Res.All_mono (fun v x' e u τ hx Xt r=>?_) ((Res.All_bd _ _ _).mp all));subst hx;obtain ⟨ds,hd,e⟩:=e;obtain ⟨hl,z⟩:=ends z ds hd;refine W4 (fin (f:=.ret v) hl e Xt) fun υ h1 h2 h3 h4=>?_;exact h1▸z u υ h2 h3 (h4 (.ret u) ⟨u,rfl,r⟩)
 |ex t e=>
  intro env He Q E z;rw[hp] at all;have He':Er σ₀ (e.at T3) env:=⟨He.1.trans (AE.at_env hplc),AE.small He.2 hlt⟩;refine (f7 CY Dr N).ex (σ:=σ₀) rm He' t Q E (Res.All_mono (fun v x' e u τ hx Xt r=>?_) ((Res.All_bd _ _ _).mp all));subst hx;obtain ⟨ds,hd,e⟩:=e;obtain ⟨hl,z⟩:=ends z ds hd;refine W4 (fin (f:=.ret v) hl e Xt) fun υ h1 h2 h3 h4=>?_;exact h1▸z u υ h2 h3 (h4 (.ret u) ⟨u,rfl,r⟩)
 |tr t e=>
  intro env He Q E z;rw[hp] at all;have He':Er σ₀ (e.at T3) env:=⟨He.1.trans (AE.at_env hplc),AE.small He.2 hlt⟩;refine (f7 CY Dr N).tr (σ:=σ₀) rm He' t Q E (Res.All_mono (fun v x' e u τ hx Xt r=>?_) ((Res.All_bd _ _ _).mp all));subst hx;cases r;obtain ⟨ds,hd,e⟩:=e;obtain ⟨hl,z⟩:=ends z ds hd;refine W4 (fin (f:=.ret (.bool v)) hl e Xt) fun υ h1 h2 h3 h4=>?_;exact h1▸z v υ h2 h3 (Fr.bool (h4 (.ret (.bool v)) ⟨_,rfl,rfl⟩))
theorem U1.ok(Dr:V0 C)(CY:Y3 C c ct){j:U1}(LK:C5 j.lo)(run:∀ds,ds.length=j.t.ms.length->j.side c ct N true ds=j.side c ct N false ds):CtDOk C N j.lo j.t:=
 U1.core Dr CY LK (Res.side_all (f:=fun ds=>(j.at ds).lf) (g:=fun ds=>(j.at ds).rt) (j.res c ct N) [] j.t.ms run)
noncomputable def U1.leaf(c:Nat)(ct:CT)(N:Nat)(b:Bool)(j:U1):List (List Sd):=S5 b (fun k=>ifb b (j.at [k]).lf (j.at [k]).rt) (j.res c ct N).leaves 0
theorem U1.okL(Dr:V0 C)(CY:Y3 C c ct){j:U1}{n:Nat}(LK:C5 j.lo)(hm:j.t.ms=[n])(run:j.leaf c ct N true=j.leaf c ct N false)(hn:(j.leaf c ct N true).getLast? =some [.nn n]):CtDOk C N j.lo j.t:=by
 refine U1.core Dr CY LK (Res.leaves_all _ fun v hv=>?_);have:=(b86 (f:=fun k=>(j.at [k]).lf) (g:=fun k=>(j.at [k]).rt) run hn).2 v hv;cases v with
 |bad=>exact this
 |eq p q=>exact this
 |fin a x=>refine R0 this fun i _ h2 h3=>?_;clear this;exact ⟨[i],by refine rE hm ?_;exact .cons h2 .nil,h3⟩
end
noncomputable def a1f{α:Type}(lo:B)(t:CtD)(L:List Nat)(n:Nat)(x:S)(r:Res α):Res α:=.same (.bt (b2m lo x.t.lo)) (.bt lo) <| .same (.oo (b8 (W2 t.us₀ []) L x)) (.oo (vals (nthD L) (W2 t.us₀ []))) <| .same (.bo (w4 (K7 256 L) (w4 (o0 L.length t.us₀.length) (w4 (U0 256 n) (w4 (J0 (w0 256 t.us₀.length) 1000000) (w4 (J0 (w0 n t.nn) 1000000) (w4 (H9 t.us₀) (a8e n L)))))))) (.bo true) r
noncomputable def grD(L:List Nat)(n:Nat)(t:CtD)(x:S)(ds:List Nat):S:=a16 (vals (rOf L n) (t.ns ds)) (M9 (rOf L n) L (t.us ds) x)
noncomputable def endV(t:CtD)(L:List Nat)(n:Nat)(x:S)(ds:List Nat):Res V:=.same (.bo (t.lens ds)) (.bo true) <|FT.casesOn (motive:=fun _=>Res V) (t.fl ds) .fail .fail .fail fun v=>.ok (v.val (rOf L n)) (grD L n t x ds)
noncomputable def endF(t:CtD)(L:List Nat)(n:Nat)(x:S)(ds:List Nat):Res FL:=.same (.bo (t.lens ds)) (.bo true) <| .ok ((t.fl ds).val (rOf L n)) (grD L n t x ds)
noncomputable def c5m(lo:B)(vs:List V)(x:S)(t:CtD)(L:List Nat)(n:Nat):Res V:=Pc.casesOn (motive:=fun _=>Res V) t.pc (fun f as=>.same (.vs vs) (.vs (.prog f::VT.vals (nthD L) as)) <|a1f lo t L n x <|N8 t.ms (endV t L n x)) (fun _ _=>.fail) (fun _ _=>.fail) fun _ _=>.fail
noncomputable def c5v(lo:B)(l:List Stmt)(e:AE)(x:S)(t:CtD)(L:List Nat)(n:Nat):Res FL:=Pc.casesOn (motive:=fun _=>Res FL) t.pc (fun _ _=>.fail) (fun l₀ e₀=>.same (.sl l) (.sl l₀) <| .same (.ae e) (.ae (e₀.at (nthD L))) <|a1f lo t L n x <|N8 t.ms (endF t L n x)) (fun _ _=>.fail) fun _ _=>.fail
noncomputable def c5o(lo:B)(e:AE)(x:S)(t:CtD)(L:List Nat)(n:Nat)(ex:Expr):Res V:=Pc.casesOn (motive:=fun _=>Res V) t.pc (fun _ _=>.fail) (fun _ _=>.fail) (fun t₀ e₀=>.same (.ee ex) (.ee t₀) <| .same (.ae e) (.ae (e₀.at (nthD L))) <|a1f lo t L n x <|N8 t.ms (endV t L n x)) fun _ _=>.fail
noncomputable def b46(v:V)(f:Bool->Res Bool):Res Bool:=V.casesOn (motive_1:=fun _=>Res Bool) v .fail f (fun _=>.fail) (fun _=>.fail) (fun _=>.fail) (fun _=>.fail) (fun _=>.fail) (fun _=>.fail) (fun _=>.fail)
noncomputable def endB(t:CtD)(L:List Nat)(n:Nat)(x:S)(ds:List Nat):Res Bool:=.same (.bo (t.lens ds)) (.bo true) <|FT.casesOn (motive:=fun _=>Res Bool) (t.fl ds) .fail .fail .fail fun v=>b46 (v.val (rOf L n)) fun b=>.ok b (grD L n t x ds)
noncomputable def c5z(lo:B)(e:AE)(x:S)(t:CtD)(L:List Nat)(n:Nat)(ex:Expr):Res Bool:=Pc.casesOn (motive:=fun _=>Res Bool) t.pc (fun _ _=>.fail) (fun _ _=>.fail) (fun _ _=>.fail) fun t₀ e₀=>.same (.ee ex) (.ee t₀) <| .same (.ae e) (.ae (e₀.at (nthD L))) <|a1f lo t L n x <|N8 t.ms (endB t L n x)
structure Q4 where
 key:Nat
 m:List V->S->Option CtD
 L:List V->S->List Nat
noncomputable def a4y{α:Type}(k:Nat)(vs:List V)(x:S)(app:CtD->List Nat->Nat->Res α)(es:List Q4):Option (Res α):=E0 (motive:=fun _=>Option (Res α)) none (fun e _ ih=>ifb (o0 e.key k) (obd (e.m vs x) fun t=>some (a58 (e.L vs x) fun L=>lit x.n fun n=>app t L n)) ih) es
structure a2p where
 key:Nat
 m:List Stmt->AE->S->Option (Res FL)
noncomputable def sEnt(k:Nat)(l:List Stmt)(e:AE)(x:S)(es:List a2p):Option (Res FL):=E0 (motive:=fun _=>Option (Res FL)) none (fun t _ ih=>ifb (o0 t.key k) (t.m l e x) ih) es
noncomputable def orO{α:Type}(a b:Option α):Option α:=K0 (motive:=fun _=>Option α) b some a
structure CTD where
 es:List Q4
 ss:List Q4
 xs:List Q4
 hs:List a2p
noncomputable def ctH(lo:B)(ct:CT)(t:CTD):CT:=⟨fun ex e x=>orO (a4y (c7 ex) [.ref e.locals] x (fun c L n=>c5o lo e x c L n ex) t.xs) (ct.ex ex e x),
 fun l e x=>orO (a4y (C7 l) [.ref e.locals] x (c5v lo l e x) t.ss) (orO (sEnt (C7 l) l e x t.hs) (ct.sts l e x)),
 fun f vs x=>orO (V.casesOn (motive_1:=fun _=>Option (Res V)) f none (fun _=>none) (fun _=>none) (fun _=>none) (fun _=>none) (fun _=>none) (fun a=>a4y a vs x (c5m lo (f::vs) x) t.es) (fun _=>none) (fun _=>none)) (ct.call f vs x),ct.tr⟩
noncomputable def ctT(lo:B)(ct:CT)(ts:List Q4):CT:=⟨ct.ex,ct.sts,ct.call,fun ex e x=>orO (a4y (c7 ex) [.ref e.locals] x (fun c L n=>c5z lo e x c L n ex) ts) (ct.tr ex e x)⟩
section
variable{C:Cx}{A:Around}{σ τ:St C}{c N:Nat}{ct:CT}{lo:B}{t:CtD}
noncomputable def B5(C:Cx)(c:Nat)(lo:B)(e:Q4):Prop:=∀vs x t,e.m vs x=some t->CtDOk C c lo t
noncomputable def SOk(C:Cx)(c:Nat)(t:a2p):Prop:=∀ {A:Around} {σ:St C} {e:AE} {env:Env} {l:List Stmt},F0 c A->Er σ e env->∀r,t.m l e σ.x=some r->GoR A (execs l env) σ Fr r
theorem CtDOk.mono(h:CtDOk C c lo t)(q:c<=N):CtDOk C N lo t:=⟨fun rm=>h.go (rm.mono q)⟩
theorem B5.mono{e:Q4}(h:B5 C c lo e)(q:c<=N):B5 C N lo e:=fun vs x t m=>(h vs x t m).mono q
theorem B5.of{k:Nat}{t:CtD}{L:List V->S->List Nat}(h:CtDOk C c lo t):B5 C c lo ⟨k,fun _ _=>some t,L⟩:=fun vs x t' m=>by cases m;exact h
theorem a50{α:Type}{L:List Nat}{x:S}{r:Res α}{P:α->S->Prop}(z:(a1f lo t L x.n x r).All P):G6 lo t.us₀ L x/\x.n+t.nn < 1000000/\r.All P:=by
 obtain ⟨e1,e2,e3,z⟩:=z;refine anE (fun h1 h=>?_) (Sd.bo.inj e3);revert h;refine anE fun h2 h=>?_;revert h;refine anE fun h4 h=>?_;revert h;refine anE fun h5 h=>?_;revert h;refine anE fun h6 h=>?_;revert h;refine anE fun h7 h8=>?_;exact ⟨⟨fun i hi o q=>(show x.t.get i=some o by refine rE (T.get_eq ..) (rE (if_pos hi) ?_);exact c9s (Sd.bt.inj e1) i o q),Sd.oo.inj e2,h1,V1 h2,d3 h4,B4 h5,h7,h8⟩,B4 h6,z⟩
theorem b5p{α β:Type}{P:α->S->Prop}{Q:β->S->Prop}:∀ {ms:List Nat} {f:List Nat->Res α} {g:List Nat->Res β},(∀ds,(f ds).All P->(g ds).All Q)->(N8 ms f).All P->(N8 ms g).All Q
 | [],f,g,h,z=>h [] z
 |m::ms,f,g,h,z=>fun d hd=>b5p (ms:=ms) (f:=fun ds=>f (d::ds)) (g:=fun ds=>g (d::ds)) (fun ds=>h (d::ds)) (z d hd)
theorem b70{L:List Nat}{x:S}{A:Around}{Q:Value->Shared->Prop}(z:(N8 t.ms (endV t L x.n x)).All (A0 σ Vr Q)):(N8 t.ms (t.end L x)).All (A0 σ Cr2 Q):=
 b5p (fun ds z=>by
  obtain ⟨e,z⟩:=z;refine ⟨e,?_⟩;cases hf:t.fl ds with
  |rt v=>
   rw[hf] at z;have z:A0 σ Vr Q (v.val (rOf L x.n)) (grD L x.n t x ds):=z;show A0 σ Cr2 Q (.ret (v.val (rOf L x.n))) (grD L x.n t x ds);exact fun u τ hx X r'=>yea r' fun u' e r'=>z u τ hx X (by cases e;exact r')
  |nx=>rw[hf] at z;exact z.elim
  |bk=>rw[hf] at z;exact z.elim
  |cn=>rw[hf] at z;exact z.elim) z
theorem d85(H:CtDOk C c lo t)(rm:F0 c A){f:V}{uf:Value}{vs:List V}{us:List Value}{L:List Nat}(rf:Vr σ f uf)(r:Vrs σ vs us):GoR A (p5 uf us) σ Vr (c5m lo (f::vs) σ.x t L σ.x.n):=by
 have go:=@H.go;have ev:=@b70;obtain ⟨pc,us₀,ms,fl,us',nn,ns⟩:=t;cases pc with
 |sts=>exact .fail
 |ex=>exact .fail
 |tr=>exact .fail
 |call g as=>
  intro Q E z;obtain ⟨e1,z⟩:=z;obtain ⟨rfl,rfl⟩:=Z0 (Sd.vs.inj e1);refine yaa (a50 (x:=σ.x) z) fun F hn z=>?_;cases rf;exact go rm F hn us r Q E (b70 (A:=A) z)
theorem d89(H:CtDOk C c lo t)(rm:F0 c A){e:AE}{env:Env}(He:Er σ e env){l:List Stmt}{L:List Nat}:GoR A (execs l env) σ Fr (c5v lo l e σ.x t L σ.x.n):=by
 have go:=@H.go;obtain ⟨pc,us₀,ms,fl,us',nn,ns⟩:=t;cases pc with
 |call=>exact .fail
 |ex=>exact .fail
 |tr=>exact .fail
 |sts l₀ e₀=>
  intro Q E z;obtain ⟨e1,e2,z⟩:=z;refine yaa (a50 (x:=σ.x) z) fun F hn z=>?_;rw[Sd.ae.inj e2] at He;refine rE (Sd.sl.inj e1) ?_;exact go rm F hn env He Q E z
theorem d87(H:CtDOk C c lo t)(rm:F0 c A){e:AE}{env:Env}(He:Er σ e env){ex:Expr}{L:List Nat}:GoR A (eval ex env) σ Vr (c5o lo e σ.x t L σ.x.n ex):=by
 have go:=@H.go;obtain ⟨pc,us₀,ms,fl,us',nn,ns⟩:=t;cases pc with
 |call=>exact .fail
 |sts=>exact .fail
 |tr=>exact .fail
 |ex t₀ e₀=>
  intro Q E z;obtain ⟨e1,e2,z⟩:=z;refine yaa (a50 (x:=σ.x) z) fun F hn z=>?_;rw[Sd.ae.inj e2] at He;refine rE (Sd.ee.inj e1) ?_;exact go rm F hn env He Q E (b70 (A:=A) z)
theorem a7p{α:Type}{k:Nat}{vs:List V}{x:S}{app:CtD->List Nat->Nat->Res α}{r:Res α}{P:Res α->Prop}:∀ {es:List Q4},(∀e∈es,B5 C c lo e)->(∀t L,CtDOk C c lo t->P (app t L x.n))->a4y k vs x app es=some r->P r
 | [],_,_,q=>D0 q
 |e::es,h,go,q=>by
  have q:ifb (o0 e.key k) (obd (e.m vs x) fun t=>some (a58 (e.L vs x) fun L=>lit x.n fun n=>app t L n)) (a4y k vs x app es)=some r:=q;cases hk:o0 e.key k with
  |true=>
   rw[hk] at q;revert q;refine obE fun t h1 q=>?_;cases q;refine rE (b89 ..) ?_;show P (a3a x.n _ b0j);refine rE (a8b ..) ?_;exact go t _ (h e (B3 ..) vs x t h1)
  |false=>rw[hk] at q;exact a7p (fun e he=>h e (C3 _ he)) go q
theorem d21{k:Nat}{l:List Stmt}{e:AE}{env:Env}{r:Res FL}(rm:F0 c A)(He:Er σ e env):∀ {es:List a2p},(∀t∈es,SOk C c t)->sEnt k l e σ.x es=some r->GoR A (execs l env) σ Fr r
 | [],_,q=>D0 q
 |t::es,h,q=>by
  have q:ifb (o0 t.key k) (t.m l e σ.x) (sEnt k l e σ.x es)=some r:=q;cases hk:o0 t.key k with
  |true=>rw[hk] at q;exact h t (B3 ..) rm He r q
  |false=>rw[hk] at q;exact d21 rm He (fun e he=>h e (C3 _ he)) q
theorem a8o{α:Type}{a b:Option α}{r:α}(q:orO a b=some r):a=some r∨b=some r:=by
 cases a with
 |none=>exact .inr q
 |some a=>exact .inl q
structure CTDOk(C:Cx)(c:Nat)(lo:B)(t:CTD):Prop where
 es:∀e∈t.es,B5 C c lo e
 ss:∀e∈t.ss,B5 C c lo e
 xs:∀e∈t.xs,B5 C c lo e
 hs:∀e∈t.hs,SOk C c e
theorem a09{t:CTD}(h:CTDOk C c lo t)(H:Y3 C c ct):Y3 C c (ctH lo ct t) where
 ex rm He ex _ q:=(a8o q).elim (a7p (P:=fun r=>GoR _ (eval ex _) _ Vr r) h.xs fun t L H=>d87 H rm He) (H.ex rm He ex)
 sts rm He l _ q:=(a8o q).elim (a7p (P:=fun r=>GoR _ (execs l _) _ Fr r) h.ss fun t L H=>d89 H rm He) fun q=>(a8o q).elim (d21 rm He h.hs) (H.sts rm He l)
 call {A σ} rm f uf vs us r rf rs q:=(a8o q).elim (fun q=>by
  cases f with
  |prog a=>exact a7p (P:=fun r=>GoR A (p5 uf us) σ Vr r) h.es (fun t L H=>d85 H rm rf rs) q
  |_=>exact D0 q) (H.call rm rf rs)
 tr rm He ex _ q:=H.tr rm He ex q
theorem d8b(H:CtDOk C c lo t)(rm:F0 c A){e:AE}{env:Env}(He:Er σ e env){ex:Expr}{L:List Nat}:GoR A (isTrue ex env (eval ex env)) σ Br (c5z lo e σ.x t L σ.x.n ex):=by
 have go:=@H.go;obtain ⟨pc,us₀,ms,fl,us',nn,ns⟩:=t;cases pc with
 |call=>exact .fail
 |sts=>exact .fail
 |ex=>exact .fail
 |tr t₀ e₀=>
  intro Q E z;obtain ⟨e1,e2,z⟩:=z;refine yaa (a50 (x:=σ.x) z) fun F hn z=>?_;rw[Sd.ae.inj e2] at He;refine rE (Sd.ee.inj e1) ?_;refine go rm F hn env He Q E (b5p (fun ds z=>?_) z);obtain ⟨e,z⟩:=z;refine ⟨e,?_⟩;show A0 σ Cr3 Q (FT.val (rOf L σ.x.n) (fl ds)) (grD L σ.x.n ⟨.tr t₀ e₀,us₀,ms,fl,us',nn,ns⟩ σ.x ds);cases hf:fl ds with
  |rt v=>
   have z:(FT.casesOn (motive:=fun _=>Res Bool) (fl ds) .fail .fail .fail fun v=>b46 (v.val (rOf L σ.x.n)) fun b=>.ok b (grD L σ.x.n ⟨.tr t₀ e₀,us₀,ms,fl,us',nn,ns⟩ σ.x ds)).All (A0 σ Br Q):=z;rw[hf] at z;have z:(b46 (v.val (rOf L σ.x.n)) fun b=>.ok b (grD L σ.x.n ⟨.tr t₀ e₀,us₀,ms,fl,us',nn,ns⟩ σ.x ds)).All (A0 σ Br Q):=z;show A0 σ Cr3 Q (.ret (v.val (rOf L σ.x.n))) (grD L σ.x.n ⟨.tr t₀ e₀,us₀,ms,fl,us',nn,ns⟩ σ.x ds);cases hv:v.val (rOf L σ.x.n) with
   |bool b=>rw[hv] at z;exact fun u τ hx X r'=>z u τ hx X (by cases r';rfl)
   |_=>rw[hv] at z;exact z.elim
  |_=>
   have z:(FT.casesOn (motive:=fun _=>Res Bool) (fl ds) .fail .fail .fail fun v=>b46 (v.val (rOf L σ.x.n)) fun b=>.ok b (grD L σ.x.n ⟨.tr t₀ e₀,us₀,ms,fl,us',nn,ns⟩ σ.x ds)).All (A0 σ Br Q):=z;rw[hf] at z;exact z.elim
theorem b6l{ts:List Q4}(h:∀e∈ts,B5 C c lo e)(H:Y3 C c ct):Y3 C c (ctT lo ct ts) where
 ex rm He ex _ q:=H.ex rm He ex q
 sts rm He l _ q:=H.sts rm He l q
 call rm _ _ _ _ _ rf rs q:=H.call rm rf rs q
 tr rm He ex _ q:=(a8o q).elim (a7p (P:=fun r=>GoR _ (isTrue ex _ (eval ex _)) _ Br r) h fun t L H=>d8b H rm He) (H.tr rm He ex)
end
section
variable(r:Nat->Nat)
noncomputable def DT.valS(d:DT):Option V:=DT.casesOn (motive:=fun _=>Option V) d f9 (fun t=>some (t.valS r)) fun d a as=>K0 (motive:=fun _=>Option V) none (fun t=>some (t.valS (a5j (r a) (mapL r as)))) d
noncomputable def c73{κ:Type}(e:κ×DT):κ×Option V:=(e.1,e.2.valS r)
noncomputable def entSS{κ:Type}(e:κ×Option V):κ×Option V:=(e.1,f9 e.2)
noncomputable def sixZ(q:Nat->So):O:=.six [f9 (q 0).o,f9 (q 1).o,f9 (q 2).o,f9 (q 3).o,f9 (q 4).o,f9 (q 5).o]
noncomputable def OT.valS(t:OT):O:=OT.casesOn (motive:=fun _=>O) t (fun xs=>.list (VT.valsS r xs)) (fun xs=>.list (a99 xs)) (fun es=>.dictI (mapL (c73 r) es)) (fun es=>.dictI (mapL entSS es)) (fun es=>.dictS (mapL (c73 r) es)) sixZ (fun es=>.ns (mapL (b72 r) es)) (fun es=>.idict (mapL (b72 r) es)) (fun c d=>.inst c (r d)) (fun v=>.cell (v.valS r)) .tape (fun t a as=>K0 (motive:=fun _=>O) (.range 0 0 0) (T0.val (a5j (r a) (mapL r as))) t) (.range 0 0 0) fun j=>.code (r j)
end
section
variable{R:Nat->Nat->Prop}{g g':Nat->Nat}
variable(h:∀j,R (g j) (g' j))
include h
theorem DT.relS(t:DT):Vorel R (t.valS g) (t.valS g'):=by
 cases t with
 |o a=>exact a0n a
 |t a=>exact ⟨_,rfl,a.relS h⟩
 |sub d a as=>cases d with|none=>exact rfl|some t=>exact ⟨_,rfl,t.relS (H_pl h a as)⟩
theorem OT.relS(t:OT):V6 R (t.valS g) (t.valS g'):=by
 cases t with
 |list xs=>exact ⟨_,rfl,VT.relsS h xs⟩
 |lst xs=>exact ⟨_,rfl,d3n xs⟩
 |dictI es=>exact ⟨_,rfl,.mapL (fun e=>⟨rfl,e.2.relS h⟩) es⟩
 |dI es=>exact ⟨_,rfl,.mapL (fun e=>⟨rfl,a0n e.2⟩) es⟩
 |dictS es=>exact ⟨_,rfl,.mapL (fun e=>⟨rfl,e.2.relS h⟩) es⟩
 |six q=>exact ⟨_,rfl,.cons (a0n _) (.cons (a0n _) (.cons (a0n _) (.cons (a0n _) (.cons (a0n _) (.cons (a0n _) .nil)))))⟩
 |ns es=>exact ⟨_,rfl,.mapL (fun e=>⟨rfl,e.2.relS h⟩) es⟩
 |idict es=>exact ⟨_,rfl,.mapL (fun e=>⟨rfl,e.2.relS h⟩) es⟩
 |inst c d=>exact ⟨_,rfl,h d⟩
 |cell v=>exact ⟨_,rfl,v.relS h⟩
 |tape=>exact rfl
 |sub t a as=>cases t with|none=>exact rfl|some t=>exact t.rel (H_pl h a as)
 |hole=>exact rfl
 |code j=>exact ⟨_,rfl,h j⟩
end
noncomputable def U6(t:OT):Prop:=∀r,t.val r=t.valS r
noncomputable def idN(i:Nat):Nat:=i
noncomputable def apD(L:List Nat):Bool:=E0 (motive:=fun _=>Bool) true (fun a L ih=>ifb (o0 a 1000000) ih (ifb (V7 a L) ih false)) L
theorem b5k:∀ {L:List Nat} {i j:Nat},apD L=true->i < j->nthD L i < 1000000->nthD L i≠nthD L j
 | [],i,j,_,_,h,_=>absurd h (a01 _)
 |a::L,0,0,_,h,_,_=>absurd h (a01 _)
 |a::L,0,j+1,h,_,ha,e=>by
  have e:a=nthD L j:=e;have ha:a < 1000000:=ha;have h:ifb (o0 a 1000000) (apD L) (ifb (V7 a L) (apD L) false)=true:=h;rw[show o0 a 1000000=false from (a07 a 1000000).trans (decide_eq_false (j3 ha))] at h;cases hn:V7 a L with
  |false=>rw[hn] at h;cases h
  |true=>
   have go:∀ {L:List Nat} {j:Nat},V7 a L=true->a≠nthD L j:=fun {L}=>by
    induction L with
    |nil=>exact fun _ e=>absurd (show a=1000000 from e) (j3 ha)
    |cons b L ih=>
     intro j h;have h:ifb (o0 a b) false (V7 a L)=true:=h;cases hb:o0 a b with
     |true=>rw[hb] at h;cases h
     |false=>
      rw[hb] at h;cases j with
      |zero=>exact I7 hb
      |succ j=>exact ih h
   exact go hn e
 |a::L,i+1,0,_,h,_,_=>absurd h (o9 _)
 |a::L,i+1,j+1,h,hij,hi,e=>by
  have h:ifb (o0 a 1000000) (apD L) (ifb (V7 a L) (apD L) false)=true:=h;have h':apD L=true:=by
   cases h1:o0 a 1000000 with
   |true=>rw[h1] at h;exact h
   |false=>rw[h1] at h;cases h2:V7 a L with|true=>rw[h2] at h;exact h|false=>rw[h2] at h;cases h
  exact b5k (L:=L) h' (q6 hij) hi e
section
variable{C:Cx}{ρ:Nat->Addr}{x x':S}{h:Heap}
noncomputable def v6(PL:List Nat)(t:OT):Prop:=V6 (fun i i'=>i=nthD PL i') (t.val (nthD PL)) (t.val idN)
theorem U6.told{t:OT}(h:U6 t)(PL:List Nat):v6 PL t:=by
 unfold v6;refine rE (h ..) (rE (h ..) ?_);exact OT.relS (R:=fun i i'=>i=nthD PL i') (g:=nthD PL) (g':=idN) (fun j=>rfl) t
theorem e9o(D:At C ρ x h){T:List (Option OT)}{PL:List Nat}(hx:∀ (i:Nat) (o:O),x'.get i=some o->∃t:OT,T[i]? =some (some t)/\o=t.val idN/\P6 t=false)(hc:∀ (i:Nat) (t:OT),T[i]? =some (some t)->v6 PL t)(hT:T.length<=PL.length)(hl:PL.length<=x'.n)(hn:x'.n < 1000000)
  (chk:b8 T PL x=vals (nthD PL) T) (ap:apD PL=true):At C (fun i=>ρ (nthD PL i)) x' h:=by
 have at_:∀ {i o},x'.get i=some o->∃t oc,x.get (nthD PL i)=some oc/\wkO t oc=t.val (nthD PL)/\o=t.val idN/\T[i]? =some (some t)/\nthD PL i < 1000000:=fun {i o} e=>by
  refine R0 (hx i o e) fun t h1 h2 hno=>?_;refine R0 (a98 chk h1 hno) fun oc g1 g2 g3=>?_;exact ⟨t,oc,g1,g2,h2,h1,i4 (D.lt g1) D.room⟩
 have lt:∀ {i},nthD PL i < 1000000->i < PL.length:=fun {i} h=>a1r h;refine D.ren (R:=fun i i'=>i=nthD PL i') (nthD PL) hn (fun i o' e=>?_) (fun i j ⟨oi,ei⟩ ⟨oj,ej⟩ e=>?_) fun i i' r hi=>?_
 ·refine a40 (at_ e) fun t oc g1 g2 g3 g4 g5=>?_
  refine ⟨H3 (lt g5) hl,t,oc,g1,?_⟩;refine rE g2 (rE g3 ?_);exact hc i t g4
 ·refine a40 (at_ ei) fun _ _ _ _ _ _ g5=>?_
  refine a40 (at_ ej) fun _ _ _ _ _ _ h5=>?_;rcases Nat.lt_trichotomy i j with q|q|q
  ·exact absurd e (b5k ap q g5)
  ·exact q
  ·exact absurd e.symm (b5k ap q h5)
 ·exact ⟨H3 (lt (r▸i4 hi D.room)) hl,r.symm⟩
end
noncomputable def K5(n:Nat):S:=⟨⟨.nil,.nil⟩,n⟩
theorem a0a(n i:Nat):(K5 n).get i=none:=by
 show T.get ⟨.nil,.nil⟩ i=none;refine rE (T.get_eq ..) ?_;split <;>rfl
section
variable{C:Cx}{A:Around}{σ:St C}{α β:Type}
theorem At.dead{ρ:Nat->Addr}{x:S}{h:Heap}{n:Nat}(D:At C ρ x h)(hn:n < 1000000){ρ':Nat->Addr}:At C ρ' (K5 n) h:=
 ⟨D.keep,fun i o e=>(by rw[a0a] at e;cases e),fun i o e=>(by rw[a0a] at e;cases e),fun i j o o' e=>(by rw[a0a] at e;cases e),hn⟩
theorem e9p{t:Sem α}{R:St C->β->α->Prop}{T:List (Option OT)}{PL:List Nat}{x':S}(D':At C (fun i=>σ.ρ (nthD PL i)) x' σ.h)(hx:∀ (i:Nat) (o:O),x'.get i=some o->∃t:OT,T[i]? =some (some t)/\o=t.val idN/\P6 t=false)(chk:b8 T PL σ.x=vals (nthD PL) T)
  {r:Res β} {b:β} (go:GoR A t ⟨σ.s,fun i=>σ.ρ (nthD PL i),x',D'⟩ R r) (hr:r.All fun f _=>f=b) (hR:∀ (τ υ:St C) v,R τ b v->R υ b v):GoR A t σ R (.ok b (K5 σ.x.n)):=by
 intro Q E z;refine go Q E (Res.All_mono (fun f x e v τ hτ X r=>?_) hr);subst e;have z:A0 σ R Q f (K5 σ.x.n):=z;have D2:At C σ.ρ (K5 σ.x.n) τ.h:=τ.D.dead σ.D.room;refine z v ⟨τ.s,σ.ρ,K5 σ.x.n,D2⟩ rfl ⟨⟨fun i hi=>rfl,i3 _,fun i _ zx=>ye zx fun o e=>(by rw[a0a] at e;cases e),fun i _ zy=>ye zy fun o e=>(by rw[a0a] at e;cases e),fun b o hb e=>X.X.keep b o (fun i hi zz=>ye zz fun o' q=>?_) e,X.X.tups,X.X.tab⟩,X.e⟩ (hR _ _ _ r);refine R0 (hx i o' q) fun t' h1 _ hno=>?_;refine yea (a98 chk h1 hno) fun oc g1 _=>?_;exact hb _ (σ.D.lt g1) ⟨_,g1⟩
end
noncomputable def c0c:Str:=⟨#[110,117,109,98,101,114,115]⟩
noncomputable def tailS(l:List Stmt):List Stmt:=Y2 (motive:=fun _=>List Stmt) l [] fun _ l=>l
noncomputable def a8t:List Stmt:=tailS (E4 638)
noncomputable def b35:Stmt:=.Assign [.Name c0c ⟨412,4,412,11⟩] (ceP true ⟨412,15,412,19⟩ ⟨412,20,412,21⟩ ⟨412,15,412,22⟩ ⟨412,42,412,46⟩ ⟨412,47,412,48⟩ ⟨412,42,412,49⟩ ⟨412,53,412,57⟩ ⟨412,42,412,57⟩ ⟨412,27,412,31⟩ ⟨412,14,412,58⟩ (.Name U4 ⟨412,35,412,38⟩)) ⟨412,4,412,58⟩
theorem rf_body:E4 638=b35::a8t:=by kernel_rfl
noncomputable def mRf(q:Nat->So)(l:List Stmt)(e:AE)(x:S):Option (Res FL):=some (.same (.sl l) (.sl (b35::a8t)) <| .same (.bo (a25 scP c0c ⟨412,4,412,11⟩ ⟨412,14,412,58⟩ e)) (.bo true) <|a8q q e x fun pg x=>.ask (w8 (O7 q pg)) fun k=>(e9 c0c (.ref x.n) e (x.new (.list (C9 true q pg k)))).bd fun _ x=>(hk 0 ct0 30).sts a8t e x)
noncomputable def seRf(q:Nat->So):a2p:=⟨C7 [b35],mRf q⟩
noncomputable def Z4(o:Option V):V:=W1 o (fun v=>.ref (w0 21 (C1 2 (D4 v)))) .none
noncomputable def P9(q:Nat->So)(pg:Nat):List V:=(fun a b c=>ifb (isS c) [Z4 a.o,Z4 b.o,Z4 c.o] (ifb (isS b) [Z4 a.o,Z4 b.o] (ifb (isS a) [Z4 a.o] []))) (q (C1 3 pg)) (q (w0 (C1 3 pg) 1)) (q (w0 (C1 3 pg) 2))
noncomputable def elY(ne:Nat):List OT:=.list (F2 ne [.n 3,.n 5,.n 7])::[]
noncomputable def elZ(ne:Nat):List OT:=F2 (w0 ne ne) [b7 21 38,.inst 560 2,b7 23 44,.inst 560 4,b7 25 50,.inst 560 6]
noncomputable def rfS(ne:Nat)(q:Nat->So):List OT:=.list (F2 ne [.n 3,.n 5,.n 7])::.six q::elZ ne
noncomputable def ctRf(ne:Nat)(q:Nat->So)(pg:Nat):CtD:=⟨.call 638 [.n 0,.n 1,.v (iV pg)],rfS ne q,[],fun _=>.rt (.n (w0 2 (w0 ne ne))),fun _=>rfS ne q,1,fun _=>[some (.lst (P9 q pg))]⟩
noncomputable def a1u(f:FL)(x:S):List Nat:=[M0 (O9 f)]
noncomputable def a55(lo:B)(ne:Nat)(q:Nat->So)(pg:Nat):U1:=⟨lo,ctRf ne q pg,a1u⟩
noncomputable def c5r(lo:B)(q:Nat->So):CT:=ctH lo ct0 ⟨[],[],[],[seRf q]⟩
noncomputable def qP(q:Nat->So)(pg:Nat)(a b c:So)(j:Nat):So:=ifb (o0 j (C1 3 pg)) a (ifb (o0 j (w0 (C1 3 pg) 1)) b (ifb (o0 j (w0 (C1 3 pg) 2)) c (q j)))
noncomputable def e7o(b:Bool)(lo:B)(ne:Nat)(q:Nat->So)(pg:Nat):List (List Sd):=S5 b (fun _=>ifb b ((a55 lo ne q pg).at []).lf ((a55 lo ne q pg).at []).rt) ((a55 lo ne q pg).res 40 (c5r lo q) 60).leaves 0
noncomputable def d5(ne:Nat):List So:=F2 (Q0 ne) [.no,.int 0,.int 1,.int 2]
noncomputable def a1x(b:Bool)(lo:B)(q:Nat->So)(ne:Nat):List (List (List (List (List (List Sd))))):=mapL (fun pg=>mapL (fun a=>mapL (fun b'=>mapL (fun c=>e7o b lo ne (qP q pg a b' c) pg) (d5 ne)) (d5 ne)) (d5 ne)) [0,1]
theorem e7q(lo:B)(q:Nat->So):a1x true lo q 1=a1x false lo q 1:=by kernel_rfl
theorem e7r(lo:B)(q:Nat->So):a1x true lo q 2=a1x false lo q 2:=by kernel_rfl
theorem e7s(lo:B)(q:Nat->So):a1x true lo q 3=a1x false lo q 3:=by kernel_rfl
theorem b85{α:Type}{f g:α->S->List Sd}:∀ {l:List (a0x α)} {k:Nat},S5 true (fun _=>f) l k=S5 false (fun _=>g) l k->∀v∈l,b4w (fun a x=>f a x=g a x) v
 | [],k,_=>fun v hv=>absurd hv G1
 | .bad::l,k,e=>by cases e
 | .eq p q::l,k,e=>by
  have e:[p]::S5 true (fun _=>f) l k=[q]::S5 false (fun _=>g) l k:=e;obtain ⟨e1,e2⟩:=Z0 e;exact fun v hv=>(O0.mp hv).elim (fun e=>e▸(Z0 e1).1) (b85 e2 v)
 | .fin a x::l,k,e=>by
  have e:f a x::S5 true (fun _=>f) l (k+1)=g a x::S5 false (fun _=>g) l (k+1):=e;obtain ⟨e1,e2⟩:=Z0 e;exact fun v hv=>(O0.mp hv).elim (fun e=>e▸e1) (b85 e2 v)
section
variable{C:Cx}{lo:B}{q:Nat->So}{ne pg:Nat}
theorem e9d(Dr:V0 C):SOk C 40 (seRf q):=fun {A σ e env l} rm He r hr=>by
 cases hr;intro Q E z;obtain ⟨e1,e2,z⟩:=z;refine rE (Sd.sl.inj e1) ?_;unfold b35;exact e60 (apos:=⟨412,4,412,58⟩) (R:=fun e x=>(hk 0 ct0 30).sts a8t e x) rm He (Sd.bo.inj e2) rfl (fun τ X=>(f7 A3 Dr 30).sts (rm.mono (by decide)) (X.env He) a8t) Q E z
theorem d88(Dr:V0 C):Y3 C 40 (c5r lo q):=a09 (t:=⟨[],[],[],[seRf q]⟩) ⟨j1,j1,j1,Y0 (e9d Dr)⟩ A3
theorem b32(q:Nat->So)(pg:Nat):qP q pg (q (3 * pg)) (q (3 * pg+1)) (q (3 * pg+2))=q:=by
 funext j
 show ifb (o0 j (3 * pg)) (q (3 * pg)) (ifb (o0 j (3 * pg+1)) (q (3 * pg+1)) (ifb (o0 j (3 * pg+2)) (q (3 * pg+2)) (q j)))=q j;cases h1:o0 j (3 * pg) with
 |true=>refine rE (V1 h1) ?_;rfl
 |false=>
  cases h2:o0 j (3 * pg+1) with
  |true=>refine rE (V1 h2) ?_;rfl
  |false=>
   cases h3:o0 j (3 * pg+2) with
   |true=>refine rE (V1 h3) ?_;rfl
   |false=>rfl
theorem rf_ok(Dr:V0 C)(LK:C5 lo)(hn:ne∈[1,2,3])(hp:pg < 2)(hq:∀j,j < 6->q j∈d5 ne):CtDOk C 60 lo (ctRf ne q pg):=by
 have all:a1x true lo q ne=a1x false lo q ne:=by
  rcases O0.mp hn with rfl|hn
  ·exact e7q lo q
  rcases O0.mp hn with rfl|hn
  ·exact e7r lo q
  rcases O0.mp hn with rfl|hn
  ·exact e7s lo q
  ·exact absurd hn G1
 have run:=y0 (y0 (y0 (y0 all pg ((by decide:∀pg,pg < 2->pg∈[0,1]) pg hp)) (q (3 * pg)) (hq _ (by omega))) (q (3 * pg+1)) (hq _ (by omega))) (q (3 * pg+2)) (hq _ (by omega));rw[b32] at run;refine U1.core (j:=a55 lo ne q pg) Dr (d88 (lo:=lo) (q:=q) Dr) LK (Res.leaves_all _ fun v hv=>?_);have:=b85 (f:=((a55 lo ne q pg).at []).lf) (g:=((a55 lo ne q pg).at []).rt) run v hv;cases v with
 |bad=>exact this
 |eq p q=>exact this
 |fin a x=>exact ⟨[],.nil,this⟩
end
theorem C5.cut{lo:B}(h:C5 lo):C5 (a7 lo):=fun R hR i o e=>by
 unfold a7 at e;rw[B.get_set none 21 lo 73 i (by decide)] at e;by_cases q:i=73
 ·rw[if_pos q] at e;cases e
 ·rw[if_neg q] at e;exact h R hR i o e
noncomputable def elOf(k:Nat):OT:=ifb (o0 k 0) (b7 21 38) (ifb (o0 k 1) (b7 23 44) (b7 25 50))
noncomputable def ctOb(k:Nat):CtD:=⟨.call 626 [sh,.n 1],[elOf k,.inst 560 0],[],fun _=>.rt (.n 2),fun _=>[elOf k,.inst 560 0],1,fun _=>[some (.lst [])]⟩
noncomputable def d0s(b:Bool)(p:Pm)(k:Nat):List Sd:=U1.side 0 ct0 40 b ⟨a7 (Lo p),ctOb k,a1u⟩ []
noncomputable def obC(p:Pm)(n k:Nat)(a:Nat->Nat)(l:Nat):Pm:=(fun w=>{p with ne:=n,d0:=ifb (o0 k 0) w p.d0,d1:=ifb (o0 k 1) w p.d1,d2:=ifb (o0 k 2) w p.d2}) (F2 l [a 0,a 1,a 2])
theorem e5i(p:Pm)(a:Nat->Nat):mapL (fun nk=>mapL (fun l=>d0s true (obC p nk.1 nk.2 a l) nk.2) C4) nks=mapL (fun nk=>mapL (fun l=>d0s false (obC p nk.1 nk.2 a l) nk.2) C4) nks:=by kernel_rfl
section
variable{C:Cx}{p:Pm}
noncomputable def dsK(p:Pm)(k:Nat):List Nat:=ifb (o0 k 0) p.d0 (ifb (o0 k 1) p.d1 p.d2)
theorem d09(hn:p.ne∈[1,2,3]){k:Nat}(hk:k < p.ne):(p.ne,k)∈nks:=by
 have:∀n∈[1,2,3],∀k,k < n->(n,k)∈nks:=by unfold nks;decide
 exact this _ hn k hk
theorem d0r{k:Nat}(hk3:k < 3)(hl:(dsK p k).length<=3):obC p p.ne k (fun i=>nthD (dsK p k) i) (dsK p k).length=p:=by
 have e:=a66 (f:=fun i=>nthD (dsK p k) i) hl fun _ _=>a5h;show (fun w=>({p with ne:=p.ne,d0:=ifb (o0 k 0) w p.d0,d1:=ifb (o0 k 1) w p.d1,d2:=ifb (o0 k 2) w p.d2}:Pm)) (F2 (dsK p k).length [nthD (dsK p k) 0,nthD (dsK p k) 1,nthD (dsK p k) 2])=p;refine rE e ?_;rcases a5a hk3 with rfl|rfl|rfl <;>rfl
theorem ob_ok(Dr:V0 C)(G:p.Ok){k:Nat}(hk:k < p.ne):CtDOk C 40 (a7 (Lo p)) (ctOb k):=by
 have hk3:k < 3:=by
  have:∀n∈[1,2,3],∀k,k < n->k < 3:=by decide
  exact this _ G.ne k hk
 have hl:(dsK p k).length<=3:=by
  unfold dsK;cases o0 k 0 with
  |true=>exact G.d0
  |false=>cases o0 k 1 with|true=>exact G.d1|false=>exact G.d2
 have run:=y0 (y0 (e5i p fun i=>nthD (dsK p k) i) _ (d09 G.ne hk)) _ (le4 hl);have e:obC p p.ne k (fun i=>nthD (dsK p k) i) (dsK p k).length=p:=d0r hk3 hl;dsimp only at run;rw[e] at run;exact U1.ok (j:=⟨a7 (Lo p),ctOb k,a1u⟩) Dr A3 (H4 p).cut fun ds hd=>by
  obtain rfl:=o6 hd;exact run
noncomputable def obL(vs:List V)(x:S):List Nat:=[a0d x (ofO (nth vs 1) .none),M0 (ofO (nth vs 1) .none)]
noncomputable def enOb(ne:Nat):Q4:=⟨626,fun vs x=>(fun k=>ifb (J0 k ne) (some (ctOb k)) none) (M1 (A2 (M0 (b5s x (ofO (nth vs 1) .none) c0b)) 38) 6),obL⟩
theorem d9t(Dr:V0 C)(G:p.Ok):B5 C 40 (a7 (Lo p)) (enOb p.ne):=fun vs x t h=>by
 refine ifE (fun h1 h=>?_) (show ifb (J0 _ p.ne) (some _) none=some t from h);cases h;exact ob_ok Dr G (B4 h1)
noncomputable def rfL(vs:List V)(x:S):List Nat:=M0 (ofO (nth vs 0) .none)::M0 (ofO (nth vs 1) .none)::a0b (fun v=>[a0d x v,M0 v]) (S8 x (ofO (nth vs 0) .none))
noncomputable def enRf(ne:Nat)(q:Nat->So):Q4:=⟨638,fun vs _=>(fun pg=>ifb (J0 pg 2) (some (ctRf ne q pg)) none) (D4 (ofO (nth vs 2) .none)),rfL⟩
theorem d9v(Dr:V0 C)(G:p.Ok){q:Nat->So}(hq:∀j,j < 6->q j∈d5 p.ne):B5 C 60 (a7 (Lo p)) (enRf p.ne q):=fun vs x t h=>by
 refine ifE (fun h1 h=>?_) (show ifb (J0 _ 2) (some _) none=some t from h);cases h;exact rf_ok Dr (H4 p).cut G.ne (B4 h1) hq
end
noncomputable def a10(p:Pm):List (Option OT):=[sl0 p,sl1 p,sl2 p,sl3 p,sl4 p,sl5 p,sl6 p,sl7 p,sl8 p,sl9 p,sl10 p,sl11 p,sl12 p,none,none,none,sl16 p,sl17 p,sl18 p,sl19 p,sl20 p,sl21 p,sl22 p,sl23 p,sl24 p,sl25 p,sl26 p,sl27 p,sl28 p,sl29 p,sl30 p,sl31 p,sl32 p,sl33 p,sl34 p,sl35 p,sl36 p,sl37 p,sl38 p,sl39 p,sl40 p,sl41 p,sl42 p,sl43 p,sl44 p,sl45 p,sl46 p,sl47 p,sl48 p,sl49 p,sl50 p,sl51 p,sl52 p,sl53 p,sl54 p,sl55 p,sl56 p,sl57 p,sl58 p,sl59 p,sl60 p,sl61 p,sl62 p,sl63 p,sl64 p,sl65 p,sl66 p,sl67 p,sl68 p,sl69 p,sl70 p,sl71 p,sl72 p,sl73 p,sl74 p,sl75 p,sl76 p,sl77 p,sl78 p,sl79 p,sl80 p,sl81 p,sl82 p,sl83 p,sl84 p,sl85 p,sl86 p,sl87 p,sl88 p,sl89 p,sl90 p,sl91 p,sl92 p,sl93 p,sl94 p,sl95 p,sl96 p]
noncomputable def a3r{α:Type}(a:α)(l:List α):Nat->List α:=E0 (motive:=fun _=>Nat->List α) (fun _=>[]) (fun b l ih i=>o4 (motive:=fun _=>List α) (a::l) (fun i _=>b::ih i) i) l
noncomputable def a3m{α:Type}(a b c:α)(l:List α):List α:=a3r a (a3r b (a3r c l 15) 14) 13
noncomputable def LoT(p:Pm)(a b c:Option OT):List (Option OT):=a3m a b c (a10 p)
noncomputable def LoV(p:Pm):List (Option O):=a3m (B0 md (a62 p)) (B0 md (a63 p)) (B0 md (a94 p)) (vals md (a10 p))
theorem Lo_at(p:Pm):mapL (fun i=>(Lo p).get i) (J4 256 [] 0)=mapL (fun i=>obd (nth (LoV p) i) id) (J4 256 [] 0):=by kernel_rfl
noncomputable def ncP(p:Pm)(n c:Nat):Pm:={p with ne:=n,c:=c}
noncomputable def clS(r:Nat->Nat)(b:Bool)(l:List (Option OT)):List (Option O):=mapL (fun t=>K0 (motive:=fun _=>Option O) none (fun t=>some (ifb b (t.val r) (t.valS r))) t) l
noncomputable def l03:List Nat:=[0,1,2,3]
noncomputable def l13:List Nat:=[1,2,3]
theorem d5m(p:Pm):mapL (fun n=>mapL (fun c=>vals md (a10 (ncP p n c))) l03) l13=mapL (fun n=>mapL (fun c=>vals idN (a10 (ncP p n c))) l03) l13:=by kernel_rfl
theorem d5l(p:Pm)(r:Nat->Nat):mapL (fun n=>mapL (fun c=>clS r true (a10 (ncP p n c))) l03) l13=mapL (fun n=>mapL (fun c=>clS r false (a10 (ncP p n c))) l03) l13:=by kernel_rfl
theorem c01:∀ {k a j:Nat},j < k->a+j∈J4 k [] a
 |0,_,j,h=>absurd h (o9 j)
 |k+1,a,0,_=>.head _
 |k+1,a,j+1,h=>.tail _ (by have:=c01 (k:=k) (a:=Q0 a) (j:=j) (q6 h);rwa [Nat.succ_add_eq_add_succ] at this)
theorem b3n{α:Type}{a:α}:∀ {l:List α} {i j:Nat},(a3r a l i)[j]? =if i=j/\j < l.length then some a else l[j]?
 | [],i,j=>by refine rE (if_neg (fun h=>absurd h.2 (o9 j))) ?_;rfl
 |b::l,0,0=>(if_pos ⟨rfl,q9 _⟩).symm
 |b::l,0,j+1=>(if_neg fun h=>nomatch h.1).symm
 |b::l,i+1,0=>(if_neg fun h=>nomatch h.1).symm
 |b::l,i+1,j+1=>by
  have h:=b3n (a:=a) (l:=l) (i:=i) (j:=j);by_cases q:i=j/\j < l.length
  ·rw[if_pos q] at h;refine rE (if_pos ⟨congrArg Q0 q.1,a4f q.2⟩) ?_;exact h
  ·rw[if_neg q] at h;refine rE (if_neg fun r=>q ⟨p9 r.1,q6 r.2⟩) ?_;exact h
theorem b3p{α β:Type}{f:α->β}{a:α}:∀ {l:List α} {i:Nat},a3r (f a) (mapL f l) i=mapL f (a3r a l i)
 | [],_=>rfl
 |b::l,0=>rfl
 |b::l,i+1=>congrArg (f b:: ·) (b3p (l:=l) (i:=i))
theorem e7i{α β:Type}{f:α->β}{a b c:α}{l:List α}:a3m (f a) (f b) (f c) (mapL f l)=mapL f (a3m a b c l):=by
 unfold a3m;exact rE b3p (rE b3p (rE b3p rfl))
section
variable{p:Pm}{a b c:Option OT}
theorem Lo_tm(hn:p.ne∈l13)(hc:p.c∈l03)(ha:B0 md (a62 p)=B0 idN a)(hb:B0 md (a63 p)=B0 idN b)(hc':B0 md (a94 p)=B0 idN c){i:Nat}{o:O}(hi:i < 256)(e:(Lo p).get i=some o):∃t:OT,(LoT p a b c)[i]? =some (some t)/\o=t.val idN/\P6 t=false:=by
 have h:=y0 (Lo_at p) i (by have:=c01 (k:=256) (a:=0) hi;rwa [K8] at this);rw[e] at h;refine obE (fun w h1 h2=>?_) h.symm;rw[Q6] at h1;have hv:LoV p=vals idN (LoT p a b c):=by
  unfold LoV LoT vals;refine rF e7i (rE ha (rE hb (rE hc' ?_)));exact congrArg _ (y0 (y0 (d5m p) _ hn) _ hc)
 rw[hv] at h1;unfold vals at h1;rw[a3b] at h1;cases q:(LoT p a b c)[i]? with
 |none=>rw[q] at h1;cases h1
 |some t=>
  rw[q] at h1;cases h1;refine R0 (a6a h2) fun t' zz e2 e3=>?_;subst zz;exact ⟨t',rfl,e2,e3⟩
theorem d5n{PL:List Nat}(hn:p.ne∈l13)(hc:p.c∈l03)(ha:∀t,a=some t->v6 PL t)(hb:∀t,b=some t->v6 PL t)(hc':∀t,c=some t->v6 PL t)(i:Nat)(t:OT)(h:(LoT p a b c)[i]? =some (some t)):v6 PL t:=by
 unfold LoT a3m at h;rw[b3n] at h;split at h
 ·exact ha t (C0 h)
 rw[b3n] at h;split at h
 ·exact hb t (C0 h)
 rw[b3n] at h;split at h
 ·exact hc' t (C0 h)
 refine U6.told (fun r=>?_) PL;have e:clS r true (a10 p)=clS r false (a10 p):=y0 (y0 (d5l p r) _ hn) _ hc;exact C0 (y0 e _ (a6r h))
end
noncomputable def lo0:B:=B.set (some (.code 255)) 21 (a7 .nil) 255
theorem a1m:C5 lo0:=fun R hR i o e=>by
 unfold lo0 at e;rw[B.get_set _ 21 _ 255 i (by decide)] at e;by_cases q:i=255
 ·rw[if_pos q] at e;cases e;exact ⟨255,rfl,hR 255 (by decide)⟩
 ·rw[if_neg q] at e;exact C5.cut (lo:=.nil) (fun _ _ _ _ e=>D0 e) R hR i o e
noncomputable def G5:Str:=⟨#[116,97,112,101]⟩
noncomputable def d2h:Str:=⟨#[115,99,114,105,112,116]⟩
noncomputable def C8:Str:=⟨#[119,105,100,116,104]⟩
noncomputable def retE(l:List Stmt):Expr:=E0 (motive:=fun _=>Expr) (.Constant .none 0 ⟨0,0,0,0⟩) (fun s _ ih=>match s with| .Return (some e) _=>e|_=>ih) l
noncomputable def asgE(n:Nat)(l:List Stmt):Expr:=E0 (motive:=fun _=>Expr) (.Constant .none 0 ⟨0,0,0,0⟩) (fun s _ ih=>ifb (o0 s.pos.line n) (match s with| .Assign _ e _=>e|_=>ih) ih) l
noncomputable def a0c(n:Nat)(l:List Stmt):List Stmt:=E0 (motive:=fun _=>List Stmt) [] (fun s l ih=>ifb (o0 s.pos.line n) (s::l) ih) l
noncomputable def eltE(e:Expr):Expr:=match e with| .ListComp t _ _ _=>t|_=>e
noncomputable def scE(e:Expr):Scope:=match e with| .ListComp _ _ s _=>s|_=>⟨.function,[],false,false,[]⟩
noncomputable def genE(i:Nat)(e:Expr):Expr:=match e with| .ListComp _ g _ _=>W1 (nth g i) (·.iter) e|_=>e
noncomputable def tupE(i:Nat)(e:Expr):Expr:=match e with| .Tuple l _ _=>ofO (nth l i) e|_=>e
noncomputable def b0n(e:AE)(ce:Expr)(loc:Nat)(cells:List (Str×Nat)):AE:=⟨a3l (scE ce) e,loc,cells,e.qual,none,e.code,e.frame⟩
noncomputable def tcN(x:S)(i:Nat):Nat:=W1 (obd (x.get i) a5l) (fun p=>p.1) 0
noncomputable def ghN(x:S)(i:Nat):List Nat:=W1 (obd (x.get i) a5l) (fun p=>p.2) []
noncomputable def a3c(l:List Nat)(i:Nat):Bool:=U8 o0 l i
noncomputable def cellN(c:Nat):Nat:=ofO (nth [0,20,21,22,30] c) 0
noncomputable def rowC(k:Nat):List Nat:=ifb (o0 k 0) [] (ifb (U0 k 5) [A2 k 1] (ifb (U0 k 30) [M1 (A2 k 6) 5,O1 (A2 k 6) 5] [M1 (A2 k 31) 25,O1 (M1 (A2 k 31) 5) 5,O1 (A2 k 31) 5]))
noncomputable def B8(k:Nat):List Nat:=mapL cellN (rowC k)
noncomputable def c06:Expr:=retE (E4 705)
noncomputable def c5s(T:Nat):CtD:=⟨.ex (eltE c06) (b0n (fnE 705) c06 1 [(G5,2)]),[.ns [],.ns [],.cell (.t (.n 3)),.tape T []],[156],fun _=>.rt (.n 4),fun _=>[.ns [],.ns [],.cell (.t (.n 3)),.tape (w0 T 4) []],1,fun ds=>[some (.lst (mapL iV (B8 (nthD ds 0))))]⟩
noncomputable def jRow(T:Nat):U1:=⟨lo0,c5s T,a1u⟩
noncomputable def a5s:List Nat:=[1,5,9]
theorem e80:mapL (fun T=>(jRow T).leaf 0 ct0 40 true) a5s=mapL (fun T=>(jRow T).leaf 0 ct0 40 false) a5s:=by kernel_rfl
theorem e7z:mapL (fun T=>((jRow T).leaf 0 ct0 40 true).getLast?) a5s=mapL (fun _=>some [Sd.nn 156]) a5s:=by kernel_rfl
noncomputable def b6y:Q4:=⟨c7 (eltE c06),fun _ x=>(fun T=>ifb (a3c a5s T) (some (c5s T)) none) (tcN x 256),fun vs _=>[257,M0 (hd vs),258,256]⟩
noncomputable def fnC(a:Nat)(cells:List (Str×Nat)):AE:=(fun e=>⟨e.scope,e.locals,cells,e.qual,e.func,e.code,e.frame⟩) (fnE a)
noncomputable def b81(a b c d:Nat):List (Str×Nat):=[(⟨#[112,97,103,101,115,95,100,117,101]⟩,d),(⟨#[115,104,101,108,102]⟩,c),(⟨#[100,117,101]⟩,b),(⟨#[114,111,119,115]⟩,a)]
noncomputable def a89(a b c d:Nat):AE:=fnC 727 (b81 a b c d)
noncomputable def widE:Expr:=(match asgE 522 (E4 727) with| .BinOp l _ _ _=>l|e=>e)
noncomputable def c60:CtD:=⟨.ex widE (a89 2 3 4 5),[.ns [(G5,.n 1)],.tape 0 [],.hole,.hole,.hole,.hole],[5],fun ds=>.rt (.v (iV (O1 (nthD ds 0) 5))),fun ds=>[.ns [(G5,.n 1)],.tape 1 ds,.hole,.hole,.hole,.hole],0,fun _=>[]⟩
noncomputable def jWid:U1:=⟨lo0,c60,fun _ _=>[]⟩
theorem f2c:jWid.leaf 0 ct0 40 true=jWid.leaf 0 ct0 40 false:=by kernel_rfl
theorem f2b:(jWid.leaf 0 ct0 40 true).getLast? =some [Sd.nn 5]:=by kernel_rfl
noncomputable def c71:Q4:=⟨c7 widE,fun _ _=>some c60,fun vs x=>(fun F=>[F,M0 (nsN (hd vs) x G5),w0 F 1,w0 F 2,w0 F 3,w0 F 4]) (M0 (hd vs))⟩
theorem e01{C:Cx}(Dr:V0 C):B5 C 40 lo0 c71:=fun vs x t h=>by
 cases h;exact U1.okL (j:=jWid) Dr A3 a1m rfl f2c f2b
noncomputable def e82(f:FL)(x:S):List Nat:=M0 (O9 f)::a0b (fun v=>[M0 v]) (S8 x (O9 f))
noncomputable def rwO(k:Nat):Option OT:=some (.lst (mapL iV (B8 k)))
noncomputable def c5t(g:List Nat):CtD:=⟨.call 705 [.n 0],[.tape 1 g],[156,156,156],fun _=>.rt (.n 1),fun ds=>[.tape 13 (ds++g)],4,fun ds=>[some (.list [.n 2,.n 3,.n 4]),rwO (nthD ds 0),rwO (nthD ds 1),rwO (nthD ds 2)]⟩
noncomputable def b7w(g:List Nat):U1:=⟨lo0,c5t g,e82⟩
noncomputable def d1m:CT:=ctH lo0 ct0 ⟨[],[],[b6y],[]⟩
theorem e83(g:List Nat)(a b c:Nat):(b7w g).side 40 d1m 60 true [a,b,c]=(b7w g).side 40 d1m 60 false [a,b,c]:=by kernel_rfl
noncomputable def c6x:Q4:=⟨705,fun vs x=>some (c5t (ghN x (M0 (hd vs)))),fun vs _=>[M0 (hd vs)]⟩
section
variable{C:Cx}
theorem b2n:∀ {l:List Nat} {i:Nat},a3c l i=true->i∈l
 | [],_,h=>by cases h
 |a::l,i,h=>by
  have h:ifb (o0 a i) true (a3c l i)=true:=h;cases q:o0 a i with
  |true=>exact V1 q▸B3 ..
  |false=>rw[q] at h;exact C3 _ (b2n h)
theorem d9w(Dr:V0 C):B5 C 40 lo0 b6y:=fun vs x t h=>by
 refine ifE (fun h1 h=>?_) (show ifb (a3c a5s (tcN x 256)) (some _) none=some t from h);cases h;have hm:=b2n h1;exact U1.okL (j:=jRow (tcN x 256)) Dr A3 a1m rfl (y0 e80 _ hm) (y0 e7z _ hm)
theorem d9x(Dr:V0 C):B5 C 60 lo0 c6x:=fun vs x t h=>by
 cases h;refine U1.ok (j:=b7w _) Dr (a09 (t:=⟨[],[],[b6y],[]⟩) ⟨j1,j1,Y0 (d9w Dr),j1⟩ A3) a1m fun ds hd=>?_;refine n5 (a8a hd) fun a b c zz=>?_;subst zz;exact e83 _ a b c
end
noncomputable def a5n(n:Nat):Option Int:=o4 (motive:=fun _=>Option Int) none (fun m _=>some (.ofNat (Q0 m))) n
noncomputable def L6(l:List Nat)(i:Nat):Option Int:=obd (nth l i) a5n
noncomputable def refsV(l:List Nat):Nat->List VT:=E0 (motive:=fun _=>Nat->List VT) (fun _=>[]) (fun n _ ih i=>W1 (a5n n) (fun _=>VT.n i) (.v .none)::ih (Q0 i)) l
noncomputable def b9w(l:List Nat)(a b c:Nat):Option OT:=some (.sub (some (.list (refsV l 0))) a [b,c])
noncomputable def rfD(l:List Nat)(i a:Nat):Option OT:=some (.sub (K9 (L6 l i)) a [])
noncomputable def rfI(l:List Nat)(i a:Nat):Option OT:=some (.sub (A9 (L6 l i)) a [])
noncomputable def numNs(l:List Nat):List (Option OT):=[b9w l 9 11 13,rfD l 0 8,rfI l 0 8,rfD l 1 10,rfI l 1 10,rfD l 2 12,rfI l 2 12]
noncomputable def d0k:Expr:=asgE 524 (E4 727)
noncomputable def numE:Expr:=tupE 1 (genE 1 d0k)
noncomputable def b8z(l:List Nat)(j i:Nat):OT:=ifb (o0 i j) (.lst (mapL iV l)) .hole
noncomputable def numU(l:List Nat)(j:Nat):List OT:=[.hole,.ns [(m6,.v (iV j))],.cell (.t (.n 3)),.list [.n 4,.n 5,.n 6],b8z l j 0,b8z l j 1,b8z l j 2]
noncomputable def b6i(l:List Nat)(j:Nat):CtD:=⟨.ex numE (b0n (fnE 727) d0k 1 [(a1z,2)]),numU l j,[],fun _=>.rt (.n 7),fun _=>numU l j,7,fun _=>numNs l⟩
noncomputable def exK(v:V)(k:Nat)(f:Nat->Nat):Nat:=W1 (G2 v) f (w0 900000 k)
noncomputable def a36(x:S)(r:Nat):Nat:=ofO (obd (x.get r) b91) 0
noncomputable def numLf(f:FL)(x:S):List Nat:=(fun xs=>M0 (O9 f)::a0b (fun i=>(fun v k=>[exK v (w0 k k) (a36 x),exK v (Q0 (w0 k k)) id]) (ofO (nth xs (M0 i)) .none) (M0 i)) [.ref 0,.ref 1,.ref 2]) (S8 x (O9 f))
noncomputable def jNum(l:List Nat)(j:Nat):U1:=⟨lo0,b6i l j,numLf⟩
noncomputable def a30(c:Nat)(ls:List (List Nat)):List (List Nat):=mapL (0:: ·) ls++mapL (Q0 c:: ·) ls
noncomputable def S9(a b c:Nat):List (List Nat):=[]::(a30 a [[]]++(a30 a (a30 b [[]])++a30 a (a30 b (a30 c [[]]))))
noncomputable def numS(s:Bool)(a b c:Nat):List (List (List Sd)):=mapL (fun j=>mapL (fun l=>(jNum l j).side 0 ct0 40 s []) (S9 a b c)) [0,1,2]
theorem e55(a b c:Nat):numS true a b c=numS false a b c:=by kernel_rfl
noncomputable def c6s:Q4:=⟨c7 numE,fun vs x=>(fun j=>ifb (J0 j 3) (some (b6i (B8 (nthD (ghN x 261) j)) j)) none) (D4 (nsN (hd vs) x m6)),fun vs _=>[256,M0 (hd vs),257,262,263,264,265]⟩
section
variable{C:Cx}
theorem a5c{c n:Nat}{l:List Nat}{ls:List (List Nat)}(h:l∈ls)(hn:n=0∨n=Q0 c):(n::l)∈a30 c ls:=by
 have go:∀ {ls:List (List Nat)},l∈ls->∀a,(a::l)∈mapL (a:: ·) ls:=fun {ls} h a=>by
  induction ls with
  |nil=>exact absurd h G1
  |cons b ls ih=>exact (O0.mp h).elim (fun e=>e▸.head _) fun h=>.tail _ (ih h)
 rcases hn with rfl|rfl
 ·exact a0z _ (go h _)
 ·exact a2k _ (go h _)
theorem a5d(n:Nat):n=0∨n=Q0 (s6 n):=by cases n with|zero=>exact .inl rfl|succ n=>exact .inr rfl
theorem a8f:∀ {l:List Nat},l.length<=3->∃a b c,l∈S9 a b c
 | [],_=>⟨0,0,0,.head _⟩
 | [a],_=>⟨a.pred,0,0,.tail _ (a0z _ (a5c (.head _) (a5d a)))⟩
 | [a,b],_=>⟨a.pred,b.pred,0,.tail _ (a2k _ (a0z _ (a5c (a5c (.head _) (a5d b)) (a5d a))))⟩
 | [a,b,c],_=>⟨a.pred,b.pred,c.pred,.tail _ (a2k _ (a2k _ (a5c (a5c (a5c (.head _) (a5d c)) (a5d b)) (a5d a))))⟩
 |_::_::_::_::_,h=>absurd h (by simp only[Y9];omega)
theorem c04(k:Nat):(B8 k).length<=3:=by
 unfold B8;refine rE (a5b ..) ?_;unfold rowC;cases o0 k 0 with
 |true=>exact D5 3
 |false=>cases U0 k 5 with|true=>exact (by decide:1<=3) |false=>cases U0 k 30 with|true=>exact (by decide:2<=3) |false=>exact i3 3
theorem e54(Dr:V0 C){l:List Nat}{j:Nat}(hl:l.length<=3)(hj:j < 3):CtDOk C 40 lo0 (b6i l j):=by
 refine n5 (a8f hl) fun a b c hm=>?_;have run:=y0 (y0 (e55 a b c) j ((by decide:∀j,j < 3->j∈[0,1,2]) j hj)) l hm;exact U1.ok (j:=jNum l j) Dr A3 a1m fun ds hd=>by
  obtain rfl:=o6 hd;exact run
theorem d9s(Dr:V0 C):B5 C 40 lo0 c6s:=fun vs x t h=>by
 refine ifE (fun h1 h=>?_) (show ifb (J0 (D4 (nsN (hd vs) x m6)) 3) (some _) none=some t from h);cases h;exact e54 Dr (c04 _) (B4 h1)
end
section
open PySem.W.Z (eqB)
noncomputable def j6(d:Nat):Nat:=O1 (M1 d 40) 2
noncomputable def dig3(e:Nat):List Nat:=ifb (o0 e 0) [] (ifb (U0 e 3) [A2 e 1] (ifb (U0 e 12) [O1 (M1 (A2 e 4) 3) 3,O1 (A2 e 4) 3] [O1 (M1 (A2 e 13) 9) 3,O1 (M1 (A2 e 13) 3) 3,O1 (A2 e 13) 3]))
noncomputable def N6(d:Nat):List Nat:=dig3 (O1 d 40)
theorem f0n{o:Option V}(h:a3u o=o)(n:Int):a3u (some (K0 (motive:=fun _=>V) (.int n) id o))=some (K0 (motive:=fun _=>V) (.int n) id o):=by
 cases o with
 |none=>rfl
 |some v=>exact h
noncomputable def So.or(a:So)(n:Int):So:=⟨some (K0 (motive:=fun _=>V) (.int n) id a.o),f0n a.ok n⟩
noncomputable def c35(q:Nat->So)(s:Nat)(n:Int)(j:Nat):So:=ifb (o0 j s) ((q s).or n) (q j)
noncomputable def T9(q:Nat->So)(pg:Nat)(n:Int)(ds:List Nat):Nat->So:=E0 (motive:=fun _=>(Nat->So)->Nat->So) (fun q=>q) (fun d _ ih q=>ih (c35 q (slot pg d) n)) ds q
noncomputable def J1(g:List Nat):List Nat:=Y2 (motive:=fun _=>List Nat) g [] fun _ g=>g
noncomputable def dueQ(k:Nat):List Nat->Nat->So:=o4 (motive:=fun _=>List Nat->Nat->So) (fun _=>noQ) (fun k ih g=>T9 (ih (J1 g)) (j6 (nthD g 0)) (.ofNat (w0 20 k)) (N6 (nthD g 0))) k
noncomputable def c6l:List Stmt:=a34 (E4 710)
noncomputable def tp0(j:Nat):DT:=.t (.tp [.v (.int 0),.n j])
noncomputable def nR(l:List Nat):List VT:=mapL VT.n l
noncomputable def d9d(k:Nat):List (Int×DT):=F2 k [(20,tp0 12),(21,tp0 14),(22,tp0 16)]
noncomputable def b7f(n:Nat):List OT:=o4 (motive:=fun _=>List OT) [] (fun _ ih=>.hole::ih) n
noncomputable def elTab(k:Nat)(e:List (Int×DT)):OT:=.dictI ((10,tp0 5)::(9,tp0 7)::(1,tp0 8)::(2,tp0 9)::(d9d k++e))
noncomputable def elU(fr:OT)(k T:Nat)(g:List Nat)(q:Nat->So)(e:List (Int×DT))(kl:List VT):List OT:=fr::.cell (.t (.n 2))::.tape T g::elTab k e::.six q::.dictS [(y7,.t (.n 10)),(s_K,.t (.n 6)),(a8z,.t (.n 11))]::.list (F2 k [.n 13,.n 15,.n 17]++kl)::b7f (w0 5 (w0 k k))
noncomputable def elN(k j:Nat):Nat:=w0 (w0 12 (w0 k k)) j
noncomputable def elNs(k d:Nat):List (Option OT):=[some (.idict [(a9,.v (.str s_P))]),some (.inst 190 (elN k 0)),some (.idict [(O4,.v (.int (.ofNat (w0 3 (j6 d))))),(B6,.v (.int 0))]),some (.inst 261 (elN k 2)),some (digT (N6 d) (elN k 4)),some (.dictS [(s_S,.t (.n (elN k 1))),(a5x,.t (.n (elN k 3))),(s_K,.t (.n (elN k 4)))]),some (.idict [(O4,.v (.int (.ofNat (w0 20 k)))),(B6,.v (.int 0))]),some (.inst 261 (elN k 6))]
noncomputable def elT(k:Nat):Nat:=w0 14 (C1 5 k)
noncomputable def ctEl(k:Nat)(g:List Nat)(q:Nat->So):CtD:=⟨.sts c6l (fnC 710 [(G5,1)]),elU (.ns [(a20,.n 3),(U4,.n 4),(k6,.v (iV k))]) k (elT k) g q [] [],[80],fun _=>.nx,fun ds=>elU (.ns [(a20,.n 3),(U4,.n 4)]) k (elT (Q0 k)) (nthD ds 0::g) (T9 q (j6 (nthD ds 0)) (.ofNat (w0 20 k)) (N6 (nthD ds 0))) [(.ofNat (w0 20 k),tp0 (elN k 5))] [.n (elN k 7)],8,fun ds=>elNs k (nthD ds 0)⟩
noncomputable def tup1(v:V):V:=ofO (obd (d8 v) fun l=>nth l 1) .none
noncomputable def dIat(x:S)(r:Nat)(k:Int):V:=ofO (obd (obd (x.get r) asI) fun es=>y6 eqB es k) .none
noncomputable def x9(x:S)(r:Nat)(k:Str):V:=ofO (obd (obd (x.get r) asS) fun es=>y6 seq es k) .none
noncomputable def O5(x:S)(t:Nat)(k:Int):Nat:=M0 (tup1 (dIat x t k))
noncomputable def lastN(l:List Nat):Nat:=E0 (motive:=fun _=>Nat) 0 (fun a l ih=>Y2 (motive:=fun _=>Nat) l a fun _ _=>ih) l
noncomputable def a8s(l:List V):List Nat:=mapL M0 l
noncomputable def elBLf(k:Nat)(_:FL)(x:S):List Nat:=(fun e=>(fun nm pg kr=>[a36 x nm,nm,a36 x pg,pg,M0 (x9 x e s_K),e,a36 x kr,kr]) (M0 (x9 x e s_S)) (M0 (x9 x e a5x)) (lastN (a8s (S8 x (.ref 262))))) (O5 x 259 (.ofNat (w0 20 k)))
noncomputable def jEl(k:Nat)(g:List Nat)(q:Nat->So):U1:=⟨lo0,ctEl k g q,elBLf k⟩
theorem d9h(g:List Nat)(q:Nat->So):mapL (fun k=>(jEl k g q).leaf 0 ct0 50 true) [0,1,2]=mapL (fun k=>(jEl k g q).leaf 0 ct0 50 false) [0,1,2]:=by kernel_rfl
theorem d9g(g:List Nat)(q:Nat->So):mapL (fun k=>((jEl k g q).leaf 0 ct0 50 true).getLast?) [0,1,2]=mapL (fun _=>some [Sd.nn 80]) [0,1,2]:=by kernel_rfl
noncomputable def b61(x:S)(c:Nat):Nat:=M0 (ofO (ofO (obd (x.get c) a3g) none) .none)
noncomputable def elL(vs:List V)(x:S):List Nat:=(fun F=>(fun t r k=>[F,Q0 F,b61 x (Q0 F),t,M0 (nsN (hd vs) x U4),r,M0 (x9 x r s_K),O5 x t 9,O5 x t 1,O5 x t 2,M0 (x9 x r y7),M0 (x9 x r a8z)]++a0b (fun v=>(fun i=>[O5 x t (.ofNat (w0 20 i)),nthD (a8s (S8 x (x9 x r s_K))) i]) (M0 v)) (F2 k [.ref 0,.ref 1,.ref 2])) (M0 (nsN (hd vs) x a20)) (O5 x (M0 (nsN (hd vs) x a20)) 10) (D4 (nsN (hd vs) x k6))) (M0 (hd vs))
noncomputable def c6o:Q4:=⟨C7 c6l,fun vs x=>(fun k=>ifb (J0 k 3) (some ((fun g=>ctEl k g (dueQ k g)) (ghN x (b61 x (Q0 (M0 (hd vs))))))) none) (D4 (nsN (hd vs) x k6)),elL⟩
section
variable{C:Cx}
theorem d9p(Dr:V0 C):B5 C 50 lo0 c6o:=fun vs x t h=>by
 refine ifE (fun h1 h=>?_) (show ifb (J0 (D4 (nsN (hd vs) x k6)) 3) (some _) none=some t from h);cases h;have hm:=(by decide:∀j,j < 3->j∈[0,1,2]) _ (B4 h1);exact U1.okL (j:=jEl _ _ _) Dr A3 a1m rfl (y0 (d9h _ _) _ hm) (y0 (d9g _ _) _ hm)
end
end
noncomputable def R9:Str:=⟨#[104,101,108,100]⟩
noncomputable def tOf(u:Nat):TV:=ifb (U0 30 u) .no (ifb (o0 (O1 u 2) 1) .beh (.dir (M1 u 2)))
noncomputable def bOf(u:Nat):Option Nat:=ifb (U0 30 u) none (ifb (o0 (O1 u 2) 1) (some (M1 u 2)) none)
noncomputable def X8(u:Nat)(l:Nat->List Nat):List Nat:=ifb (U0 (M1 u 2) 2) (l (M1 u 2)) []
noncomputable def heldQ(a:Nat)(l:List Nat)(q:Nat->So):Nat->So:=sixC a 0 (L6 l 0) (sixC a 1 (L6 l 1) (sixC a 2 (L6 l 2) q))
noncomputable def b9b:List Stmt:=a34 (a0c 529 (E4 727))
noncomputable def d3g:List Stmt:=a0c 536 b9b
noncomputable def c9a(v:V)(tp tb hl:Nat)(e:List (Str×VT)):OT:=.ns ((G5,.n tp)::(C8,.v v)::(a20,.n tb)::(R9,.n hl)::e)
noncomputable def d3h(a:Nat)(v:V)(l:List Nat)(q:Nat->So)(e:List (Str×VT)):List OT:=c9a v 3 4 1 e::.six q::.lst (mapL iV l)::b7f 6
noncomputable def a7h(a:Nat)(v:V)(l:List Nat)(q:Nat->So):Ct:=⟨.sts d3g (a89 5 6 7 8),d3h a v l q [(Y8,.v (iV a)),(a90,.n 2)],.nx,d3h a v l (heldQ a l q) [],[]⟩
theorem f0j(v:V)(q:Nat->So)(a b c:Nat):mapL (fun pg=>mapL (fun l=>Job.side 0 ct0 60 true ⟨lo0,a7h pg v l q,noF⟩) (S9 a b c)) [0,1]=mapL (fun pg=>mapL (fun l=>Job.side 0 ct0 60 false ⟨lo0,a7h pg v l q,noF⟩) (S9 a b c)) [0,1]:=by kernel_rfl
theorem f0i{C:Cx}(Dr:V0 C){a:Nat}(ha:a < 2){v:V}{l:List Nat}{q:Nat->So}(hl:l.length<=3):CtOk C 60 lo0 (a7h a v l q):=by
 refine n5 (a8f hl) fun x y z hm=>?_;exact Job.ok (j:=⟨lo0,a7h a v l q,noF⟩) Dr (c:=0) (ct:=ct0) A3 a1m (y0 (y0 (f0j v q x y z) a ((by decide:∀a,a < 2->a∈[0,1]) a ha)) l hm)
noncomputable def elD(ne i h:Nat):DT:=.sub (ifb (J0 i ne) (some (.tp [.v (.int 0),.n 0])) none) h []
noncomputable def e6p(a:Nat)(b:Option Nat):List (Int×DT):=ifb (o0 a 0) [] [(50,.sub (behN b) 19 [20]),(3,tp0 21)]
noncomputable def pgN(a j:Nat):Nat:=w0 (w0 19 (C1 3 a)) j
noncomputable def pgU(a ne T:Nat)(v:V)(g:List Nat)(b:Option Nat)(q:Nat->So)(l:Nat->List Nat)(e:List (Str×VT))(t:List (Int×DT)):List OT:=c9a v 2 3 4 e::.cell (.t (.n 5))::.tape T g::.dictI ((10,tp0 12)::(9,tp0 13)::(1,tp0 14)::(2,tp0 15)::(20,elD ne 0 16)::(21,elD ne 1 17)::(22,elD ne 2 18)::(e6p a b++t))::.six q::.list [.n 6,.n 7,.n 8]::.lst (mapL iV (l 0))::.lst (mapL iV (l 1))::.lst (mapL iV (l 2))::b7f (w0 10 (C1 3 a))
noncomputable def pgNs(a u:Nat):List (Option OT):=[some (.idict [(a9,.v (.str b3f))]),some (.inst 190 (pgN a 0)),some (.idict [(O4,.v (.int 2)),(B6,.v (.int 0))]),some (.inst 261 (pgN a 2)),
 some (.sub (a4u (tOf u) a6b) (pgN a 4) []),some (.sub (a4u (tOf u) a6c) (pgN a 4) []),some (.sub (a4p (bOf u) a6b) (pgN a 6) []),some (.sub (a4p (bOf u) a6c) (pgN a 6) []),some (.sub (a4o (tOf u) (a5p (.ofNat (w0 50 a)))) (pgN a 8) []),some (.sub (a4o (tOf u) (.inst 261 0)) (pgN a 8) []),
 some (.dictS [(y7,.t (.n (pgN a 1))),(a5w,.t (.n (pgN a 3))),(a3o,.sub (tvN (tOf u)) (pgN a 4) [pgN a 5,pgN a 9])])]
noncomputable def pgT(a:Nat):Nat:=w0 29 (C1 2 a)
noncomputable def ctPg(a ne:Nat)(v:V)(g:List Nat)(b:Option Nat)(q:Nat->So)(l:Nat->List Nat):CtD:=⟨.sts b9b (a89 1 9 10 11),pgU a ne (pgT a) v g b q l [(Y8,.v (iV a))] [],[32],fun _=>.nx,fun ds=>pgU a ne (pgT (Q0 a)) v (nthD ds 0::g) b (heldQ a (X8 (nthD ds 0) l) q) l [] [(.ofNat (w0 50 a),.sub (behN (bOf (nthD ds 0))) (pgN a 6) [pgN a 7]),(.ofNat (w0 3 a),tp0 (pgN a 10))],11,fun ds=>pgNs a (nthD ds 0)⟩
noncomputable def objP(x:S)(v:V)(k:Nat):List Nat:=W1 (G2 v) (fun r=>W1 (obd (x.get r) b91) (fun d=>[d,r]) [r,w0 900000 k]) [w0 900000 k,w0 900001 k]
noncomputable def hasI(x:S)(r:Nat)(k:Int):Bool:=W1 (obd (obd (x.get r) asI) fun es=>y6 PySem.W.Z.eqB es k) (fun _=>true) false
noncomputable def pgBLf(a:Nat)(_:FL)(x:S):List Nat:=(fun h b=>(fun nm rf vs=>[a36 x nm,nm,a36 x rf,rf]++(ifb b [900000,900001] (objP x vs 0)++(ifb b (objP x (tup1 (dIat x 259 (.ofNat (w0 50 a)))) 4) [900004,900005]++(ifb b [a36 x (M0 vs),M0 vs] [900008,900009]++[h])))) (M0 (x9 x h y7)) (M0 (x9 x h a5w)) (x9 x h a3o)) (O5 x 259 (.ofNat (w0 3 a))) (hasI x 259 (.ofNat (w0 50 a)))
noncomputable def spotL(c:List Nat)(vs:List V)(x:S):List Nat:=[M0 (hd vs),M0 (nsN (hd vs) x R9),M0 (nsN (hd vs) x a90),M0 (nsN (hd vs) x G5),M0 (nsN (hd vs) x a20)]++c
noncomputable def keyL(l:Nat->List Nat)(v:V):List Nat:=W1 (a1n v) (fun k=>ifb (U0 k 2) (l k) []) []
noncomputable def d9y(a:Nat)(v:V)(q:Nat->So)(l:Nat->List Nat):Ent:=⟨C7 d3g,fun vs x=>some (a7h a v (keyL l (nsN (hd vs) x m6)) q),spotL [257,265,266,267]⟩
noncomputable def jPg(a ne:Nat)(v:V)(g:List Nat)(b:Option Nat)(q:Nat->So)(l:Nat->List Nat):U1:=⟨lo0,ctPg a ne v g b q l,pgBLf a⟩
noncomputable def pgCT(a:Nat)(v:V)(q:Nat->So)(l:Nat->List Nat):CT:=ctG lo0 [] [d9y a v q l] []
theorem e6u(ne:Nat)(v:V)(g:List Nat)(b:Option Nat)(q:Nat->So)(l:Nat->List Nat):mapL (fun a=>(jPg a ne v g b q l).leaf 60 (pgCT a v q l) 100 true) [0,1]=mapL (fun a=>(jPg a ne v g b q l).leaf 60 (pgCT a v q l) 100 false) [0,1]:=by kernel_rfl
theorem e6s(ne:Nat)(v:V)(g:List Nat)(b:Option Nat)(q:Nat->So)(l:Nat->List Nat):mapL (fun a=>((jPg a ne v g b q l).leaf 60 (pgCT a v q l) 100 true).getLast?) [0,1]=mapL (fun _=>some [Sd.nn 32]) [0,1]:=by kernel_rfl
theorem a0j{n:Nat}:(o7 n 0).length=n:=a9r
theorem Res.side_dep{α:Type}{f g:List Nat->α->S->List Sd}{m:Nat}(hm:0 < m)(ms2:Nat->List Nat):∀ (r:Res α) (pre ms:List Nat),(∀ds d es,ds.length=ms.length->d < m->es.length=(ms2 d).length->r.side true (f (pre++(ds++d::es))) (ms++m::ms2 d) (ds++d::es)=r.side false (g (pre++(ds++d::es))) (ms++m::ms2 d) (ds++d::es))->
  r.All fun a x=>∃ds d es,d < m/\f (pre++(ds++d::es)) a x=g (pre++(ds++d::es)) a x:=by
 intro r;induction r with
 |fail=>exact fun pre ms h=>nomatch Sd.bo.inj (Z0 (h (o7 ms.length 0) 0 (o7 (ms2 0).length 0) a0j hm a0j)).1
 |ok a x=>
  intro pre ms h;have:=Sd.nn.inj (Z0 (h (o7 ms.length 0) 0 (o7 (ms2 0).length 0) a0j hm a0j)).1;exact absurd this (by show (0:Nat)≠(ms++m::ms2 0).length;refine rE a48 (rE Y9 ?_);omega)
 |ask m' k ih=>
  intro pre ms h d hd;cases ms with
  |nil=>
   have e:m'=m:=Sd.nn.inj (Z0 (h [] 0 (o7 (ms2 0).length 0) rfl hm a0j)).1;subst e;refine Res.All_mono ?_ (Res.side_all (f:=f) (g:=g) (k d) (pre++[d]) (ms2 d) fun es hl=>?_)
   ·rintro a x ⟨es,_,e⟩
    exact ⟨[],d,es,hd,by refine rE (show pre++([]++d::es)=pre++[d]++es from (a45 pre [d] _).symm) ?_;exact e⟩
   ·refine rE (a45 ..) ?_;exact (Z0 (h [] d es rfl hd hl)).2
  |cons m1 ms=>
   have e:m'=m1:=Sd.nn.inj (Z0 (h (d::o7 ms.length 0) 0 (o7 (ms2 0).length 0) (congrArg Q0 a0j) hm a0j)).1;subst e;refine Res.All_mono ?_ (ih d (pre++[d]) ms fun ds d' es h1 h2 h3=>?_)
   ·rintro a x ⟨ds,d',es,h1,e⟩
    exact ⟨d::ds,d',es,h1,by refine rE (show pre++(d::ds++d'::es)=pre++[d]++(ds++d'::es) from (a45 pre [d] _).symm) ?_;exact e⟩
   ·refine rE (a45 ..) ?_;exact (Z0 (h (d::ds) d' es (congrArg Q0 h1) h2 h3)).2
 |same p q r ih=>
  intro pre ms h;exact ⟨(Z0 (h (o7 ms.length 0) 0 (o7 (ms2 0).length 0) a0j hm a0j)).1,ih pre ms fun ds d es h1 h2 h3=>(Z0 (h ds d es h1 h2 h3)).2⟩
noncomputable def seqF(r:Res FL)(k:S->Res FL):Res FL:=r.bd fun f x=>FL.casesOn (motive:=fun _=>Res FL) f (k x) (.ok .brk x) (.ok .cont x) fun v=>.ok (.ret v) x
noncomputable def c51(B:AE->S->Res FL)(a:Nat)(fi:FI)(vs:List V)(x:S):Res V:=nd (a2t fi vs) fun bs=>(a4z fi.scope [] bs (fi.qual++ ".<locals>.") (some a) fi.code x).bd fun e x=>(B e x).bd retV
section
variable{C:Cx}{A:Around}{σ τ:St C}{k:Nat}{vs:List V}{us:List Value}
theorem c7e{M:Model}{E:Value->Shared->Prop}{env:Env}{post:List Stmt}{Q:Flow->Shared->Prop}{Γ:Ctx}:∀ {pre:List Stmt} {p:Pos} {s:Shared},Sem.wp M Γ (execs pre env) (fun f p' s'=>match f with| .next=>Sem.wp M Γ (execs post env) (fun a _ s'=>Q a s') (fun e _ s'=>E e s') p' s'|f=>Q f s') (fun e _ s'=>E e s') p s->Sem.wp M Γ (execs (pre++post) env) (fun a _ s'=>Q a s') (fun e _ s'=>E e s') p s
 | [],p,s,h=>h
 |st::pre,p,s,h=>by
  rw[execs_cons,Sem.wp_bind'] at h;refine rE List.cons_append (rE (execs_cons ..) (rE (Sem.wp_bind' ..) ?_));refine Sem.wp_mono M Γ _ (fun f p' s' h'=>?_) (fun _ _ _ h'=>h') _ _ h;cases f <;>first|exact c7e h'|exact h'
theorem c7d{M:Model}{E:Value->Shared->Prop}{env:Env}{pre post:List Stmt}{Q:Flow->Shared->Prop}{s:Shared}(h:wpAny M A (execs pre env) (fun f s'=>match f with| .next=>wpAny M A (execs post env) Q E s'|f=>Q f s') E s):wpAny M A (execs (pre++post) env) Q E s:=fun Γ p hΓ=>
 c7e (Sem.wp_mono M Γ _ (fun f p' s' h'=>by cases f <;>first|exact h' Γ p' hΓ|exact h') (fun _ _ _ h'=>h') _ _ (h Γ p hΓ))
theorem e9g{r:Res FL}{K:S->Res FL}{P:FL->S->Prop}(z:(seqF r K).All P):r.All fun f x=>FL.casesOn (motive:=fun _=>Prop) f ((K x).All P) (P .brk x) (P .cont x) fun v=>P (.ret v) x:=
 Res.All_mono (fun f x z=>by cases f <;>exact z) ((Res.All_bd _ _ _).mp z)
theorem d2p{env:Env}{pre post:List Stmt}{r:Res FL}{K:S->Res FL}(h:GoR A (execs pre env) σ Fr r)(k:∀τ:St C,Le σ τ->GoR A (execs post env) τ Fr (K τ.x)):GoR A (execs (pre++post) env) σ Fr (seqF r K):=fun Q E z=>
 c7d (h _ E (Res.All_mono (fun f x z v τ e X rf=>by
  cases f with
  |next=>cases rf;exact (k τ X).fin X (e▸z)
  |brk=>cases rf;exact z _ τ e X rfl
  |cont=>cases rf;exact z _ τ e X rfl
  |ret w=>refine yea rf fun u zz ru=>?_;clear rf;subst zz;exact z _ τ e X ⟨u,rfl,ru⟩) (e9g z)))
theorem b78(rm:n8 k A){a:Nat}{fi:FI}(hf:Pfn a=some fi){bs:List (Str×V)}(hbs:a2t fi vs=some bs)(r:Vrs σ vs us){R:Result->Shared->Prop}{P:AE->S->Prop}(z:(a4z fi.scope [] bs (fi.qual++ ".<locals>.") (some a) fi.code σ.x).All P)
  (go:∀ (e:AE) (env:Env) (τ:St C),Le σ τ->Er τ e env->P e τ.x->wpAny C.m (A.deeper env) (execs fi.body env) (fun f s'=>R (.ok (.ret (match f with| .ret v=>v|_=>.none))) s') (fun e s'=>wpAny C.m (A.deeper env) (leaving env e) (fun _ s''=>R (.error e) s'') (fun e' s''=>R (.error e') s'') s') τ.s):c5 C.m A (.call (.ref a) ⟨us,[]⟩) R σ.s:=by
 obtain ⟨fd,F⟩:=C.Y.fn a fi hf;refine yea F.at_ fun o ho hod=>?_;refine yea (c4s F hbs r) fun us' hB hr=>?_;refine codeAny_call_function (Z3 (W0 (m4 _ _) (W0 (m4 _ _) rm.depth)) (show 998 < 1000 by decide)) (σ.kin _ _ ho) hod F.co F.gen F.body (codeRec_of σ.kin F.rec_) (hB _ _ _ _ ?_);refine rE F.scope (rE F.globals (rE F.closure (rE F.qual (rE F.code (rE F.builtins ?_)))));exact c7j (cl:=[]) ⟨rfl,fun c hc=>nomatch hc⟩ hr _ _ (Res.All_mono (fun e x z v τ ex X He=>⟨C.Y.lim.keeps τ.D.keep,codeAny_func (go e v τ X He (ex▸z))⟩) z)
theorem e0x(rm:n8 k A){a:Nat}{fi:FI}(hf:Pfn a=some fi)(r:Vrs σ vs us){B:AE->S->Res FL}(hB:∀ (e:AE) (env:Env) (τ:St C),Le σ τ->Er τ e env->GoR (A.deeper env) (execs fi.body env) τ Fr (B e τ.x)):GoR A (p5 (.ref a) us) σ Vr (c51 B a fi vs σ.x):=.nd fun bs hbs Q E z=>
 U9 (b78 rm hf hbs r (R:=fun r s'=>match r with| .ok (.ret v)=>Q v s'| .ok _=>False| .error e=>E e s') ((Res.All_bd _ _ _).mp z) fun e env τ X He z=>(hB e env τ X He).use z fun f v υ Z rf z=>by
  cases f with
  |ret v'=>refine yea rf fun u zz ru=>?_;clear rf;subst zz;exact z u υ rfl (X.trans Z) ru
  |next=>cases rf;exact z .none υ rfl (X.trans Z) rfl
  |_=>exact z.elim)
end
noncomputable def lOf(n:Nat)(g:List Nat)(i:Nat):List Nat:=B8 (nthD g (w0 n i))
noncomputable def qPg(a ne:Nat)(g:List Nat):Nat->So:=ifb (o0 a 0) noQ (heldQ 0 (X8 (nthD g 0) (lOf ne (J1 g))) noQ)
noncomputable def lenN(g:List Nat):Nat:=E0 (motive:=fun _=>Nat) 0 (fun _ _ ih=>Q0 ih) g
noncomputable def vProg(v:V):Nat:=V.casesOn (motive_1:=fun _=>Nat) v 0 (fun _=>0) (fun _=>0) (fun _=>0) (fun _=>0) (fun _=>0) id (fun _=>0) (fun _=>0)
noncomputable def pgL(a ne:Nat)(vs:List V)(x:S):List Nat:=(fun F t=>(fun rl r=>[F,w0 F 1,M0 (nsN (hd vs) x G5),t,M0 (nsN (hd vs) x R9),rl,nthD (a8s (S8 x (.ref rl))) 0,nthD (a8s (S8 x (.ref rl))) 1,nthD (a8s (S8 x (.ref rl))) 2,w0 F 2,w0 F 3,w0 F 4,r,O5 x t 9,O5 x t 1,O5 x t 2,
 O5 x t 20,ifb (J0 1 ne) (O5 x t 21) 266,ifb (J0 2 ne) (O5 x t 22) 267]++ifb (o0 a 0) [] [A2 (O5 x t 3) 4,A2 (O5 x t 3) 3,O5 x t 3]) (b61 x (w0 F 1)) (O5 x t 10)) (M0 (hd vs)) (M0 (nsN (hd vs) x a20))
noncomputable def c6u:Q4:=⟨C7 b9b,fun vs x=>(fun a g=>(fun ne=>ifb (J0 a 2) (some (ctPg a ne (nsN (hd vs) x C8) g (bOf (nthD g 0)) (qPg a ne g) (lOf (w0 ne a) g))) none) (A2 (lenN g) (w0 4 a))) (D4 (nsN (hd vs) x Y8)) (ghN x (M0 (nsN (hd vs) x G5))),fun vs x=>(fun a=>pgL a (A2 (lenN (ghN x (M0 (nsN (hd vs) x G5)))) (w0 4 a)) vs x) (D4 (nsN (hd vs) x Y8))⟩
noncomputable def c5x(a:Nat):Ct:=⟨.call 686 [.v (.prog a)],[],.rt (.n 0),[],[some (.tape 0 [])]⟩
noncomputable def e00(a:Nat):Ent:=⟨686,fun _ _=>some (c5x a),noL⟩
noncomputable def b80(a:Nat):CT:=ctH lo0 (ctG lo0 [e00 a] [] []) ⟨[c6x],[c6o,c6u],[c71,c6s],[]⟩
noncomputable def b8t(n:Nat):List (Option OT):=o4 (motive:=fun _=>List (Option OT)) [] (fun _ ih=>none::ih) n
noncomputable def E7(p:Pm)(a b c:Option OT)(hi:List (Option OT)):List (Option OT):=LoT p a b c++(b8t 159++hi)
section
variable{C:Cx}{A:Around}{σ:St C}{p:Pm}{a b c:Option OT}{ts hi:List (Option OT)}{PL:List Nat}
theorem b3o{α:Type}{a:α}:∀ {l:List α} {i:Nat},(a3r a l i).length=l.length
 | [],_=>rfl
 |_::_,0=>rfl
 |_::l,i+1=>congrArg Q0 (b3o (l:=l) (i:=i))
theorem a11:(LoT p a b c).length=97:=by
 unfold LoT a3m;refine rE b3o (rE b3o (rE b3o ?_));rfl
theorem d0e:∀ {n i:Nat} {t:OT},(b8t n)[i]?≠some (some t)
 |0,_,_,h=>D0 h
 |n+1,0,_,h=>by cases h
 |n+1,i+1,_,h=>d0e (n:=n) h
theorem a8j:∀n,(b8t n).length=n
 |0=>rfl
 |n+1=>congrArg Q0 (a8j n)
theorem d3w{i:Nat}:(E7 p a b c hi)[256+i]? =hi[i]?:=by
 unfold E7;refine rE (b4x (by rw[a11];omega)) (rE a11 (rE (b4x (by rw[a8j];omega)) (rE (a8j ..) ?_)))
 congr 1
 omega
theorem f13{i:Nat}{t:OT}(hi':i < 256)(h:(E7 p a b c hi)[i]? =some (some t)):(LoT p a b c)[i]? =some (some t):=by
 unfold E7 at h;by_cases q:i < 97
 ·rwa [List.getElem?_append_left (by refine rE a11 ?_;exact q)] at h
 ·rw[b4x (by refine rE a11 ?_;omega),a11,List.getElem?_append_left (by refine rE (a8j ..) ?_;omega)] at h
  exact absurd h d0e
structure a2q(p:Pm)(a b c:Option OT)(ts hi:List (Option OT))(PL:List Nat):Prop where
 kn:p.ne∈l13
 kc:p.c∈l03
 ra:B0 md (a62 p)=B0 idN a
 rb:B0 md (a63 p)=B0 idN b
 rc:B0 md (a94 p)=B0 idN c
 ta:∀t:OT,a=some t->v6 PL t
 tb:∀t:OT,b=some t->v6 PL t
 tc:∀t:OT,c=some t->v6 PL t
 hh:vals T3 ts=vals idN hi
 th:∀ (i:Nat) (t:OT),hi[i]? =some (some t)->v6 PL t
 len:PL.length=256+hi.length
 lt:ts.length=hi.length
 few:ts.length < 1000
variable(S:a2q p a b c ts hi PL)
include S
theorem a2q.at(i:Nat)(o:O)(e:(X (Lo p) ts).get i=some o):∃t:OT,(E7 p a b c hi)[i]? =some (some t)/\o=t.val idN/\P6 t=false:=by
 have hf:=S.few;rw[a71 (by omega)] at e;by_cases q:i < 256
 ·rw[if_pos q] at e
  refine yea (Lo_tm S.kn S.kc S.ra S.rb S.rc q e) fun t h1 h2=>?_;have hl:i < 97:=a11 (p:=p) (a:=a) (b:=b) (c:=c)▸(a9q.mp h1).1;exact ⟨t,by unfold E7;refine rE (List.getElem?_append_left (by rw[a11];exact hl)) ?_;exact h1,h2⟩
 ·rw[if_neg q] at e
  obtain ⟨j,rfl⟩:∃j,i=256+j:=⟨i - 256,by omega⟩;rw[a6t] at e;revert e;refine obE fun w h1 h2=>?_;have h3:(vals T3 ts)[j]? =some (some o):=by unfold vals;refine rE (a3b ..) (rE h1 ?_);exact congrArg some h2
  rw[S.hh] at h3;unfold vals at h3;rw[a3b] at h3;refine rE d3w ?_;cases r:hi[j]? with
  |none=>rw[r] at h3;cases h3
  |some t=>
   rw[r] at h3;refine R0 (a6a (C0 h3)) fun t' zz e2 e3=>?_;subst zz;exact ⟨t',rfl,e2,e3⟩
theorem a2q.told(i:Nat)(t:OT)(h:(E7 p a b c hi)[i]? =some (some t)):v6 PL t:=by
 by_cases q:i < 256
 ·exact d5n S.kn S.kc S.ta S.tb S.tc i t (f13 q h)
 ·obtain ⟨j,rfl⟩:∃j,i=256+j:=⟨i - 256,by omega⟩
  rw[d3w] at h;exact S.th j t h
theorem a2q.At(chk:b8 (E7 p a b c hi) PL σ.x=vals (nthD PL) (E7 p a b c hi))(ap:apD PL=true):At C (fun i=>σ.ρ (nthD PL i)) (X (Lo p) ts) σ.h:=by
 have hf:=S.few;have hl:=S.len;have ht:=S.lt;refine e9o σ.D S.at S.told ?_ ?_ (by refine rE X_n ?_;omega) chk ap
 ·unfold E7;refine rE a48 (rE a11 (rE a48 (rE (a8j ..) ?_)));omega
 ·refine rE X_n ?_;omega
theorem a2q.go{α β:Type}{t:Sem α}{R:St C->β->α->Prop}{r:Res β}{b':β}(chk:b8 (E7 p a b c hi) PL σ.x=vals (nthD PL) (E7 p a b c hi))(ap:apD PL=true)(go:∀D,GoR A t ⟨σ.s,fun i=>σ.ρ (nthD PL i),X (Lo p) ts,D⟩ R r)(hr:r.All fun f _=>f=b')(hR:∀ (τ υ:St C) v,R τ b' v->R υ b' v):GoR A t σ R (.ok b' (K5 σ.x.n)):=
 e9p (S.At chk ap) S.at chk (go _) hr hR
end
noncomputable def elk(ne:Nat)(g:List Nat)(k:Nat):Nat:=nthD g (w0 2 (A2 (A2 ne 1) k))
noncomputable def dkA(ne:Nat)(g:List Nat)(k:Nat):List Nat:=ifb (J0 k ne) (N6 (elk ne g k)) []
noncomputable def lA(ne:Nat)(g:List Nat):Nat->List Nat:=lOf (w0 ne 2) g
noncomputable def rrL(l:List Nat):Nat->List (Option Nat):=E0 (motive:=fun _=>Nat->List (Option Nat)) (fun _=>[]) (fun n _ ih a=>W1 (a5n n) (fun _=>some a) none::ih (w0 a 2)) l
noncomputable def mA(ne:Nat)(g:List Nat)(j:Nat):Option Int:=L6 (lA ne g (M1 j 3)) (O1 j 3)
noncomputable def pA(ne:Nat)(g:List Nat):Pm:=⟨ne,j6 (elk ne g 0),j6 (elk ne g 1),j6 (elk ne g 2),dkA ne g 0,dkA ne g 1,dkA ne g 2,tOf (nthD g 1),tOf (nthD g 0),bOf (nthD g 1),bOf (nthD g 0),3,rrL (lA ne g 0) 80,rrL (lA ne g 1) 86,rrL (lA ne g 2) 92,mA ne g,none⟩
noncomputable def a5r(ne:Nat)(g:List Nat)(i:Nat):Option OT:=b9w (lA ne g i) (w0 80 (C1 6 i)) (w0 82 (C1 6 i)) (w0 84 (C1 6 i))
noncomputable def y5(ne:Nat)(g:List Nat):V:=.int (M2 (O1 (nthD g (w0 ne 5)) 5) - 1)
noncomputable def L5(ne:Nat)(g:List Nat):Nat->So:=dueQ ne (J1 (J1 g))
noncomputable def heldA(ne:Nat)(g:List Nat):Nat->So:=heldQ 1 (X8 (nthD g 0) (lOf (w0 ne 1) (J1 g))) (qPg 1 ne (J1 g))
noncomputable def hiB(v:V)(d h:Nat->So):List (Option OT):=[some (.ns [(C8,.v v),(R9,.n 5)]),some (.cell (.t (.n 4))),some (.cell (.t (.v (.ref 78)))),some (.cell (.o none)),some (.six d),some (.six h),none,some (.code 7)]
noncomputable def hiT(v:V)(d h:Nat->So):List (Option OT):=[some (.ns [(C8,.v v),(R9,.n 261)]),some (.cell (.t (.n 260))),some (.cell (.t (.n 78))),some (.cell (.o none)),some (.six d),some (.six h),none,some (.code 263)]
noncomputable def eB:AE:=(fun e=>⟨e.scope,256,e.cells,e.qual,e.func,e.code,some 256⟩) (a89 262 257 258 259)
noncomputable def xB(ne:Nat)(g:List Nat):S:=X (Lo (pA ne g)) (hiB (y5 ne g) (L5 ne g) (heldA ne g))
noncomputable def R8:List Stmt:=a0c 540 (E4 727)
noncomputable def toL(n:Nat)(l:List Stmt):List Stmt:=E0 (motive:=fun _=>List Stmt) [] (fun s _ ih=>ifb (J0 s.pos.line n) (s::ih) []) l
noncomputable def b2a:List Stmt:=toL 540 (E4 727)
theorem e35:E4 727=b2a++R8:=by kernel_rfl
noncomputable def plA(ne:Nat):List Nat:=(fun E el=>[306,307,309,310,312,313,316,317,319,320,322,323,325,270,278,286,268,300,296,297]++(a0b (fun k=>[el (M0 k) 6,el (M0 k) 7]) [.ref 0,.ref 1,.ref 2]++([299,295,305,315,301,302,303]++(a0b (fun k=>mapL (el (M0 k)) [0,1,2,3,4,5]) [.ref 0,.ref 1,.ref 2]++(mapL (w0 E) [2,3,4,5,6,7,8,9,10,11,12,13,14,15,16,17,18,19,20,21,22,23]++(294::(mapL (w0 E) [25,26,24,28,29]++([271,272,273,274,275,276,279,280,281,282,283,284,287,288,289,290,291,292]++(repN 159++[256,258,259,260,328,E,257,255])))))))))
 (w0 331 (C1 8 ne)) (fun k j=>ifb (J0 k ne) (w0 (w0 331 (C1 8 k)) j) 1000000)
where repN (n:Nat):List Nat:=o4 (motive:=fun _=>List Nat) [] (fun _ ih=>1000000::ih) n
noncomputable def tA'(ne:Nat)(g:List Nat):List (Option OT):=E7 (pA ne g) (a5r ne g 0) (a5r ne g 1) (a5r ne g 2) (hiT (y5 ne g) (L5 ne g) (heldA ne g))
noncomputable def resA(e:AE)(x:S):Res FL:=(fun g=>(fun ne=>.same (.ae e) (.ae (eB.at (nthD (plA ne)))) <| .same (.oo (b8 (tA' ne g) (plA ne) x)) (.oo (vals (nthD (plA ne)) (tA' ne g))) <| .same (.bo (w4 (a3c l13 ne) (apD (plA ne)))) (.bo true) <| .ok (.ret (.bool true)) (K5 x.n)) (A2 (lenN g) 6)) (ghN x 261)
noncomputable def bodyA(a:Nat)(e:AE)(x:S):Res FL:=seqF ((hk 100 (b80 a) 140).sts b2a e x) (resA e)
noncomputable def a8w(a:Nat):Res V:=nd (Pfn 727) fun fi=>c51 (bodyA a) 727 fi [.prog a] (X lo0 [])
noncomputable def mscA(n:Nat):List Nat:=F2 (Q0 n) [80,80,80]++[32,32]
noncomputable def a61(s:Bool)(a n:Nat)(ds:List Nat):List Sd:=(a8w a).side s (fun v _=>[.vs [ifb s v (.bool true)]]) ([5,156,156,156]++3::mscA n) ds
theorem e85(a w k0 k1 k2 e0 u0 u1:Nat):a61 true a 0 [w,k0,k1,k2,0,e0,u0,u1]=a61 false a 0 [w,k0,k1,k2,0,e0,u0,u1]:=by kernel_rfl
theorem e86(a w k0 k1 k2 e0 e1 u0 u1:Nat):a61 true a 1 [w,k0,k1,k2,1,e0,e1,u0,u1]=a61 false a 1 [w,k0,k1,k2,1,e0,e1,u0,u1]:=by kernel_rfl
theorem e87(a w k0 k1 k2 e0 e1 e2 u0 u1:Nat):a61 true a 2 [w,k0,k1,k2,2,e0,e1,e2,u0,u1]=a61 false a 2 [w,k0,k1,k2,2,e0,e1,e2,u0,u1]:=by kernel_rfl
theorem e88(a:Nat):(a8w a).All fun v _=>v=.bool true:=by
 refine Res.All_mono ?_ (Res.side_dep (f:=fun _ v _=>[.vs [v]]) (g:=fun _ _ _=>[.vs [.bool true]]) (m:=3) (by decide) mscA (a8w a) [] [5,156,156,156] fun ds d es h1 h2 h3=>?_)
 ·rintro v x ⟨_,_,_,_,e⟩
  exact (Z0 (Sd.vs.inj (Z0 e).1)).1
 ·cases ds with
  |nil=>cases h1
  |cons w ds=>
   refine n5 (a8a (p9 h1)) fun k0 k1 k2 zw=>?_;subst zw;rcases a5a h2 with rfl|rfl|rfl
   ·refine n5 (a8a h3) fun e0 u0 u1 zx=>?_;subst zx
    exact e85 a w k0 k1 k2 e0 u0 u1
   ·cases es with
    |nil=>cases h3
    |cons e0 es=>refine n5 (a8a (p9 h3)) fun e1 u0 u1 zy=>?_;subst zy;exact e86 a w k0 k1 k2 e0 e1 u0 u1
   ·cases es with
    |nil=>cases h3
    |cons e0 es=>cases es with
     |nil=>cases h3
     |cons e1 es=>refine n5 (a8a (p9 (p9 h3))) fun e2 u0 u1 zz=>?_;subst zz;exact e87 a w k0 k1 k2 e0 e1 e2 u0 u1
noncomputable def slE:Expr:=.Subscript (.Name d2h ⟨480,16,480,22⟩) (.Slice none (some (.Constant (.int (.ofNat 63)) 0 ⟨480,24,480,26⟩)) none ⟨480,23,480,26⟩) ⟨480,16,480,27⟩
noncomputable def c3l(xs:List Int):List V:=mapL V.int xs
noncomputable def xeT(a:Nat)(xs:List Int):a15:=⟨slE,fun e x=>some ((A6 d2h e x).bd fun v x=>.same (.vs [v]) (.vs [.prog a]) <|ck x.ok <| .ok (.ref x.n) (x.new (.list (c3l xs))))⟩
noncomputable def absI(i:Int):Int:=.ofNat i.natAbs
noncomputable def tapD(xs:List Int):Int->Int:=E0 (motive:=fun _=>Int->Int) (fun d=>d) (fun c _ ih d=>ih (Int.add (Int.mul d 4099) (absI c))) xs
noncomputable def a9b(xs:List Int):Int->Int:=E0 (motive:=fun _=>Int->Int) (fun d=>d) (fun c _ ih s=>ih (Int.fmod (Int.add (Int.mul s 523) c) 1000000007)) xs
noncomputable def ctTL(a:Nat)(d s:Int):Ct:=⟨.call 686 [.v (.prog a)],[],.rt (.n 0),[],[some (.lst [.int d,.int s,.int 0])]⟩
noncomputable def cL(c:Nat->Int)(n:Nat):Nat->List Int:=o4 (motive:=fun _=>Nat->List Int) (fun _=>[]) (fun _ ih i=>c i::ih (Q0 i)) n
noncomputable def tpSd(b:Bool)(a:Nat)(xs:List Int):List Sd:=Job.side 0 (ctG lo0 [] [] [xeT a xs]) 90 b ⟨lo0,ctTL a (tapD xs 0) (a9b xs 0),a1t⟩
noncomputable def n64:List Nat:=[0,1,2,3,4,5,6,7,8,9,10,11,12,13,14,15,16,17,18,19,20,21,22,23,24,25,26,27,28,29,30,31,32,33,34,35,36,37,38,39,40,41,42,43,44,45,46,47,48,49,50,51,52,53,54,55,56,57,58,59,60,61,62,63]
theorem f1b(a:Nat)(c:Nat->Int):mapL (fun n=>tpSd true a (cL c n 0)) n64=mapL (fun n=>tpSd false a (cL c n 0)) n64:=by kernel_rfl
noncomputable def s_many:Str:=⟨#[109,97,110,121]⟩
noncomputable def a19(e:Expr):Expr:=match e with| .BinOp l _ _ _=>l|_=>e
noncomputable def v9(e:Expr):Expr:=match e with| .BinOp _ _ r _=>r|_=>e
noncomputable def subB(e:Expr):Expr:=match e with| .Subscript o _ _=>o|_=>e
noncomputable def subI(e:Expr):Expr:=match e with| .Subscript _ i _=>i|_=>e
noncomputable def ifBd(l:List Stmt):List Stmt:=E0 (motive:=fun _=>List Stmt) [] (fun s _ ih=>match s with| .If _ b _ _=>b|_=>ih) l
noncomputable def a1w:Expr:=asgE 487 (ifBd (E4 693))
noncomputable def a0i:Expr:=a19 (a19 a1w)
noncomputable def powF(b c:Int):Int:=((b+100003 * c) ^ 3).fmod 1000000007
theorem e72:a1w=.BinOp (.BinOp (.BinOp (.Subscript (.Name G5 (subB (a19 a0i)).pos) (.Constant (.int 1) 0 (subI (a19 a0i)).pos) (a19 a0i).pos) .Add (.BinOp (.Constant (.int 100003) 0 (a19 (v9 a0i)).pos) .Mult (.Subscript (.Name G5 (subB (v9 (v9 a0i))).pos) (.Constant (.int 2) 0 (subI (v9 (v9 a0i))).pos) (v9 (v9 a0i)).pos) (v9 a0i).pos) a0i.pos) .Pow (.Constant (.int 3) 0 (v9 (a19 a1w)).pos) (a19 a1w).pos) .Mod (.Constant (.int 1000000007) 0 (v9 a1w).pos) a1w.pos:=by kernel_rfl
noncomputable def d42(e:AE)(x:S):Option Nat:=obd (lk e.scope.names G5) fun k=>ifb (P7 (some k)) (obd (obd (x.get e.locals) oNs) fun es=>obd (lk es G5) G2) none
noncomputable def l3(a b c:Int):List V:=[.int a,.int b,.int c]
noncomputable def xPow(a b c:Int):a15:=⟨a1w,fun e x=>some (nd (d42 e x) fun j=>.same (.oo [x.get j]) (.oo [some (.list (l3 a b c))]) <| .ok (.int (powF b c)) x)⟩
noncomputable def N5(z:Bool)(n:Nat):Int:=ifb z 0 (.ofNat (Q0 n))
noncomputable def drA(a b c:Int)(z:Bool):Int:=ifb z (powF b (c+1)) a
noncomputable def ctDr(z:Bool)(n:Nat)(b c:Int)(m:Nat):Ct:=⟨.call 693 [.n 0,.v (iV (Q0 m))],[.lst (l3 (N5 z n) b c)],.rt (.v (.int ((drA (N5 z n) b c z).fmod (.ofNat (Q0 m))))),[.lst (l3 ((drA (N5 z n) b c z).fdiv (.ofNat (Q0 m))) b (ifb z (c+1) c))],[]⟩
noncomputable def l16:List Nat:=[0,1,2,3,4,5,6,7,8,9,10,11,12,13,14,15]
noncomputable def loD:B:=a7 .nil
theorem e3n:C5 loD:=C5.cut fun _ _ _ _ e=>D0 e
noncomputable def drS(s:Bool)(z:Bool)(n:Nat)(b c:Int)(m:Nat):List Sd:=Job.side 10 (ctG loD [] [] [xPow (N5 z n) b (c+1)]) 19 s ⟨loD,ctDr z n b c m,noF⟩
theorem d8v(n:Nat)(b c:Int):mapL (fun z=>mapL (drS true z n b c) l16) [true,false]=mapL (fun z=>mapL (drS false z n b c) l16) [true,false]:=by kernel_rfl
section
variable{C:Cx}{A:Around}{σ τ:St C}{e:AE}{env:Env}
theorem d43(rm:F0 10 A)(He:Er σ e env){j:Nat}{a b c:Int}(hj:d42 e σ.x=some j)(hx:σ.x.get j=some (.list (l3 a b c))){k:Nat}{v:V}(hv:nth (l3 a b c) k=some v)(hk3:k < 3){p1 p2 p3:Pos}:GoR A (eval (.Subscript (.Name G5 p1) (.Constant (.int (.ofNat k)) 0 p2) p3) env) σ Vr (.ok v σ.x):=by
 have h:=d3s (σ:=σ) (a35 (C:=C) (c:=0) A3 3 (.inl (by decide))) (rm.mono (by decide)) He (o:=.Name G5 p1) (i:=.Constant (.int (.ofNat k)) 0 p2) (pos:=p3);have e1:subX (hk 0 ct0 3) (.Name G5 p1) (.Constant (.int (.ofNat k)) 0 p2) e σ.x=(A6 G5 e σ.x).bd fun w x=>lft (a51 w (.int (.ofNat k)) x) x:=rfl;rw[e1] at h;revert hj;refine obE fun kd h1 hj=>?_;revert hj;refine ifE fun h2 hj=>?_;revert hj;refine obE fun es h3 hj=>?_;revert hj;refine obE fun w h4 hj=>?_;obtain rfl:=V.ref_eq hj;have e2:A6 G5 e σ.x=.ok (.ref j) σ.x:=by
  unfold A6;refine rE (show (!seq G5 dbgS)=true from rfl) (rE h1 (rE (C0 (b1p h2)) (rE h3 ?_)));show lft (lk es G5) σ.x=_;refine rE h4 ?_;rfl
 rw[e2] at h;have e3:a51 (.ref j) (.int (.ofNat k)) σ.x=some v:=by
  show obd (σ.x.get j) _=some v;refine rE hx (rF hv ?_);rcases a5a hk3 with rfl|rfl|rfl <;>rfl
 have e4:(Res.ok (V.ref j) σ.x).bd (fun w x=>lft (a51 w (.int (.ofNat k)) x) x)=.ok v σ.x:=by
  show lft (a51 (.ref j) (.int (.ofNat k)) σ.x) σ.x=_;refine rE e3 ?_;rfl
 rw[e4] at h;exact h
theorem GoR.one{α β:Type}{R:St C->β->α->Prop}{t:Sem α}{b:β}(h:GoR A t σ R (.ok b σ.x)){Q:α->Shared->Prop}{E:Value->Shared->Prop}(k:∀v (τ:St C),τ.x=σ.x->Le σ τ->R τ b v->Q v τ.s):wpAny C.m A t Q E σ.s:=h Q E fun v τ hx X r=>k v τ hx X r
theorem e71{b c:Int}(hb0:0<=b)(hb:b < 1000000007)(hc0:0<=c)(hc:c<=2000000):¬ Builtin.Int.intTooBig (((Builtin.Int.intBits (b+100003 * c):Nat):Int) * 3)=true:=by
 have h:Builtin.Int.intBits (b+100003 * c)<=64:=intBits_le_64 (by omega) (by omega);unfold Builtin.Int.intTooBig bitsLine;simp only[decide_eq_true_eq];omega
theorem f2i{a b c:Int}(hb0:0<=b)(hb:b < 1000000007)(hc0:1<=c)(hc:c<=2000000):XOk C 10 (xPow a b c):=fun {A σ e env} rm He r hr=>by
 cases hr;refine .nd fun j hj Q E z=>?_;obtain ⟨e1,z⟩:=z;have hx:σ.x.get j=some (.list (l3 a b c)):=(Z0 (Sd.oo.inj e1)).1;show wpAny _ _ (eval a1w env) _ _ _;refine rE e72 ?_;refine b4b (b4b (b4b ((d43 rm He hj hx (k:=1) rfl (by decide)).one fun u1 τ1 x1 X1 r1=>?_)));obtain ⟨t1,rfl⟩:=r1;refine b4b ?_;refine rE (b5n ..) ?_;refine (b0p (σ:=τ1) (c:=.int 100003)).one fun u2 τ2 x2 X2 r2=>?_;obtain ⟨t2,rfl⟩:=r2;refine (d43 (σ:=τ2) rm ((X1.trans X2).env He) (by refine rE x2 (rE x1 ?_);exact hj) (by refine rE x2 (rE x1 ?_);exact hx) (k:=2) rfl (by decide)).one fun u3 τ3 x3 X3 r3=>?_;obtain ⟨t3,rfl⟩:=r3;refine PyProof.Rows.mul_int ?_ (IntMulOk.of_left (intBits_le_64 (by decide) (by decide)));refine PyProof.Rows.add_int ?_;refine rE (b5n ..) ?_;have X4:Le σ ((τ3.tok (τ3.s.toks+1)).tok (τ3.s.toks+1+1)):=((X1.trans X2).trans X3).trans (.trans .tok .tok);refine (b0p (σ:=(τ3.tok (τ3.s.toks+1)).tok (τ3.s.toks+1+1)) (c:=.int 3)).one fun u5 τ5 x5 X5 r5=>?_;obtain ⟨t5,rfl⟩:=r5;refine AutoIntOps.pow_4 (by decide) (by decide) (by simp;omega) (by simp;omega) (e71 hb0 hb (by omega) hc) ?_;show wpAny _ _ (eval (.Constant _ _ _) _) _ _ _;refine rE (b5n ..) ?_;refine (b0p (σ:=τ5.tok _) (c:=.int 1000000007)).one fun u6 τ6 x6 X6 r6=>?_;obtain ⟨t6,rfl⟩:=r6;refine mod_int' (by decide) ?_;have X7:Le σ τ6:=((X4.trans X5).trans .tok).trans X6;exact z _ (τ6.tok _) (by show τ6.x=_;refine rE x6 ?_;show τ5.x=_;refine rE x5 ?_;show τ3.x=_;exact rE x3 (rE x2 (rE x1 rfl))) (X7.trans .tok) ⟨_,rfl⟩
theorem posI_pos{z:Bool}{n:Nat}:0<=N5 z n:=by
 cases z
 ·exact a9n _
 ·exact a6m 0
theorem dr_ok(z:Bool)(n:Nat){b c:Int}(hb0:0<=b)(hb:b < 1000000007)(hc0:0<=c)(hc:c<=1000000){m:Nat}(hm:m < 16):CtOk C 19 loD (ctDr z n b c m):=by
 have run:=y0 (y0 (d8v n b c) z ((by decide:∀z:Bool,z∈[true,false]) z)) m ((by decide:∀m,m < 16->m∈l16) m hm);exact Job.ok' (c:=10) (.inl (by decide)) (j:=⟨loD,ctDr z n b c m,noF⟩) (i6 j1 j1 (Y0 (f2i hb0 hb (by omega) (by omega)))) e3n run
theorem e3m(i:Nat):loD.get i=none:=by
 show (B.set none 21 .nil 73).get i=none;refine rE (B.get_set none 21 .nil 73 i (by decide)) ?_;split <;>rfl
theorem d8w:V0 C:=fun {A σ} rm {vs us} r=>by
 refine .nd fun p q=>.nd fun t ht=>.ck fun h256=>.nd fun c hc=>.ck fun hcb=>.nd fun m hm=>.ck fun hmb=>?_;refine T6 (r.two q) fun a b ua ub e zs ra rb=>?_;subst zs;cases e;revert hc;refine obE fun o ho hc=>?_;revert hm;refine obE fun k hk hm=>?_;obtain rfl:b=.int k:=V.int_eq hk;obtain ⟨tk,rfl⟩:∃tk,ub=.int k tk:=rb;cases k with
 |negSucc k=>exact D0 hm
 |ofNat k=>
 obtain rfl:k=m:=C0 hm;cases o with
 |tape n g=>
  cases hc;cases k with
  |zero=>exact .fail
  |succ m=>
  refine rE (show b00=693 from by unfold b00;rfl) ?_;intro Q E z;have z:∀d,d < m+1->A0 σ Vr Q (.int (.ofNat d)) (σ.x.put t (.tape (n+1) g)):=z;refine yea (σ.at ho) fun ob g1 g2=>?_;refine B1 g2 fun ws cc h1 zu=>?_;clear g2;refine n5 zu fun a b c zt=>?_;clear zu;refine a2d zt fun t1 t2 t3 zv k1 k2 k3 k4 k5=>?_;clear zt;subst zv;have hn:n<=1000000:=d3 hcb;have hm16:m < 16:=d3 hmb;obtain ⟨zz,nn,rfl⟩:∃zz nn,a=N5 zz nn:=by
   rcases Int.eq_ofNat_of_zero_le k1 with ⟨w,rfl⟩
   cases w with
   |zero=>exact ⟨true,0,rfl⟩
   |succ w=>exact ⟨false,w,rfl⟩
  have hov:OV C σ.h σ.ρ σ.x.n (.list (l3 (N5 zz nn) b c)) ob:=⟨_,cc,.cons ⟨_,rfl⟩ (.cons ⟨_,rfl⟩ (.cons ⟨_,rfl⟩ .nil)),h1⟩;have D1:=(σ.D.set (h':=σ.h) (w:=some (.list (l3 (N5 zz nn) b c))) ho (fun _ _ _ e=>e) fun o q=>⟨ob,g1,fun _=>C0 q▸hov⟩);have tlt:t < 1000000:=i4 (σ.D.lt ho) σ.D.room;let σ':St C:=⟨σ.s,σ.ρ,σ.x.put t (.list (l3 (N5 zz nn) b c)),D1.1⟩
  have gx:∀j,(σ.x.put t (.list (l3 (N5 zz nn) b c))).get j=if j=t then some (.list (l3 (N5 zz nn) b c)) else σ.x.get j:=a3k tlt
  have F:G6 loD [.lst (l3 (N5 zz nn) b c)] [t] σ'.x:=by
   refine ⟨fun i _ o e=>?_,?_,?_,rfl,W0 (d3 h256) (J8 (σ.D.lt ho)),(show 256+1 < 1000000 by decide),rfl,?_⟩
   ·rw[e3m] at e;cases e
   ·show [srcE _ (σ'.x.get t)]=_
    refine rE (gx ..) (rE (if_pos rfl) ?_);rfl
   ·show ifb (U0 256 t) _ false=true
    refine rE h256 ?_;rfl
   ·show ifb (J0 t σ.x.n) true false=true
    refine rE (show J0 t σ.x.n=true from a9v (σ.D.lt ho)) ?_;rfl
  have go:=(dr_ok (C:=C) zz nn k2 k3 k4 (by omega) hm16).go (σ:=σ') (L:=[t]) (rm.mono (by decide)) F rfl rfl rfl (Z3 (a4d (Nat.add_zero _)) σ.D.room) [ua,.int (.ofNat (m+1)) tk] (.cons ⟨ra.ref ht,σ.D.lt ho⟩ (.cons ⟨tk,rfl⟩ .nil));refine go Q E fun u τ hx X r'=>?_;refine yea r' fun u' e ru=>?_;clear r';cases e;obtain ⟨tu,rfl⟩:∃tu,u=.int ((drA (N5 zz nn) b c zz).fmod (.ofNat (m+1))) tu:=ru;have hA:0<=drA (N5 zz nn) b c zz:=by
   cases zz with
   |true=>exact Int.fmod_nonneg_of_pos _ (by decide)
   |false=>exact k1
  have hm0:(0:Int) < .ofNat (m+1):=Int.natCast_pos.mpr (q9 m);have hd0:=Int.fmod_nonneg_of_pos (drA (N5 zz nn) b c zz) hm0;have hd1:=Int.fmod_lt_of_pos (drA (N5 zz nn) b c zz) hm0;obtain ⟨d,hd⟩:=Int.eq_ofNat_of_zero_le hd0;have hq:τ.x=(σ.x.put t (.list (l3 (N5 zz nn) b c))).put t (.list (l3 ((drA (N5 zz nn) b c zz).fdiv (.ofNat (m+1))) b (ifb zz (c+1) c))):=hx;have gt:τ.x.get t=some (.list (l3 ((drA (N5 zz nn) b c zz).fdiv (.ofNat (m+1))) b (ifb zz (c+1) c))):=by refine rE hq ?_;rw[a3k tlt];exact rE (if_pos rfl) rfl
  refine m7 (τ.at gt) fun ob2 f1 ws2 c2 f2 f3=>?_;refine R3 (All2.consR f2) fun v1 w1 e1 zw f4=>?_;obtain ⟨s1,y1⟩:=zw;refine R3 (All2.consR f4) fun v2 w2 e2 zx f5=>?_;obtain ⟨s2,y2⟩:=zx;refine R3 (All2.consR f5) fun v3 w3 e3 zy f6=>?_;obtain ⟨s3,y3⟩:=zy;have e4:=All2.nilR f6;subst e4 y3 e3 y2 e2 y1 e1;have hT:c40 ((drA (N5 zz nn) b c zz).fdiv (.ofNat (m+1))) b (ifb zz (c+1) c) (n+1):=⟨Int.fdiv_nonneg hA (Int.le_of_lt hm0),k2,k3,by cases zz with|true=>exact Int.le_add_one k4|false=>exact k4,by cases zz with|true=>exact Int.add_le_add_right k5 1|false=>exact a2g k5 (a9o.mpr (H7 n))⟩;have D2:=(τ.D.set (h':=τ.h) (w:=some (.tape (n+1) g)) gt (fun _ _ _ e=>e) fun o q=>⟨ob2,f1,fun _=>C0 q▸⟨_,c2,f3,_,_,_,s1,s2,s3,rfl,hT⟩⟩).1;have g2:∀j,(τ.x.set (some (.tape (n+1) g)) t).get j=(σ.x.put t (.tape (n+1) g)).get j:=fun j=>by
   rw[get_set tlt,a3k tlt];refine rE hq ?_;rw[a3k tlt];refine rE (gx ..) ?_;split <;>rfl
  have hn2:(σ.x.put t (.tape (n+1) g)).n=(τ.x.set (some (.tape (n+1) g)) t).n:=by refine rE (show (τ.x.set (some (.tape (n+1) g)) t).n=τ.x.n from rfl) (rE hq ?_);rfl
  have D3:=D2.ren (x':=σ.x.put t (.tape (n+1) g)) (R:=Eq) (fun i=>i) σ.D.room (fun i o q=>⟨hn2▸D2.lt (by refine rE (g2 ..) ?_;exact q),.lst [],o,by refine rE (g2 ..) ?_;exact q,V6.refl (fun _=>rfl) _⟩) (fun _ _ _ _ e=>e) fun i j e hi=>⟨hn2▸e▸hi,e.symm⟩;have lv:∀ {i},Live σ'.x i->Live σ.x i:=fun {i} ⟨o,q⟩=>by
   rw[show σ'.x.get i=_ from gx i] at q;split at q
   ·next h=>exact h▸⟨_,ho⟩
   ·exact ⟨o,q⟩
  have lv2:∀ {i},Live (σ.x.put t (.tape (n+1) g)) i->Live τ.x i:=fun {i} ⟨o,q⟩=>by
   rw[a3k tlt] at q;split at q
   ·next h=>exact h▸⟨_,gt⟩
   ·next h=>exact ⟨o,by refine rE hq ?_;rw[a3k tlt];refine rE (if_neg h) (rE (gx ..) (rE (if_neg h) ?_));exact q⟩
  refine z d (Int.ofNat_lt.mp (hd▸hd1)) _ ⟨τ.s,fun i=>τ.ρ i,_,D3⟩ rfl ⟨⟨X.X.agree,i3 _,fun i hi l=>lv (X.X.live i hi (lv2 l)),fun i hi l b o e hb=>X.X.new i hi (lv2 l) b o e fun j hj lj=>hb j hj (lv lj),fun b o hb e=>X.X.keep b o (fun i hi l=>hb i hi (lv l)) e,X.X.tups,X.X.tab⟩,X.e⟩ ⟨tu,by refine rE hd ?_;rfl⟩
 |_=>exact D0 hc
end
noncomputable def b38(b:Bool)(l:List Nat)(i:Nat):Option O:=ifb b (B0 md (some (.lst (mapL cV (rrL l (w0 80 (C1 6 i))))))) (B0 idN (b9w l (w0 80 (C1 6 i)) (w0 82 (C1 6 i)) (w0 84 (C1 6 i))))
theorem e7x(a b c:Nat):mapL (fun l=>mapL (b38 true l) [0,1,2]) (S9 a b c)=mapL (fun l=>mapL (b38 false l) [0,1,2]) (S9 a b c):=by kernel_rfl
theorem c05{l:List Nat}(hl:l.length<=3){i:Nat}(hi:i < 3):b38 true l i=b38 false l i:=by
 refine n5 (a8f hl) fun a b c hm=>?_;exact y0 (y0 (e7x a b c) l hm) i ((by decide:∀i,i < 3->i∈[0,1,2]) i hi)
noncomputable def j2(q:Nat->So):Prop:=∀j,(q j).o=none∨∃i,(q j).o=some (.int i)
theorem j2.told{q:Nat->So}(h:j2 q)(PL:List Nat):v6 PL (.six q):=by
 have go:∀j,Vorel (fun i i'=>i=nthD PL i') (q j).o (q j).o:=fun j=>by
  rcases h j with e| ⟨i,e⟩ <;>refine rE e ?_
  ·exact rfl
  ·exact ⟨_,rfl,rfl⟩
 exact ⟨_,rfl,.cons (go 0) (.cons (go 1) (.cons (go 2) (.cons (go 3) (.cons (go 4) (.cons (go 5) .nil)))))⟩
theorem j2.no:j2 noQ:=fun _=>.inl rfl
theorem j2.step{q:Nat->So}(h:j2 q)(s:Nat)(n:Int):j2 (c35 q s n):=fun j=>by
 show (ifb (o0 j s) ((q s).or n) (q j)).o=none∨∃i,(ifb (o0 j s) ((q s).or n) (q j)).o=some (.int i);cases o0 j s with
 |false=>exact h j
 |true=>
  refine .inr ?_;show ∃i,some (K0 (motive:=fun _=>V) (.int n) id (q s).o)=some (.int i);rcases h s with e| ⟨i,e⟩ <;>refine rE e ?_ <;>exact ⟨_,rfl⟩
theorem j2.steps:∀ (ds:List Nat) {q:Nat->So} {pg:Nat} {n:Int},j2 q->j2 (T9 q pg n ds)
 | [],_,_,_,h=>h
 |d::ds,_,pg,n,h=>j2.steps ds (h.step (slot pg d) n)
theorem j2.due:∀ (k:Nat) (g:List Nat),j2 (dueQ k g)
 |0,_=>.no
 |k+1,g=>j2.steps _ (j2.due k (J1 g))
theorem j2.sixC{q:Nat->So}(h:j2 q)(a i:Nat)(n:Option Int):j2 (Mine.sixC a i n q):=fun j=>by
 show (ifb (o0 j (slot a i)) (W1 n So.int (q j)) (q j)).o=none∨∃k,(ifb (o0 j (slot a i)) (W1 n So.int (q j)) (q j)).o=some (.int k);cases o0 j (slot a i) with
 |false=>exact h j
 |true=>cases n with|none=>exact h j|some n=>exact .inr ⟨n,rfl⟩
theorem j2.held{q:Nat->So}(h:j2 q)(a:Nat)(l:List Nat):j2 (heldQ a l q):=((h.sixC a 2 _).sixC a 1 _).sixC a 0 _
theorem j2.heldA(ne:Nat)(g:List Nat):j2 (Mine.heldA ne g):=j2.held (j2.held .no 0 _) 1 _
theorem hi_eq(ne:Nat)(g:List Nat)(d h:Nat->So):vals T3 (hiB (y5 ne g) d h)=vals idN (hiT (y5 ne g) d h):=by kernel_rfl
theorem e1o{ne:Nat}{g:List Nat}{d h:Nat->So}(hd:j2 d)(hh:j2 h)(PL:List Nat):∀ (i:Nat) (t:OT),(hiT (y5 ne g) d h)[i]? =some (some t)->v6 PL t
 |0,t,e=>by cases e;exact U6.told (fun r=>rfl) PL
 |1,t,e=>by cases e;exact U6.told (fun r=>rfl) PL
 |2,t,e=>by cases e;exact U6.told (fun r=>rfl) PL
 |3,t,e=>by cases e;exact U6.told (fun r=>rfl) PL
 |4,t,e=>by cases e;exact hd.told PL
 |5,t,e=>by cases e;exact hh.told PL
 |6,t,e=>by cases e
 |7,t,e=>by cases e;exact U6.told (fun r=>rfl) PL
 |i+8,t,e=>by cases e
theorem D9(ne:Nat)(g:List Nat)(i:Nat):(lA ne g i).length<=3:=c04 _
theorem stA(ne:Nat)(g:List Nat)(hn:ne∈l13):a2q (pA ne g) (a5r ne g 0) (a5r ne g 1) (a5r ne g 2) (hiB (y5 ne g) (L5 ne g) (heldA ne g)) (hiT (y5 ne g) (L5 ne g) (heldA ne g)) (plA ne) where
 kn:=hn
 kc:=(by decide:3∈[0,1,2,3])
 ra:=c05 (D9 ne g 0) (by decide:0 < 3)
 rb:=c05 (D9 ne g 1) (by decide:1 < 3)
 rc:=c05 (D9 ne g 2) (by decide:2 < 3)
 ta t e:=by cases e;exact U6.told (fun r=>rfl) _
 tb t e:=by cases e;exact U6.told (fun r=>rfl) _
 tc t e:=by cases e;exact U6.told (fun r=>rfl) _
 hh:=hi_eq ne g _ _
 th:=e1o (j2.due _ _) (j2.heldA _ _) _
 len:=rfl
 lt:=rfl
 few:=(by decide:8 < 1000)
theorem eB_at:eB.at idN=eB:=by kernel_rfl
theorem d98:eB.scope.kind=.function:=by kernel_rfl
theorem eB_in{n:Nat}(h:262 < n):eB.In n:=⟨show 256 < n by omega,fun c hc=>by
 have hc:c∈b81 262 257 258 259:=hc;simp only[b81,O0,G1,or_false] at hc;rcases hc with rfl|rfl|rfl|rfl
 ·exact Z3 (by decide:259<=262) h
 ·exact Z3 (by decide:258<=262) h
 ·exact Z3 (by decide:257<=262) h
 ·exact h,fun i hi=>by cases hi;omega,d98⟩
theorem Er.moved{C:Cx}{σ:St C}{x:S}{PL:List Nat}{D:At C (fun i=>σ.ρ (nthD PL i)) x σ.h}{env:Env}(He:Er σ (eB.at (nthD PL)) env)(hx:262 < x.n):Er (C:=C) ⟨σ.s,fun i=>σ.ρ (nthD PL i),x,D⟩ eB env:=
 ⟨He.1.trans ((AE.at_env (e:=eB) (ρ':=fun i=>σ.ρ (nthD PL i)) (r':=idN) fun j=>rfl).trans (by exact rE eB_at rfl)),eB_in hx⟩
noncomputable def RunB(C:Cx):Prop:=∀ (ne:Nat) (g:List Nat),ne∈l13->∃r:Res FL,(r.All fun f _=>f=.ret (.bool true))/\∀ {A:Around} {σ:St C} {env:Env},F0 332 A->A.frames=some [env]->σ.x=xB ne g->Er σ eB env->GoR A (execs R8 env) σ Fr r
theorem e7k{C:Cx}(hB:RunB C){A:Around}{σ:St C}{e:AE}{env:Env}(rm:F0 332 A)(hf:A.frames=some [env])(He:Er σ e env):GoR A (execs R8 env) σ Fr (resA e σ.x):=fun Q E z=>by
 obtain ⟨e2,e3,e4,z⟩:=z;refine anE (fun h1 h2=>?_) (Sd.bo.inj e4);have hn:=b2n h1;rw[Sd.ae.inj e2] at He;refine yea (hB _ (ghN σ.x 261) hn) fun r hr hgo=>?_;exact (stA _ _ hn).go (Sd.oo.inj e3) h2 (fun D=>hgo (σ:=⟨σ.s,_,_,D⟩) rm hf rfl (He.moved (by show 262 < (X _ _).n;refine rE X_n ?_;exact (by decide:262 < 256+8)))) hr (fun _ _ _ h=>h) Q E z
theorem e37{C:Cx}(hB:RunB C)(Dr:V0 C){a:Nat}(CY:Y3 C 100 (b80 a)){A:Around}{σ:St C}{u:Value}(rm:n8 332 A)(hf:A.frames=some [])(hx:σ.x=X lo0 [])(hu:Vr σ (.prog a) u):GoR A (p5 (.ref 727) [u]) σ Vr (a8w a):=by
 unfold a8w;refine .nd fun fi hfi=>?_;refine rF hx ?_;refine e0x rm hfi (.cons hu .nil) fun e env τ X He=>?_;have hb:fi.body=b2a++R8:=by refine rF e35 ?_;unfold E4;refine rE hfi ?_;rfl
 refine rE hb ?_;have rm':=rm.deeper env;exact d2p ((f7 CY Dr 140).sts (rm'.mono (by decide)) He b2a) fun υ Y=>e7k hB rm' (b4n hf) (Y.env He)
section
open PySem.W.Z (eqB)
noncomputable def lwCE:Expr:=retE (E4 715)
noncomputable def ifsE(e:Expr):Expr:=match e with| .ListComp _ g _ _=>W1 (nth g 0) (fun c=>W1 (nth c.ifs 0) id e) e|_=>e
noncomputable def lwT:Expr:=ifsE lwCE
noncomputable def gI(a:Option V):Int:=W1 a (fun v=>W1 (J3 v) id 0) 0
noncomputable def nwB(a b:Option V):Bool:=!eqB (gI a) (gI b)
noncomputable def ltU(D t:Nat->So)(j:Nat):List OT:=[.hole,.ns [(A7,.v (prV j))],.cell (.t (.n 4)),.cell (.t (.n 5)),.six D,.six t]
noncomputable def ctLt(D t:Nat->So)(j:Nat)(w:Bool):CtD:=⟨.tr lwT (b0n (fnE 715) lwCE 1 [(R9,3),(U4,2)]),ltU D t j,[],fun _=>.rt (.v (.bool w)),fun _=>ltU D t j,0,fun _=>[]⟩
noncomputable def soI(n:Option Int):So:=W1 n So.int .no
noncomputable def ltS(s:Bool)(lo:B)(D t:Nat->So)(j:Nat)(a b:So):List Sd:=U1.side 0 ct0 40 s ⟨lo,ctLt (D8 D j a) (D8 t j b) j (nwB a.o b.o),noF⟩ []
theorem e3t(lo:B)(D t:Nat->So)(m n:Int):mapL (fun j=>mapL (fun a=>mapL (ltS true lo D t j a) [.no,.int n]) [.no,.int m]) S7=mapL (fun j=>mapL (fun a=>mapL (ltS false lo D t j a) [.no,.int n]) [.no,.int m]) S7:=by kernel_rfl
noncomputable def lwU(D t:Nat->So):List OT:=[.six D,.six t]
noncomputable def ctLw(D t:Nat->So)(w:List Bool):CtD:=⟨.call 715 [.n 0,.n 1],lwU D t,[],fun _=>.rt (.n 2),fun _=>lwU D t,1,fun _=>[some (.lst (y8 w 0))]⟩
noncomputable def nthB(l:List Bool)(i:Nat):Bool:=ofO (nth l i) false
noncomputable def enLt(D t:Nat->So)(w:List Bool):Q4:=⟨c7 lwT,fun vs x=>(fun j=>ifb (J0 j 6) (some (ctLt D t j (nthB w j))) none) (jOf (nsN (hd vs) x A7)),fun vs _=>[258,M0 (hd vs),259,260,256,257]⟩
noncomputable def lwS(s:Bool)(p:Pm)(D t:Nat->So)(w:List Bool):List Sd:=U1.side 40 (ctT (Lo p) ct0 [enLt D t w]) 70 s ⟨Lo p,ctLw D t w,a1u⟩ []
theorem e3v(p:Pm)(D t:Nat->So):mapL (lwS true p D t) t8=mapL (lwS false p D t) t8:=by kernel_rfl
section
variable{C:Cx}{lo:B}{D t:Nat->So}
theorem So.ext{a b:So}(h:a.o=b.o):a=b:=by
 obtain ⟨o,k⟩:=a;obtain ⟨o',k'⟩:=b;obtain rfl:o=o':=h;rfl
theorem So.intOr{a:So}(h:a.o=none∨∃i,a.o=some (.int i)):∃m,a∈[So.no,.int m]:=by
 rcases h with h| ⟨i,h⟩
 ·exact ⟨0,by refine rE (show a=So.no from So.ext h) ?_;exact B3 ..⟩
 ·exact ⟨i,by refine rE (show a=So.int i from So.ext h) ?_;exact C3 _ (B3 ..)⟩
theorem lt_ok(Dr:V0 C)(LK:C5 lo){j:Nat}(hj:j < 6)(hD:j2 D)(ht:j2 t):CtDOk C 40 lo (ctLt D t j (nwB (D j).o (t j).o)):=by
 obtain ⟨m,hm⟩:=So.intOr (hD j);obtain ⟨n,hn⟩:=So.intOr (ht j);have run:=y0 (y0 (y0 (e3t lo D t m n) j (b2i hj)) _ hm) _ hn;unfold ltS at run;rw[a91,a91] at run;exact U1.ok (j:=⟨lo,ctLt D t j (nwB (D j).o (t j).o),noF⟩) Dr A3 LK fun ds hd=>by
  obtain rfl:=o6 hd;exact run
noncomputable def nwL(D t:Nat->So):List Bool:=mapL (fun j=>nwB (D j).o (t j).o) S7
theorem b90:nwL D t∈t8:=c7o _ _ _ _ _ _
theorem e59:∀j,j < 6->nthB (nwL D t) j=nwB (D j).o (t j).o
 |0,_=>rfl
 |1,_=>rfl
 |2,_=>rfl
 |3,_=>rfl
 |4,_=>rfl
 |5,_=>rfl
 |j+6,h=>absurd h (by omega)
theorem lw_ok(Dr:V0 C)(p:Pm)(hD:j2 D)(ht:j2 t):CtDOk C 70 (Lo p) (ctLw D t (nwL D t)):=by
 have LK:=H4 p;have CY:Y3 C 40 (ctT (Lo p) ct0 [enLt D t (nwL D t)]):=b6l (Y0 fun vs x tt h=>by
  refine ifE (fun h1 h=>?_) (show ifb (J0 (jOf (nsN (hd vs) x A7)) 6) (some _) none=some tt from h);cases h;refine rE (e59 _ (B4 h1)) ?_;exact lt_ok Dr LK (B4 h1) hD ht) A3
 exact U1.ok (j:=⟨Lo p,ctLw D t (nwL D t),a1u⟩) Dr CY LK fun ds hd=>by
  obtain rfl:=o6 hd;exact y0 (e3v p D t) _ b90
end
end
section
open PySem.W.Z (eqB)
noncomputable def DR1(n:Nat)(a b:So):Prop:=(a.o=none/\b.o=none)∨∃k,k < n/\a.o=some (iV k)/\b.o=some (.int (.ofNat (w0 20 k)))
noncomputable def DR(n:Nat)(q q':Nat->So):Prop:=∀j,DR1 n (q j) (q' j)
theorem DR1.mono{n m:Nat}{a b:So}(h:DR1 n a b)(k:n<=m):DR1 m a b:=h.imp id fun ⟨i,h1,h2⟩=>⟨i,H3 h1 k,h2⟩
theorem DR.step{n:Nat}{q q':Nat->So}(h:DR (n+1) q q')(pg d:Nat):DR (n+1) (sixS pg d n q) (c35 q' (slot pg d) (.ofNat (w0 20 n))):=fun j=>by
 show DR1 (n+1) (ifb (o0 j (slot pg d)) ((q j).dflt n) (q j)) (ifb (o0 j (slot pg d)) ((q' (slot pg d)).or _) (q' j));cases e:o0 j (slot pg d) with
 |false=>exact h j
 |true=>
  refine rF (V1 e) ?_;show DR1 (n+1) ((q j).dflt n) ((q' j).or _);rcases h j with ⟨h1,h2⟩ | ⟨k,h1,h2,h3⟩
  ·exact .inr ⟨n,l8 n,by show some (orV (iV n) (q j).o)=_;refine rE h1 ?_;rfl,by show some (K0 (motive:=fun _=>V) _ id (q' j).o)=_;exact rE h2 rfl⟩
  ·exact .inr ⟨k,h1,by show some (orV (iV n) (q j).o)=_;refine rE h2 ?_;rfl,by show some (K0 (motive:=fun _=>V) _ id (q' j).o)=_;refine rE h3 ?_;rfl⟩
theorem DR.steps{n pg:Nat}:∀ (ds:List Nat) {q q':Nat->So},DR (n+1) q q'->DR (n+1) (b9 pg n ds q) (T9 q' pg (.ofNat (w0 20 n)) ds)
 | [],_,_,h=>h
 |d::ds,_,_,h=>DR.steps ds (h.step pg d)
theorem DR.no:DR 0 noQ noQ:=fun _=>.inl ⟨rfl,rfl⟩
theorem DR.up{n:Nat}{q q':Nat->So}(h:DR n q q'):DR (n+1) q q':=fun j=>(h j).mono (H7 n)
theorem a5i:∀ (g:List Nat) (j:Nat),nthD (J1 g) j=nthD g (j+1)
 | [],_=>rfl
 |_::_,_=>rfl
theorem c6j(ne:Nat)(g:List Nat)(hn:ne∈l13):DR ne (dq (pA ne g)) (L5 ne g):=by
 unfold l13 at hn;simp only[O0,G1,or_false] at hn;have t:=fun j=>a5i g j;have t2:=fun j=>(a5i (J1 g) j).trans (t (j+1));have t3:=fun j=>(a5i (J1 (J1 g)) j).trans (t2 (j+1));have t4:=fun j=>(a5i (J1 (J1 (J1 g))) j).trans (t3 (j+1));rcases hn with rfl|rfl|rfl
 ·show DR 1 (b9 (j6 (nthD g 2)) 0 (N6 (nthD g 2)) noQ) (T9 noQ (j6 (nthD (J1 (J1 g)) 0)) (.ofNat (w0 20 0)) (N6 (nthD (J1 (J1 g)) 0)))
  refine rE (t2 ..) ?_;exact DR.no.up.steps _
 ·show DR 2 (b9 (j6 (nthD g 2)) 1 (N6 (nthD g 2)) (b9 (j6 (nthD g 3)) 0 (N6 (nthD g 3)) noQ)) (T9 (T9 noQ (j6 (nthD (J1 (J1 (J1 g))) 0)) (.ofNat (w0 20 0)) (N6 (nthD (J1 (J1 (J1 g))) 0))) (j6 (nthD (J1 (J1 g)) 0)) (.ofNat (w0 20 1)) (N6 (nthD (J1 (J1 g)) 0)))
  refine rE (t2 ..) (rE (t3 ..) ?_);exact (DR.no.up.steps _).up.steps _
 ·show DR 3 (b9 (j6 (nthD g 2)) 2 (N6 (nthD g 2)) (b9 (j6 (nthD g 3)) 1 (N6 (nthD g 3)) (b9 (j6 (nthD g 4)) 0 (N6 (nthD g 4)) noQ))) (T9 (T9 (T9 noQ (j6 (nthD (J1 (J1 (J1 (J1 g)))) 0)) (.ofNat (w0 20 0)) (N6 (nthD (J1 (J1 (J1 (J1 g)))) 0))) (j6 (nthD (J1 (J1 (J1 g))) 0)) (.ofNat (w0 20 1)) (N6 (nthD (J1 (J1 (J1 g))) 0))) (j6 (nthD (J1 (J1 g)) 0)) (.ofNat (w0 20 2)) (N6 (nthD (J1 (J1 g)) 0)))
  refine rE (t2 ..) (rE (t3 ..) (rE (t4 ..) ?_));exact ((DR.no.up.steps _).up.steps _).up.steps _
noncomputable def atR(lr:Nat->List Nat)(w:Nat)(l:List Nat)(i:Nat):List Nat:=ifb (o0 i w) l (lr i)
noncomputable def mOf(lr:Nat->List Nat)(j:Nat):Option Int:=L6 (lr (M1 j 3)) (O1 j 3)
noncomputable def at6(q:Nat->So):List (Option V):=mapL (fun j=>(q j).o) S7
theorem e7y(p:Pm)(lr:Nat->List Nat)(q:Nat->So)(x y z:Nat):mapL (fun a=>mapL (fun w=>mapL (fun l=>at6 (d9 {p with m:=mOf (atR lr w l)} a (rrL l (w0 80 (C1 6 w))) 0 q)) (S9 x y z)) [0,1,2]) [0,1]=mapL (fun a=>mapL (fun w=>mapL (fun l=>at6 (heldQ a l q)) (S9 x y z)) [0,1,2]) [0,1]:=by kernel_rfl
noncomputable def pT(p:Pm)(u0 u1:Nat):Pm:={p with t0:=tOf u0,b0:=bOf u0,t1:=tOf u1,b1:=bOf u1,c:=3}
noncomputable def rwU(p:Pm)(u:Nat):List (Option Nat):=ifb (U0 (M1 u 2) 2) (rW p (M1 u 2)) []
theorem e7w(p:Pm)(v:Nat):mapL (fun u=>(rowO (pT p u v) 0,rowO (pT p v u) 1)) (J4 30 [] 0)=mapL (fun u=>(rwU p u,rwU p u)) (J4 30 [] 0):=by kernel_rfl
theorem rowO_no(p:Pm)(t:TV)(b:Option Nat):rowO {p with t0:=.no,b0:=none} 0=[]/\rowO {p with t1:=.no,b1:=none} 1=[]:=⟨by kernel_rfl,by kernel_rfl⟩
theorem c3b{u:Nat}(h:30<=u):tOf u=.no/\bOf u=none/\U0 (M1 u 2) 2=false:=by
 have h1:U0 30 u=true:=a9v h;refine ⟨by unfold tOf;refine rE h1 ?_;rfl,by unfold bOf;refine rE h1 ?_;rfl,?_⟩;have h2:15<=u / 2:=by omega
 exact (b0h _ _).trans (decide_eq_false (show ¬ u / 2<=2 by omega))
theorem e7u(p:Pm)(u0 u1:Nat):rowO (pT p u0 u1) 0=rwU p u0/\rowO (pT p u0 u1) 1=rwU p u1:=by
 have go:∀u v,rowO (pT p u v) 0=rwU p u/\rowO (pT p v u) 1=rwU p u:=fun u v=>by
  by_cases h:u < 30
  ·have:=y0 (e7w p v) u (by have:=c01 (k:=30) (a:=0) h;rwa [K8] at this)
   exact ⟨congrArg Prod.fst this,congrArg Prod.snd this⟩
  ·refine yaa (c3b (M3.mp h)) fun h1 h2 h3=>?_
   unfold rwU pT;refine rE h1 (rE h2 (rE h3 ?_));exact ⟨by kernel_rfl,by kernel_rfl⟩
 exact ⟨(go u0 u1).1,(go u1 u0).2⟩
theorem c4k(q:Nat->So)(a:Nat):at6 (heldQ a [] q)=at6 q:=by
 have h:∀j,heldQ a [] q j=q j:=fun j=>by
  show ifb (o0 j (slot a 0)) (ifb (o0 j (slot a 1)) (ifb (o0 j (slot a 2)) (q j) (q j)) (ifb (o0 j (slot a 2)) (q j) (q j))) (ifb (o0 j (slot a 1)) (ifb (o0 j (slot a 2)) (q j) (q j)) (ifb (o0 j (slot a 2)) (q j) (q j)))=q j;cases o0 j (slot a 0) <;>cases o0 j (slot a 1) <;>cases o0 j (slot a 2) <;>rfl
 unfold at6;exact rE (show heldQ a [] q=q from funext h) rfl
theorem b5r{q q':Nat->So}(h:at6 q=at6 q'):∀j,j < 6->q j=q' j:=fun j hj=>So.ext (y0 h j (b2i hj))
theorem d6k(lr:Nat->List Nat)(w:Nat):atR lr w (lr w)=lr:=by
 funext i
 unfold atR;cases h:o0 i w with
 |true=>refine rE (V1 h) ?_;rfl
 |false=>rfl
theorem e1j{a:Nat}{l:List Nat}{q q':Nat->So}(h:at6 q=at6 q'):at6 (heldQ a l q)=at6 (heldQ a l q'):=by
 have e:∀j,j < 6->heldQ a l q j=heldQ a l q' j:=fun j hj=>by
  unfold heldQ sixC;exact rE (b5r h j hj) rfl
 show [(heldQ a l q 0).o,(heldQ a l q 1).o,(heldQ a l q 2).o,(heldQ a l q 3).o,(heldQ a l q 4).o,(heldQ a l q 5).o]=[(heldQ a l q' 0).o,(heldQ a l q' 1).o,(heldQ a l q' 2).o,(heldQ a l q' 3).o,(heldQ a l q' 4).o,(heldQ a l q' 5).o];exact rE (e 0 (by decide)) (rE (e 1 (by decide)) (rE (e 2 (by decide)) (rE (e 3 (by decide)) (rE (e 4 (by decide)) (rE (e 5 (by decide)) rfl)))))
theorem e81{p:Pm}{lr:Nat->List Nat}(hm:p.m=mOf lr)(hl:∀i,(lr i).length<=3){a w:Nat}(ha:a < 2)(hw:w < 3)(q:Nat->So):at6 (d9 p a (rrL (lr w) (80+6 * w)) 0 q)=at6 (heldQ a (lr w) q):=by
 refine n5 (a8f (hl w)) fun x y z hs=>?_;have h:=y0 (y0 (y0 (e7y p lr q x y z) a ((by decide:∀a,a < 2->a∈[0,1]) a ha)) w ((by decide:∀a,a < 3->a∈[0,1,2]) w hw)) _ hs;rw[d6k,<-hm] at h;exact h
theorem d4c{p:Pm}{lr:Nat->List Nat}(hm:p.m=mOf lr)(hl:∀i,(lr i).length<=3)(hr:∀w,w < 3->rW p w=rrL (lr w) (80+6 * w)){a u:Nat}(ha:a < 2)(q:Nat->So):at6 (d9 p a (rwU p u) 0 q)=at6 (heldQ a (X8 u lr) q):=by
 unfold rwU X8;cases h:U0 (M1 u 2) 2 with
 |true=>
  have hw:M1 u 2 < 3:=a2o (d3 h);show at6 (d9 p a (rW p (M1 u 2)) 0 q)=at6 (heldQ a (lr (M1 u 2)) q);refine rE (hr _ hw) ?_;exact e81 hm hl ha hw q
 |false=>exact (c4k q a).symm
theorem rW_pA(ne:Nat)(g:List Nat):∀w,w < 3->rW (pA ne g) w=rrL (lA ne g w) (80+6 * w)
 |0,_=>rfl
 |1,_=>rfl
 |2,_=>rfl
 |w+3,h=>absurd h (by omega)
theorem c98(n:Nat)(g:List Nat):lOf n (J1 g)=lOf (n+1) g:=by
 funext i
 show B8 (nthD (J1 g) (n+i))=B8 (nthD g (n+1+i));exact rE (a5i ..) (rE (Nat.add_right_comm ..) rfl)
theorem e1k(ne:Nat)(g:List Nat):at6 (tq2 (pA ne g))=at6 (heldA ne g):=by
 have hm:(pA ne g).m=mOf (lA ne g):=rfl;have hr:=rW_pA ne g;obtain ⟨h0,h1⟩:=e7u (pA ne g) (nthD g 1) (nthD g 0);have hp:pT (pA ne g) (nthD g 1) (nthD g 0)=pA ne g:=rfl;rw[hp] at h0 h1;have e1:lOf (ne+1) (J1 g)=lA ne g:=c98 (ne+1) g;have e0:lOf ne (J1 (J1 g))=lA ne g:=(c98 ne (J1 g)).trans e1;have t1:at6 (tq1 (pA ne g))=at6 (heldQ 0 (X8 (nthD g 1) (lA ne g)) noQ):=by
  unfold tq1;refine rE h0 ?_;exact d4c hm (D9 ne g) hr (by decide:0 < 2) noQ
 have t2:at6 (tq2 (pA ne g))=at6 (heldQ 1 (X8 (nthD g 0) (lA ne g)) (tq1 (pA ne g))):=by
  unfold tq2;refine rE h1 ?_;exact d4c hm (D9 ne g) hr (by decide:1 < 2) _
 refine rE t2 (rE (e1j t1) ?_);show _=at6 (heldQ 1 (X8 (nthD g 0) (lOf (ne+1) (J1 g))) (heldQ 0 (X8 (nthD (J1 g) 0) (lOf ne (J1 (J1 g)))) noQ));exact rE e1 (rE e0 (rE (a5i ..) rfl))
noncomputable def TQ(q:Nat->So):Prop:=∀j,q j∈F8
theorem TQ.no:TQ noQ:=fun _=>by unfold F8;exact B3 ..
theorem d7i(k i:Nat)(q:So)(h:q∈F8):W1 (L6 (B8 k) i) So.int q∈F8:=by
 unfold L6;refine rE (Q6 ..) ?_;cases e:(B8 k)[i]? with
 |none=>exact h
 |some n=>
  unfold B8 at e;rw[a3b] at e;refine yea (a05.mp e) fun c _ zz=>?_;subst zz;have:∀c,cellN c∈[0,20,21,22,30]:=fun c=>by
   match c with
   |0=>decide
   |1=>decide
   |2=>decide
   |3=>decide
   |4=>decide
   |c+5=>exact B3 ..
  have hc:=this c;simp only[O0,G1,or_false] at hc;rcases hc with h'|h'|h'|h'|h' <;>refine rE h' ?_
  ·exact h
  ·exact .tail _ (.head _)
  ·exact .tail _ (.tail _ (.head _))
  ·exact .tail _ (.tail _ (.tail _ (.head _)))
  ·exact .tail _ (.tail _ (.tail _ (.tail _ (.head _))))
theorem TQ.sixC{q:Nat->So}(h:TQ q)(a i k c:Nat):TQ (Mine.sixC a i (L6 (B8 k) c) q):=fun j=>by
 show ifb (o0 j (slot a i)) _ (q j)∈F8;cases o0 j (slot a i) with
 |false=>exact h j
 |true=>exact d7i k c _ (h j)
theorem TQ.held{q:Nat->So}(h:TQ q)(a u:Nat)(n:Nat)(g:List Nat):TQ (heldQ a (X8 u (lOf n g)) q):=by
 unfold X8;cases U0 (M1 u 2) 2 with
 |true=>exact ((h.sixC a 2 _ 2).sixC a 1 _ 1).sixC a 0 _ 0
 |false=>
  intro j;have:=c4k q a;show heldQ a [] q j∈F8;have e:heldQ a [] q j=q j:=by
   show ifb (o0 j (slot a 0)) (ifb (o0 j (slot a 1)) (ifb (o0 j (slot a 2)) (q j) (q j)) (ifb (o0 j (slot a 2)) (q j) (q j))) (ifb (o0 j (slot a 1)) (ifb (o0 j (slot a 2)) (q j) (q j)) (ifb (o0 j (slot a 2)) (q j) (q j)))=q j;cases o0 j (slot a 0) <;>cases o0 j (slot a 1) <;>cases o0 j (slot a 2) <;>rfl
  refine rE e ?_;exact h j
theorem e1i(ne:Nat)(g:List Nat):TQ (heldA ne g):=TQ.held (TQ.held .no 0 _ _ _) 1 _ _ _
noncomputable def flF(d t:Nat->So):List Bool:=mapL (fun j=>(d j).o.isSome || (t j).o.isSome) S7
noncomputable def c7s(w:List Bool):Nat->List V->List V:=E0 (motive:=fun _=>Nat->List V->List V) (fun _ wr=>wr) (fun b _ ih j wr=>ih (Q0 j) (wrS b wr (prV j))) w
theorem e0y:mapL (fun w=>c7s w 0 []) t8=mapL (fun w=>y8 w 0) t8:=by kernel_rfl
theorem f2h{n:Nat}{a b c:So}(hn:n<=3)(h:DR1 n a b)(hc:c∈F8)(wr:List V)(v:V):ifb (a.o.isSome ||c.o.isSome) (wrS (isW a.o c.o) wr v) wr=wrS (nwB b.o c.o) wr v:=by
 unfold F8 at hc;simp only[O0,G1,or_false] at hc;rcases h with ⟨h1,h2⟩ | ⟨k,hk,h1,h2⟩ <;>refine rE h1 (rE h2 ?_)
 ·rcases hc with rfl|rfl|rfl|rfl|rfl <;>rfl
 ·have:k < 3:=H3 hk hn
  rcases a5a this with rfl|rfl|rfl <;>rcases hc with rfl|rfl|rfl|rfl|rfl <;>rfl
theorem d5c{n:Nat}{d D t:Nat->So}(hn:n<=3)(h:DR n d D)(ht:TQ t):wrF d t (flF d t) 0 []=y8 (nwL D t) 0:=by
 have st:=fun j=>f2h hn (h j) (ht j);have e:wrF d t (flF d t) 0 []=c7s (nwL D t) 0 []:=by
  show ifb ((d 5).o.isSome || (t 5).o.isSome) (wrS (isW (d 5).o (t 5).o) (ifb ((d 4).o.isSome || (t 4).o.isSome) (wrS (isW (d 4).o (t 4).o) (ifb ((d 3).o.isSome || (t 3).o.isSome) (wrS (isW (d 3).o (t 3).o) (ifb ((d 2).o.isSome || (t 2).o.isSome) (wrS (isW (d 2).o (t 2).o) (ifb ((d 1).o.isSome || (t 1).o.isSome) (wrS (isW (d 1).o (t 1).o) (ifb ((d 0).o.isSome || (t 0).o.isSome) (wrS (isW (d 0).o (t 0).o) [] (prV 0)) []) (prV 1)) _) (prV 2)) _) (prV 3)) _) (prV 4)) _) (prV 5)) _=_;refine rE (st ..) (rE (st ..) (rE (st ..) (rE (st ..) (rE (st ..) (rE (st ..) ?_)))));rfl
 exact e.trans (y0 e0y _ b90)
theorem c7n(d t:Nat->So):∀j,nth (flF d t) j=if j < 6 then some ((d j).o.isSome || (t j).o.isSome) else none
 |0=>rfl
 |1=>rfl
 |2=>rfl
 |3=>rfl
 |4=>rfl
 |5=>rfl
 |j+6=>(if_neg (by omega)).symm
theorem c7m(d t:Nat->So):flF d t∈t8:=c7o _ _ _ _ _ _
theorem dv_no:∀n∈l13,(n,So.no)∈a2y:=by
 unfold l13 a2y;intro n h;rcases O0.mp h with rfl|h
 ·exact .head _
 ·rcases O0.mp h with rfl|h
  ·exact .tail _ (.head _)
  ·exact S4.mp h▸.tail _ (.tail _ (.head _))
theorem d92:∀n∈l13,∀k,k < n->(n,So.int (.ofNat k))∈a2y:=by
 unfold l13 a2y;intro n h k hk;rcases O0.mp h with rfl|h
 ·obtain rfl:=Nat.lt_one_iff.mp hk;exact .tail _ (.tail _ (.tail _ (.head _)))
 ·rcases O0.mp h with rfl|h
  ·rcases (by decide:∀k,k < 2->k=0∨k=1) k hk with rfl|rfl
   ·exact .tail _ (.tail _ (.tail _ (.tail _ (.head _))))
   ·exact .tail _ (.tail _ (.tail _ (.tail _ (.tail _ (.head _)))))
  ·obtain rfl:=S4.mp h
   rcases a5a hk with rfl|rfl|rfl
   ·exact .tail _ (.tail _ (.tail _ (.tail _ (.tail _ (.tail _ (.head _))))))
   ·exact .tail _ (.tail _ (.tail _ (.tail _ (.tail _ (.tail _ (.tail _ (.head _)))))))
   ·exact .tail _ (.tail _ (.tail _ (.tail _ (.tail _ (.tail _ (.tail _ (.tail _ (.head _))))))))
theorem DR.six{n:Nat}{d D t:Nat->So}(hn:n∈l13)(h:DR n d D)(ht:TQ t):DT6 n d t where
 tv j _:=ht j
 dv j _:=by
  rcases h j with ⟨h1,_⟩ | ⟨k,hk,h1,_⟩
  ·exact (show d j=So.no from So.ext h1)▸dv_no n hn
  ·exact (show d j=So.int (.ofNat k) from So.ext h1)▸d92 n hn k hk
end
section
variable{C:Cx}{c:Nat}{lo:B}
theorem d35{f:Nat}{as:List VT}{v:VT}{q q':Nat->So}(h:at6 q=at6 q')(H:CtOk C c lo (ctR f as v [some (.six q)])):CtOk C c lo (ctR f as v [some (.six q')]):=by
 constructor
 intro A σ L rm F h0 hs hp hn;have e:∀r,vals r [some (.six q)]=vals r [some (.six q')]:=fun r=>by
  show [some (O.six (at6 q))]=[some (O.six (at6 q'))];exact rE h rfl
 have:=H.go rm F h0 hs hp hn;unfold grf at this ⊢;refine rE (show (ctR f as v [some (.six q')]).ns=[some (.six q')] from rfl) (rF (e ..) ?_);exact this
theorem d8o(e:Nat):a2e (dig3 e):=by
 have m3:∀n,O1 n 3 < 3:=fun n=>a02 n (by decide);unfold dig3;cases h0:o0 e 0 with
 |true=>exact ⟨D5 3,fun d h=>absurd h G1⟩
 |false=>
  cases h1:U0 e 3 with
  |true=>
   have:=d3 h1;exact ⟨(by decide:1<=3),fun d h=>by refine rE (S4.mp h) ?_;show e - 1 < 3;have:=I7 h0;omega⟩
  |false=>
   cases U0 e 12 with
   |true=>exact ⟨(by decide:2<=3),fun d h=>by
     have h:d∈[O1 (M1 (A2 e 4) 3) 3,O1 (A2 e 4) 3]:=h;simp only[O0,G1,or_false] at h;rcases h with rfl|rfl <;>exact m3 _⟩
   |false=>exact ⟨i3 3,fun d h=>by
     have h:d∈[O1 (M1 (A2 e 13) 9) 3,O1 (M1 (A2 e 13) 3) 3,O1 (A2 e 13) 3]:=h;simp only[O0,G1,or_false] at h;rcases h with rfl|rfl|rfl <;>exact m3 _⟩
theorem a4v(ne:Nat)(g:List Nat)(k:Nat):a2e (dkA ne g k):=by
 unfold dkA;cases J0 k ne with
 |true=>exact d8o _
 |false=>exact ⟨D5 3,fun d h=>absurd h G1⟩
variable{ne:Nat}{g:List Nat}
theorem okA(hn:ne∈l13):(pA ne g).Ok where
 ne:=hn
 d0:=(a4v ne g 0).1
 d1:=(a4v ne g 1).1
 d2:=(a4v ne g 2).1
 e1 h:=by have h:ne=1:=h;subst h;rfl
 e2 h:=by have h:ne=1∨ne=2:=h;rcases h with rfl|rfl <;>rfl
theorem okdA(hn:ne∈l13):(pA ne g).Okd where
 ok:=okA hn
 g0:=a02 _ (by decide)
 g1:=a02 _ (by decide)
 g2:=a02 _ (by decide)
 d0:=a4v ne g 0
 d1:=a4v ne g 1
 d2:=a4v ne g 2
theorem d4o:∀u,u < 30->(O1 u 2=1/\tOf u=.beh/\bOf u=some (M1 u 2))∨(tOf u=.dir (M1 u 2)):=fun u h=>by
 have h1:U0 30 u=false:=(b0h _ _).trans (decide_eq_false (by omega));unfold tOf bOf;refine rE h1 ?_;cases q:o0 (O1 u 2) 1 with
 |true=>exact .inl ⟨V1 q,rfl,rfl⟩
 |false=>exact .inr rfl
theorem d4n(u:Nat):TVOk 3 (tOf u) (bOf u):=by
 by_cases h:u < 30
 ·have hw:M1 u 2 < 15:=by show u / 2 < 15;omega
  have hm:∀w,w < 15->(w∈C4/\(w,3)∈wcs)∨w∈a1l:=by unfold C4 wcs a1l;decide
  rcases d4o u h with ⟨_,h1,h2⟩ |h1
  ·rcases hm _ hw with ⟨k1,k2⟩ |k
   ·exact .inr (.inr (.inr (.inl ⟨_,k2,k1,rfl,h1,h2⟩)))
   ·exact .inr (.inr (.inr (.inr ⟨_,k,h1,h2⟩)))
  ·rcases hm _ hw with ⟨k1,k2⟩ |k
   ·exact .inr (.inl ⟨_,k2,h1⟩)
   ·exact .inr (.inr (.inl ⟨_,k,h1⟩))
 ·exact .inl (c3b (M3.mp h)).1
theorem a8v:∀ (l:List Nat) (a:Nat),(rrL l a).length=l.length
 | [],_=>rfl
 |n::l,a=>congrArg Q0 (a8v l (a+2))
theorem d1q:∀ (l:List Nat) (a i:Nat) (c:Option Nat),(rrL l a)[i]? =some c->c=W1 (L6 l i) (fun _=>some (a+2 * i)) none
 | [],_,_,_,h=>D0 h
 |n::l,a,0,c,h=>(C0 h).symm
 |n::l,a,i+1,c,h=>by
  have:=d1q l (a+2) i c h;refine rE this (rE (show a+2+2 * i=a+2 * (i+1) by omega) ?_);rfl
theorem b63{w:Nat}(hw:w < 3):∀c∈rrL (lA ne g w) (80+6 * w),Z5 (pA ne g) c:=fun c hc=>by
 obtain ⟨i,hi,e⟩:=List.getElem_of_mem hc;have e:=d1q _ _ i c (by exact rE (R4 hi) (rE e rfl));rw[a8v] at hi;have hi3:i < 3:=H3 hi (D9 ne g w);cases q:L6 (lA ne g w) i with
 |none=>rw[q] at e;exact .inl e
 |some n=>
  rw[q] at e;refine .inr (.inl ⟨3 * w+i,n,?_,?_,?_⟩)
  ·exact (by decide:∀j,j < 9->j∈len9) _ (by omega)
  ·refine rE e ?_
   show some (80+6 * w+2 * i)=some (80+2 * (3 * w+i))
   congr 1
   omega
  ·show L6 (lA ne g (M1 (3 * w+i) 3)) (O1 (3 * w+i) 3)=some n
   refine rE (show M1 (3 * w+i) 3=w by show (3 * w+i) / 3=w;omega) (rE (show O1 (3 * w+i) 3=i by show (3 * w+i) % 3=i;omega) ?_);exact q
theorem oktA:(pA ne g).Okt where
 c0:=b63 (w:=0) (by decide)
 c1:=b63 (w:=1) (by decide)
 c2:=b63 (w:=2) (by decide)
 l0:=by show (rrL _ _).length<=3;refine rE (a8v ..) ?_;exact D9 ne g 0
 l1:=by show (rrL _ _).length<=3;refine rE (a8v ..) ?_;exact D9 ne g 1
 l2:=by show (rrL _ _).length<=3;refine rE (a8v ..) ?_;exact D9 ne g 2
 c:=i3 3
 v0:=d4n _
 v1:=d4n _
theorem d48(Dr:V0 C):Y4 C 240 (Lo (pA ne g)) (q8 (pA ne g) 672 (heldA ne g)):=.of (d35 (e1k ne g) (d4a (p:=pA ne g) Dr oktA [] (K5 0) _ rfl))
theorem b24(hn:ne∈l13):ne<=3:=by
 unfold l13 at hn;simp only[O0,G1,or_false] at hn;omega
theorem e0o(Dr:V0 C)(hn:ne∈l13):CtOk C 285 (Lo (pA ne g)) (ctR 679 [sh] (.n 0) [some (.lst (y8 (nwL (L5 ne g) (heldA ne g)) 0))]):=by
 have R:=c6j ne g hn;have T:=e1i ne g;have h:=c7g (p:=pA ne g) Dr (okA hn) (R.six hn T) (c7m _ _) (b6u Dr (okdA hn)) (d48 Dr) (d4v (c7n _ _));have e:(a39 (pA ne g) (dq (pA ne g)) (heldA ne g) (flF (dq (pA ne g)) (heldA ne g))).t=ctR 679 [sh] (.n 0) [some (.lst (y8 (nwL (L5 ne g) (heldA ne g)) 0))]:=by
  unfold a39;exact rE (d5c (b24 hn) R T) rfl
 exact e▸h
end
noncomputable def ifT(l:List Stmt):Expr:=E0 (motive:=fun _=>Expr) (.Constant .none 0 ⟨0,0,0,0⟩) (fun s _ _=>match s with| .If t _ _ _=>t|_=>.Constant .none 0 ⟨0,0,0,0⟩) l
noncomputable def c4v(i:Nat)(e:Expr):Expr:=match e with| .BoolOp _ l _=>ofO (nth l i) e|e=>e
noncomputable def e7:AE:=(fun e=>⟨e.scope,0,e.cells,e.qual,e.func,e.code,some 0⟩) (a89 6 1 2 3)
noncomputable def T1U(v:V)(D t:Nat->So):List OT:=[.ns [(C8,.v v),(R9,.n 5)],.cell (.t (.n 4)),.cell (.t (.v (.ref 78))),.hole,.six D,.six t,.hole]
noncomputable def a2x(T:Expr)(v:V)(D t:Nat->So):CtD:=⟨.tr T e7,T1U v D t,[],fun _=>.rt (.v (.bool false)),fun _=>T1U v D t,0,fun _=>[]⟩
noncomputable def enLw(D t:Nat->So)(w:List Bool):Q4:=⟨715,fun _ _=>some (ctLw D t w),fun vs _=>[M0 (hd vs),M0 (ofO (nth vs 1) .none)]⟩
noncomputable def c6p(l:List V):Ent:=⟨679,fun _ _=>some (ctR 679 [sh] (.n 0) [some (.lst l)]),noL⟩
noncomputable def T1a:Expr:=c4v 0 (ifT R8)
noncomputable def T1b:Expr:=c4v 1 (ifT R8)
noncomputable def taS(s:Bool)(p:Pm)(v:V)(D t:Nat->So):List Sd:=U1.side 240 (ctG (Lo p) [q8 p 672 t] [] []) 250 s ⟨Lo p,a2x T1a v D t,noF⟩ []
noncomputable def a60(q:Nat->So)(a b c d e f:So):Nat->So:=D8 (D8 (D8 (D8 (D8 (D8 q 0 a) 1 b) 2 c) 3 d) 4 e) 5 f
noncomputable def O3(n:Int):List So:=[.no,.int n]
theorem f15(p:Pm)(v:V)(D t:Nat->So)(n:Nat->Int):mapL (fun a=>mapL (fun b=>mapL (fun c=>mapL (fun d=>mapL (fun e=>mapL (fun f=>taS true p v D (a60 t a b c d e f)) (O3 (n 5))) (O3 (n 4))) (O3 (n 3))) (O3 (n 2))) (O3 (n 1))) (O3 (n 0))=mapL (fun a=>mapL (fun b=>mapL (fun c=>mapL (fun d=>mapL (fun e=>mapL (fun f=>taS false p v D (a60 t a b c d e f)) (O3 (n 5))) (O3 (n 4))) (O3 (n 3))) (O3 (n 2))) (O3 (n 1))) (O3 (n 0)):=by kernel_rfl
noncomputable def T1C(p:Pm)(D t:Nat->So)(w:List Bool):CT:=ctH (Lo p) (ctG (Lo p) [c6p (y8 w 0)] [] []) ⟨[enLw D t w],[],[],[]⟩
noncomputable def tbS(s:Bool)(p:Pm)(v:V)(D t:Nat->So)(w:List Bool):List Sd:=U1.side 285 (T1C p D t w) 295 s ⟨Lo p,a2x T1b v D t,noF⟩ []
theorem f1d(p:Pm)(v:V)(D t:Nat->So):mapL (tbS true p v D t) t8=mapL (tbS false p v D t) t8:=by kernel_rfl
section
variable{C:Cx}{ne:Nat}{g:List Nat}
theorem j2.two{q:Nat->So}(h:j2 q):∃n:Nat->Int,∀j,q j∈O3 (n j):=⟨fun j=>gI (q j).o,fun j=>by
 rcases h j with e| ⟨i,e⟩
 ·exact (show q j=.no from So.ext e)▸B3 ..
 ·have:gI (q j).o=i:=congrArg gI e
  show q j∈O3 (gI (q j).o);refine rE this (rE (show q j=.int i from So.ext e) ?_);exact C3 _ (B3 ..)⟩
theorem d2u{q:Nat->So}:a60 q (q 0) (q 1) (q 2) (q 3) (q 4) (q 5)=q:=by
 unfold a60;simp only[a91]
theorem ta_ok(Dr:V0 C){p:Pm}{v:V}{D t:Nat->So}(ht:j2 t)(T:Y4 C 240 (Lo p) (q8 p 672 t)):CtDOk C 250 (Lo p) (a2x T1a v D t):=by
 obtain ⟨n,h⟩:=ht.two;have run:=y0 (y0 (y0 (y0 (y0 (y0 (f15 p v D t n) _ (h 0)) _ (h 1)) _ (h 2)) _ (h 3)) _ (h 4)) _ (h 5);rw[d2u] at run;exact U1.ok (j:=⟨Lo p,a2x T1a v D t,noF⟩) Dr (i6 (Y0 T) j1 j1) (H4 _) fun ds hd=>by
  obtain rfl:=o6 hd;exact run
theorem tb_ok(Dr:V0 C)(hn:ne∈l13)(v:V):CtDOk C 295 (Lo (pA ne g)) (a2x T1b v (L5 ne g) (heldA ne g)):=by
 have CY:Y3 C 285 (T1C (pA ne g) (L5 ne g) (heldA ne g) (nwL (L5 ne g) (heldA ne g))):=a09 ⟨Y0 (B5.of ((lw_ok Dr _ (j2.due _ _) (j2.heldA _ _)).mono (by decide))),j1,j1,j1⟩ (i6 (Y0 (.of (e0o Dr hn))) j1 j1);exact U1.ok (j:=⟨Lo (pA ne g),a2x T1b v (L5 ne g) (heldA ne g),noF⟩) Dr CY (H4 _) fun ds hd=>by
  obtain rfl:=o6 hd;exact y0 (f1d (pA ne g) v _ _) _ b90
end
noncomputable def b3j:Str:=⟨#[112,97,105,114,115]⟩
noncomputable def lamP:Arguments:=⟨[],[⟨A7,none,⟨328,36,328,40⟩⟩],none,[],[],none,[]⟩
noncomputable def lamB:Expr:=.Subscript (.Name A7 ⟨328,42,328,46⟩) (.Constant (.int (.ofNat 0)) 0 ⟨328,47,328,48⟩) ⟨328,42,328,49⟩
noncomputable def lamS:Scope:=⟨.function,[(A7,.local)],false,false,[]⟩
noncomputable def c2z:Expr:=.Call (.Name b3k ⟨328,11,328,17⟩) [.Name b3j ⟨328,18,328,23⟩] [⟨some m6,.Lambda lamP lamB lamS ⟨328,29,328,49⟩,⟨328,25,328,49⟩⟩] ⟨328,11,328,50⟩
noncomputable def a1h(v:V):Option Int:=obd (d8 v) fun l=>Y2 (motive:=fun _=>Option Int) l none fun a _=>J3 a
noncomputable def ltZ(i j:Int):Bool:=W9 (motive:=fun _=>Bool) i (fun a=>W9 (motive:=fun _=>Bool) j (fun b=>J0 a b) fun _=>false) fun _=>false
noncomputable def c95(l:List V):Option (List Int):=Y2 (motive:=fun _=>Option (List Int)) l (some []) fun a l=>Y2 (motive:=fun _=>Option (List Int)) l (obd (a1h a) fun i=>some [i]) fun b l=>Y2 (motive:=fun _=>Option (List Int)) l (obd (a1h a) fun i=>obd (a1h b) fun j=>ifb (ltZ i j) (some [i,j]) none) fun _ _=>none
noncomputable def mSrt(cp:Nat)(e:AE)(x:S):Option (Res V):=some ((A6 b3k e x).bd fun f x=>.same (.vs [f]) (.vs [.bi .sorted]) <| (A6 b3j e x).bd fun v x=>nd (G2 v) fun i=>nd (x.list i) fun l=>nd (c95 l) fun _=>.same (.ae e) (.ae ⟨e.scope,e.locals,e.cells,e.qual,e.func,.ref 542,e.frame⟩) <| .same (.oo [x.get cp]) (.oo [some (.code cp)]) <|nd (x.get e.locals) fun o=>nd (oNs o) fun es=>ck x.ok <| .ok (.ref x.n) (((x.del cp).put e.locals (.ns es)).new (.list l)))
structure a0w(C:Cx):Prop where
 g:∃mg,C.hb.Ns V3 mg/\C.hb.BuiltinsAt mg T2
 c:CodeHd C.hb 542 T2
section
variable{C:Cx}{A:Around}{cp:Nat}
theorem e1h{v:V}{i:Int}(h:a1h v=some i):∃l,v=.tup (.int i::l):=by
 revert h;refine obE fun l h1 h=>?_;cases v with
 |tup xs=>
  cases h1;cases l with
  |nil=>cases h
  |cons a l=>cases a with|int n=>cases h;exact ⟨l,rfl⟩ |_=>cases h
 |_=>cases h1
noncomputable def b5h(L:Addr)(h:Heap):List (Addr×Obj):=(Z9 h.objs.size).filterMap fun a=>if a=L then none else (h.get? a).map fun o=>(a,o)
theorem b09{L:Addr}{h:Heap}{a:Addr}{o:Obj}:(a,o)∈b5h L h ↔ a≠L/\h.get? a=some o:=by
 unfold b5h;rw[List.mem_filterMap];constructor
 ·rintro ⟨b,_,h2⟩
  by_cases q:b=L
  ·rw[if_pos q] at h2;cases h2
  ·rw[if_neg q] at h2
   refine yea (a05.mp h2) fun o' h3 h4=>?_;cases h4;exact ⟨q,h3⟩
 ·rintro ⟨h1,h2⟩
  exact ⟨a,a9s.mpr (K3 h2),by refine rE (if_neg h1) (rE h2 ?_);rfl⟩
theorem f0c:m6=N0 "key":=by kernel_rfl
theorem e2u{h:Heap}{ρ:Nat->Addr}{n:Nat}{l:List V}{zs:List Int}{vs:List Value}(q:c95 l=some zs)(r:VRl h ρ n l vs):zs.length=vs.length/\vs.length < 3/\(∀ (i:Nat) (v:Value) (k:Int),vs[i]? =some v->zs[i]? =some k->∃a m ws t,v=.ref a/\h.get? a=some (F6 (.int k t::ws) m))/\∀out,KskOut false zs vs out->out=vs:=by
 have one:∀ {a:V} {u:Value} {k:Int},a1h a=some k->VR h ρ n a u->∃b m ws t,u=.ref b/\h.get? b=some (F6 (.int k t::ws) m):=fun {a u k} hk r=>by
  obtain ⟨l,rfl⟩:=e1h hk;refine G4 (J5 r) fun b ws m zw h1 h2=>?_;subst zw;cases h2 with
  |cons r1 r2=>
   obtain ⟨t,rfl⟩:=r1;exact ⟨b,m,_,t,rfl,h1⟩
 cases l with
 |nil=>
  obtain rfl:=All2.nilR r;obtain rfl:=C0 q;exact ⟨rfl,Nat.zero_lt_succ _,fun i v k h1=>D0 h1,fun out zx=>R0 zx fun ps p1 p2 _=>by refine rE p2 (rE (List.Perm.eq_nil p1) ?_);rfl⟩
 |cons a l=>
 obtain ⟨_,_,rfl,r1,r⟩:=All2.consR r;cases l with
 |nil=>
  obtain rfl:=All2.nilR r;refine obE (fun i h1 q=>?_) (show obd (a1h a) (fun i=>some [i])=some zs from q);obtain rfl:=C0 q;refine ⟨rfl,Nat.lt_of_sub_eq_succ rfl,fun j v k g1 g2=>?_,fun out zy=>R0 zy fun ps p1 p2 _=>?_⟩
  ·cases j with
   |zero=>obtain rfl:=C0 g1;obtain rfl:=C0 g2;exact one h1 r1
   |succ j=>exact D0 g1
  ·refine rE p2 (rE (List.Perm.eq_singleton p1) ?_);rfl
 |cons b l=>
 obtain ⟨_,_,rfl,r2,r⟩:=All2.consR r;cases l with
 |cons=>exact D0 q
 |nil=>
  obtain rfl:=All2.nilR r;refine obE (fun i h1 q=>?_) (show obd (a1h a) (fun i=>obd (a1h b) fun j=>ifb (ltZ i j) (some [i,j]) none)=some zs from q);revert q;refine obE fun j h2 q=>?_;revert q;refine ifE fun h3 q=>?_;obtain rfl:=C0 q;refine ⟨rfl,Nat.lt_of_sub_eq_succ rfl,fun d v k g1 g2=>?_,fun out zz=>R0 zz fun ps p1 p2 p3=>?_⟩
  ·cases d with
   |zero=>obtain rfl:=C0 g1;obtain rfl:=C0 g2;exact one h1 r1
   |succ d=>cases d with
    |zero=>obtain rfl:=C0 g1;obtain rfl:=C0 g2;exact one h2 r2
    |succ d=>exact D0 g1
  ·rcases ksk_perm2 p1 with e|e
   ·refine rE p2 (rE e ?_);rfl
   ·rw[e] at p3
    have p3:=(a6s.mp p3).1 _ (S4.mpr rfl);cases i with
    |negSucc=>exact T1 h3
    |ofNat i=>
     cases j with
     |negSucc=>exact T1 h3
     |ofNat j=>
      have h3:=B4 h3;have p3:(M2 j)<=M2 i:=p3;exact absurd (a9o.mp p3) (a12.mpr h3)
theorem f2q{h:Heap}{a:Addr}(q:h.objs.size<=a):h.get? a=none:=a43 q
noncomputable def a5e:Heap:={}
theorem b8q(a:Addr):a5e.get? a=none:=a43 (D5 _)
theorem e2z{h:Heap}{fa c' L:Addr}{tk:Nat}{s:Shared}{ctv pm:Value}{qual:Str}{k:Int}{a m:Nat}{ws:List Value}{t:Tok}{mm:Str->Option Value}{need:List (Addr×Obj)}(hroom:A.depth < recursionLimit)(hl:h.NoLimit)
  (F:PyProof.Rows.Fr a5e L h mm) (N:News a5e L h need) (ho:h.get? fa=some (kla_obj "<lambda>" qual lamP lamB lamS [] pm c' ctv)) (hc:h.CodeRec (.ref c') qual) (ht:h.get? a=some (F6 (.int k t::ws) m)):
  wpAny C.m A (call (.ref fa) [.ref a]) (KskEnd a5e L mm need k {s with heap:=h,toks:=tk}) (fun _ _=>False) {s with heap:=h,toks:=tk}:=by
 refine U9 (kla_callFunE hroom ho rfl rfl rfl rfl hc ?_);show wpAny _ _ (pure [(A7,O2 a)]) _ _ _;refine q0 (wpAny_newFunctionEnv (fun x hx=>?_) (fun x hx=>?_) (fun h₁ hns hsb=>⟨hl.fresh _ hsb,?_⟩) rfl)
 ·refine rE (S4.mp hx) ?_;exact fun q=>by cases q
 ·refine rE (S4.mp hx) ?_;kernel_rfl
 have hk:∀b o,h.get? b=some o->h₁.get? b=some o:=fun b o e=>(hsb.2 b (j3 (K3 e))).trans (V2 _ e);refine kla_codeExpr (wpAny_Subscript_Constant_late (a0p (b4h rfl (by kernel_rfl) hns (v:=.ref a) (by kernel_rfl) (wpAny_Constant_int ⟨"tuple","tuple.__getitem__",PySem.F.slot_tuple_getitem.lookup,⟨_,hk _ _ ht,rfl⟩,?_⟩)) (by kernel_rfl)));refine P.getItem_tuple (i:=0) (k:=0) (y:=.int k t) (hk _ _ ht) (by decide) (by decide) ?_ rfl ?_
 ·show seqIndex? 0 (List.toArray (u9 k t::ws)).size=some 0
  refine rE p6 (rE Y9 ?_);unfold seqIndex?;simp
 ·exact ⟨h₁,_,t,rfl,rfl,⟨F.ns.keeps hk,fun b o e=>(by rw[b8q] at e;cases e),D5 _⟩,fun p hp=>⟨hk _ _ (N p hp).1,(N p hp).2⟩⟩
theorem ns_OV{h:Heap}{ρ:Nat->Addr}{n:Nat}{es:List (Str×V)}{ob:Obj}{m:Str->Option Value}{l:Array G7}{k:Nat}(hd:ob.data=.dict l k)(hs:StrKeys l)(hf:∀y,nsFind l y=m y)(hm:∀y,VRw h ρ n (lk es y) (m y)):OV C h ρ n (.ns es) ob:=⟨l,k,hd,hs,fun y=>by refine rE (hf ..) ?_;exact hm y⟩
theorem f0a(G:a0w C):XOk C 60 ⟨c2z,mSrt cp⟩:=fun {A σ e env} rm He r hr=>by
 cases hr;show GoR A (eval c2z env) σ Vr _;intro Q E z;have rm1:=rm.mono (show 1<=60 by decide);refine wpAny_Call_Name_kw ((v8 He).use z fun fv uf τ X r z=>?_);obtain ⟨e1,z⟩:=z;obtain rfl:=(Z0 (Sd.vs.inj e1)).1;cases r;refine callWith_of (P:=fun _=>True) rfl (fun h _=>⟨_,.inr (.inl rfl),.now⟩) (evalArgs_kw2 rfl (a9f ((v8 (X.env He)).use z fun v u τ2 X2' rv z=>b4g ?_)));revert z;refine ndE fun i h1 z=>?_;revert z;refine ndE fun l h2 z=>?_;revert z;refine ndE fun zs h3 z=>?_;obtain ⟨e2,e3,z⟩:=z;revert z;refine ndE fun o h4 z=>?_;revert z;refine ndE fun es h5 z=>?_;revert z;refine ckE fun hx zf=>?_;clear z;have hcode:e.code=.ref 542:=congrArg AE.code (Sd.ae.inj e2);have hcp:τ2.x.get cp=some (.code cp):=(Z0 (Sd.oo.inj e3)).1;obtain rfl:=O.ns_eq h5;obtain rfl:=rv.ref h1;refine R0 (τ2.at hcp) fun op g1 g2 zt=>?_;subst zt;have hP:τ2.ρ cp=T2:=(Z6 g2.1).symm;have He2:=X2'.env (X.env He);refine yaa He2 fun zu hloc _=>?_;clear He2;subst zu;refine B1 (St.list h2) fun vs kl gl rl=>?_;refine m7 G.g fun mg q1 bm ob b1 zw=>?_;refine Q5 zw fun b2 b3 b4 zv=>?_;clear zw;obtain ⟨b5,b6⟩:=zv;have keepP:∀b o,C.hb.get? b=some o->τ2.h.get? b=some o:=τ2.D.keep;have hgP:V3≠T2:=fun q=>by
  refine G3 q1 fun o _ _ e _=>?_;clear q1;have:=τ2.D.fresh cp _ hcp;rw[hP,<-q,e] at this;cases this
 have hcpn:=τ2.D.lt hcp;show wpAny _ _ (evalAll [do let v<-eval (.Lambda lamP lamB lamS ⟨328,29,328,49⟩) (e.env τ2.ρ);a24 ⟨328,11,328,50⟩;pure v]) _ _ _;unfold evalAll;refine m0 (m0 (kla_eval rfl (kla_makeFunction (mg:=mg) (c:=542) (P:=T2) (ps:=#[]) rfl rfl (q1.keeps keepP) hcode (G.c.keeps keepP) (hP▸g1) trivial rfl hgP ⟨bm,ob,b1,b2,b3,b4,keepP _ _ b5,b6⟩ fun c' ctv h' tk hxp hge hlt hrec htb=>?_)));refine m0 (H5 (q0 (m0 (J2 (q0 (q0 ⟨trivial,?_⟩))))));generalize hob:kla_obj "<lambda>" ((e.env τ2.ρ).qual++ "<lambda>") lamP lamB lamS [] ((mg "__name__").getD .none) c' ctv=fo at *;have hk1:∀b o,b≠τ2.ρ cp->τ2.h.get? b=some o->(h'.push fo).get? b=some o:=fun b o hb e=>V2 _ (hxp b o (hP▸hb) e);have D1:=τ2.D.set (h':=h'.push fo) (w:=none) hcp hk1 (fun o q=>D0 q) (.inr ⟨_,V2 fo htb⟩);have hget1:∀j o,j≠cp->τ2.x.get j=some o->(τ2.x.set none cp).get j=some o:=fun j o hj q=>by rw[get_set (i4 hcpn τ2.D.room)];refine rE (if_neg hj) ?_;exact q
 have hjcp:e.locals≠cp:=fun q=>by rw[q,hcp] at h4;cases h4
 have hL1:=hget1 _ _ hjcp h4;refine m7 (D1.1.get hL1) fun oL gL lL kL dL zx=>?_;obtain ⟨sL,fL⟩:=zx;have hNs:(h'.push fo).Ns (τ2.ρ e.locals) (nsFind lL):=⟨oL,lL,kL,gL,dL,sL,fun _=>rfl⟩;have hicp:i≠cp:=fun q=>by rw[q] at h2;have:=S.list_eq h2;rw[hcp] at this;cases this
 have hl1:(h'.push fo).get? (τ2.ρ i)=some (T5 vs kl):=hk1 _ _ (fun q=>hicp (τ2.D.inj _ _ _ _ (S.list_eq h2) hcp q)) gl;refine Q5 (e2u h3 rl) fun kz1 kz2 kz3 kz4=>?_;have hLsz:τ2.ρ e.locals < τ2.h.objs.size:=yea (τ2.at h4) fun _ q _=>K3 q;have hfo:(h'.push fo).get? h'.objs.size=some fo:=c6 _ (by refine rF hob ?_;rfl);have ltL:∀b,τ2.h.objs.size<=b->b≠τ2.ρ e.locals:=fun b hb q=>absurd (q▸hLsz) (M3.mpr hb);have F1:PyProof.Rows.Fr a5e (τ2.ρ e.locals) (h'.push fo) (nsFind lL):=⟨hNs,fun b o e=>(by rw[b8q] at e;cases e),D5 _⟩;have N1:News a5e (τ2.ρ e.locals) (h'.push fo) (b5h (τ2.ρ e.locals) (h'.push fo)):=fun ⟨a,o⟩ hp=>ya (b09.mp hp) fun g1 g2=>⟨g2,g1,b8q _⟩;show wpAny _ _ (call (.builtin "sorted") [.ref (τ2.ρ i)] [(m6,.ref h'.objs.size)]) _ _ _;refine rE f0c ?_;refine ksk_sorted (b:=false) (kz:=zs) (f:=.ref h'.objs.size) F1 N1 ⟨_,hl1,rfl,_,rfl⟩ kz1 (by omega) (ksk_s1 _ _) (fun _=>ksk_l1 _ _) (fun _=>ksk_t1 _ _) (fun j v k hv hk h3 tk3 own F3 N3=>?_) fun D h4 tk4 out c F4 N4 hlt KO=>?_
 ·refine n5 (kz3 j v k hv hk) fun a m ws zy=>?_;refine yea zy fun t zz ht=>?_;clear zy;subst zz
  have n3:∀b o,b≠τ2.ρ e.locals->(h'.push fo).get? b=some o->h3.get? b=some o:=fun b o hb e=>(N3 (b,o) (a0z _ (b09.mpr ⟨hb,e⟩))).1;have haP:a≠τ2.ρ cp:=fun q=>by rw[q,g1] at ht;cases ht
  have ht1:=hk1 _ _ haP ht;have haL:a≠τ2.ρ e.locals:=fun q=>by rw[q,gL] at ht1;cases ht1;cases dL
  refine T6 hrec fun _ oc vc tq ec hoc hd hq=>?_;clear hrec;cases ec;have hoc3:=n3 _ _ (ltL _ hge) (V2 fo hoc);have hl3:h3.NoLimit:=C.Y.lim.keeps fun b o q=>n3 b o (D1.1.ne_old hL1 q) (D1.1.keep b o q);refine e2z ?_ hl3 F3 N3 (hob▸n3 _ _ (ltL _ (W0 hge (J8 hlt))) hfo) ⟨_,oc,vc,tq,rfl,hoc3,hd,hq⟩ (n3 _ _ haL ht1);show A.depth < recursionLimit;have:=rm.depth;exact Z3 (show A.depth<=998 by omega) (by decide)
 ·have ho:=kz4 _ KO
  have nD:=N4 (D,seqObj "list" out c) (B3 ..);have hk4:∀b o,b≠τ2.ρ e.locals->(h'.push fo).get? b=some o->h4.get? b=some o:=fun b o hb e=>(N4 (b,o) (C3 _ (b09.mpr ⟨hb,e⟩))).1;refine a0s F4.ns fun oL4 l4 k4 e4 d4 s4 f4=>?_;have D2:=D1.1.set (h':=h4) (w:=some (.ns es)) hL1 hk4 fun o q=>⟨oL4,e4,fun ht=>by cases q;exact ns_OV d4 s4 f4 fun y b hb=>yea (fL y b hb) fun u hu r=>⟨u,hu,r.tell (.same ht)⟩⟩;have ne1:∀b o,(h'.push fo).get? b=some o->b≠D:=fun b o eb q=>by
   by_cases hb:b=τ2.ρ e.locals
   ·exact nD.2.1 (q▸hb)
   ·exact absurd (hlt (b,o) (b09.mpr ⟨hb,eb⟩)) (q▸a01 _)
  have ne2:∀b o,τ2.h.get? b=some o->b≠D:=fun b o eb=>by
   by_cases hb:b=τ2.ρ cp
   ·exact ne1 b _ (V2 fo (by refine rE hb (rE hP ?_);exact htb))
   ·exact ne1 b o (hk1 b o hb eb)
  have hDn:τ2.h.get? D=none:=by
   cases q:τ2.h.get? D with
   |none=>rfl
   |some o=>exact absurd rfl (ne2 D o q)
  have X2:=D1.2.trans D2.2;have D3:=D2.1.add (o:=.list l) hx nD.1 (fun i o q=>by
   obtain ⟨o',q'⟩:=D1.2.live i (D1.1.lt (D2.2.live i (D2.1.lt q) ⟨o,q⟩).choose_spec) (D2.2.live i (D2.1.lt q) ⟨o,q⟩);refine yea (τ2.at q') fun ob' q2 _=>?_;exact ne2 _ _ q2) (by
   cases q:C.hb.get? D with
   |none=>rfl
   |some o=>exact absurd rfl (ne2 D o (keepP D o q))) ⟨vs,c,rl.mono fun _ _ r=>(VR.tell X2.tell r).tell (.of .refl (a7s _ _ _) (H7 _)),by
    have:out=vs.toArray:=by exact rF ho rfl
    refine rE this ?_;rfl⟩
  exact zf _ (τ2.to h4 tk4 _ _ D3) rfl ((X.trans X2').trans ⟨X2.add D2.1.room hDn,rfl⟩) ⟨congrArg O2 (a1e ..).symm,l8 _⟩
end
noncomputable def j5:Str:=⟨#[110,111,100,101]⟩
noncomputable def V5:Str:=⟨#[76,105,109,105,116,115]⟩
noncomputable def dcS:Scope:=⟨.function,[(a8x,.local),(m6,.local),(j5,.free)],false,false,[]⟩
noncomputable def dcT:Expr:=.Compare (.Name m6 ⟨324,46,324,49⟩) [.NotEq] [.Constant (.str V5) 0 ⟨324,53,324,61⟩] ⟨324,46,324,61⟩
noncomputable def dcV:Expr:=.Subscript (.Name j5 ⟨324,17,324,21⟩) (.Name m6 ⟨324,22,324,25⟩) ⟨324,17,324,26⟩
noncomputable def dcE:Expr:=.DictComp (.Name m6 ⟨324,12,324,15⟩) dcV [⟨.Name m6 ⟨324,31,324,34⟩,.Name j5 ⟨324,38,324,42⟩,[dcT],.ofNat 0⟩] dcS ⟨324,11,324,62⟩
noncomputable def dS2(o:O):Option (Str×V):=obd (b2u o) fun es=>two es fun a b=>obd a.2 fun _=>obd b.2 fun v=>ifb (seq a.1 V5) (ifb (seq b.1 V5) none (some (b.1,v))) none
noncomputable def mDc(e:AE)(x:S):Option (Res V):=some (nd (lk e.cells j5) fun c=>.same (.bo (b7n (lk e.scope.names j5))) (.bo true) <|nd (obd (x.get c) a3g) fun v=>nd v fun v=>nd (G2 v) fun i=>nd (obd (x.get i) dS2) fun p=>ck x.ok <| .ok (.ref x.n) (x.new (.dictS [(p.1,some p.2)])))
section
variable{C:Cx}{A:Around}
theorem d8f{e:AE}{c:Nat}(h:lk e.cells j5=some c):a7d e.cells dcS.names []=some [(j5,c)]:=by
 show obd (lk e.cells j5) _=_;refine rE h ?_;rfl
theorem d8d{o:O}{w:Str}{b:V}(h:dS2 o=some (w,b)):∃a,o=.dictS [(V5,some a),(w,some b)]/\seq w V5=false:=by
 refine yea (W7 h) fun es h1 h=>?_;cases o with
 |dictS es'=>
  cases h1
  match es with
  | [p,q]=>
   obtain ⟨p1,p2⟩:=p;obtain ⟨q1,q2⟩:=q;refine yea (W7 (show obd p2 (fun _=>obd q2 fun v=>ifb (seq p1 V5) (ifb (seq q1 V5) none (some (q1,v))) none)=some (w,b) from h)) fun a ha h=>?_;refine yea (W7 h) fun b' hb h=>?_;obtain ⟨h1,h⟩:=a1i h;cases h2:seq q1 V5 with
   |true=>rw[h2] at h;exact D0 h
   |false=>
    rw[h2] at h;cases h;exact ⟨a,by exact rE ha (rE hb (rE (a0k.mp h1) rfl)),h2⟩
  | []=>exact D0 h
  | [_]=>exact D0 h
  |_::_::_::_=>exact D0 h
 |_=>exact D0 h1
theorem f0r{K:Type}[DecidableEq K]{FK:Value->K->Prop}{FV:Value->Value->Prop}{v:Value}{kvs:List (K×Value)}(h:StoredAll FK FV [v] kvs):∃k y,kvs=[(k,y)]/\FK v k/\FV v y:=by
 generalize hl:[v]=l at h;cases h with
 |nil=>cases hl
 | @snoc l kvs v' k y h1 h2 h3=>
  have hl0:l=[]:=by
   cases l with
   |nil=>rfl
   |cons a l=>have:=congrArg List.length hl;simp at this
  subst hl0;cases hl;generalize hm:([]:List Value)=l at h1;cases h1 with
  |nil=>exact ⟨k,y,rfl,h2,h3⟩
  |snoc=>have:=congrArg List.length hm;simp at this
theorem d8e{τ:St C}{e:AE}{env:Env}(He:Er τ e env)(hk:lk e.scope.names j5=some .cell):N9 dcS env=⟨.function,[(a8x,.local),(m6,.local),(j5,.cell)],false,false,[]⟩:=by
 refine rE (b9z dcS He) ?_;unfold a3l dcS;simp only[I8,List.map_nil];rw[show relP e (j5,A4.free)=(j5,.cell) by
  show K0 (motive:=fun _=>Str×A4) _ _ (lk e.scope.names j5)=_;exact rE hk rfl]
 rfl
noncomputable def a8k(v:Value):Bool:=match v with| .str x _=>x !=V5|_=>true
noncomputable def e2a(v:Value)(k:Str):Prop:=∃t,v=.str k t
theorem dc_ok{c:Nat}:XOk C c ⟨dcE,mDc⟩:=fun {A σ e env} rm He r hr=>by
 cases hr;show GoR A (eval dcE env) σ Vr _;intro Q E z;refine yea (T7 z) fun c hcp z=>?_;obtain ⟨ek,z⟩:=z;have hkp:=c8i (Sd.bo.inj ek);refine yea (T7 z) fun v hv z=>?_;refine yea (T7 z) fun v' hv' z=>?_;refine yea (T7 z) fun i hi z=>?_;refine yea (T7 z) fun yy hd z=>?_;obtain ⟨w,b⟩:=yy;obtain ⟨hx,zf⟩:=t7 z;clear z;refine yea (W7 hv) fun o ho hv=>?_;obtain rfl:=O.cell_eq hv;obtain rfl:=hv';obtain rfl:=V.ref_eq hi;refine yea (W7 hd) fun od gd hd=>?_;refine yea (d8d hd) fun a yz hw=>?_;subst yz;refine yea (b64 He (d8f hcp)) fun rs hrs hce=>?_;obtain rfl:rs=[(j5,σ.ρ c)]:=hrs.1;refine yea (σ.at ho) fun obc hc1 zp=>?_;refine yea zp fun uc hc2 hc3=>?_;clear zp;refine yea hc3 fun _ zq hvr=>?_;clear hc3;subst zq;obtain rfl:_=O2 (σ.ρ i):=hvr.1;have hcell:∀h':Heap,(∀b o,σ.h.get? b=some o->h'.get? b=some o)->h'.IsCell (σ.ρ c) (some (.ref (σ.ρ i))):=fun h' k=>⟨obc,k _ _ hc1,hc2⟩;refine yea (St.asS gd rfl) fun kvs hdo hro=>?_;obtain ⟨ua,ub,ek,hub⟩:∃ua ub,kvs=[(V5,ua),(w,ub)]/\Vr σ b ub:=by
  obtain ⟨kv,_,rfl,h1,hro⟩:=All2.consR hro;obtain ⟨kw,_,rfl,h2,hro⟩:=All2.consR hro;obtain rfl:=All2.nilR hro;exact ⟨kv.2,kw.2,by exact rE (show kv=(V5,kv.2) from Prod.ext h1.1 rfl) (rE (show kw=(w,kw.2) from Prod.ext h2.1 rfl) rfl),h2.2⟩
 obtain ⟨ep,hda⟩:=hdo.dictAt;have hne:V5≠w:=fun q=>by rw[a0k.mpr q.symm] at hw;cases hw
 have hdlt:=hda.lt_size;have hrel:=d8e He hkp;have hke:∀L,(compEnvC dcS [(j5,σ.ρ c)] L env).kindOf m6=some .local:=fun L=>by
  show (N9 dcS env).names.lookup m6=_;refine rE hrel ?_;decide+kernel
 have hkn:∀L,(compEnvC dcS [(j5,σ.ρ c)] L env).kindOf j5=some .cell:=fun L=>by
  show (N9 dcS env).names.lookup j5=_;refine rE hrel ?_;decide+kernel
 have hkd:∀L,(compEnvC dcS [(j5,σ.ρ c)] L env).scope.kind=.function:=fun L=>by
  show (N9 dcS env).kind=_;exact rE hrel rfl
 have nodeGet:∀ {L:Addr} {p:Pos} {s₃:Shared} {Q:Value->Shared->Prop} {E:Value->Shared->Prop},(∀b o,σ.h.get? b=some o->s₃.heap.get? b=some o)->Q (.ref (σ.ρ i)) s₃->wpAny C.m A (eval (.Name j5 p) (compEnvC dcS [(j5,σ.ρ c)] L env)) Q E s₃:=fun {L p s₃ Q E} k q=>
  a0p (c3q (hkd L) (hkn L) (List.lookup_cons_self ..) (hcell _ k) q) (by kernel_rfl)
 have keyGet:∀ {L:Addr} {p:Pos} {s₃:Shared} {m:Str->Option Value} {v:Value} {Q:Value->Shared->Prop} {E:Value->Shared->Prop},s₃.heap.Ns L m->m m6=some v->Q v s₃->wpAny C.m A (eval (.Name m6 p) (compEnvC dcS [(j5,σ.ρ c)] L env)) Q E s₃:=fun {L p s₃ m v Q E} hn hm q=>
  a0p (b4h (hkd L) (hke L) hn hm q) (by kernel_rfl)
 have item:∀ {j:Nat} {v:Value},(∃k x,kvs[j]? =some (k,x)/\(r9 C.prog C.w).is k v=true)->∃k x t,kvs[j]? =some (k,x)/\v=.str k t:=fun {j v} ⟨k,x,h1,h2⟩=>ye (d3m h2) fun t e=>⟨k,x,t,h1,e⟩;have other:∀ {j:Nat} {k:Str} {x:Value} {t:Tok},kvs[j]? =some (k,x)->a8k (.str k t)=true->k=w/\x=ub:=fun {j k x t} h1 h2=>by
  rw[ek] at h1;cases j with
  |zero=>obtain ⟨rfl,_⟩:=a6x (C0 h1);exact absurd h2 (by show ¬ (V5 !=V5)=true;refine rE (bne_self_eq_false ..) ?_;exact Z2)
  |succ j=>cases j with
   |zero=>obtain ⟨rfl,rfl⟩:=a6x (C0 h1);exact ⟨rfl,rfl⟩
   |succ j=>exact D0 h1
 have keep0:∀ {h':Heap} (oi:Obj),(∀b o,b ∉ [σ.h.objs.size]->(σ.h.push oi).get? b=some o->h'.get? b=some o)->∀b o,σ.h.get? b=some o->h'.get? b=some o:=fun {h'} oi hk b o q=>hk b o (by rw[S4];exact j3 (K3 q)) (V2 _ q);refine wpAny_DictComp_free (r9 C.prog C.w) a8k e2a (fun _ y=>y=ub) hce (fun y hy=>?_) rfl (b2q (by decide+kernel)) (by decide+kernel) ?_ fun x=>a8l rfl _ _
 ·simp only[dcS,O0,G1,or_false] at hy
  rcases hy with rfl|rfl|rfl <;>exact fun q=>by cases q
 have hkn0:env.kindOf j5=some .cell:=by
  refine rF hkp (rE He.1 (rE (a0e ..) ?_));rfl
 refine a0p (c3q He.kind hkn0 (He.1▸b17 (ρ:=σ.ρ) hcp) (hcell _ fun _ _ q=>q) ?_) (by kernel_rfl);refine wpAny_pyIter_dict (St.not_sys gd) hda ?_;refine I6 σ.h.objs.size _ _ _ _ _ ⟨rfl,Walks.dictKeys (knd:=r9 C.prog C.w) rm.handled _ (σ.ρ i) (j3 hdlt) _ ep,?_,⟨⟨_,c6 _ rfl,rfl,rfl⟩,hda.push _⟩,fun b hb=>?_,⟨?_,?_,?_⟩,?_⟩
 ·refine rE ek ?_
  exact W0 (by decide:2<=63) (M4 (by decide))
 ·refine rE (a6l ..) ?_
  simp only[O0,G1,or_false] at hb;rcases hb with rfl|rfl
  ·exact l8 _
  ·exact a9x hdlt
 ·intro L j v s₃ m₃ E' hv hn hm hk
  refine G3 (item hv) fun k x t h1 zr=>?_;subst zr;refine rE (n7 ..) ?_;refine m0 ?_;refine rE (if_pos rfl) ?_;refine m0 (wpAny_isTrue_Compare1 (keyGet hn hm (wpAny_Constant_str (PyProof.Rows.ne_str (a9h (q0 ?_))))));dsimp only;refine rE a2i ?_;exact q0 ⟨rfl,s₃.heap,s₃.toks+1,rfl,fun _ _ e=>e⟩
 ·intro L j v s₃ m₃ E' hv hpv hn hm hk
  refine G3 (item hv) fun k x t h1 zs=>?_;subst zs;exact keyGet hn hm ⟨⟨k,PySem.strKind_is C.prog C.w k t,t,rfl⟩,s₃.heap,s₃.toks,rfl,fun _ _ e=>e⟩
 ·intro L j v s₃ m₃ E' hv hpv hn hm hk
  refine G3 (item hv) fun k x t h1 zt=>?_;subst zt;obtain ⟨rfl,rfl⟩:=other h1 hpv;have k3:=keep0 _ hk;have hd3:s₃.heap.DictOf (r9 C.prog C.w) (σ.ρ i) _:=hdo.at fun o q=>k3 _ o q;refine wpAny_Subscript_Name_late (nodeGet k3 (keyGet hn hm ⟨"dict",_,slot_dict_getitem.lookup,hd3.typeIs,wpAny_getItem_of (PySem.strKind_is C.prog C.w k t) hd3.mapOf ?_ ⟨rfl,s₃.heap,s₃.toks+1,rfl,fun _ _ e=>e⟩⟩));show a0o _ _=_;simp [a0o,hne,ek]
 ·intro D h' tk kvs' vs hD hd' hlen hP hF hk
  have k3:=keep0 _ hk;refine yee (len2 (hlen.trans (congrArg List.length ek))) fun v0 v1 zu=>?_;subst zu
  ·refine G3 (item (hP 0 v0 rfl)) fun k0 x0 t0 g0 zv=>?_;subst zv
   refine G3 (item (hP 1 v1 rfl)) fun k1 x1 t1 g1 zw=>?_;subst zw;rw[ek] at g0 g1;obtain ⟨rfl,_⟩:=a6x (C0 g0);obtain ⟨rfl,_⟩:=a6x (C0 g1);have hw':(w !=V5)=true:=by simp [p7 hne]
   rw[show ([Value.str V5 t0,Value.str w t1]:List Value).filter a8k=[.str w t1] by
    have n0:a8k (.str V5 t0)=false:=by show (V5 !=V5)=false;simp
    exact rE (a6n (by rw[n0];exact Z2)) (rE (a6o (show a8k (.str w t1)=true from hw')) (rE List.filter_nil rfl))] at hF
   refine R3 (f0r hF) fun k y zz zy zx=>?_;subst zz;obtain ⟨tk',e1⟩:=zy;subst zx;cases e1;have hDσ:σ.h.get? D=none:=by
    cases q:σ.h.get? D with
    |none=>rfl
    |some o=>rw[V2 _ q] at hD;cases hD
   refine yea (a8p (ρ:=σ.ρ) (n:=σ.x.n) (h:=σ.h) hdo hro) fun ob hob _=>?_;refine G3 (id hd') fun oD l epD hoD r=>?_;refine A0.new_at zf hx k3 hDσ hoD fun {ρ'} X=>?_;refine yea (a8p (ρ:=ρ') (n:=σ.x.n+1) (es:=[(w,some b)]) hd' (.cons ⟨rfl,VR.tell X.tell hub⟩ .nil)) fun ob' hob' hov=>?_;rw[hoD] at hob';cases hob';exact hov
end
noncomputable def tS(s:Str)(l:List V):V:=.tup (.str s::l)
noncomputable def tnA:Str:=⟨#[97,114,114,97,121]⟩
noncomputable def tnD:Str:=⟨#[100,105,99,116]⟩
noncomputable def tnR:Str:=⟨#[114,101,102]⟩
noncomputable def tnI:Str:=⟨#[105,110,116]⟩
noncomputable def tnN:Str:=⟨#[110,117,108,108]⟩
noncomputable def tnM:Str:=⟨#[110,97,109,101]⟩
noncomputable def R6(n:Int):V:=tS tnR [.int n,.int 0]
noncomputable def d7d(n:Nat):V:=W1 (a5n n) R6 (tS tnN [])
noncomputable def Z7(l:List Nat):V:=tS tnA (mapL d7d l)
noncomputable def prow(p:Pm)(i:Nat)(l:List Nat):Pm:=(fun r=>{p with r0:=ifb (o0 i 0) r p.r0,r1:=ifb (o0 i 1) r p.r1,r2:=ifb (o0 i 2) r p.r2,m:=fun j=>ifb (o0 (M1 j 3) i) (L6 l (O1 j 3)) (p.m j)}) (rrL l (w0 80 (C1 6 i)))
noncomputable def ctV(v:V)(a:V):CtD:=⟨.call 284 [.v a],[],[],fun _=>.rt (.v v),fun _=>[],0,fun _=>[]⟩
noncomputable def twS(s:Bool)(p:Pm)(i:Nat)(l:List Nat):List Sd:=U1.side 0 ct0 60 s ⟨Lo (prow p i l),ctV (Z7 l) (.ref (w0 13 i)),noF⟩ []
theorem f20(p:Pm)(a b c:Nat):mapL (fun l=>mapL (fun i=>twS true p i l) [0,1,2]) (S9 a b c)=mapL (fun l=>mapL (fun i=>twS false p i l) [0,1,2]) (S9 a b c):=by kernel_rfl
noncomputable def e92:Str:=⟨#[115,101,108,102]⟩
noncomputable def d2d:Str:=⟨#[110,117,109,98,101,114]⟩
noncomputable def tnT:Str:=⟨#[116,114,117,116,104]⟩
noncomputable def tnS:Str:=⟨#[115,116,114,105,110,103]⟩
noncomputable def tnL:Str:=⟨#[114,101,97,108]⟩
noncomputable def tnX:Str:=⟨#[115,116,114,101,97,109]⟩
noncomputable def asg1(l:List Stmt):Expr:=E0 (motive:=fun _=>Expr) (.Constant .none 0 ⟨0,0,0,0⟩) (fun s _ _=>match s with| .Assign _ e _=>e|_=>.Constant .none 0 ⟨0,0,0,0⟩) l
noncomputable def argE(e:Expr):Expr:=match e with| .Call _ l _ _=>ofO (nth l 0) e|_=>e
noncomputable def tlCE:Expr:=argE (asg1 (E4 367))
noncomputable def ent(k:Str)(v:V):V:=.tup [.str k,v]
noncomputable def a3d(s:Str):V:=tS tnM [.str s]
noncomputable def u8(n:Nat):V:=tS tnI [iV n]
noncomputable def a4x(pg:Nat)(ds:List Nat):V:=tS tnD [ent s_K (tS tnA (mapL u8 ds)),ent a5x (R6 (.ofNat (w0 3 pg))),ent s_S (a3d s_P)]
noncomputable def a2a(w:Nat):V:=ofO (nth [u8 0,u8 1,u8 2,u8 7,tS tnT [.int 1],tS tnT [.int 0],tS tnA [u8 0],tS tnA [],tS tnD [],tS tnD [ent s_S (u8 1)],a3d s_0,tS tnS [.byt #[49]],tS tnL [.int 1,.int 0],R6 9,R6 99] w) .none
noncomputable def a52(a:Nat)(t:TV):V:=.tup (.str tnD::ent a5w (R6 2)::tvB t [] (fun w=>[ent a3o (a2a w)]) [ent a3o (R6 (.ofNat (w0 50 a)))]++[ent y7 (a3d b3f)])
noncomputable def b37(ne:Nat)(l0 l1 l2:List Nat):V:=tS tnD [ent s_K (tS tnA (F2 ne [R6 20,R6 21,R6 22])),ent a8z (tS tnD [ent b3e (tS tnA [u8 0,Z7 l0,u8 1,Z7 l1,u8 2,Z7 l2])]),ent y7 (a3d b3h)]
noncomputable def b5z:V:=tS tnD [ent b3g (R6 2),ent b3h (R6 10),ent y7 (a3d d29)]
noncomputable def b9d:V:=tS tnD [ent d2a (u8 2),ent d2b (tS tnA [R6 3,R6 4]),ent y7 (a3d b3g)]
noncomputable def c36:V:=tS tnX [tS tnD [],.byt #[]]
noncomputable def teU(n:Nat):List OT:=[.hole,.ns [(d2d,.v (iV n))],.cell (.t (.v (.ref 78)))]
noncomputable def p8(n:Nat)(v:V):CtD:=⟨.ex (eltE tlCE) (b0n (fnE 367) tlCE 1 [(e92,2)]),teU n,[],fun _=>.rt (.v (.tup [iV n,.int 0,v])),fun _=>teU n,0,fun _=>[]⟩
noncomputable def teS(ct:CT)(s:Bool)(lo:B)(n:Nat)(v:V):List Sd:=U1.side 60 ct 140 s ⟨lo,p8 n v,noF⟩ []
noncomputable def te0(s:Bool)(p:Pm):List (List Sd):=[teS ct0 s (Lo p) 1 b5z,teS ct0 s (Lo p) 2 b9d,teS ct0 s (Lo p) 9 c36]
theorem f1e(p:Pm):te0 true p=te0 false p:=by kernel_rfl
noncomputable def teE(s:Bool)(p:Pm)(nk:Nat×Nat)(a:Nat->Nat)(l:Nat):List Sd:=(fun p=>teS ct0 s (Lo p) (w0 20 nk.2) (a4x (pgE p nk.2) (dsK p nk.2))) (obC p nk.1 nk.2 a l)
theorem f1h(p:Pm)(a:Nat->Nat):mapL (fun nk=>mapL (teE true p nk a) C4) nks=mapL (fun nk=>mapL (teE false p nk a) C4) nks:=by kernel_rfl
noncomputable def withT(p:Pm)(a:Nat)(t:TV):Pm:={p with t0:=ifb (o0 a 0) t p.t0,t1:=ifb (o0 a 0) p.t1 t}
noncomputable def c3n(p:Pm)(a:Nat)(b:Option Nat):Pm:={p with b0:=ifb (o0 a 0) b p.b0,b1:=ifb (o0 a 0) p.b1 b}
noncomputable def l15:List Nat:=[0,1,2,3,4,5,6,7,8,9,10,11,12,13,14]
noncomputable def teH(s:Bool)(p:Pm)(a:Nat)(t:TV):List Sd:=teS ct0 s (Lo (withT p a t)) (w0 3 a) (a52 a t)
theorem d44(p:Pm):mapL (fun a=>mapL (teH true p a) (.no::.beh::mapL .dir l15)) [0,1]=mapL (fun a=>mapL (teH false p a) (.no::.beh::mapL .dir l15)) [0,1]:=by kernel_rfl
noncomputable def teB(s:Bool)(p:Pm)(a w:Nat):List Sd:=teS ct0 s (Lo (c3n p a (some w))) (w0 50 a) (a2a w)
theorem f1f(p:Pm):mapL (fun a=>mapL (teB true p a) l15) [0,1]=mapL (fun a=>mapL (teB false p a) l15) [0,1]:=by kernel_rfl
noncomputable def enTw(l0 l1 l2:List Nat):Q4:=⟨284,fun vs _=>(fun r=>ifb (o0 r 13) (some (ctV (Z7 l0) (.ref 13))) (ifb (o0 r 14) (some (ctV (Z7 l1) (.ref 14))) (ifb (o0 r 15) (some (ctV (Z7 l2) (.ref 15))) none))) (M0 (hd vs)),fun _ _=>[]⟩
noncomputable def teR(s:Bool)(p:Pm)(l0 l1 l2:List Nat)(ne:Nat):List Sd:=(fun p=>teS (ctH (Lo p) ct0 ⟨[enTw l0 l1 l2],[],[],[]⟩) s (Lo p) 10 (b37 ne l0 l1 l2)) {p with ne:=ne,c:=3,nk:=none}
theorem f1i(p:Pm)(l0 l1 l2:List Nat):mapL (teR true p l0 l1 l2) l13=mapL (teR false p l0 l1 l2) l13:=by kernel_rfl
noncomputable def Q7{α:Type}(o:Option α):Bool:=W1 o (fun _=>true) false
noncomputable def a5k(ne:Nat)(b c:Bool):List Nat:=[1,2,3,4,9,10]++(F2 ne [20,21,22]++(ifb b [50] []++ifb c [51] []))
noncomputable def ctNb(ne:Nat)(b c:Bool):CtD:=⟨.call 355 [.v (.ref 78)],[],[],fun _=>.rt (.n 0),fun _=>[],1,fun _=>[some (.lst (mapL iV (a5k ne b c)))]⟩
noncomputable def nbS(s:Bool)(p:Pm)(b c:Option Nat)(ne:Nat):List Sd:=U1.side 0 ct0 30 s ⟨Lo {p with ne:=ne,b0:=b,b1:=c},ctNb ne (Q7 b) (Q7 c),a1u⟩ []
noncomputable def o15:List (Option Nat):=none::mapL some l15
theorem e4j(p:Pm):mapL (fun ne=>mapL (fun b=>mapL (fun c=>nbS true p b c ne) o15) o15) l13=mapL (fun ne=>mapL (fun b=>mapL (fun c=>nbS false p b c ne) o15) o15) l13:=by kernel_rfl
noncomputable def enNb(ne:Nat)(b c:Bool):Q4:=⟨355,fun _ _=>some (ctNb ne b c),fun _ _=>[]⟩
noncomputable def enTE(ok:Nat->Bool)(vv:Nat->V):Q4:=⟨c7 (eltE tlCE),fun vs x=>(fun n=>ifb (ok n) (some (p8 n (vv n))) none) (D4 (nsN (hd vs) x d2d)),fun vs _=>[256,M0 (hd vs),257]⟩
noncomputable def shTV(ne:Nat)(b c:Bool)(vv:Nat->V):V:=.tup [.tup (mapL (fun n=>.tup [iV n,.int 0,vv n]) (a5k ne b c)),tS tnD [ent d2c (R6 1)]]
noncomputable def ctSh(T:V):CtD:=⟨.call 367 [.v (.ref 78)],[],[],fun _=>.rt (.v T),fun _=>[],0,fun _=>[]⟩
noncomputable def shS(s:Bool)(p:Pm)(vv:Nat->V)(ne:Nat)(b c:Bool):List Sd:=U1.side 160 (ctH (Lo p) ct0 ⟨[enNb ne b c],[],[enTE (a3c (a5k ne b c)) vv],[]⟩) 200 s ⟨Lo p,ctSh (shTV ne b c vv),noF⟩ []
theorem e9s(p:Pm)(vv:Nat->V):mapL (fun ne=>mapL (fun b=>mapL (fun c=>shS true p vv ne b c) [true,false]) [true,false]) l13=mapL (fun ne=>mapL (fun b=>mapL (fun c=>shS false p vv ne b c) [true,false]) [true,false]) l13:=by kernel_rfl
section
variable{C:Cx}{p:Pm}{ne:Nat}{g:List Nat}
theorem a26(Dr:V0 C){ct:CT}(CY:Y3 C 60 ct){n:Nat}{v:V}(h:teS ct true (Lo p) n v=teS ct false (Lo p) n v):CtDOk C 140 (Lo p) (p8 n v):=
 U1.ok (j:=⟨Lo p,p8 n v,noF⟩) Dr CY (H4 p) fun ds hd=>by
  obtain rfl:=o6 hd;exact h
theorem e74{i:Nat}(hi:i < 3):prow (pA ne g) i (lA ne g i)=pA ne g:=by
 have hm:(fun j=>ifb (o0 (M1 j 3) i) (L6 (lA ne g i) (O1 j 3)) (mA ne g j))=mA ne g:=by
  funext j
  cases q:o0 (M1 j 3) i with
  |true=>refine rF (V1 q) ?_;rfl
  |false=>rfl
 unfold prow;show ({pA ne g with r0:=_,r1:=_,r2:=_,m:=fun j=>ifb (o0 (M1 j 3) i) (L6 (lA ne g i) (O1 j 3)) (mA ne g j)}:Pm)=_;refine rE hm ?_
 match i,hi with
 |0,_=>rfl
 |1,_=>rfl
 |2,_=>rfl
theorem c3j(Dr:V0 C){i:Nat}(hi:i < 3):CtDOk C 60 (Lo (pA ne g)) (ctV (Z7 (lA ne g i)) (.ref (w0 13 i))):=by
 refine n5 (a8f (D9 ne g i)) fun a b c hm=>?_;have run:=y0 (y0 (f20 (pA ne g) a b c) _ hm) i ((by decide:∀i,i < 3->i∈[0,1,2]) i hi);unfold twS at run;rw[e74 hi] at run;exact U1.ok (j:=⟨Lo (pA ne g),ctV (Z7 (lA ne g i)) (.ref (w0 13 i)),noF⟩) Dr A3 (H4 _) fun ds hd=>by
  obtain rfl:=o6 hd;exact run
theorem f1g(Dr:V0 C)(G:p.Ok){k:Nat}(hk:k < p.ne):CtDOk C 140 (Lo p) (p8 (w0 20 k) (a4x (pgE p k) (dsK p k))):=by
 have hk3:k < 3:=by
  have:∀n∈[1,2,3],∀k,k < n->k < 3:=by decide
  exact this _ G.ne k hk
 have hl:(dsK p k).length<=3:=by
  unfold dsK;cases o0 k 0 with
  |true=>exact G.d0
  |false=>cases o0 k 1 with|true=>exact G.d1|false=>exact G.d2
 have run:=y0 (y0 (f1h p fun i=>nthD (dsK p k) i) _ (d09 G.ne hk)) _ (le4 hl);unfold teE at run;have e:obC p p.ne k (fun i=>nthD (dsK p k) i) (dsK p k).length=p:=d0r hk3 hl;dsimp only at run;rw[e] at run;exact a26 Dr A3 run
theorem b8k{α β:Type}{f:α->β}{a:α}:∀ {l:List α},a∈l->f a∈mapL f l
 |b::l,h=>(O0.mp h).elim (fun e=>e▸.head _) fun h=>.tail _ (b8k (l:=l) h)
theorem b25{w:Nat}(h:w < 15):w∈l15:=(by decide:∀w,w < 15->w∈l15) w h
theorem d3x(u:Nat):tOf u∈(.no::.beh::mapL .dir l15:List TV):=by
 by_cases h:u < 30
 ·have hw:M1 u 2 < 15:=by show u / 2 < 15;omega
  rcases d4o u h with ⟨_,h1,_⟩ |h1
  ·refine rE h1 ?_;exact .tail _ (.head _)
  ·refine rE h1 ?_
   exact .tail _ (.tail _ (b8k (b25 hw)))
 ·refine rE ((c3b (M3.mp h)).1) ?_;exact .head _
theorem b5t{u w:Nat}(h:bOf u=some w):w < 15:=by
 unfold bOf at h;cases q:U0 30 u with
 |true=>rw[q] at h;cases h
 |false=>
  rw[q] at h;cases r:o0 (O1 u 2) 1 with
  |false=>rw[r] at h;cases h
  |true=>
   rw[r] at h;cases h;have:=of_decide_eq_false ((b0h 30 u).symm.trans q);show u / 2 < 15;omega
theorem nb_ok(Dr:V0 C)(hn:ne∈l13):CtDOk C 30 (Lo (pA ne g)) (ctNb ne (Q7 (bOf (nthD g 1))) (Q7 (bOf (nthD g 0)))):=by
 have m:∀u,bOf u∈o15:=fun u=>by
  cases h:bOf u with
  |none=>exact .head _
  |some w=>exact .tail _ (b8k (b25 (b5t h)))
 have run:=y0 (y0 (y0 (e4j (pA ne g)) ne hn) _ (m (nthD g 1))) _ (m (nthD g 0));exact U1.ok (j:=⟨Lo (pA ne g),ctNb ne (Q7 (bOf (nthD g 1))) (Q7 (bOf (nthD g 0))),a1u⟩) Dr A3 (H4 _) fun ds hd=>by
  obtain rfl:=o6 hd;exact run
end
noncomputable def bTV(b:Option Nat):V:=W1 b a2a .none
noncomputable def b9e(l:List (Nat×V))(d:V)(n:Nat):V:=E0 (motive:=fun _=>V) d (fun e _ ih=>ifb (o0 n e.1) e.2 ih) l
noncomputable def vvA(ne:Nat)(g:List Nat):Nat->V:=b9e [(1,b5z),(2,b9d),(9,c36),(10,b37 ne (lA ne g 0) (lA ne g 1) (lA ne g 2)),(3,a52 0 (tOf (nthD g 1))),(4,a52 1 (tOf (nthD g 0))),(50,bTV (bOf (nthD g 1))),(51,bTV (bOf (nthD g 0))),
 (20,a4x (pgE (pA ne g) 0) (dsK (pA ne g) 0)),(21,a4x (pgE (pA ne g) 1) (dsK (pA ne g) 1)),(22,a4x (pgE (pA ne g) 2) (dsK (pA ne g) 2))] .none
noncomputable def shA(ne:Nat)(g:List Nat):V:=shTV ne (Q7 (bOf (nthD g 1))) (Q7 (bOf (nthD g 0))) (vvA ne g)
section
variable{C:Cx}{ne:Nat}{g:List Nat}
theorem e7t(Dr:V0 C)(hn:ne∈l13):CtDOk C 140 (Lo (pA ne g)) (p8 10 (b37 ne (lA ne g 0) (lA ne g 1) (lA ne g 2))):=by
 refine a26 Dr (ct:=ctH (Lo (pA ne g)) ct0 ⟨[enTw (lA ne g 0) (lA ne g 1) (lA ne g 2)],[],[],[]⟩) (a09 ⟨Y0 fun vs x t h=>?_,j1,j1,j1⟩ A3) (y0 (f1i (pA ne g) _ _ _) ne hn);have h:(fun r=>ifb (o0 r 13) (some (ctV (Z7 (lA ne g 0)) (.ref 13))) (ifb (o0 r 14) (some (ctV (Z7 (lA ne g 1)) (.ref 14))) (ifb (o0 r 15) (some (ctV (Z7 (lA ne g 2)) (.ref 15))) none))) (M0 (hd vs))=some t:=h;dsimp only at h;cases h1:o0 (M0 (hd vs)) 13 with
 |true=>rw[h1] at h;cases h;exact c3j (i:=0) Dr (by decide)
 |false=>
  rw[h1] at h;cases h2:o0 (M0 (hd vs)) 14 with
  |true=>rw[h2] at h;cases h;exact c3j (i:=1) Dr (by decide)
  |false=>
   rw[h2] at h;revert h;refine ifE fun _ h=>?_;cases h;exact c3j (i:=2) Dr (by decide)
theorem c85(Dr:V0 C):CtDOk C 140 (Lo (pA ne g)) (p8 3 (a52 0 (tOf (nthD g 1))))/\CtDOk C 140 (Lo (pA ne g)) (p8 4 (a52 1 (tOf (nthD g 0)))):=
 ⟨a26 Dr A3 (y0 (y0 (d44 (pA ne g)) 0 (.head _)) _ (d3x (nthD g 1))),a26 Dr A3 (y0 (y0 (d44 (pA ne g)) 1 (.tail _ (.head _))) _ (d3x (nthD g 0)))⟩
theorem d6p{a w:Nat}(ha:a < 2)(h:(ifb (o0 a 0) (pA ne g).b0 (pA ne g).b1)=some w):c3n (pA ne g) a (some w)=pA ne g:=by
 unfold c3n;rcases (by decide:∀a,a < 2->a=0∨a=1) a ha with rfl|rfl
 ·have h:(pA ne g).b0=some w:=h;show ({pA ne g with b0:=some w,b1:=_}:Pm)=_;refine rF h ?_;rfl
 ·have h:(pA ne g).b1=some w:=h;show ({pA ne g with b0:=_,b1:=some w}:Pm)=_;refine rF h ?_;rfl
theorem c4p(Dr:V0 C){a w:Nat}(ha:a < 2)(h:(ifb (o0 a 0) (pA ne g).b0 (pA ne g).b1)=some w)(hw:w < 15):CtDOk C 140 (Lo (pA ne g)) (p8 (w0 50 a) (a2a w)):=by
 have run:=y0 (y0 (f1f (pA ne g)) a ((by decide:∀a,a < 2->a∈[0,1]) a ha)) _ (b25 hw);unfold teB at run;rw[d6p ha h] at run;exact a26 Dr A3 run
theorem e56{b c:Bool}(hn:ne∈l13){n:Nat}(h:n∈a5k ne b c):n=1∨n=2∨n=3∨n=4∨n=9∨n=10∨(n=50/\b=true)∨(n=51/\c=true)∨∃k,k < ne/\n=20+k:=by
 unfold a5k at h;rw[a4a,a4a,a4a] at h;rcases h with h|h|h|h
 ·simp only[O0,G1,or_false] at h
  exact h.imp id fun h=>h.imp id fun h=>h.imp id fun h=>h.imp id fun h=>h.imp id fun h=>.inl h
 ·have:∀ne∈l13,∀n∈F2 ne [20,21,22],∃k,k < ne/\n=20+k:=by
   intro ne hn;unfold l13 at hn;simp only[O0,G1,or_false] at hn;rcases hn with rfl|rfl|rfl
   ·exact fun n hn=>⟨0,by decide,S4.mp hn⟩
   ·intro n hn
    rcases O0.mp hn with h|hn
    ·exact ⟨0,by decide,h⟩
    ·exact ⟨1,by decide,S4.mp hn⟩
   ·intro n hn
    rcases O0.mp hn with h|hn
    ·exact ⟨0,by decide,h⟩
    ·rcases O0.mp hn with h|hn
     ·exact ⟨1,by decide,h⟩
     ·exact ⟨2,by decide,S4.mp hn⟩
  exact .inr (.inr (.inr (.inr (.inr (.inr (.inr (.inr (this ne hn n h))))))))
 ·cases b with
  |false=>exact absurd h G1
  |true=>exact .inr (.inr (.inr (.inr (.inr (.inr (.inl ⟨S4.mp h,rfl⟩))))))
 ·cases c with
  |false=>exact absurd h G1
  |true=>exact .inr (.inr (.inr (.inr (.inr (.inr (.inr (.inl ⟨S4.mp h,rfl⟩)))))))
theorem c8q{α:Type}{o:Option α}(h:Q7 o=true):∃a,o=some a:=by
 cases o with
 |none=>cases h
 |some a=>exact ⟨a,rfl⟩
theorem vv_ok(Dr:V0 C)(hn:ne∈l13){n:Nat}(h:n∈a5k ne (Q7 (bOf (nthD g 1))) (Q7 (bOf (nthD g 0)))):CtDOk C 140 (Lo (pA ne g)) (p8 n (vvA ne g n)):=by
 have r0:=f1e (pA ne g);obtain ⟨c1,r0⟩:=Z0 r0;obtain ⟨c2,r0⟩:=Z0 r0;obtain ⟨c9,_⟩:=Z0 r0;rcases e56 hn h with rfl|rfl|rfl|rfl|rfl|rfl| ⟨rfl,q⟩ | ⟨rfl,q⟩ | ⟨k,hk,rfl⟩
 ·exact a26 Dr A3 c1
 ·exact a26 Dr A3 c2
 ·exact (c85 Dr).1
 ·exact (c85 Dr).2
 ·exact a26 Dr A3 c9
 ·exact e7t Dr hn
 ·obtain ⟨w,hw⟩:=c8q q
  show CtDOk C 140 _ (p8 50 (bTV (bOf (nthD g 1))));refine rE hw ?_;exact c4p (a:=0) Dr (by decide) hw (b5t hw)
 ·obtain ⟨w,hw⟩:=c8q q
  show CtDOk C 140 _ (p8 51 (bTV (bOf (nthD g 0))));refine rE hw ?_;exact c4p (a:=1) Dr (by decide) hw (b5t hw)
 ·have e:=f1g (p:=pA ne g) Dr (okA hn) hk
  have hk3:=H3 hk (b24 hn);rcases a5a hk3 with rfl|rfl|rfl <;>exact e
theorem d2z(Dr:V0 C)(hn:ne∈l13):CtDOk C 200 (Lo (pA ne g)) (ctSh (shA ne g)):=by
 have run:=y0 (y0 (y0 (e9s (pA ne g) (vvA ne g)) ne hn) _ ((by decide:∀b:Bool,b∈[true,false]) (Q7 (bOf (nthD g 1))))) _ ((by decide:∀b:Bool,b∈[true,false]) (Q7 (bOf (nthD g 0))));refine U1.ok (j:=⟨Lo (pA ne g),ctSh (shA ne g),noF⟩) Dr (a09 ⟨Y0 (B5.of ((nb_ok Dr hn).mono (show 30<=160 by decide))),j1,Y0 fun vs x t h=>?_,j1⟩ A3) (H4 _) fun ds hd=>by
  obtain rfl:=o6 hd;exact run
 refine ifE (fun h1 h=>?_) (show ifb (a3c _ _) (some _) none=some t from h);cases h;exact (vv_ok Dr hn (b2n h1)).mono (show 140<=160 by decide)
end
noncomputable def ifxE(e:Expr):Expr:=match e with| .IfExp t _ _ _=>t|_=>e
noncomputable def ppB:List Stmt:=a34 (E4 652)
noncomputable def ne1:Expr:=ifxE (asg1 (a0c 430 ppB))
noncomputable def ne2:Expr:=ifT (a0c 432 ppB)
noncomputable def neB(q:Nat->So)(pg:Nat):Bool:=ifb (isS (q (w0 (C1 3 pg) 2))) true (ifb (isS (q (w0 (C1 3 pg) 1))) true (isS (q (C1 3 pg))))
noncomputable def neU(q:Nat->So)(pg:Nat)(v:List (Str×VT)):List OT:=[.ns ([(a3q,.v (.ref 78)),(a1z,.n 2),(U4,.n 3),(b3j,.n 4),(k6,.v (iV pg)),(Y8,.n 5),(a90,.n 1)]++v),.lst (P9 q pg),.hole,.hole,.hole,.hole]
noncomputable def a2w(T:Expr)(q:Nat->So)(pg:Nat)(v:List (Str×VT))(w:Bool):CtD:=⟨.tr T (fnE 652),neU q pg v,[],fun _=>.rt (.v (.bool w)),fun _=>neU q pg v,0,fun _=>[]⟩
noncomputable def neS(s:Bool)(lo:B)(q:Nat->So)(T:Expr×List (Str×VT))(pg:Nat)(a b c:So):List Sd:=(fun q=>U1.side 0 ct0 20 s ⟨lo,a2w T.1 q pg T.2 (neB q pg),noF⟩ []) (qP q pg a b c)
noncomputable def neTs(v:V):List (Expr×List (Str×VT)):=[(ne1,[]),(ne2,[(O4,.v v)])]
theorem e4m(lo:B)(q:Nat->So)(v:V)(x y z:Int):mapL (fun T=>mapL (fun pg=>mapL (fun a=>mapL (fun b=>mapL (fun c=>neS true lo q T pg a b c) (O3 z)) (O3 y)) (O3 x)) [0,1]) (neTs v)=mapL (fun T=>mapL (fun pg=>mapL (fun a=>mapL (fun b=>mapL (fun c=>neS false lo q T pg a b c) (O3 z)) (O3 y)) (O3 x)) [0,1]) (neTs v):=by kernel_rfl
noncomputable def enNe(T:Expr)(k:Bool)(q:Nat->So)(e0 e1:Bool):Q4:=⟨c7 T,fun vs x=>(fun pg v=>ifb (o0 pg 0) (some (a2w T q 0 v e0)) (ifb (o0 pg 1) (some (a2w T q 1 v e1)) none)) (D4 (nsN (hd vs) x k6)) (ifb k [(O4,.v (nsN (hd vs) x O4))] []),fun vs x=>M0 (hd vs)::mapL (fun n=>M0 (nsN (hd vs) x n)) [a90,a1z,U4,b3j,Y8]⟩
section
variable{C:Cx}{lo:B}{q:Nat->So}
theorem d05(Dr:V0 C)(LK:C5 lo)(hq:j2 q){v:V}{T:Expr×List (Str×VT)}(hT:T∈neTs v){pg:Nat}(hp:pg∈[0,1]):CtDOk C 20 lo (a2w T.1 q pg T.2 (neB q pg)):=by
 obtain ⟨n,h⟩:=hq.two;have run:=y0 (y0 (y0 (y0 (y0 (e4m lo q v (n (3 * pg)) (n (3 * pg+1)) (n (3 * pg+2))) T hT) pg hp) _ (h (3 * pg))) _ (h (3 * pg+1))) _ (h (3 * pg+2));unfold neS at run;rw[b32] at run;exact U1.ok (j:=⟨lo,a2w T.1 q pg T.2 (neB q pg),noF⟩) Dr A3 LK fun ds hd=>by
  obtain rfl:=o6 hd;exact run
theorem c6r(Dr:V0 C)(LK:C5 lo)(hq:j2 q){T:Expr}{k:Bool}(hT:∀v,(T,ifb k [(O4,.v v)] [])∈neTs v):B5 C 20 lo (enNe T k q (neB q 0) (neB q 1)):=fun vs x t h=>by
 have h:(fun pg v=>ifb (o0 pg 0) (some (a2w T q 0 v (neB q 0))) (ifb (o0 pg 1) (some (a2w T q 1 v (neB q 1))) none)) (D4 (nsN (hd vs) x k6)) (ifb k [(O4,.v (nsN (hd vs) x O4))] [])=some t:=h;dsimp only at h;cases h1:o0 (D4 (nsN (hd vs) x k6)) 0 with
 |true=>rw[h1] at h;cases h;exact d05 Dr LK hq (hT _) (.head _)
 |false=>
  rw[h1] at h;revert h;refine ifE fun _ h=>?_;cases h;exact d05 Dr LK hq (hT _) (.tail _ (.head _))
end
noncomputable def E9:List Stmt:=a0c 543 R8
noncomputable def a1y:Str:=⟨#[98,101,102,111,114,101]⟩
noncomputable def hiE(v b:V)(d h:Nat->So):List (Option OT):=some (.ns [(C8,.v v),(R9,.n 5),(a1y,.v b)])::tailN' (hiB v d h)
where tailN' (l:List (Option OT)):List (Option OT):=Y2 (motive:=fun _=>List (Option OT)) l [] fun _ l=>l
noncomputable def a88:List Stmt:=a0c 546 R8
noncomputable def W3(o:Option V):Option Nat:=W1 o (fun v=>some (w0 21 (C1 2 (D4 v)))) none
noncomputable def A8(q:Nat->So)(pg:Nat):List (Option Nat):=(fun a b c=>ifb (isS c) [W3 a.o,W3 b.o,W3 c.o] (ifb (isS b) [W3 a.o,W3 b.o] (ifb (isS a) [W3 a.o] []))) (q (C1 3 pg)) (q (w0 (C1 3 pg) 1)) (q (w0 (C1 3 pg) 2))
noncomputable def pP(p:Pm)(q:Nat->So)(a b:Bool):Pm:=(fun k=>{p with t0:=ifb a (.dir 0) .no,t1:=ifb b (.dir (ifb a 1 0)) .no,c:=k,r0:=ifb a (A8 q 0) (ifb b (A8 q 1) []),r1:=ifb a (ifb b (A8 q 1) []) [],r2:=[],m:=fun _=>none,nk:=some (.ofNat k)}) (w0 (ifb a 1 0) (ifb b 1 0))
noncomputable def aP(q:Nat->So)(l0 l1:Bool):Option OT:=some (.lst (ifb l0 (P9 q 0) (ifb l1 (P9 q 1) [])))
noncomputable def bP(q:Nat->So)(l0 l1:Bool):Option OT:=some (.lst (ifb l0 (ifb l1 (P9 q 1) []) []))
noncomputable def hiP(d:Nat->So):List (Option OT):=[some (.ns []),some (.cell (.t (.n 260))),some (.cell (.t (.n 78))),some (.cell (.o none)),some (.six d),none,none]
noncomputable def dsN(x:S)(i:Nat)(k:Str):Nat:=M0 (ofO (obd (obd (x.get i) b2u) fun es=>obd (lk es k) id) .none)
noncomputable def rngN(k:Nat)(a:Nat):List Nat:=o4 (motive:=fun _=>Nat->List Nat) (fun _=>[]) (fun _ ih a=>a::ih (Q0 a)) k a
noncomputable def repD(n:Nat):List Nat:=o4 (motive:=fun _=>List Nat) [] (fun _ ih=>1000000::ih) n
noncomputable def plP(ne:Nat)(l0 l1:Bool)(x:S):List Nat:=(fun d R=>(fun T=>[0,1,2,3,4,5,6,7,8,9,10,11,12,ifb l0 (w0 289 d) (ifb l1 (w0 296 d) (w0 274 d)),ifb (ifb l0 l1 false) (w0 296 d) (w0 276 d),w0 304 d,dsN x T b3e,T]++(rngN 9 18++(R::(rngN 27 28++([1000000,1000000,57,58,1000000,1000000,O5 x 73 3,62,63,64,65,1000000,1000000,68,69,1000000,1000000,O5 x 73 4,73,74,75,76,77,78]++(repD 177++[256,257,258,259,260,1000000,262])))))) (dsN x R a8z)) (C1 2 (A2 ne 1)) (O5 x 73 10)
noncomputable def tP(p:Pm)(q d:Nat->So)(l0 l1:Bool):List (Option OT):=E7 (pP p q l0 l1) (aP q l0 l1) (bP q l0 l1) (some (.lst [])) (hiP d)
noncomputable def resP(p:Pm)(ne:Nat)(q d:Nat->So)(l0 l1:Bool)(l:List Stmt)(e:AE)(x:S):Res FL:=(fun PL=>.same (.sl l) (.sl a88) <| .same (.ae e) (.ae (eB.at (nthD PL))) <| .same (.oo (b8 (tP p q d l0 l1) PL x)) (.oo (vals (nthD PL) (tP p q d l0 l1))) <| .same (.bo (apD PL)) (.bo true) <| .ok (.ret (.bool true)) (K5 x.n)) (plP ne l0 l1 x)
noncomputable def seP(p:Pm)(ne:Nat)(q d:Nat->So)(l0 l1:Bool):a2p:=⟨C7 a88,fun l e x=>some (resP p ne q d l0 l1 l e x)⟩
noncomputable def putC(p:Pm)(q:Nat->So)(l0 l1:Bool)(hs:List a2p):CT:=ctT (a7 (Lo p)) (ctH (a7 (Lo p)) (ctG (Lo p) [a7m p,a7n p,q8 p 633 q] [] [⟨c2z,mSrt 263⟩,⟨dcE,mDc⟩]) ⟨[enRf p.ne q,enOb p.ne],[],[],hs⟩) [enNe ne1 false q l0 l1,enNe ne2 true q l0 l1]
noncomputable def runP(p:Pm)(q d h:Nat->So)(v:V)(l0 l1:Bool)(ne w:Nat):Res FL:=(fun p=>(hk 304 (putC p q l0 l1 [seP p ne q d l0 l1]) 332).sts E9 eB (X (Lo p) (hiE (.int (.ofNat w)) v d h))) {p with ne:=ne}
noncomputable def sdP(s:Bool)(p:Pm)(q d h:Nat->So)(v:V)(l0 l1:Bool)(w ne:Nat):List Sd:=(runP p q d h v l0 l1 ne w).side s (fun f _=>[.vs (ifb s (flS f) (flS (.ret (.bool true))))]) [] []
noncomputable def tf:List Bool:=[true,false]
noncomputable def B7(s:Bool)(p:Pm)(q d h:Nat->So)(v:V)(w ne:Nat):List (List (List Sd)):=mapL (fun l0=>mapL (fun l1=>sdP s p q d h v l0 l1 w ne) tf) tf
theorem d5s(p:Pm)(q d h:Nat->So)(v:V):B7 true p q d h v 2 1=B7 false p q d h v 2 1:=by kernel_rfl
theorem d5t(p:Pm)(q d h:Nat->So)(v:V):B7 true p q d h v 2 2=B7 false p q d h v 2 2:=by kernel_rfl
theorem d5u(p:Pm)(q d h:Nat->So)(v:V):B7 true p q d h v 2 3=B7 false p q d h v 2 3:=by kernel_rfl
theorem d5v(p:Pm)(q d h:Nat->So)(v:V):B7 true p q d h v 3 1=B7 false p q d h v 3 1:=by kernel_rfl
theorem d5w(p:Pm)(q d h:Nat->So)(v:V):B7 true p q d h v 3 2=B7 false p q d h v 3 2:=by kernel_rfl
theorem d5x(p:Pm)(q d h:Nat->So)(v:V):B7 true p q d h v 3 3=B7 false p q d h v 3 3:=by kernel_rfl
theorem b5w(o:Option V):cV (W3 o)=Z4 o:=by cases o <;>rfl
theorem c03(q:Nat->So)(pg:Nat):mapL cV (A8 q pg)=P9 q pg:=by
 have go:∀a b c:So,mapL cV (ifb (isS c) [W3 a.o,W3 b.o,W3 c.o] (ifb (isS b) [W3 a.o,W3 b.o] (ifb (isS a) [W3 a.o] [])))=ifb (isS c) [Z4 a.o,Z4 b.o,Z4 c.o] (ifb (isS b) [Z4 a.o,Z4 b.o] (ifb (isS a) [Z4 a.o] [])):=fun a b c=>by
  refine rF (b5w ..) (rF (b5w ..) (rF (b5w ..) ?_));cases isS c with
  |true=>rfl
  |false=>cases isS b with|true=>rfl|false=>cases isS a <;>rfl
 exact go _ _ _
theorem aP_eq(p:Pm)(q:Nat->So)(a b:Bool):B0 md (a62 (pP p q a b))=B0 idN (aP q a b):=by
 show some (O.list (D7 (mapL cV (ifb a (A8 q 0) (ifb b (A8 q 1) [])))))=some (O.list (D7 (ifb a (P9 q 0) (ifb b (P9 q 1) []))));cases a with
 |true=>show some (O.list (D7 (mapL cV (A8 q 0))))=_;refine rE (c03 ..) ?_;rfl
 |false=>cases b with|true=>show some (O.list (D7 (mapL cV (A8 q 1))))=_;refine rE (c03 ..) ?_;rfl|false=>rfl
theorem bP_eq(p:Pm)(q:Nat->So)(a b:Bool):B0 md (a63 (pP p q a b))=B0 idN (bP q a b):=by
 show some (O.list (D7 (mapL cV (ifb a (ifb b (A8 q 1) []) []))))=some (O.list (D7 (ifb a (ifb b (P9 q 1) []) [])));cases a with
 |true=>cases b with|true=>show some (O.list (D7 (mapL cV (A8 q 1))))=_;refine rE (c03 ..) ?_;rfl|false=>rfl
 |false=>rfl
section
variable{p:Pm}{q:Nat->So}
theorem b9g{p':Pm}{s:So}(hn:p'.ne∈[1,2,3])(h:s∈d5 p'.ne):Z5 p' (W3 s.o):=by
 have:∀n∈[1,2,3],∀s∈d5 n,W3 s.o=none∨∃j,(n,j)∈nks/\W3 s.o=krC j:=by
  intro n hn s hs;simp only[O0,G1,or_false] at hn;rcases hn with rfl|rfl|rfl
  ·rcases O0.mp hs with rfl|hs
   ·exact .inl rfl
   ·refine rE (S4.mp hs) ?_;exact .inr ⟨0,by unfold nks;decide,rfl⟩
  ·rcases O0.mp hs with rfl|hs
   ·exact .inl rfl
   rcases O0.mp hs with rfl|hs
   ·exact .inr ⟨0,by unfold nks;decide,rfl⟩
   ·refine rE (S4.mp hs) ?_;exact .inr ⟨1,by unfold nks;decide,rfl⟩
  ·rcases O0.mp hs with rfl|hs
   ·exact .inl rfl
   rcases O0.mp hs with rfl|hs
   ·exact .inr ⟨0,by unfold nks;decide,rfl⟩
   rcases O0.mp hs with rfl|hs
   ·exact .inr ⟨1,by unfold nks;decide,rfl⟩
   ·refine rE (S4.mp hs) ?_;exact .inr ⟨2,by unfold nks;decide,rfl⟩
 rcases this _ hn s h with h| ⟨j,h1,h2⟩
 ·exact .inl h
 ·exact .inr (.inr ⟨j,h1,h2⟩)
theorem d1l{p':Pm}{pg:Nat}(hp:pg < 2)(hn:p'.ne∈[1,2,3])(hq:∀j,j < 6->q j∈d5 p'.ne):(∀c∈A8 q pg,Z5 p' c)/\(A8 q pg).length<=3:=by
 have go:∀a b c:So,Z5 p' (W3 a.o)->Z5 p' (W3 b.o)->Z5 p' (W3 c.o)->(∀d∈ifb (isS c) [W3 a.o,W3 b.o,W3 c.o] (ifb (isS b) [W3 a.o,W3 b.o] (ifb (isS a) [W3 a.o] [])),Z5 p' d)/\(ifb (isS c) [W3 a.o,W3 b.o,W3 c.o] (ifb (isS b) [W3 a.o,W3 b.o] (ifb (isS a) [W3 a.o] []))).length<=3:=fun a b c ha hb hc=>by
  cases isS c with
  |true=>exact ⟨A1 ha (A1 hb (Y0 hc)),i3 3⟩
  |false=>
   cases isS b with
   |true=>exact ⟨A1 ha (Y0 hb),(by decide:2<=3)⟩
   |false=>cases isS a with|true=>exact ⟨Y0 ha,(by decide:1<=3)⟩ |false=>exact ⟨j1,D5 3⟩
 exact go _ _ _ (b9g hn (hq _ (by show 3 * pg < 6;omega))) (b9g hn (hq _ (by show 3 * pg+1 < 6;omega))) (b9g hn (hq _ (by show 3 * pg+2 < 6;omega)))
theorem oktP(hn:p.ne∈[1,2,3])(hq:∀j,j < 6->q j∈d5 p.ne)(a b:Bool):(pP p q a b).Okt:=by
 have h0:=d1l (p':=pP p q a b) (pg:=0) (by decide) hn hq;have h1:=d1l (p':=pP p q a b) (pg:=1) (by decide) hn hq;have nil:(∀c∈([]:List (Option Nat)),Z5 (pP p q a b) c)/\([]:List (Option Nat)).length<=3:=⟨j1,D5 3⟩;have r0:(∀c∈(pP p q a b).r0,Z5 (pP p q a b) c)/\(pP p q a b).r0.length<=3:=by cases a with|true=>exact h0|false=>cases b with|true=>exact h1|false=>exact nil
 have r1:(∀c∈(pP p q a b).r1,Z5 (pP p q a b) c)/\(pP p q a b).r1.length<=3:=by
  cases a with
  |true=>cases b with|true=>exact h1|false=>exact nil
  |false=>exact nil
 exact {
  c0:=r0.1
  c1:=r1.1
  c2:=nil.1
  l0:=r0.2
  l1:=r1.2
  l2:=nil.2
  c:=(by decide:∀a b:Bool,w0 (ifb a 1 0) (ifb b 1 0)<=3) a b
  v0:=by cases a with|true=>exact .inr (.inl ⟨0,(by unfold wcs;decide:∀b:Bool,(0,w0 (ifb true 1 0) (ifb b 1 0))∈wcs) b,rfl⟩) |false=>exact .inl rfl
  v1:=by cases b with|true=>exact .inr (.inl ⟨ifb a 1 0,(by unfold wcs;decide:∀a:Bool,(ifb a 1 0,w0 (ifb a 1 0) (ifb true 1 0))∈wcs) a,rfl⟩) |false=>exact .inl rfl}
end
noncomputable def Pu(k:Nat)(v:V):Prop:=U5 k (E8 v)=true
theorem c47{f:V->Bool}{a:V}{l:List V}(h:f a=true)(k:s7 f l=true):s7 f (a::l)=true:=by
 show ifb (f a) (s7 f l) false=true;refine rE h ?_;exact k
theorem Pu.tup{k:Nat}{l:List V}(h:∀v∈l,Pu k v):Pu (k+1) (.tup l):=by
 show s7 (U5 k) (D7 l)=true;have go:∀l:List V,(∀v∈l,Pu k v)->s7 (U5 k) (D7 l)=true:=fun l=>by
  induction l with
  |nil=>exact fun _=>rfl
  |cons a l ih=>exact fun h=>c47 (h a (.head _)) (ih fun v hv=>h v (.tail _ hv))
 exact go l h
theorem d14:∀ (k:Nat) (v:V),U5 k v=true->U5 (k+1) v=true
 |0,v,h=>T1 h
 |k+1,v,h=>by
  cases v with
  |tup xs=>
   have go:∀l:List V,s7 (U5 k) l=true->s7 (U5 (k+1)) l=true:=fun l=>by
    induction l with
    |nil=>exact fun _=>rfl
    |cons a l ih=>
     intro h;have h:ifb (U5 k a) (s7 (U5 k) l) false=true:=h;cases q:U5 k a with
     |true=>rw[q] at h;exact c47 (d14 k a q) (ih h)
     |false=>rw[q] at h;exact T1 h
   exact go xs h
  |_=>exact h
theorem Pu.up{k:Nat}{v:V}(h:Pu k v):∀n,Pu (k+n) v
 |0=>h
 |n+1=>d14 _ _ (Pu.up h n)
theorem Pu.str{k:Nat}(s:Str):Pu (k+1) (.str s):=rfl
theorem Pu.int{k:Nat}(i:Int):Pu (k+1) (.int i):=rfl
theorem Pu.byt{k:Nat}(b:Array UInt8):Pu (k+1) (.byt b):=rfl
theorem Pu.none{k:Nat}:Pu (k+1) .none:=rfl
theorem Pu.tS{k:Nat}{s:Str}{l:List V}(h:∀v∈l,Pu (k+1) v):Pu (k+2) (tS s l):=.tup fun v hv=>(O0.mp hv).elim (fun e=>e▸.str s) (h v)
theorem Pu.ref{k:Nat}(i:Int):Pu (k+2) (R6 i):=.tS (A1 (.int _) (Y0 (.int _)))
theorem Pu.inT{k:Nat}(n:Nat):Pu (k+2) (u8 n):=.tS (Y0 (.int _))
theorem Pu.nm{k:Nat}(s:Str):Pu (k+2) (a3d s):=.tS (Y0 (.str _))
theorem Pu.ent{k:Nat}{s:Str}{v:V}(h:Pu (k+1) v):Pu (k+2) (ent s v):=.tup (A1 (.str s) (Y0 h))
theorem b2j{α β:Type}{f:α->β}{P:β->Prop}(h:∀a,P (f a)):∀l:List α,∀b∈mapL f l,P b
 | [],b,hb=>absurd hb G1
 |a::l,b,hb=>(O0.mp hb).elim (fun e=>e▸h a) (b2j h l b)
theorem Pu.row{k:Nat}(l:List Nat):Pu (k+3) (Z7 l):=.tS (k:=k+1) (b2j (fun n=>by
 show Pu (k+2) (W1 (a5n n) R6 (Mine.tS tnN []));cases a5n n with
 |none=>exact .tS j1
 |some i=>exact .ref i) l)
theorem Pu.el{k:Nat}(pg:Nat)(ds:List Nat):Pu (k+5) (a4x pg ds):=.tS (k:=k+3) (A1 (.ent (k:=k+2) (.tS (k:=k+1) (b2j (fun d=>.inT (k:=k) d) ds))) (A1 (.ent (k:=k+2) (.ref (k:=k+1) _)) (Y0 (.ent (k:=k+2) (.nm (k:=k+1) _)))))
theorem Pu.way{k:Nat}(w:Nat):Pu (k+6) (a2a w):=by
 by_cases h:w < 15
 ·have:∀w∈l15,U5 (k+6) (E8 (a2a w))=true:=by
   intro w hw;unfold l15 at hw;simp only[O0,G1,or_false] at hw;rcases hw with rfl|rfl|rfl|rfl|rfl|rfl|rfl|rfl|rfl|rfl|rfl|rfl|rfl|rfl|rfl <;>rfl
  exact this w (b25 h)
 ·have:a2a w=.none:=by
   unfold a2a;refine rE (Q6 ..) (rE (b4y (by simp;omega)) ?_);rfl
  refine rE this ?_;exact .none
theorem Pu.hd{k:Nat}(a:Nat)(t:TV):Pu (k+8) (a52 a t):=by
 refine .tup (k:=k+7) fun v hv=>?_;rcases O0.mp hv with rfl|hv
 ·exact .str _
 rcases O0.mp hv with rfl|hv
 ·exact .ent (k:=k+5) (.ref (k:=k+4) 2)
 rcases a4a.mp hv with hv|hv
 ·cases t with
  |no=>exact absurd hv G1
  |dir w=>refine rE (S4.mp hv) ?_;exact .ent (k:=k+5) (.way (k:=k) w)
  |beh=>refine rE (S4.mp hv) ?_;exact .ent (k:=k+5) (.ref (k:=k+4) _)
 ·refine rE (S4.mp hv) ?_;exact .ent (k:=k+5) (.nm (k:=k+4) _)
theorem b40{α:Type}{a:α}:∀ {k:Nat} {l:List α},a∈F2 k l->a∈l
 |0,_,h=>absurd h G1
 |k+1,[],h=>absurd h G1
 |k+1,b::l,h=>(O0.mp h).elim (fun e=>e▸.head _) fun h=>.tail _ (b40 (k:=k) h)
theorem Pu.root{k:Nat}(ne:Nat)(a b c:List Nat):Pu (k+9) (b37 ne a b c):=
 .tS (k:=k+7) (A1 (.ent (k:=k+6) (.tS (k:=k+5) fun v hv=>A1 (.ref (k:=k+4) 20) (A1 (.ref (k:=k+4) 21) (Y0 (.ref (k:=k+4) 22))) v (b40 hv)))
  (A1 (.ent (k:=k+6) (.tS (k:=k+5) (Y0 (.ent (k:=k+4) (.tS (k:=k+3) (A1 (.inT (k:=k+2) 0) (A1 (.row (k:=k+1) a) (A1 (.inT (k:=k+2) 1) (A1 (.row (k:=k+1) b) (A1 (.inT (k:=k+2) 2) (Y0 (.row (k:=k+1) c))))))))))))
  (Y0 (.ent (k:=k+6) (.nm (k:=k+5) _)))))
theorem Pu.vv(ne:Nat)(g:List Nat)(n:Nat):Pu 20 (vvA ne g n):=by
 unfold vvA;have go:∀ (l:List (Nat×V)) (d:V),(∀e∈l,Pu 20 e.2)->Pu 20 d->Pu 20 (b9e l d n):=fun l d=>by
  induction l with
  |nil=>exact fun _ h=>h
  |cons e l ih=>
   intro h hd;show Pu 20 (ifb (o0 n e.1) e.2 (b9e l d n));cases o0 n e.1 with
   |true=>exact h e (.head _)
   |false=>exact ih (fun e he=>h e (.tail _ he)) hd
 have bt:∀b,Pu 20 (bTV b):=fun b=>by cases b with|none=>exact .none (k:=19) |some w=>exact .way (k:=14) w
 exact go _ _ (A1 (show Pu 20 b5z from rfl) (A1 (show Pu 20 b9d from rfl) (A1 (show Pu 20 c36 from rfl) (A1 (.root (k:=11) _ _ _ _) (A1 (.hd (k:=12) _ _) (A1 (.hd (k:=12) _ _) (A1 (bt _) (A1 (bt _) (A1 (.el (k:=15) _ _) (A1 (.el (k:=15) _ _) (Y0 (.el (k:=15) _ _)))))))))))) (.none (k:=19))
theorem e9r(ne:Nat)(g:List Nat):U5 40 (E8 (shA ne g))=true:=by
 have mono:∀v,Pu 20 v->Pu 37 v:=fun v h=>h.up 17;exact Pu.tup (k:=39) (A1 (.tup (k:=38) (b2j (fun n=>.tup (k:=37) (A1 (.int (k:=36) _) (A1 (.int (k:=36) _) (Y0 (mono _ (.vv ne g n)))))) _)) (Y0 (.tS (k:=37) (Y0 (.ent (k:=36) (.ref (k:=35) 1))))))
section
variable{C:Cx}{p:Pm}{q d:Nat->So}{a b:Bool}
theorem okdP(h:p.Okd):(pP p q a b).Okd:=⟨⟨h.ok.ne,h.ok.d0,h.ok.d1,h.ok.d2,h.ok.e1,h.ok.e2⟩,h.g0,h.g1,h.g2,h.d0,h.d1,h.d2⟩
theorem dq_pP:dq (pP p q a b)=dq p:=rfl
theorem c_pP:(pP p q a b).c∈l03:=(by unfold l03;decide:∀a b:Bool,w0 (ifb a 1 0) (ifb b 1 0)∈l03) a b
theorem a8d{l:List V}{PL:List Nat}(h:∀v∈l,v=.none∨∃i,i < 256/\v=.ref i/\nthD PL i=i):v6 PL (.lst l):=by
 refine ⟨_,rfl,?_⟩;induction l with
 |nil=>exact .nil
 |cons v l ih=>
  refine .cons ?_ (ih fun v hv=>h v (.tail _ hv));rcases h v (.head _) with rfl| ⟨i,h1,rfl,h2⟩
  ·exact rfl
  ·have e:O1 i 256=i:=Nat.mod_eq_of_lt h1
   exact ⟨O1 i 256,rfl,by refine rE e ?_;exact h2.symm⟩
theorem c02{PL:List Nat}(h21:nthD PL 21=21)(h23:nthD PL 23=23)(h25:nthD PL 25=25){n:Nat}(hn:n∈[1,2,3])(hq:∀j,j < 6->q j∈d5 n){pg:Nat}(hp:pg < 2):v6 PL (.lst (P9 q pg)):=by
 have one:∀s∈d5 n,Z4 s.o=.none∨∃i,i < 256/\Z4 s.o=.ref i/\nthD PL i=i:=by
  have all:∀s∈[So.no,.int 0,.int 1,.int 2],Z4 s.o=.none∨∃i,i < 256/\Z4 s.o=.ref i/\nthD PL i=i:=A1 (.inl rfl) (A1 (.inr ⟨21,by decide,rfl,h21⟩) (A1 (.inr ⟨23,by decide,rfl,h23⟩) (Y0 (.inr ⟨25,by decide,rfl,h25⟩))));exact fun s hs=>all s (b40 hs)
 have go:∀a b c:So,a∈d5 n->b∈d5 n->c∈d5 n->∀v∈ifb (isS c) [Z4 a.o,Z4 b.o,Z4 c.o] (ifb (isS b) [Z4 a.o,Z4 b.o] (ifb (isS a) [Z4 a.o] [])),v=.none∨∃i,i < 256/\v=.ref i/\nthD PL i=i:=fun a b c ha hb hc=>by
  cases isS c with
  |true=>exact A1 (one _ ha) (A1 (one _ hb) (Y0 (one _ hc)))
  |false=>
   cases isS b with
   |true=>exact A1 (one _ ha) (Y0 (one _ hb))
   |false=>cases isS a with|true=>exact Y0 (one _ ha) |false=>exact j1
 exact a8d (go _ _ _ (hq _ (by show 3 * pg < 6;omega)) (hq _ (by show 3 * pg+1 < 6;omega)) (hq _ (by show 3 * pg+2 < 6;omega)))
end
noncomputable def hiC(d:Nat->So):List (Option OT):=[some (.ns []),some (.cell (.t (.n 4))),some (.cell (.t (.v (.ref 78)))),some (.cell (.o none)),some (.six d),none,none]
theorem e1l(d:Nat->So):vals T3 (hiC d)=vals idN (hiP d):=by kernel_rfl
theorem e1m{d:Nat->So}(hd:j2 d)(PL:List Nat):∀ (i:Nat) (t:OT),(hiP d)[i]? =some (some t)->v6 PL t
 |0,t,e=>by cases e;exact U6.told (fun r=>rfl) PL
 |1,t,e=>by cases e;exact U6.told (fun r=>rfl) PL
 |2,t,e=>by cases e;exact U6.told (fun r=>rfl) PL
 |3,t,e=>by cases e;exact U6.told (fun r=>rfl) PL
 |4,t,e=>by cases e;exact hd.told PL
 |5,t,e=>by cases e
 |6,t,e=>by cases e
 |i+7,t,e=>by cases e
section
variable{p:Pm}{q d:Nat->So}{ne:Nat}{a b:Bool}{x:S}
theorem a0h:nthD (plP ne a b x) 21=21/\nthD (plP ne a b x) 23=23/\nthD (plP ne a b x) 25=25:=⟨rfl,rfl,rfl⟩
theorem stP(hn:p.ne∈l13)(hd:j2 d)(hq:∀j,j < 6->q j∈d5 p.ne):a2q (pP p q a b) (aP q a b) (bP q a b) (some (.lst [])) (hiC d) (hiP d) (plP ne a b x) where
 kn:=hn
 kc:=c_pP
 ra:=aP_eq p q a b
 rb:=bP_eq p q a b
 rc:=rfl
 ta t e:=by
  cases e;have r0:=c02 (q:=q) (a0h (ne:=ne) (a:=a) (b:=b) (x:=x)).1 a0h.2.1 a0h.2.2 hn hq (pg:=0) (by decide);have r1:=c02 (q:=q) (a0h (ne:=ne) (a:=a) (b:=b) (x:=x)).1 a0h.2.1 a0h.2.2 hn hq (pg:=1) (by decide);cases a with
  |true=>exact r0
  |false=>cases b with|true=>exact r1|false=>exact a8d j1
 tb t e:=by
  cases e;have r1:=c02 (q:=q) (a0h (ne:=ne) (a:=a) (b:=b) (x:=x)).1 a0h.2.1 a0h.2.2 hn hq (pg:=1) (by decide);cases a with
  |true=>cases b with|true=>exact r1|false=>exact a8d j1
  |false=>exact a8d j1
 tc t e:=by cases e;exact a8d j1
 hh:=e1l d
 th:=e1m hd _
 len:=rfl
 lt:=rfl
 few:=(by decide:7 < 1000)
end
noncomputable def ce48:Expr:=ceP false ⟨548,45,548,49⟩ ⟨0,0,0,0⟩ ⟨0,0,0,0⟩ ⟨548,69,548,73⟩ ⟨548,74,548,75⟩ ⟨548,69,548,76⟩ ⟨548,80,548,84⟩ ⟨548,69,548,84⟩ ⟨548,54,548,58⟩ ⟨548,44,548,85⟩ (.Name U4 ⟨548,62,548,65⟩)
noncomputable def xe48(D:Nat->So):a15:=⟨ce48,fun e x=>some (a8q D e x fun pg x=>.ask (w8 (O7 D pg)) fun k=>.ok (.ref x.n) (x.new (.list (C9 false D pg k))))⟩
noncomputable def cC(p:Pm)(D:Nat->So):CT:=ctG (Lo p) [q8 p 672 D,c6p []] [] [xe48 D]
noncomputable def runC(p:Pm)(q D:Nat->So)(a b:Bool):Res FL:=(hk 290 (cC (pP p q a b) D) 304).sts a88 eB (X (Lo (pP p q a b)) (hiC D))
noncomputable def sdC(s:Bool)(p:Pm)(q D:Nat->So)(k0 k1:Nat):List Sd:=(runC p q D (neB D 0) (neB D 1)).side s (fun v _=>[.vs (ifb s (flS v) (flS (.ret (.bool true))))]) [w8 (O7 D 0),w8 (O7 D 1)] [k0,k1]
theorem C_run(p:Pm)(q D:Nat->So)(n:Nat->Int)(k0 k1:Nat):mapL (fun a=>mapL (fun b=>mapL (fun c=>mapL (fun d=>mapL (fun e=>mapL (fun f=>sdC true p q (a60 D a b c d e f) k0 k1) (O3 (n 5))) (O3 (n 4))) (O3 (n 3))) (O3 (n 2))) (O3 (n 1))) (O3 (n 0))=mapL (fun a=>mapL (fun b=>mapL (fun c=>mapL (fun d=>mapL (fun e=>mapL (fun f=>sdC false p q (a60 D a b c d e f) k0 k1) (O3 (n 5))) (O3 (n 4))) (O3 (n 3))) (O3 (n 2))) (O3 (n 1))) (O3 (n 0)):=by kernel_rfl
section
variable{C:Cx}{ne:Nat}{p:Pm}{q D:Nat->So}{a b:Bool}
theorem d4b(Dr:V0 C)(hn:p.ne∈[1,2,3])(hq:∀j,j < 6->q j∈d5 p.ne)(h:at6 (tq2 (pP p q a b))=at6 D):Y4 C 240 (Lo (pP p q a b)) (q8 (pP p q a b) 672 D):=.of (d35 h (d4a (p:=pP p q a b) Dr (oktP hn hq a b) [] (K5 0) _ rfl))
end
noncomputable def dP(s:So):So:=K0 (motive:=fun _=>So) .no (fun v=>.int (.ofNat (w0 20 (D4 v)))) s.o
noncomputable def w7:List So:=[.no,.int 0,.int 1,.int 2]
theorem f10(p:Pm)(q:Nat->So):mapL (fun b=>mapL (fun x=>mapL (fun y=>mapL (fun z=>at6 (tq1 (pP p (qP q 0 x y z) (neB (qP q 0 x y z) 0) b))) w7) w7) w7) tf=mapL (fun b=>mapL (fun x=>mapL (fun y=>mapL (fun z=>at6 (qP noQ 0 (dP x) (dP y) (dP z))) w7) w7) w7) tf:=by kernel_rfl
noncomputable def t2Of(P:Pm)(Q:Nat->So):Nat->So:=d9 P 1 (rowO P 1) 0 Q
theorem f12(p:Pm)(q Q:Nat->So):mapL (fun a=>mapL (fun x=>mapL (fun y=>mapL (fun z=>at6 (t2Of (pP p (qP q 1 x y z) a (neB (qP q 1 x y z) 1)) (qP Q 1 .no .no .no))) w7) w7) w7) tf=mapL (fun a=>mapL (fun x=>mapL (fun y=>mapL (fun z=>at6 (qP Q 1 (dP x) (dP y) (dP z))) w7) w7) w7) tf:=by kernel_rfl
section
variable{p:Pm}{q D:Nat->So}{n:Nat}
theorem dP_eq{a b:So}(h:DR1 n a b):b=dP a:=by
 rcases h with ⟨h1,h2⟩ | ⟨k,_,h1,h2⟩
 ·exact So.ext (h2.trans (by unfold dP;refine rE h1 ?_;rfl))
 ·exact So.ext (h2.trans (by unfold dP;refine rE h1 ?_;rfl))
theorem DR.eq(h:DR n q D):D=fun j=>dP (q j):=funext fun j=>dP_eq (h j)
theorem e62{s:So}(h:s∈d5 n):s∈w7:=b40 h
theorem b9p{Q:Nat->So}{pg:Nat}{a b c:So}:∀j,j < 6->qP Q pg a b c j=if j=3 * pg then a else if j=3 * pg+1 then b else if j=3 * pg+2 then c else Q j:=fun j _=>by
 show ifb (o0 j (3 * pg)) a (ifb (o0 j (3 * pg+1)) b (ifb (o0 j (3 * pg+2)) c (Q j)))=_;cases h1:o0 j (3 * pg) with
 |true=>refine rE (if_pos (V1 h1)) ?_;rfl
 |false=>
  refine rE (if_neg (I7 h1)) ?_;cases h2:o0 j (3 * pg+1) with
  |true=>refine rE (if_pos (V1 h2)) ?_;rfl
  |false=>
   refine rE (if_neg (I7 h2)) ?_;cases h3:o0 j (3 * pg+2) with
   |true=>refine rE (if_pos (V1 h3)) ?_;rfl
   |false=>refine rE (if_neg (I7 h3)) ?_;rfl
theorem d30{P:Pm}{a:Nat}:∀ {l:List (Option Nat)} {i:Nat} {Q Q':Nat->So},(∀j,j < 6->Q j=Q' j)->∀j,j < 6->d9 P a l i Q j=d9 P a l i Q' j
 | [],_,_,_,h=>h
 |c::l,i,Q,Q',h=>d30 (l:=l) (i:=Q0 i) fun j hj=>by
  show ifb (o0 j (slot a i)) (W1 (cN P c) So.int (Q j)) (Q j)=ifb (o0 j (slot a i)) (W1 (cN P c) So.int (Q' j)) (Q' j);exact rE (h j hj) rfl
theorem d6i{Q Q':Nat->So}(h:∀j,j < 6->Q j=Q' j):at6 Q=at6 Q':=by
 unfold at6 S7;show [(Q 0).o,(Q 1).o,(Q 2).o,(Q 3).o,(Q 4).o,(Q 5).o]=[(Q' 0).o,(Q' 1).o,(Q' 2).o,(Q' 3).o,(Q' 4).o,(Q' 5).o];exact rE (h 0 (by decide)) (rE (h 1 (by decide)) (rE (h 2 (by decide)) (rE (h 3 (by decide)) (rE (h 4 (by decide)) (rE (h 5 (by decide)) rfl)))))
theorem b42(b:Bool):b∈tf:=by cases b <;>(unfold tf;decide)
theorem d49(h:DR n q D)(hq:∀j,j < 6->q j∈d5 p.ne):at6 (tq2 (pP p q (neB q 0) (neB q 1)))=at6 D:=by
 have m:∀j,j < 6->q j∈w7:=fun j hj=>e62 (hq j hj);have r1:=y0 (y0 (y0 (y0 (f10 p q) _ (b42 (neB q 1))) _ (m 0 (by decide))) _ (m 1 (by decide))) _ (m 2 (by decide));have i0:qP q 0 (q 0) (q 1) (q 2)=q:=b32 (q:=q) (pg:=0);rw[i0] at r1;have e1:=b5r r1;have r2:=y0 (y0 (y0 (y0 (f12 p q (tq1 (pP p q (neB q 0) (neB q 1)))) _ (b42 (neB q 0))) _ (m 3 (by decide))) _ (m 4 (by decide))) _ (m 5 (by decide));have i1:qP q 1 (q 3) (q 4) (q 5)=q:=b32 (q:=q) (pg:=1);rw[i1] at r2;have e2:=b5r r2;refine d6i fun j hj=>?_;have z:∀j,j < 6->tq1 (pP p q (neB q 0) (neB q 1)) j=qP (tq1 (pP p q (neB q 0) (neB q 1))) 1 .no .no .no j:=fun j hj=>by
  refine rE (b9p j hj) (rE (e1 j hj) (rE (b9p j hj) ?_))
  match j,hj with
  |0,_=>rfl
  |1,_=>rfl
  |2,_=>rfl
  |3,_=>rfl
  |4,_=>rfl
  |5,_=>rfl
 refine rE h.eq ?_;refine (d30 z j hj).trans ((e2 j hj).trans ?_);refine rE (b9p j hj) ?_
 match j,hj with
 |0,_=>exact e1 0 (by decide)
 |1,_=>exact e1 1 (by decide)
 |2,_=>exact e1 2 (by decide)
 |3,_=>rfl
 |4,_=>rfl
 |5,_=>rfl
end
section
open PySem.W.Z (eqB)
section
variable{C:Cx}{n:Nat}{p:Pm}{q D:Nat->So}
theorem DR.pat(h:DR n q D)(hn:n∈l13):∀j,q j∈d5 n:=fun j=>by
 have all:∀n∈[1,2,3],∀k,k < n->So.int (.ofNat k)∈d5 n:=by
  intro n hn k hk;simp only[O0,G1,or_false] at hn;rcases hn with rfl|rfl|rfl
  ·obtain rfl:k=0:=by omega
   exact .tail _ (.head _)
  ·obtain rfl|rfl:k=0∨k=1:=by omega
   ·exact .tail _ (.head _)
   ·exact .tail _ (.tail _ (.head _))
  ·obtain rfl|rfl|rfl:k=0∨k=1∨k=2:=by omega
   ·exact .tail _ (.head _)
   ·exact .tail _ (.tail _ (.head _))
   ·exact .tail _ (.tail _ (.tail _ (.head _)))
 rcases h j with ⟨h1,_⟩ | ⟨k,hk,h1,_⟩
 ·refine rE (show q j=.no from So.ext h1) ?_
  exact B3 ..
 ·refine rE (show q j=.int (.ofNat k) from So.ext h1) ?_
  exact all n hn k hk
theorem DR.intq(h:DR n q D):j2 q:=fun j=>(h j).elim (fun e=>.inl e.1) fun zz=>R0 zz fun k _ e _=>.inr ⟨_,e⟩
theorem DR.intD(h:DR n q D):j2 D:=fun j=>(h j).elim (fun e=>.inl e.2) fun zz=>R0 zz fun k _ _ e=>.inr ⟨_,e⟩
theorem DR.tq(h:DR n q D)(hn:n<=3):TQ D:=fun j=>by
 unfold F8;rcases h j with ⟨_,h1⟩ | ⟨k,hk,_,h1⟩
 ·refine rE (show D j=.no from So.ext h1) ?_
  exact .head _
 ·refine rE (show D j=.int (.ofNat (20+k)) from So.ext h1) ?_
  obtain rfl|rfl|rfl:k=0∨k=1∨k=2:=by omega
  ·exact .tail _ (.head _)
  ·exact .tail _ (.tail _ (.head _))
  ·exact .tail _ (.tail _ (.tail _ (.head _)))
theorem e58(o:Option V):nwB o o=false:=by
 unfold nwB;have:∀i:Int,eqB i i=true:=fun i=>(PySem.W.Z.eqB_iff i i).mpr rfl;refine rE (this ..) ?_;rfl
theorem e5a(D:Nat->So):y8 (nwL D D) 0=[]:=by
 unfold nwL S7;show y8 [nwB (D 0).o (D 0).o,nwB (D 1).o (D 1).o,nwB (D 2).o (D 2).o,nwB (D 3).o (D 3).o,nwB (D 4).o (D 4).o,nwB (D 5).o (D 5).o] 0=[];simp only[e58];rfl
theorem e2d(h:DR n q D)(j:Nat):isS (D j)=isS (q j):=by
 unfold isS;rcases h j with ⟨h1,h2⟩ | ⟨k,_,h1,h2⟩ <;>rw[h1,h2] <;>rfl
theorem d04(h:DR n q D)(pg:Nat):neB D pg=neB q pg:=by
 unfold neB;simp only[e2d h]
theorem e0p(Dr:V0 C)(G:p.Okd)(h:DR p.ne (dq p) D):CtOk C 285 (Lo (pP p (dq p) (neB (dq p) 0) (neB (dq p) 1))) (ctR 679 [sh] (.n 0) [some (.lst [])]):=by
 have hn:=G.ok.ne;have T:=h.tq (b24 hn);have hq:∀j,j < 6->dq p j∈d5 p.ne:=fun j _=>h.pat hn j;have G':(pP p (dq p) (neB (dq p) 0) (neB (dq p) 1)).Okd:=okdP G;have r:=c7g (p:=pP p (dq p) (neB (dq p) 0) (neB (dq p) 1)) (d:=dq p) (t:=D) Dr G'.ok (h.six hn T) (c7m _ _) (b6u Dr G') (d4b Dr hn hq (d49 h hq)) (d4v (c7n _ _));have e:(a39 (pP p (dq p) (neB (dq p) 0) (neB (dq p) 1)) (dq p) D (flF (dq p) D)).t=ctR 679 [sh] (.n 0) [some (.lst [])]:=by
  unfold a39;exact rE (d5c (b24 hn) h T) (rE (e5a ..) rfl)
 exact e▸r
theorem e8b(Dr:V0 C)(G:p.Okd)(h:DR p.ne (dq p) D):((runC p (dq p) D (neB (dq p) 0) (neB (dq p) 1)).All fun f _=>f=.ret (.bool true))/\∀ {A:Around} {σ:St C} {env:Env},F0 304 A->σ.x=X (Lo (pP p (dq p) (neB (dq p) 0) (neB (dq p) 1))) (hiC D)->Er σ eB env->GoR A (execs a88 env) σ Fr (runC p (dq p) D (neB (dq p) 0) (neB (dq p) 1)):=by
 have hn:=G.ok.ne;have hq:∀j,j < 6->dq p j∈d5 p.ne:=fun j _=>h.pat hn j;constructor
 ·obtain ⟨n,hm⟩:=h.intD.two
  refine Res.All_mono (fun f x e=>?_) (Res.side_all (f:=fun _ f _=>[.vs (flS f)]) (g:=fun _ _ _=>[.vs (flS (.ret (.bool true)))]) (runC p (dq p) D (neB (dq p) 0) (neB (dq p) 1)) [] [w8 (O7 D 0),w8 (O7 D 1)] fun ds hd=>?_)
  ·obtain ⟨_,_,e⟩:=e
   exact a7w (Sd.vs.inj (Z0 e).1)
  ·match ds,hd with
   | [k0,k1],_=>
    have run:=y0 (y0 (y0 (y0 (y0 (y0 (C_run p (dq p) D n k0 k1) _ (hm 0)) _ (hm 1)) _ (hm 2)) _ (hm 3)) _ (hm 4)) _ (hm 5);rw[d2u] at run;unfold sdC at run;rw[d04 h,d04 h] at run;exact run
 ·intro A σ env rm hx He
  have CY:Y3 C 290 (cC (pP p (dq p) (neB (dq p) 0) (neB (dq p) 1)) D):=i6 (A1 ((d4b Dr hn hq (d49 h hq)).mono (by decide)) (Y0 (Y4.mono (.of (e0p Dr G h)) (by decide)))) j1 (Y0 e61);have:=(f7 CY Dr 304).sts rm He a88;rw[hx] at this;exact this
end
end
section
variable{C:Cx}{p:Pm}{D H:Nat->So}{b:V}
theorem e9c(Dr:V0 C)(G:p.Okd)(h:DR p.ne (dq p) D):SOk C 304 (seP p p.ne (dq p) D (neB (dq p) 0) (neB (dq p) 1)):=fun {A σ e env l} rm He r hr=>by
 cases hr;intro Q E z;refine Q5 z fun e1 e2 e3 zz=>?_;clear z;obtain ⟨e4,z⟩:=zz;rw[Sd.ae.inj e2] at He;refine rE (Sd.sl.inj e1) ?_;obtain ⟨hr,hgo⟩:=e8b Dr G h;exact (stP G.ok.ne h.intD (fun j _=>h.pat G.ok.ne j)).go (Sd.oo.inj e3) (Sd.bo.inj e4) (fun D'=>hgo (σ:=⟨σ.s,_,_,D'⟩) rm rfl (He.moved (by show 262 < (X _ _).n;refine rE X_n ?_;exact (by decide:262 < 256+7)))) hr (fun _ _ _ h=>h) Q E z
theorem e76(Dr:V0 C)(L:a0w C)(G:p.Okd)(h:DR p.ne (dq p) D):Y3 C 304 (putC p (dq p) (neB (dq p) 0) (neB (dq p) 1) [seP p p.ne (dq p) D (neB (dq p) 0) (neB (dq p) 1)]):=
 have hq:∀j,j < 6->dq p j∈d5 p.ne:=fun j _=>h.pat G.ok.ne j
 b6l (A1 ((c6r Dr (H4 p).cut h.intq fun v=>.head _).mono (by decide)) (Y0 ((c6r Dr (H4 p).cut h.intq fun v=>.tail _ (.head _)).mono (by decide))))
  (a09 ⟨A1 ((d9v Dr G.ok hq).mono (by decide)) (Y0 ((d9t Dr G.ok).mono (by decide))),j1,j1,Y0 (e9c Dr G h)⟩
   (i6 (A1 ((b13 Dr G.ok).mono (by decide)) (A1 ((b9c Dr).mono (by decide)) (Y0 ((b6u Dr G).mono (by decide))))) j1 (A1 (fun {A σ e env} rm=>f0a L (rm.mono (by decide))) (Y0 dc_ok))))
theorem e79(Dr:V0 C)(L:a0w C)(G:p.Okd)(h:DR p.ne (dq p) D){w:Nat}(hw:w=2∨w=3):∃r:Res FL,(r.All fun f _=>f=.ret (.bool true))/\∀ {A:Around} {σ:St C} {env:Env},F0 332 A->σ.x=X (Lo p) (hiE (.int (.ofNat w)) b D H)->Er σ eB env->GoR A (execs E9 env) σ Fr r:=by
 have hn:=G.ok.ne;refine ⟨runP p (dq p) D H b (neB (dq p) 0) (neB (dq p) 1) p.ne w,?_,fun {A σ env} rm hx He=>?_⟩
 ·have all:B7 true p (dq p) D H b w p.ne=B7 false p (dq p) D H b w p.ne:=by
   generalize p.ne=n at hn;simp only[O0,G1,or_false] at hn;rcases hw with rfl|rfl <;>rcases hn with rfl|rfl|rfl
   ·exact d5s ..
   ·exact d5t ..
   ·exact d5u ..
   ·exact d5v ..
   ·exact d5w ..
   ·exact d5x ..
  have run:=y0 (y0 all _ (b42 (neB (dq p) 0))) _ (b42 (neB (dq p) 1));exact Res.All_mono (fun f x e=>a7w (Sd.vs.inj (Z0 e).1)) (Res.side_one (f:=fun f _=>[.vs (flS f)]) (g:=fun _ _=>[.vs (flS (.ret (.bool true)))]) run)
 ·have:=(f7 (e76 Dr L G h) Dr 332).sts rm He E9
  rw[hx] at this;exact this
end
noncomputable def b82:List Stmt:=toL 543 R8
theorem e38:R8=b82++E9:=by kernel_rfl
noncomputable def L8:List Nat:=[256,257,258,259,260,261,262,263]
noncomputable def L7:List Nat:=[256,257,258,259,260,261,262]
noncomputable def uE(v b:V)(D h:Nat->So):List OT:=[.ns [(C8,.v v),(R9,.n 5),(a1y,.v b)],.cell (.t (.n 4)),.cell (.t (.v (.ref 78))),.cell (.o none),.six D,.six h,.hole,.code 7]
noncomputable def tE(v b:V)(D h:Nat->So):CtD:=⟨.sts E9 e7,uE v b D h,[],fun _=>.nx,fun _=>[],0,fun _=>[]⟩
noncomputable def enT(T:Expr)(v:V)(D t:Nat->So):Q4:=⟨c7 T,fun _ _=>some (a2x T v D t),fun _ _=>L7⟩
noncomputable def enSh(b:V):Q4:=⟨367,fun _ _=>some (ctSh b),noL⟩
noncomputable def c5p(p:Pm)(v b:V)(D t:Nat->So):CT:=ctT (Lo p) (ctH (Lo p) ct0 ⟨[enSh b],[],[],[]⟩) [enT T1a v D t,enT T1b v D t]
noncomputable def midR(p:Pm)(v b:V)(D t:Nat->So):Res FL:=(hk 295 (c5p p v b D t) 305).sts b82 eB (X (Lo p) (hiB v D t))
noncomputable def resM(p:Pm)(v b:V)(D t:Nat->So)(x:S):Res FL:=a1f (Lo p) (tE v b D t) L8 x.n x (.ok (.ret (.bool true)) (K5 x.n))
noncomputable def d1w(p:Pm)(v b:V)(D t:Nat->So):Res FL:=seqF (midR p v b D t) (resM p v b D t)
noncomputable def d2m(s:Bool)(p:Pm)(v b:V)(D t:Nat->So):List Sd:=(d1w p v b D t).side s (fun f _=>[.vs (ifb s (flS f) (flS (.ret (.bool true))))]) [] []
theorem M_run(p:Pm)(v b:V)(D t:Nat->So):d2m true p v b D t=d2m false p v b D t:=by kernel_rfl
theorem e7_8:e7.at (nthD L8)=eB:=by kernel_rfl
theorem d94:e7.at T3=eB:=by kernel_rfl
theorem d4u(p:Pm)(v b:V)(D h:Nat->So):X (Lo p) (W2 (uE v b D h) [])=X (Lo p) (hiE v b D h):=by kernel_rfl
section
variable{C:Cx}{A:Around}{σ:St C}
theorem e9q{α β:Type}{t:Sem α}{R:St C->β->α->Prop}{lo:B}{us₀:List OT}{L:List Nat}(LK:C5 lo)(F:G6 lo us₀ L σ.x){r:Res β}{b:β}(go:GoR A t ⟨σ.s,fun i=>σ.ρ (plc L i),X lo (W2 us₀ []),F.shrink LK σ.D⟩ R r)(hr:r.All fun f _=>f=b)(hR:∀ (τ υ:St C) v,R τ b v->R υ b v):GoR A t σ R (.ok b (K5 σ.x.n)):=by
 intro Q E z;refine go Q E (Res.All_mono (fun f x e v τ hτ X r=>?_) hr);subst e;have z:A0 σ R Q f (K5 σ.x.n):=z;have D2:At C σ.ρ (K5 σ.x.n) τ.h:=τ.D.dead σ.D.room;refine z v ⟨τ.s,σ.ρ,K5 σ.x.n,D2⟩ rfl ⟨⟨fun i hi=>rfl,i3 _,fun i _ zx=>ye zx fun o e=>(by rw[a0a] at e;cases e),fun i _ zy=>ye zy fun o e=>(by rw[a0a] at e;cases e),fun b o hb e=>X.X.keep b o (fun i hi zz=>ye zz fun o' q=>?_) e,X.X.tups,X.X.tab⟩,X.e⟩ (hR _ _ _ r);refine l7 (F.small LK q) fun _ _ oc g1 _=>?_;exact hb _ (σ.D.lt g1) ⟨_,g1⟩
noncomputable def RunE(C:Cx):Prop:=∀ (ne:Nat) (g:List Nat),ne∈l13->∃r:Res FL,(r.All fun f _=>f=.ret (.bool true))/\∀ {A:Around} {σ:St C} {env:Env},F0 332 A->A.frames=some [env]->σ.x=X (Lo (pA ne g)) (hiE (y5 ne g) (shA ne g) (L5 ne g) (heldA ne g))->Er σ eB env->GoR A (execs E9 env) σ Fr r
theorem e89(Dr:V0 C)(hE:RunE C):RunB C:=fun ne g hn=>by
 refine ⟨d1w (pA ne g) (y5 ne g) (shA ne g) (L5 ne g) (heldA ne g),Res.All_mono (fun f x e=>a7w (Sd.vs.inj (Z0 e).1)) (Res.side_one (f:=fun f _=>[.vs (flS f)]) (g:=fun _ _=>[.vs (flS (.ret (.bool true)))]) (M_run (pA ne g) (y5 ne g) (shA ne g) (L5 ne g) (heldA ne g))),fun {A σ env} rm hf hx He=>?_⟩;have CY:Y3 C 295 (c5p (pA ne g) (y5 ne g) (shA ne g) (L5 ne g) (heldA ne g)):=
  b6l (A1 (.of ((ta_ok Dr (j2.heldA ne g) (d48 Dr)).mono (by decide))) (Y0 (.of (tb_ok Dr hn _)))) (a09 ⟨Y0 (.of ((d2z Dr hn).mono (by decide))),j1,j1,j1⟩ A3)
 refine rE e38 ?_;have mid:=(f7 CY Dr 305).sts (σ:=σ) (rm.mono (by decide)) He b82;rw[hx] at mid;refine d2p mid fun τ Y=>?_;intro Q E z;refine yaa (a50 (x:=τ.x) z) fun F _ z=>?_;refine yea (hE ne g hn) fun r hr hgo=>?_;have He':=Y.env He;refine e9q (H4 _) F (hgo rm hf (d4u ..) ?_) hr (fun _ _ _ h=>h) Q E z;have hplc:∀i,τ.ρ (nthD L8 i)=(fun i=>τ.ρ (plc L8 i)) (T3 i):=fun i=>congrArg τ.ρ (z8 i).symm;have hn:(X (Lo (pA ne g)) (W2 (uE (y5 ne g) (shA ne g) (L5 ne g) (heldA ne g)) [])).n=256+8:=X_n.trans (congrArg (256+·) (a0m _));rw[<-e7_8] at He';refine rF d94 ?_;exact ⟨He'.1.trans (AE.at_env hplc),AE.small He'.2 fun i hi=>by
  show T3 i < (X (Lo (pA ne g)) (W2 (uE (y5 ne g) (shA ne g) (L5 ne g) (heldA ne g)) [])).n;refine rE hn ?_;exact n9 (show i < L8.length from a1r (i4 hi τ.D.room)) 256⟩
end
theorem a2z(X:String)(C:Addr):(O2 C::M5).contains (.type X)=[Value.type "Exception",.type "BaseException",.type "object"].contains (.type X):=by
 unfold M5;rw[List.contains_cons,List.contains_cons];rfl
section
variable{M:Model}{A:Around}{E:Value->Shared->Prop}{h:Heap}{g:Array GenState}{d:Drawn}{t:Nat}{os:OsState}
variable{nm q:Str}{C N:Addr}{bs:List Value}{hdct:Bool}{sn:List Str}{sub:List Value}{ab:Bool}{col:Option Bool}{dd:Option Addr}{k0 k1 k2 k3 k5:Option Value}
theorem d7m{rest:List Value}{Q:Unit->Shared->Prop}(hC:h.get? C=some (a7r nm q C N bs M5 hdct sn sub ab col dd k0 k1 k2 k3 k5 "Exception.__new__"))
  (hq:Q () ⟨h,g,d,t,os⟩):wpAny M A (a7c "Exception.__new__" ⟨.ref C::rest,[]⟩) Q E ⟨h,g,d,t,os⟩:=by
 have F:=a4i;have hcont:(O2 C::M5).contains (.type "Exception")=true:=(a2z "Exception" C).trans F.hasB;have hstar:=F.noStar;unfold a7c;refine rE F.newKind (rE F.newSplit ?_);dsimp only
 repeat (first|refine a2b hC ?_| (refine b4f hC ?_;refine rE hcont ?_) |refine wpAny_staticBase_exc hC ?_|refine wpAny_madeBy_exc hC ?_|refine rE (if_neg (by rw[bne_self_eq_false];exact Z2)) ?_|wp_step)
 exact hq
end
section
variable{prog:W6}{w:World}{A:Around}{R:Result->Shared->Prop}{E:Value->Shared->Prop}{h:Heap}{g:Array GenState}{d:Drawn}{t:Nat}{os:OsState}
variable{nm q:Str}{C N:Addr}{bs:List Value}{hdct:Bool}{sn:List Str}{sub:List Value}{ab:Bool}{col:Option Bool}{dd:Option Addr}{k0 k1 k2 k3 k5:Option Value}
noncomputable abbrev a1d(v:Value):Obj:={cls:=.type "tuple",data:=.seq #[v]}
noncomputable abbrev d7(C t:Addr):Obj:={cls:=.ref C,data:=.fields #[.ref t,.none,.none,.none,.bool false,.none]}
theorem e0j{v:Value}(hC:h.get? C=some (a7r nm q C N bs M5 hdct sn sub ab col dd k0 k1 k2 k3 k5 "Exception.__new__"))
  (hq:R (.ok (.ret (.ref (h.objs.size+1)))) ⟨(h.push (a1d v)).push (d7 C h.objs.size),g,d,t,os⟩):
  c5 (model prog w) A (.builtin "Exception.__new__" ⟨[.ref C,v],[]⟩) R ⟨h,g,d,t,os⟩:=by
 have F:=a4i;have hends:=F.ends;have hcB:(O2 C::M5).contains (.type "Exception")=true:=(a2z "Exception" C).trans F.hasB;have hcA:(O2 C::M5).contains (.type "AttributeError")=false:=(a2z "AttributeError" C).trans F.noAttr;have hcN:(O2 C::M5).contains (.type "NameError")=false:=(a2z "NameError" C).trans F.noName;refine codeAny_builtinAt F.entry ?_;unfold Builtin.«BaseException.__new__»;refine PySem.wpAt_bind ?_;show PySem.wpAt _ _ _ (stack >>=_) _ _ _;refine PySem.wpAt_bind (PySem.wpAt_stack fun p below=>PySem.wpAt_of_wpAny ?_)
 wp_walk
 refine PySem.wpAt_of_wpAny ?_;refine rE F.owner ?_
 repeat (first|with_reducible refine wpAny_madeHere_exc F.canon hC ?_|with_reducible refine a2b hC ?_| (with_reducible refine b4f hC ?_;first|refine rE hcB ?_|rw[hcA] |rw[hcN]) |wp_step)
 show R _ _;refine rE (a6l ..) ?_;exact hq
end
section
variable{prog:W6}{w:World}{A:Around}{E:Value->Shared->Prop}{h:Heap}{g:Array GenState}{d:Drawn}{t:Nat}{os:OsState}
variable{nm q:Str}{C N:Addr}{bs:List Value}{hdct:Bool}{sn:List Str}{sub:List Value}{ab:Bool}{col:Option Bool}{dd:Option Addr}{k0 k1 k2 k3 k5:Option Value}
theorem e41{v:Value}{f:Addr}{Q:Value->Shared->Prop}(hC:h.get? C=some (a7r nm q C N bs M5 hdct sn sub ab col dd k0 k1 k2 k3 k5 "Exception.__new__"))
  (hi:Looks (model prog w) h (typeLookup (.ref C) "__init__") (some (.ref f))) (hb:∀self,Looks (model prog w) h (bindSpecial (.ref f) self) (.ref f,[self]))
  (hq:c5 (model prog w) (A.under (.builtin "type.__call__" ⟨[.ref C,v],[]⟩)) (.call (.ref f) ⟨[.ref (h.objs.size+1),v],[]⟩) (fun r s'=>match r with| .ok (.ret u)=>u=.none/\Q (.ref (h.objs.size+1)) s'| .ok _=>False| .error e=>E e s') ⟨(h.push (a1d v)).push (d7 C h.objs.size),g,d,t,os⟩):
  wpAny (model prog w) A (p5 (.ref C) [v]) Q E ⟨h,g,d,t,os⟩:=by
 have F:=a4i;have f1:=tc_lookup;have f2:=tc_bind (.ref C);have hT:(⟨h,g,d,t,os⟩:Shared).TypeIs (.ref C) "type":=⟨_,hC,rfl⟩;refine U9 (a2v ?_);show wpAny _ _ (callAny (.ref C) _) _ _ _
 repeat (any_goals (first|assumption|with_reducible refine a2b hC ?_|wp_step))
 refine ⟨rfl,?_⟩;refine codeAny_call_builtin_at (Code.quiet_builtin _ (by decide+kernel)) entry_typeCall (wpAny_check_type_call_sub hC ?_)
 repeat (first|with_reducible refine a2b hC ?_|with_reducible refine wpAny_madeBy_exc hC ?_|wp_step)
 refine codeAny_call_builtin_code (Code.quiet_builtin _ F.quiet) (d7m hC ?_);refine e0j hC ?_;show wpAny _ _ _ _ _ _;have k:∀b o,h.get? b=some o->((h.push (a1d v)).push (d7 C h.objs.size)).get? b=some o:=fun b o e=>V2 _ (V2 _ e);have hget:((h.push (a1d v)).push (d7 C h.objs.size)).get? (h.objs.size+1)=some (d7 C h.objs.size):=Heap.get?_push_at (by exact rE (a6l ..) rfl) rfl;have hC₁:=k _ _ hC;have hcC:(O2 C::M5).contains (.ref C)=true:=by simp
 unfold isInstance
 repeat (first|with_reducible refine a2b hget ?_| (with_reducible refine b4f hC₁ ?_;refine rE hcC ?_) |wp_step)
 show wpAny _ _ (typeLookup (.ref C) _) _ _ _;refine (hi.keeps k).here ?_;refine J2 (m0 (((hb (.ref (h.objs.size+1))).keeps k).here ?_));refine m0 (U9 ?_);refine codeAny_mono hq fun r s' z=>?_;rcases r with e| (v|_|_|_) <;>first|exact z|exact z.elim|skip
 obtain ⟨rfl,z⟩:=z
 wp_walk
 exact z
end
section
open PySem.Builtin PySem.Builtin.ObjectAttr
theorem e7g(self:Value)(C:Addr):refuseLoop self "__setattr__" (.ref C::M5)=pure ():=by
 unfold M5;refine rE (refuseLoop_ref ..) (rE (refuseLoop_ref ..) ?_);exact PySem.F.store_Exception.passes self
structure ExcAt(C:Addr)(h₀ h:Heap)(e:Addr)(n:Nat):Prop where
 keep:∀b o,h₀.get? b=some o->h.get? b=some o
 new:h₀.get? e=none
 there:∃a0 di,h.get? e=some ⟨.ref C,di,.fields #[.ref a0,.none,.none,.none,.bool false,.none],#[]⟩/\(di=none∨∃d od es k,di=some d/\d≠e/\h₀.get? d=none/\h.get? d=some od/\od.data=.dict es k/\StrKeys es/\es.size<=n)
section
variable{K:Frag}{prog:W6}{w:World}{A:Around}{E:Value->Shared->Prop}{h₀ h:Heap}{g:Array GenState}{d:Drawn}{t:Nat}{os:OsState}{C e:Addr}{n:Nat}{cd:ClassData}
theorem c7c{R:Result->Shared->Prop}{ox:Obj}{od:Option Obj}{name:Str}{tk:Tok}{v:Value}(X:K.In h)(I:InstAt h e ox C od)(hc:clsIn K C=some cd)(hm:cd.mro=.ref C::M5)(ht:takerIn K C name=some none)
  (q:∀b,wpAny (model prog w) A.in1 (storeInOwnDict (.ref e) (.ref C) (.str name tk) name v b) (fun fin s'=>match fin with| .done f=>R (.ok f) s'| .again c'=>c'.quiet=true/\c5 (model prog w) A c' R s') (fun e s'=>R (.error e) s') ⟨h,g,d,t,os⟩):
  c5 (model prog w) A (.call (.builtin "object.__setattr__") ⟨[.ref e,.str name tk,v],[]⟩) R ⟨h,g,d,t,os⟩:=by
 have SF:=PySem.F.store_object;have sub:Looks (model prog w) h (isInstance (.ref e) (.type "object")) true:=I.type.andThen (looks_mroIn X (by unfold mroIn;refine rE hc (rE (Option.bind_some ..) (rE (if_neg (by rw[hm];exact Z2)) (rE hm ?_)));rfl));refine b69 SF.slot.plain SF.entry (@check_slot (model prog w) _ _ ⟨h,g,d,t,os⟩ "object.__setattr__" "object" "__setattr__" (.ref e) [.str name tk,v] [] _ SF.kind SF.split sub (SF.args (.ref e) (.str name tk) v) ?_);refine yea (Option.bind_eq_some_iff.mp ht) fun attr ha hr=>?_;have hmr:Looks (model prog w) h (mroOf (.ref C)) cd.mro:=(looks_clsIn X hc).andThen .now;have L3:Looks (model prog w) h (storeTaker? attr) none:=by
  cases attr with
  |none=>exact .now
  |some a=>
   refine yea (a05.mp hr) fun b hb hr=>?_;refine (looks_takesIn X hb).andThen ?_;cases b with
   |true=>cases hr
   |false=>exact .now
 refine rE (osa_eq ..) (rE (refuse_eq ..) ?_);refine m0 (m0 (I.type.at (m0 (hmr.at ?_))));refine rE hm (rE (e7g ..) ?_);refine q0 (m0 (I.type.at (m0 ((a8c X ha).at (m0 (L3.at ?_))))));exact q _
theorem e0k{name:Str}{v:Value}{Q:Unit->Shared->Prop}(X:K.In h₀)(I:ExcAt C h₀ h e n)(hc:clsIn K C=some cd)(hm:cd.mro=.ref C::M5)(hd:cd.hasDict=true)(hn:n<=5)
  (hs:findIn K (.ref C) "__setattr__"=some (some (.builtin "object.__setattr__"))) (ht:takerIn K C name=some none)
  (q:∀h' tk',ExcAt C h₀ h' e (n+1)->Q () ⟨h',g,d,tk',os⟩):wpAny (model prog w) A (setAttr (.ref e) name v) Q E ⟨h,g,d,t,os⟩:=by
 obtain ⟨hk,hnew,a0,odi,he,hdi⟩:=I;have Xh:K.In h:=fun a o eo=>hk _ _ (X a o eo);have noRec:∀b o,h₀.get? b=some o->b≠e:=fun b o eb q=>by rw[q,hnew] at eb;cases eb
 rcases hdi with rfl| ⟨dx,⟨dc,ddi,dda,dsl⟩,es,k,rfl,hde,hdn,hdx,hdd,hst,hsz⟩
 ·have I':InstAt h e ⟨.ref C,none,.fields #[.ref a0,.none,.none,.none,.bool false,.none],#[]⟩ C none:=⟨he,rfl,rfl,trivial⟩
  refine set_plain (s:=⟨h,g,d,t,os⟩) Xh I' hs (c7c Xh I' hc hm ht fun b=>?_);refine m0 (q0 (m0 (m0 (c3r he (m0 ((looks_clsIn (M:=model prog w) Xh hc).at ?_))))));refine rE hd ?_;have hx₁:(h.push {cls:=.type "dict",data:=.dict #[]}).get? e=some ⟨.ref C,none,.fields #[.ref a0,.none,.none,.none,.bool false,.none],#[]⟩:=V2 _ he;have hxs:e≠h.objs.size:=j3 (K3 he);refine m0 (wpAny_alloc' ?_);refine m0 (wpAny_update' hx₁ ?_);refine q0 ?_;have hgd:((h.push {cls:=.type "dict",data:=.dict #[]}).update e fun o=>{cls:=o.cls,dict:=some h.objs.size,data:=o.data,slots:=o.slots}).get? h.objs.size=some {cls:=.type "dict",data:=.dict #[]}:=
   (Heap.get?_update_ne _ _ _ _ hxs.symm).trans (Heap.get?_push_at rfl rfl)
  refine m0 (q0 (m0 (b8w hgd rfl (fun e he=>absurd he (a6j e)) fun h' o' l' k' ho' hd' hst' hsz' hfi' hs'=>?_)));refine m0 (wpAny_lookBehind ho' (by refine rE hd' ?_;exact pastItsLine_dict (W0 hsz' (by show 0+_<=_;refine rE a0l ?_;split <;>omega))) (q0 ?_));refine q h' _ ⟨fun b o eb=>?_,hnew,a0,some h.objs.size,?_,.inr ⟨_,o',l',k',rfl,hxs.symm,?_,ho',hd',hst',?_⟩⟩
  ·have hb:=hk _ _ eb
   exact (hs'.2 b (j3 (K3 hb))).trans ((Heap.get?_update_ne _ _ _ _ (noRec _ _ eb)).trans (V2 _ hb))
  ·exact (hs'.2 e hxs).trans (j8 _ hx₁ rfl)
  ·cases hq:h₀.get? h.objs.size with
   |none=>rfl
   |some o=>exact absurd (K3 (hk _ _ hq)) (a01 _)
  ·refine W0 hsz' ?_
   show 0+_<=n+1;split <;>omega
 ·dsimp only at hdd
  subst hdd;have I':InstAt h e ⟨.ref C,some dx,.fields #[.ref a0,.none,.none,.none,.bool false,.none],#[]⟩ C (some ⟨dc,ddi,.dict es k,dsl⟩):=⟨he,rfl,rfl,hdx⟩;refine set_plain (s:=⟨h,g,d,t,os⟩) Xh I' hs (c7c Xh I' hc hm ht fun b=>?_);refine m0 (q0 (m0 (m0 (c3r he (m0 ((looks_clsIn (M:=model prog w) Xh hc).at ?_))))));refine rE hd ?_;refine q0 (a:=some dx) (m0 (q0 (m0 (b8w hdx rfl hst fun h' o' l' k' ho' hd' hst' hsz' hfi' hs'=>?_))));have hsz2:l'.size<=n+1:=by refine W0 hsz' ?_;split <;>omega
  refine m0 (wpAny_lookBehind ho' (by refine rE hd' ?_;exact pastItsLine_dict (W0 hsz2 (by refine rE a0l ?_;omega))) (q0 ?_));refine q h' _ ⟨fun b o eb=>(hs'.2 b fun q=>by rw[q,hdn] at eb;cases eb).trans (hk _ _ eb),hnew,a0,some dx,(hs'.2 e hde.symm).trans he,.inr ⟨dx,o',l',k',rfl,hde,hdn,ho',hd',hst',hsz2⟩⟩
end
end
section
variable{prog:W6}{w:World}{A:Around}{E:Value->Shared->Prop}{h:Heap}{g:Array GenState}{d:Drawn}{t:Nat}{os:OsState}
variable{nm q:Str}{C N:Addr}{bs:List Value}{hdct:Bool}{sn:List Str}{sub:List Value}{ab:Bool}{col:Option Bool}{dd:Option Addr}{k0 k1 k2 k3 k5:Option Value}
theorem d7l{M:Model}{e:Addr}{oe:Obj}{rest:List Value}{Q:Unit->Shared->Prop}
  (hC:h.get? C=some (a7r nm q C N bs M5 hdct sn sub ab col dd k0 k1 k2 k3 k5 "Exception.__new__")) (he:h.get? e=some oe) (hcls:oe.cls=.ref C) (hq:Q () ⟨h,g,d,t,os⟩):
  wpAny M A (a7c "Exception.__init__" ⟨.ref e::rest,[]⟩) Q E ⟨h,g,d,t,os⟩:=by
 have F:=a4i;have hcB:(O2 C::M5).contains (.type "Exception")=true:=(a2z "Exception" C).trans F.hasB;have hshort:=F.noStar;simp only[a7c,F.initKind,F.initSplit,F.initRow]
 repeat (first| (with_reducible refine a2b he ?_;refine rE hcls ?_) |with_reducible refine a2b hC ?_| (with_reducible refine b4f hC ?_;refine rE hcB ?_) |wp_step)
 refine a6e ?_;rw[show ∀ (a b:String) (n:Nat),Bind.check ⟨.positional,"*","Exception",.self,[⟨"args",.varPos,false⟩]⟩ a b n (List.map (fun x=>x.fst) ({pos:=O2 e::rest}:Args).kw)=pure () from
  fun a b n=>check_star_args _ _ _ _ _ _]
 exact q0 hq
theorem e0i{e t0:Addr}{v:Value}{Q:Value->Shared->Prop}(hC:h.get? C=some (a7r nm q C N bs M5 hdct sn sub ab col dd k0 k1 k2 k3 k5 "Exception.__new__"))
  (he:h.get? e=some (d7 C t0)) (hq:∀h',(∀b o,b≠e->h.get? b=some o->h'.get? b=some o)->h'.get? e=some (d7 C h.objs.size)->Q .none ⟨h',g,d,t,os⟩):
  wpAny (model prog w) A (p5 (.builtin "Exception.__init__") [.ref e,v]) Q E ⟨h,g,d,t,os⟩:=by
 have F:=a4i;refine U9 (b69 F.init.plain F.initEntry (d7l hC he rfl ?_))
 wp_walk
 refine hq _ (fun b o hb eb=>?_) ?_
 ·refine rE (Heap.get?_update_other _ _ hb.symm) ?_
  exact V2 _ eb
 ·refine rE (j8 _ (V2 _ he) rfl) ?_
  rfl
end
noncomputable def Z8:Str:=⟨#[115,101,108,102]⟩
noncomputable def a21:Str:=⟨#[119,104,97,116]⟩
noncomputable def a3p:Str:=⟨#[97,116]⟩
noncomputable def a8y:Str:=⟨#[69,120,99,101,112,116,105,111,110]⟩
noncomputable def e8z:Str:=⟨#[95,95,105,110,105,116,95,95]⟩
noncomputable def b1k:List Stmt:=[.Expr (.Call (.Attribute (.Name a8y ⟨8,8,8,17⟩) e8z ⟨8,8,8,26⟩) [.Name Z8 ⟨8,27,8,31⟩,.Name a21 ⟨8,33,8,37⟩] [] ⟨8,8,8,38⟩) ⟨8,8,8,38⟩,
 .Assign [.Attribute (.Name Z8 ⟨9,8,9,12⟩) a21 ⟨9,8,9,17⟩] (.Name a21 ⟨9,20,9,24⟩) ⟨9,8,9,24⟩,
 .Assign [.Attribute (.Name Z8 ⟨10,8,10,12⟩) a3p ⟨10,8,10,15⟩] (.Name a3p ⟨10,18,10,20⟩) ⟨10,8,10,20⟩]
theorem e22:E4 36=b1k:=by kernel_rfl
structure l9(C:Cx):Prop where
 g:∃mg mb,C.hb.Ns V3 mg/\C.hb.Ns builtinsNs mb/\mg a8y=none/\mb a8y=some (.type "Exception")
 c:C.hb.get? 59=some b19
 ini:findIn C.K (.ref 59) "__init__"=some (some (.ref 36))
 fn:typeIn C.K (.ref 36)=some (.type "function")
 cd:∃cd,clsIn C.K 59=some cd/\cd.mro=.ref 59::M5/\cd.hasDict=true
 sa:findIn C.K (.ref 59) "__setattr__"=some (some (.builtin "object.__setattr__"))
 w1:takerIn C.K 59 a21=some none
 w2:takerIn C.K 59 a3p=some none
 kp:keepIn C.K (.ref 59)=true
section
variable{M:Model}{A:Around}{E:Value->Shared->Prop}{s:Shared}{env:Env}{K:Frag}
theorem b2b{n:Str}{p:Pos}{m:Str->Option Value}{u:Value}{Q:Value->Shared->Prop}(hk:env.scope.kind=.function)(hl:env.kindOf n=some .local)(hn:s.heap.Ns env.locals m)(hv:m n=some u)(hd:(n==("__debug__":Str))=false)(q:Q u s):wpAny M A (eval (.Name n p) env) Q E s:=
 a0p (b4h hk hl hn hv q) hd
theorem e4c{o:Expr}{n:Str}{apos pos:Pos}{args:List Expr}{Q:Value->Shared->Prop}(hb:∀whole,attributeBase o n env whole=whole)(q:a33 args apos pos=true)
  (h:wpAny M A (eval o env) (fun ov s₁=>∀pl:Sem Bool,wpAny M A (a1g ov n pl) (fun fx s₂=>wpAny M A (callWith pos fx.1 fx.2 (backTo pos (S6 args env)) []) Q E s₂) E s₁) E s):
  wpAny M A (eval (.Call (.Attribute o n apos) args [] pos) env) Q E s:=by
 refine yaa (b1a q) fun q1 q2 q3=>?_;refine rE (arm_eval_Call ..) (rE (hb ..) ?_);refine m0 (F7 h (fun ov s₁ hg=>m0 (H5 ?_)) fun _ _ x=>x);unfold methodCall;rw[show a8g (args.length+([]:List Keyword).length) (backTo pos (S6 args env)) (backToKw pos (keywordEach [] env))=true by
  unfold a8g;refine rE ((a8i pos env args q1).2) ?_;exact decide_eq_true (show args.length+0+0 < 30 from i4 q2 (by decide))]
 refine m0 (J2 ?_);show wpAny _ _ (a1g ov n _) _ _ _;refine F7 (hg _) (fun fx s₂ hc=>m0 (A5 ?_ hc)) fun _ _ x=>x;unfold methodCallPos;refine rE q3 (rE (beq_self_eq_true ..) ?_);rfl
theorem e49{name:Str}{v:Value}{pl:Sem Bool}{Q:Value×List Value->Shared->Prop}{prog:W6}{w:World}(X:K.In s.heap)(e:findCls K (.type "Exception") (.type "type") name=some (.val v))(hh:handedIn v=true)(h:Q (v,[]) {s with toks:=s.toks+1}):wpAny (model prog w) A (a1g (.type "Exception") name pl) Q E s:=by
 have ht:typeOf (.type "Exception")=pure (.type "type"):=by kernel_rfl
 have hs:Manifest.isStub "Exception"=false:=by decide+kernel
 have hstub:opaqueClassAbove (.type "Exception")=pure none:=by unfold opaqueClassAbove;dsimp only;refine rE hs ?_;rfl
 have L0:Looks (model prog w) s.heap (typeOf (.type "Exception")) (.type "type"):=a4c ht;have hg:findIn K (.type "type") "__getattribute__"=some (some (.builtin "type.__getattribute__")):=type_tga;unfold a1g specialOf;refine m0 (m0 (L0.here ((a8c X hg).here ?_)));dsimp only;refine rE (if_pos canon_tga) ?_;refine m0 (F7 (Q:=fun v=>Q (v,[])) (E:=E) ?_ (fun _ _ z=>q0 z) fun _ _ z=>z);have LO:Looks (model prog w) s.heap (opaqueClassAbove (.type "Exception")) none:=a4c hstub;refine cls_open X LO L0 hg (looks_hook X (r:=none) (by rfl)) (by show subIn K _ _=_;rfl) e
  (q0 (by show wpAny _ _ (handedOut v) _ _ _;refine rE (handedOut_of hh) ?_;exact q0 h))
end
section
variable{C:Cx}{A:Around}{E:Value->Shared->Prop}{s:Shared}{env:Env}{e t0:Addr}{m:Str->Option Value}{u2 u3:Value}{n:Nat}
theorem c8c(Ex:l9 C){h₀:Heap}(kk:∀b o,C.hb.get? b=some o->h₀.get? b=some o)(I:ExcAt 59 h₀ s.heap e n)(hn5:n<=5)(hk:env.scope.kind=.function){nm:Str}{p1 p2 p3 p4:Pos}(q1:env.kindOf Z8=some .local)(q2:env.kindOf nm=some .local)(hn:h₀.Ns env.locals m)
  (m1:m Z8=some (.ref e)) (m2:m nm=some u2) (hd:(nm==("__debug__":Str))=false) (ht:takerIn C.K 59 nm=some none) {Q:Flow->Shared->Prop} (q:∀h' tk',ExcAt 59 h₀ h' e (n+1)->Q .next {s with heap:=h',toks:=tk'}):
  wpAny C.m A (exec (.Assign [.Attribute (.Name Z8 p1) nm p2] (.Name nm p3) p4) env) Q E s:=by
 refine R0 Ex.cd fun cd c1 c2 c3=>?_;refine wpAny_Assign_stores (b2b hk q2 (hn.keeps I.keep) m2 hd ?_) (by refine rE (a96 ..) ?_;exact a3w rfl _ _ _) (c3a rfl _);rw[b0c rfl];change wpAny C.m A (assign (.Attribute (.Name Z8 p1) nm p2) env u2) _ _ _
 refine rE (arm_assign_Attribute ..) ?_;refine m0 (J2 (b2b hk q1 (hn.keeps I.keep) m1 (by decide+kernel) (m0 (H5 (m0 (J2 ?_))))));exact e0k (fun a o eo=>kk _ _ (C.Y.kin a o eo)) I c1 c2 c3 hn5 Ex.sa ht fun h' tk' I'=>wpAny_release (q h' tk' I')
theorem e25(Ex:l9 C)(kk:∀b o,C.hb.get? b=some o->s.heap.get? b=some o)(hbe:C.hb.get? e=none)(he:s.heap.get? e=some (d7 59 t0))(hk:env.scope.kind=.function)(q1:env.kindOf Z8=some .local)(q2:env.kindOf a21=some .local)(q3:env.kindOf a3p=some .local)(q4:env.kindOf a8y=some .globalImplicit)
  (hg:env.globals=V3) (hb:env.builtins=builtinsNs) (hi:interactive env=false) (hn:s.heap.Ns env.locals m) (hne:env.locals≠e) (m1:m Z8=some (.ref e)) (m2:m a21=some u2) (m3:m a3p=some u3) {Q:Flow->Shared->Prop}
  (q:∀h' tk',ExcAt 59 (s.heap.hide e) h' e 2->Q .next {s with heap:=h',toks:=tk'}):wpAny C.m A (execs b1k env) Q E s:=by
 refine a3z Ex.g fun mg mb g1 g2 g3 g4=>?_;have hC:=Ex.c;have kh:∀b o,C.hb.get? b=some o->(s.heap.hide e).get? b=some o:=fun b o eb=>(a6k _ fun q=>by rw[q,hbe] at eb;cases eb).trans (kk b o eb);have hn0:(s.heap.hide e).Ns env.locals m:=by
  refine G3 hn fun o es ep e1 r=>?_;clear hn;exact ⟨o,es,ep,(a6k _ hne).trans e1,r⟩
 unfold b1k;refine j9 (wpAny_Expr_any ?_ hi (a3w rfl _ _ _));refine e4c (fun whole=>b5u (by rfl) _ _ _) (by decide+kernel) ?_;refine a0p ?_ (by decide+kernel);refine rE (b8f hk q4) ?_;refine loadGlobal_builtin (by refine rE hg ?_;exact a1q kk g1) g3 (by refine rE hb ?_;exact a1q kk g2) g4 ?_;intro pl;refine e49 (v:=.builtin "Exception.__init__") (fun a o eo=>kk _ _ (C.Y.kin a o eo)) (by kernel_rfl) rfl ?_;refine a4q (PP:=fun _=>True) rfl (fun h _=>⟨_,.inr (.inl rfl),.now⟩) (a9f (b2b hk q1 hn m1 (by decide+kernel) (a9f (b2b hk q2 hn m2 (by decide+kernel) (b4g ⟨trivial,?_⟩)))));refine e0i (h:=s.heap) (kk _ _ hC) he fun h' hkp he'=>?_;have I0:ExcAt 59 (s.heap.hide e) h' e 0:=⟨fun b o eb=>hkp b o (fun q=>by rw[q,b4s] at eb;cases eb) (Heap.of_hide eb),b4s ..,_,none,he',.inl rfl⟩;refine j9 (c8c Ex kh I0 (by decide) hk q1 q2 hn0 m1 m2 (by decide+kernel) Ex.w1 fun h1 tk1 I1=>?_);refine j9 (c8c Ex kh I1 (by decide) hk q1 q3 hn0 m1 m3 (by decide+kernel) Ex.w2 fun h2 tk2 I2=>?_);exact c3o (q h2 tk2 I2)
end
noncomputable def Q9:Str:=⟨#[84,114,101,101,70,97,117,108,116]⟩
structure a6v(h h':Heap)(Ls:List Addr):Prop where
 keep:∀b o,b ∉ Ls->h.get? b=some o->h'.get? b=some o
 slot:∀b∈Ls,∀o,h.get? b=some o->∃sl,h'.get? b=some {o with slots:=sl}
noncomputable def a44(h:Heap)(L:Addr):Prop:=∃o es k,h.get? L=some o/\o.data=.dict es k
section
variable{C:Cx}{ρ ρ':Nat->Addr}{x x':S}{h h' h'':Heap}{Ls:List Addr}
theorem a6v.tups(N:a6v h h' Ls)(hd:∀L∈Ls,a44 h L):Tups h h':=fun b vs k e=>N.keep b _ (fun q=>by
 refine G3 (hd b q) fun o es k' h1 h2=>?_;rw[e] at h1;cases C0 h1;cases h2) e
theorem At.noted(D:At C ρ x h)(N:a6v h h' Ls)(hL:∀i o,x.get i=some o->ρ i∈Ls->∃es,o=.ns es)(hb:∀L∈Ls,C.hb.get? L=none)(hd:∀L∈Ls,a44 h L):At C ρ x h':=by
 refine ⟨fun b o e=>N.keep b o (fun q=>by rw[hb b q] at e;cases e) (D.keep b o e),fun i o e=>?_,D.fresh,D.inj,D.room⟩;refine m5 (D.obj i o e) fun hi ob g1 g2=>?_;by_cases q:ρ i∈Ls
 ·obtain ⟨es,rfl⟩:=hL i o e q
  obtain ⟨sl,hs⟩:=N.slot _ q _ g1;have g2:=g2.tell (.same (N.tups hd));refine R3 g2 fun l k h1 h2 h3=>?_;clear g2;exact ⟨hi,_,hs,l,k,h1,h2,h3⟩
 ·exact ⟨hi,ob,N.keep _ _ q g1,g2.tell (.same (N.tups hd))⟩
theorem Ext.noted(X:Ext ρ x h ρ' x' h')(N:a6v h' h'' Ls)(hL:∀L∈Ls,(∃i,i < x.n/\Live x i/\ρ i=L)∨∃i,x.n<=i/\Live x' i/\ρ' i=L)(hd:∀L∈Ls,a44 h' L):Ext ρ x h ρ' x' h'':=
 ⟨X.agree,X.le,X.live,X.new,fun b o hb e=>N.keep b o (fun q=>by
  rcases hL b q with ⟨i,h1,h2,h3⟩ | ⟨i,h1,h2,h3⟩
  ·exact hb i h1 h2 h3
  ·exact X.new i h1 h2 b o e hb h3) (X.keep b o hb e),X.tups.trans (N.tups hd),fun t=>ye (X.tab t) fun ps e=>⟨ps,N.keep _ _ (fun q=>by refine G3 (hd _ q) fun o es k h1 h2=>?_;rw[e] at h1;cases C0 h1;cases h2) e⟩⟩
end
section
variable{prog:W6}{w:World}{A:Around}{E:Value->Shared->Prop}{s:Shared}{env1 env2 lenv:Env}{e:Addr}{hφ:Heap}
noncomputable def a42(h:Heap)(env:Env):Prop:=env.scope.kind=.function/\∃L,env.frame=some L/\a44 h L
noncomputable def P8(l:List Env):List Addr:=l.filterMap (·.frame)
theorem funs{base:Heap}:∀ {l:List Env},(∀env∈l,a42 hφ env)->(∀L∈P8 l,base.get? L=none)->hφ.FunFrames base l
 | [],_,_=>trivial
 |env::l,h,hn=>by
  refine m5 (h env (.head _)) fun hk L hf zz=>?_;refine G3 zz fun o es k h1 h2=>?_;clear zz;have hm:L∈P8 (env::l):=List.mem_filterMap.mpr ⟨env,.head _,hf⟩;exact ⟨(by refine rE hk ?_;intro q;cases q),⟨L,o,hf,hn L hm,h1,fun vs q=>by rw[h2] at q;cases q⟩,funs (fun e he=>h e (.tail _ he)) fun L hL=>hn L (by
   refine yea (List.mem_filterMap.mp hL) fun e' m f=>?_;exact List.mem_filterMap.mpr ⟨e',.tail _ m,f⟩)⟩
theorem e7b{x:Sem Value}{Q:Flow->Shared->Prop}{env:Env}(hh:A.handled=none)
  (h:wpAny (model prog w) A x (fun v s₁=>∃e a0 di,v=.ref e/\s₁.heap.get? 59=some b19/\
   s₁.heap.get? e=some (exI di a0)/\E (.ref e) s₁) E s):
  wpAny (model prog w) A (raiseStmt env (some x) none) Q E s:=by
 have hcB:(O2 59::M5).contains (.type "BaseException")=true:=(a2z "BaseException" 59).trans a4i.hasBase;unfold raiseStmt;refine m0 (F7 h (fun v s₁ h₁=>?_) fun _ _ x=>x);refine a0s h₁ fun e a0 di zz hC he hE=>?_;clear h₁;subst zz;obtain ⟨hp,g,d,tk,os⟩:=s₁;unfold b19 at hC;unfold exI at he
 repeat (first|with_reducible refine a2b he ?_|with_reducible refine a2b hC ?_| (with_reducible refine b4f hC ?_;refine rE hcB ?_) |wp_step)
 exact wpAny_raiseNew_none hh hE
theorem e3e{a0:Addr}{di:Option Addr}{Q:Unit->Shared->Prop}(hfr:A.frames=some [env2,env1,lenv])(hF:∀env∈[env2,env1,lenv],a42 hφ env)(kp:∀b o,hφ.get? b=some o->s.heap.get? b=some o)(hen:hφ.get? e=none)
  (he:s.heap.get? e=some (exI di a0))
  (hQ:∀h',Heap.FlyingW (hideAll hφ (P8 [env2,env1,lenv])) [env1,lenv] e (.ref 59) (.ref a0) h'->hφ.UpToSlots h'->Q () {s with heap:=h'}):wpAny (model prog w) A (leaving env2 (.ref e)) Q E s:=by
 refine m5 (hF env2 (.head _)) fun hk2 L2 hf2 _=>?_;have hl:=funs hF (base:=hideAll hφ (P8 [env2,env1,lenv])) fun L hL=>hideAll_none _ hL;have st:(hideAll hφ (P8 [env2,env1,lenv])).StaysIn s.heap:=fun b o q=>kp b o (of_hideAll _ q);have hbe:(hideAll hφ (P8 [env2,env1,lenv])).get? e=none:=by
  cases q:(hideAll hφ (P8 [env2,env1,lenv])).get? e with
  |none=>rfl
  |some o=>have:=of_hideAll _ q;rw[hen] at this;cases this
 refine wpAny_leaving_firstW hfr (hl.of_keeps fun b o hb _=>⟨o,kp b o hb,rfl⟩) hf2 he st hbe rfl rfl rfl fun h' hL=>?_;refine Q5 hL fun k1 zz k3 k4=>?_;clear hL;refine yaa zz fun _ _ k2=>?_;clear zz;exact hQ h' ⟨k1,hbe,k2,k3⟩ fun b o hb hn=>k4 b o (kp b o hb) hn
end
section
variable{C:Cx}{A:Around}{E:Value->Shared->Prop}{s:Shared}{env:Env}{e:Addr}
theorem c9b(kk:∀b o,C.hb.get? b=some o->s.heap.get? b=some o)(hk:env.scope.kind=.function)(hq:env.kindOf Q9=some .globalImplicit)(hg:env.globals=V3)(hb:env.builtins=builtinsNs){p:Pos}{Q:Value->Shared->Prop}(q:Q (.ref 59) s):wpAny C.m A (eval (.Name Q9 p) env) Q E s:=by
 refine R3 C.Y.glob fun mg mb g1 g2 hall=>?_;refine yea (hall Q9 (.prog 59) (by kernel_rfl)) fun u hu hw=>?_;obtain rfl:u=.ref 59:=hu C.hb (fun _=>0) 0 fun _ _ e=>e;refine a0p ?_ (by decide+kernel);refine rE (b8f hk hq) ?_;rcases hw with hw| ⟨h0,hw⟩
 ·exact loadGlobal_global (by refine rE hg ?_;exact a1q kk g1) hw q
 ·exact loadGlobal_builtin (by refine rE hg ?_;exact a1q kk g1) h0 (by refine rE hb ?_;exact a1q kk g2) hw q
theorem d7b(Ex:l9 C){base hφ:Heap}{outer:List Env}{a0:Value}{L:Addr}(kb:∀b o,C.hb.get? b=some o->base.get? b=some o)(hfr:A.frames=some (env::outer))(hf:env.frame=some L)(hfl:Heap.FlyingW base (env::outer) e (.ref 59) a0 s.heap)(sm:hφ.UpToSlots s.heap)
  (hk:env.scope.kind=.function) (hq:env.kindOf Q9=some .globalImplicit) (hg:env.globals=V3) (hb:env.builtins=builtinsNs) {p1 p2 p3 p4:Pos} {ck:Nat} {rest:List ExceptHandler} {Q:Flow->Shared->Prop}
  (q:∀h',base.StaysIn h'->hφ.UpToSlots h'->Q (.ret (.bool true)) {s with heap:=h'}):
  wpAny C.m A (noteFrame (.ref e) env) (fun _ s₂=>wpAny C.m A (setFlight (.ref e) none) (fun _ s₃=>wpAny C.m A (handleBy (.ref e) env (.ExceptHandler (some (.Name Q9 p1)) none [.Return (some (.Constant (.bool true) ck p2)) p3] p4::rest)) Q E s₃) E s₂) E s:=by
 have hC:=Ex.c;refine wpAny_looks_onW hfr hf hfl fun h₄ hheld₄ sm₄=>?_;refine wpAny_landsW hheld₄ fun h₅ hheld sm₅=>?_;refine yea hheld.there fun ob hob hobc=>?_;have k5':∀b o,C.hb.get? b=some o->h₅.get? b=some o:=fun b o eb=>hheld.1 b o (kb b o eb);refine wpAny_handleBy_cons (codeAny_handlers_test (c9b k5' hk hq hg hb ?_)) (by intro q;cases q);refine wpAny_excMatches_sub_self (k5' _ _ hC) hob hobc ((a2z "BaseException" 0).trans a4i.hasBase) (codeAny_handlers_suite ?_);refine lands_againW hheld fun h₆ hfl₆ sm₆=>?_;refine j9 (wpAny_Return_some ?_);refine rE (eval_Constant ..) ?_;exact q0 (q h₆ hfl₆.1 (((sm.trans sm₄).trans sm₅).trans sm₆))
end
noncomputable def isK(k:Nat)(o:Option A4):Bool:=K0 (motive:=fun _=>Bool) false (fun n=>o0 n.ctorIdx k) o
theorem b7p{o:Option A4}(h:isK 0 o=true):o=some .local:=by
 cases o with
 |none=>cases h
 |some n=>cases n <;>first|rfl|cases h
theorem b7o{o:Option A4}(h:isK 4 o=true):o=some .globalImplicit:=by
 cases o with
 |none=>cases h
 |some n=>cases n <;>first|rfl|cases h
noncomputable def b1j(msg:Str)(T:S->Res Unit)(e:Nat)(x:S):Res Unit:=nd (Pfn 36) fun fi=>nd (a2t fi [.prog e,.str msg]) fun bs=>(a4z fi.scope [] bs (fi.qual++ ".<locals>.") (some 36) fi.code x).bd fun e3 x=>
 .same (.bo (w4 (isK 0 (lk e3.scope.names Z8)) (w4 (isK 0 (lk e3.scope.names a21)) (w4 (isK 0 (lk e3.scope.names a3p)) (isK 4 (lk e3.scope.names a8y)))))) (.bo true) <|
 nd (obd (x.get e3.locals) oNs) fun es=>nd (lk es Z8) fun v1=>.same (.vs [v1]) (.vs [.prog e]) <|nd (lk es a21) fun _=>nd (lk es a3p) fun _=>T x
section
variable{C:Cx}{A:Around}{E:Value->Shared->Prop}{υ:St C}
theorem f1z{h:Heap}{e t:Addr}(he:h.get? e=some (d7 59 t)):Tups h (h.hide e):=fun b vs k eb=>(a6k _ fun q=>by rw[q,he] at eb;cases C0 eb).trans eb
theorem e0h(Ex:l9 C)(rm:F0 40 A){msg:Str}{t:Tok}{T:S->Res Unit}(z:∀e,(b1j msg T e υ.x).All fun _ _=>True){Q:Value->Shared->Prop}
  (q:∀ (φ:St C) (e a0:Addr) (di:Option Addr) (h':Heap) (tk':Nat),Le υ φ->(T φ.x).All (fun _ _=>True)->φ.h.get? e=none->(∀b o,φ.h.get? b=some o->h'.get? b=some o)->h'.get? e=some (exI di a0)->Q (.ref e) {φ.s with heap:=h',toks:=tk'}):
  wpAny C.m A (p5 (.ref 59) [.str msg t]) Q E υ.s:=by
 have hC:=Ex.c;have Xh:C.K.In υ.h:=fun a o eo=>υ.D.keep _ _ (C.Y.kin a o eo);show wpAny C.m A (p5 (.ref 59) [.str msg t]) Q E ⟨υ.s.heap,υ.s.gens,υ.s.drawn,υ.s.toks,υ.s.os⟩;refine e41 (f:=36) (υ.D.keep _ _ hC) (a8c Xh Ex.ini) (fun self=>bind_fn Xh self Ex.fn) ?_;have hk:∀b o,υ.s.heap.get? b=some o->((υ.s.heap.push (a1d (.str msg t))).push (d7 59 υ.s.heap.objs.size)).get? b=some o:=fun b o eb=>V2 _ (V2 _ eb);have hfr:υ.h.get? (υ.s.heap.objs.size+1)=none:=a43 (H7 _);have hget:((υ.s.heap.push (a1d (.str msg t))).push (d7 59 υ.s.heap.objs.size)).get? (υ.s.heap.objs.size+1)=some (d7 59 υ.s.heap.objs.size):=Heap.get?_push_at (by exact rE (a6l ..) rfl) rfl;generalize υ.s.heap.objs.size+1=e at hfr hget ⊢;refine R0 (St.grow_k (σ:=υ) υ.s.toks hk) fun ψ es ex X1=>?_;have hψ:ψ.h=(υ.s.heap.push (a1d (.str msg t))).push (d7 59 υ.s.heap.objs.size):=(congrArg a6y es).symm;have es':(⟨(υ.s.heap.push (a1d (.str msg t))).push (d7 59 υ.s.heap.objs.size),υ.s.gens,υ.s.drawn,υ.s.toks,υ.s.os⟩:Shared)=ψ.s:=es;refine rE es' ?_;have z:=z e;rw[<-ex] at z;revert z;refine ndE fun fi hfi z=>?_;revert z;refine ndE fun bs' hbs z=>?_;have notLive:∀i o,ψ.x.get i=some o->ψ.ρ i≠e:=fun i o eo q=>by
  rw[ex] at eo;refine m5 (υ.D.obj i o eo) fun hi ob g1 _=>?_;rw[<-X1.X.agree i hi,q,hfr] at g1;cases g1
 have hbe:C.hb.get? e=none:=by
  cases q:C.hb.get? e with
  |none=>rfl
  |some o=>have:=υ.D.keep _ _ q;rw[hfr] at this;cases this
 refine b78 (rm.space1 59 _) hfi hbs (.cons rfl (.cons ⟨t,rfl⟩ .nil)) ((Res.All_bd _ _ _).mp z) fun e3 env3 τ X2 He z=>?_;obtain ⟨b1,z⟩:=z;refine anE (fun n1 b1=>?_) (Sd.bo.inj b1);revert b1;refine anE fun n2 b1=>?_;revert b1;refine anE fun n3 n4=>?_;revert z;refine ndE fun es3 hes z=>?_;revert z;refine ndE fun v1 l1 z=>?_;obtain ⟨ev,z⟩:=z;obtain rfl:=(Z0 (Sd.vs.inj ev)).1;revert z;refine ndE fun v2 l2 z=>?_;revert z;refine ndE fun v3 l3 z=>?_;have ndead:∀i,i < ψ.x.n->Live ψ.x i->ψ.ρ i≠e:=fun i _ zz=>ye zz fun o eo=>notLive i o eo;have he:τ.h.get? e=some (d7 59 υ.s.heap.objs.size):=X2.X.keep e _ ndead (by refine rE hψ ?_;exact hget);have nl3:∀i o,τ.x.get i=some o->τ.ρ i≠e:=fun i o eo=>by
  by_cases hi:i < ψ.x.n
  ·refine rE (X2.X.agree i hi) ?_
   obtain ⟨o',eo'⟩:=X2.X.live i hi ⟨o,eo⟩;exact notLive i o' eo'
  ·exact X2.X.new i (Nat.le_of_not_lt hi) ⟨o,eo⟩ e _ (by refine rE hψ ?_;exact hget) ndead
 have hid:∀b o,b≠e->τ.h.get? b=some o->(τ.h.hide e).get? b=some o:=fun b o hb eb=>(a6k _ hb).trans eb;have D':At C τ.ρ τ.x (τ.h.hide e):=τ.D.aside hid nl3 hbe (f1z he);have Xu:Ext υ.ρ υ.x υ.h τ.ρ τ.x (τ.h.hide e):=(X1.trans X2).X.aside hid hfr;refine m5 (St.ns hes) fun _ m hn hm=>?_;refine yea (hm _ _ l1) fun u1 a1 r1=>?_;refine yea (hm _ _ l2) fun u2 a2 _=>?_;refine yea (hm _ _ l3) fun u3 a3 _=>?_;obtain rfl:u1=.ref e:=r1;have hkind:=He.kind;have c1:=He.look (b7p n1);have c2:=He.look (b7p n2);have c3:=He.look (b7p n3);have c4:=He.look (b7o n4);have hint:=b8v He;obtain ⟨rfl,_⟩:=He;refine rE (show fi.body=b1k by rw[<-e22];unfold E4;rw[hfi];rfl) ?_;refine e25 Ex τ.D.keep hbe he hkind c1 c2 c3 c4 rfl rfl hint hn (fun q=>?_) a1 a2 a3 fun h' tk' I=>?_
 ·refine G4 hn fun o el ep o1 o2 _=>?_;clear hn
  have q:τ.ρ e3.locals=e:=q;rw[q] at o1;have o1:=o1.symm.trans he;cases C0 o1;cases o2
 ·refine B1 I.there fun a0 di hex _=>?_
  refine ⟨rfl,?_⟩;have hs:({τ.s with heap:=h',toks:=tk'}:Shared)={(⟨{τ.s with heap:=τ.h.hide e},τ.ρ,τ.x,D'⟩:St C).s with heap:=h',toks:=tk'}:=rfl;refine rE hs ?_;exact q ⟨{τ.s with heap:=τ.h.hide e},τ.ρ,τ.x,D'⟩ e a0 di h' tk' ⟨Xu,by exact rE ((X1.trans X2).e) rfl⟩ z (b4s ..) I.keep hex
end
noncomputable def a67:Str:=⟨#[97,32,110,111,100,101,32,109,117,115,116,32,104,97,118,101,32,114,111,111,109,32,102,111,114,32,116,119,111]⟩
noncomputable def d2f:Str:=⟨#[112,117,116,95,112,97,114,101,110,116,115]⟩
noncomputable def e93:Str:=⟨#[116,111,108,100]⟩
noncomputable def d2g:Str:=⟨#[95,108,97,119,95,105,115,95,114,101,102,117,115,101,100]⟩
noncomputable def cE(i:Nat)(p:Pos):Expr:=.Constant (.int (.ofNat i)) 0 p
noncomputable def a8h:Expr:=.Constant (.str a67) 0 ⟨451,24,451,55⟩
noncomputable def wT2:Expr:=.Compare (.Name C8 ⟨450,7,450,12⟩) [.Lt] [cE 2 ⟨450,15,450,16⟩] ⟨450,7,450,16⟩
noncomputable def b9o:List Stmt:=toL 450 (E4 665)
noncomputable def putIf:Stmt:=.If wT2 [.Raise (some (.Call (.Name Q9 ⟨451,14,451,23⟩) [a8h] [] ⟨451,14,451,56⟩)) none ⟨451,8,451,56⟩] [] ⟨450,4,451,56⟩
theorem e78:E4 665=b9o++(putIf::a0c 452 (E4 665)):=by kernel_rfl
noncomputable def a516:List Expr:=[.Name a3q ⟨516,20,516,25⟩,.Name C8 ⟨516,27,516,32⟩]
theorem e7d:E4 722=[.Try [.Expr (.Call (.Name d2f ⟨516,8,516,19⟩) a516 [] ⟨516,8,516,33⟩) ⟨516,8,516,33⟩] [.ExceptHandler (some (.Name Q9 ⟨517,11,517,20⟩)) none [.Return (some (.Constant (.bool true) 0 ⟨518,15,518,19⟩)) ⟨518,8,518,19⟩] ⟨517,4,518,19⟩] [] [] ⟨515,4,518,19⟩,.Return (some (.Constant (.bool false) 0 ⟨519,11,519,16⟩)) ⟨519,4,519,16⟩]:=by kernel_rfl
noncomputable def a544:List Expr:=[.Name a3q ⟨544,31,544,36⟩,.Name C8 ⟨544,38,544,43⟩]
noncomputable def a79:Expr:=.Call (.Name d2g ⟨544,15,544,30⟩) a544 [] ⟨544,15,544,44⟩
noncomputable def a68:Expr:=.Call (.Attribute (.Name a3q ⟨544,49,544,54⟩) e93 ⟨544,49,544,59⟩) [] [] ⟨544,49,544,61⟩
noncomputable def wT1:Expr:=.Compare (.Name C8 ⟨543,7,543,12⟩) [.Lt] [cE 2 ⟨543,15,543,16⟩] ⟨543,7,543,16⟩
theorem e33:E9=.If wT1 [.Return (some (.BoolOp .And [a79,.Compare a68 [.Eq] [.Name a1y ⟨544,65,544,71⟩] ⟨544,49,544,71⟩] ⟨544,15,544,71⟩)) ⟨544,8,544,71⟩] [] ⟨543,4,544,71⟩::a0c 545 R8:=by kernel_rfl
noncomputable def b5x{α:Type}(f:Str)(args:List Expr)(a:Nat)(want:List V)(K:AE->S->Res α)(e:AE)(x:S):Res α:=(A6 f e x).bd fun fv x=>ck (b5y fv) <| (items (hk 0 ct0 20) args e x).bd fun vs x=>.same (.vs (fv::vs)) (.vs (.prog a::want)) <|nd (Pfn a) fun fi=>nd (a2t fi want) fun bs=>(a4z fi.scope [] bs (fi.qual++ ".<locals>.") (some a) fi.code x).bd K
noncomputable def c5q(p:Pm):CT:=ctG (Lo p) [a7m p] [] []
noncomputable def preK(p:Pm)(e1 e2:AE)(x:S):Res (AE×AE):=((hk 160 (c5q p) 200).sts b9o e2 x).bd fun f x=>FL.casesOn (motive:=fun _=>Res (AE×AE)) f (((hk 0 ct0 20).tr wT2 e2 x).bd fun b x=>ck b <| .same (.bo (isK 4 (lk e2.scope.names Q9))) (.bo true) <| (items (hk 0 ct0 20) [a8h] e2 x).bd fun vs x=>.same (.vs vs) (.vs [.str a67]) <| .ok (e1,e2) x) .fail .fail fun _=>.fail
noncomputable def d1a(p:Pm)(w:Int)(x:S):Res (AE×AE):=b5x d2g a544 722 [.ref 78,.int w] (fun e1=>b5x d2f a516 665 [.ref 78,.int w] (preK p e1) e1) eB x
noncomputable def frB(m:Nat)(e:AE)(x:S):Bool:=K0 (motive:=fun _=>Bool) false (fun i=>w4 (U0 m i) (obd (x.get i) oNs).isSome) e.frame
noncomputable def b3z(p:Pm)(v b:V)(D h:Nat->So)(ee:AE×AE)(x:S):Res Unit:=.same (.bo (w4 (isK 4 (lk ee.1.scope.names Q9)) (w4 (frB 264 ee.1 x) (w4 (frB 264 ee.2 x) (frB 256 eB x))))) (.bo true) <|a1f (Lo p) (tE v b D h) L8 x.n x (.ok () x)
noncomputable def d19(p:Pm)(w:Int)(b:V)(D h:Nat->So)(e:Nat):Res Unit:=(d1a p w (X (Lo p) (hiE (.int w) b D h))).bd fun ee x=>b1j a67 (b3z p (.int w) b D h ee) e x
noncomputable def sdR(s:Bool)(p:Pm)(w:Int)(b:V)(D h:Nat->So)(e:Nat):List Sd:=(d19 p w b D h e).side s (fun _ _=>[]) [] []
noncomputable def F9:List Int:=[-1,0,1]
theorem R_run(p:Pm)(b:V)(D h:Nat->So)(e:Nat):mapL (fun n=>mapL (fun w=>sdR true (k7 p n) w b D h e) F9) l13=mapL (fun n=>mapL (fun w=>sdR false (k7 p n) w b D h e) F9) l13:=by kernel_rfl
theorem Res.All_all{α ι:Type}[Inhabited ι]{P:ι->α->S->Prop}:∀ (r:Res α),(∀i,r.All (P i))->r.All fun a x=>∀i,P i a x:=by
 intro r;induction r with
 |fail=>exact fun h=>h default
 |ok a x=>exact fun h=>h
 |ask m k ih=>exact fun h d hd=>ih d fun i=>h i d hd
 |same p q r ih=>exact fun h=>⟨(h default).1,ih fun i=>(h i).2⟩
section
variable{C:Cx}{A:Around}{E:Value->Shared->Prop}{σ:St C}{e:AE}{env:Env}
theorem c52{α:Type}(Dr:V0 C)(rm:F0 30 A)(He:Er σ e env){f:Str}{fp pos:Pos}{args:List Expr}{a:Nat}{want:List V}{K:AE->S->Res α}(ns:noStar args=true){P:α->S->Prop}(z:(b5x f args a want K e σ.x).All P){Q:Value->Shared->Prop}
  (go:∀ (e':AE) (env':Env) (τ:St C),Le σ τ->Er τ e' env'->(K e' τ.x).All P->wpAny C.m (A.deeper env') (execs (E4 a) env') (fun f s'=>Q (match f with| .ret v=>v|_=>.none) s') (fun e s'=>wpAny C.m (A.deeper env') (leaving env' e) (fun _ s''=>E e s'') E s') τ.s):
  wpAny C.m A (eval (.Call (.Name f fp) args [] pos) env) Q E σ.s:=by
 refine b4c ((v8 He).use z fun fv uf τ X r z=>?_);revert z;refine ckE fun hc z=>?_;refine yea (c56 r hc) fun PP hp hk=>?_;refine a4q (first:=[]) (PP:=PP) ns hk ((a54 (f7 A3 Dr 20) (rm.mono (by decide)) args (X.env He)).use z fun vs us υ Y r' z2=>⟨hp _ υ.D.keep,?_⟩);clear z;obtain ⟨ev,z3⟩:=z2;obtain ⟨rfl,rfl⟩:=Z0 (Sd.vs.inj ev);revert z3;refine ndE fun fi hfi z4=>?_;revert z4;refine ndE fun bs hbs z5=>?_;cases r;refine U9 (b78 (k:=29) rm.space hfi hbs r' (R:=fun r s'=>match r with| .ok (.ret v)=>Q v s'| .ok _=>False| .error e=>E e s') ((Res.All_bd _ _ _).mp z5) fun e' env' φ Z He' z6=>?_);have:=go e' env' φ ((X.trans Y).trans Z) He' z6;rw[show E4 a=fi.body by unfold E4;refine rE hfi ?_;rfl] at this;exact this
theorem b79{φ:St C}{m:Nat}(He:Er φ e env)(q:frB m e φ.x=true):∃i es,e.frame=some i/\env.frame=some (φ.ρ i)/\m<=i/\φ.x.get i=some (.ns es)/\a42 φ.h env:=by
 have hk:=He.kind;obtain ⟨rfl,_⟩:=He;unfold frB at q;cases hf:e.frame with
 |none=>rw[hf] at q;cases q
 |some i=>
  rw[hf] at q;refine anE (fun q1 q2=>?_) (show w4 (U0 m i) (obd (φ.x.get i) oNs).isSome=true from q);cases hg:φ.x.get i with
  |none=>rw[hg] at q2;cases q2
  |some o=>
   rw[hg] at q2;cases o with
   |ns es=>
    have hfe:(e.env φ.ρ).frame=some (φ.ρ i):=by show e.frame.map φ.ρ=_;refine rE hf ?_;rfl
    refine m5 (φ.D.obj i _ hg) fun _ ob g1 zz=>?_;refine B1 zz fun l k g2 _=>?_;clear zz;exact ⟨i,es,rfl,hfe,d3 q1,hg,hk,_,hfe,ob,l,k,g1,g2⟩
   |_=>cases q2
end
section
variable{C:Cx}{A:Around}{E:Value->Shared->Prop}{σ:St C}{lenv:Env}{p:Pm}{w:Int}{b:V}{D h:Nat->So}
theorem L8_id:∀i,i < 264->plc L8 i=i:=fun i hi=>by
 by_cases q:i < 256
 ·exact W8 q
 ·obtain ⟨j,rfl⟩:∃j,i=256+j:=⟨i - 256,by omega⟩
  refine rE (z8 ..) ?_;exact (by unfold L8;decide:∀j,j < 8->nthD L8 j=256+j) j (by omega)
theorem a42.at{h:Heap}{env:Env}{a:Addr}(F:a42 h env)(f:env.frame=some a):a44 h a:=by
 refine m5 F fun _ L hf hI=>?_;clear F;rw[f] at hf;exact C0 hf▸hI
theorem b7b{M:Model}{A:Around}{α:Type}{t:Sem α}{Q:α->Shared->Prop}{E:Value->Shared->Prop}{s:Shared}(h:∀Q' E',Q'=Q->E'=E->wpAny M A t Q' E' s):wpAny M A t Q E s:=h Q E rfl rfl
theorem e7h(Ex:l9 C)(Dr:V0 C)(G:p.Ok)(hw:w∈F9)(rm:F0 300 A)(hf:A.frames=some [lenv])(hx:σ.x=X (Lo p) (hiE (.int w) b D h))(He:Er σ eB lenv){Q:Value->Shared->Prop}
  (q:∀τ:St C,τ.x=σ.x->Le σ τ->Q (.bool true) τ.s):wpAny C.m A (eval a79 lenv) Q E σ.s:=by
 have run:∀e,(d19 p w b D h e).All fun _ _=>True:=fun e=>Res.All_mono (fun _ _ _=>trivial) (Res.side_one (f:=fun _ _=>[]) (g:=fun _ _=>[]) (y0 (y0 (R_run p b D h e) p.ne G.ne) w hw));have z0:(d1a p w (X (Lo p) (hiE (.int w) b D h))).All fun ee x=>∀e,(b1j a67 (b3z p (.int w) b D h ee) e x).All fun _ _=>True:=Res.All_all _ fun e=>(Res.All_bd _ _ _).mp (run e);rw[<-hx] at z0;have hC:=Ex.c;refine c52 Dr (rm.mono (by decide)) He rfl z0 fun e1 env1 τ1 X1 He1 z1=>?_;have rm1:F0 250 (A.deeper env1):=n8.deeper (k:=250) ((rm.mono (show 251<=300 by decide)).space) env1;refine rE e7d ?_;refine j9 (wpAny_Try_except ?_);refine j9 (wpAny_Expr_any ?_ (b8v He1) (a3w rfl _ _ _));refine b7b fun Q1 E1 _ h1=>?_;refine c52 Dr (rm1.mono (by decide)) He1 rfl z1 fun e2 env2 τ2 X2 He2 z2=>?_;refine b7b fun Q2 E2 _ h2=>?_;have rm2:F0 249 ((A.deeper env1).deeper env2):=n8.deeper (k:=249) rm1.space env2;have CR:Y3 C 160 (c5q p):=i6 (Y0 (b13 Dr G)) j1 j1;refine rE e78 ?_;refine c7d (((f7 CR Dr 200).sts (rm2.mono (by decide)) He2 b9o).use z2 fun f v τ3 X3 rf z3=>?_);cases f with
 |brk=>exact z3.elim
 |cont=>exact z3.elim
 |ret _=>exact z3.elim
 |next=>
  cases rf;have He3:=X3.env He2;refine j9 (wpAny_If (((f7 A3 Dr 20).tr (rm2.mono (by decide)) He3 wT2).use z3 fun bb vb τ4 X4 r4 z4=>?_));revert z4;refine ckE fun hbb z4=>?_;subst hbb;cases r4;have He4:=X4.env He3;obtain ⟨eg,z4⟩:=z4;have z4:((items (hk 0 ct0 20) [a8h] e2 τ4.x).bd fun vs x=>Res.same (Sd.vs vs) (Sd.vs [V.str a67]) (Res.ok (e1,e2) x)).All (fun ee x=>∀e,(b1j a67 (b3z p (.int w) b D h ee) e x).All fun _ _=>True):=z4;show wpAny C.m _ (execs [.Raise (some (.Call (.Name Q9 ⟨451,14,451,23⟩) [a8h] [] ⟨451,14,451,56⟩)) none ⟨451,8,451,56⟩] env2) _ _ _;refine b7b fun Q3 E3 _ h3=>?_;refine j9 ?_;refine rE (arm_exec_Raise ..) ?_;refine m0 (H5 (e7b rm2.handled (m0 (F7 ?_ (fun v s₃ h₃=>m0 (H5 (q0 h₃))) fun _ _ x=>x))));have hq4:=He4.look (b7o (Sd.bo.inj eg));have hk4:=He4.kind;refine b4c (c9b τ4.D.keep hk4 hq4 (He4.1▸rfl) (He4.1▸rfl) ?_);refine yea (a0v.K (C:=C) Ex.kp) fun PP hp hkk=>?_;refine a4q (first:=[]) (PP:=PP) rfl hkk ((a54 (f7 A3 Dr 20) (rm2.mono (by decide)) [a8h] He4).use z4 fun vs us τ5 X5 r5 z5=>⟨hp _ τ5.D.keep,?_⟩);obtain ⟨ev,z6⟩:=z5;obtain rfl:=Sd.vs.inj ev;cases r5 with
  |cons r6 r7=>
   cases r7;obtain ⟨t,rfl⟩:=r6;refine e0h Ex (rm2.mono (by decide)) (T:=b3z p (.int w) b D h (e1,e2)) z6 fun φ e a0 di h' tk' X6 zt hfe kp hex=>?_;refine ⟨e,a0,di,rfl,kp _ _ (φ.D.keep _ _ hC),hex,?_⟩;have X26:=((X3.trans X4).trans X5).trans X6;have He2':=X26.env He2;have He1':=(X2.trans X26).env He1;have He0':=((X1.trans X2).trans X26).env He;obtain ⟨et,zt⟩:=zt;refine anE (fun t1 et=>?_) (Sd.bo.inj et);revert et;refine anE fun t2 et=>?_;revert et;refine anE fun t3 t4=>?_;have zt:(a1f (Lo p) (tE (.int w) b D h) L8 φ.x.n φ.x (.ok () φ.x)).All (fun _ _=>True):=zt;refine yaa (a50 (x:=φ.x) zt) fun F _ _=>?_;refine a40 (b79 He1' t2) fun i1 es1 _ f1 l1 g1 fr1=>?_;refine a40 (b79 He2' t3) fun i2 es2 _ f2 l2 g2 fr2=>?_;refine a40 (b79 He0' t4) fun i0 es0 f00 f0 l0 g0 fr0=>?_;obtain rfl:i0=256:=(C0 f00).symm;have hL:∀L∈P8 [env2,env1,lenv],L=φ.ρ i2∨L=φ.ρ i1∨L=φ.ρ 256:=fun L hL=>by
    refine yea (List.mem_filterMap.mp hL) fun en hm hf'=>?_;simp only[O0,G1,or_false] at hm;rcases hm with rfl|rfl|rfl
    ·exact .inl (C0 (hf'.symm.trans f2))
    ·exact .inr (.inl (C0 (hf'.symm.trans f1)))
    ·exact .inr (.inr (C0 (hf'.symm.trans f0)))
   have hI:∀L∈P8 [env2,env1,lenv],a44 φ.h L:=fun L h=>by
    rcases hL L h with rfl|rfl|rfl
    ·exact fr2.at f2
    ·exact fr1.at f1
    ·exact fr0.at f0
   have hB:∀L∈P8 [env2,env1,lenv],C.hb.get? L=none:=fun L h=>by
    rcases hL L h with rfl|rfl|rfl
    ·exact φ.D.fresh _ _ g2
    ·exact φ.D.fresh _ _ g1
    ·exact φ.D.fresh _ _ g0
   have hF:∀env∈[env2,env1,lenv],a42 φ.h env:=A1 fr2 (A1 fr1 (Y0 fr0));subst h3 h2 h1;refine e3e (hφ:=φ.h) (env1:=env1) (env2:=env2) (lenv:=lenv) (b4n (b4n hf)) hF kp hfe hex fun h1 hfl sm1=>?_;refine d7b Ex (hφ:=φ.h) (fun b o eb=>hideAll_get _ (φ.D.keep b o eb) fun hm=>by rw[hB b hm] at eb;cases eb) (b4n hf) f1 hfl sm1 He1'.kind (He1'.look (b7o t1)) (He1'.1▸rfl) (He1'.1▸rfl) fun h2 st sm2=>?_;show Q (.bool true) {φ.s with heap:=h2,toks:=tk'};have N:a6v φ.h h2 (P8 [env2,env1,lenv]):=⟨fun b o hb eb=>st b o (hideAll_get _ eb hb),fun b hb o eb=>sm2 b o eb fun vs qd=>by
    refine G3 (hI b hb) fun o' es k o1 o2=>?_;rw[eb] at o1;cases C0 o1;rw[qd] at o2;cases o2⟩
   have D1:At C φ.ρ φ.x h2:=φ.D.noted N (fun i o eo hm=>by
    rcases hL _ hm with e|e|e
    ·obtain rfl:=φ.D.inj _ _ _ _ eo g2 e
     exact ⟨_,C0 (eo.symm.trans g2)⟩
    ·obtain rfl:=φ.D.inj _ _ _ _ eo g1 e
     exact ⟨_,C0 (eo.symm.trans g1)⟩
    ·obtain rfl:=φ.D.inj _ _ _ _ eo g0 e
     exact ⟨_,C0 (eo.symm.trans g0)⟩) hB hI
   have X0:=((X1.trans X2).trans X26);have hn:σ.x.n=264:=by refine rE hx (rE X_n ?_);rfl
   have hlv:Live σ.x 256:=by refine rE hx ?_;exact ⟨OT.val T3 (.ns [(C8,.v (.int w)),(R9,.n 5),(a1y,.v b)]),by kernel_rfl⟩
   have X7:=X0.X.noted N (fun L h=>by
    rcases hL L h with rfl|rfl|rfl
    ·exact .inr ⟨i2,by refine rE hn ?_;exact l2,⟨_,g2⟩,rfl⟩
    ·exact .inr ⟨i1,by refine rE hn ?_;exact l1,⟨_,g1⟩,rfl⟩
    ·exact .inl ⟨256,by refine rE hn ?_;decide,hlv,(X0.X.agree 256 (by refine rE hn ?_;decide)).symm⟩) hI
   have D2:=F.shrink (H4 p) D1;rw[show X (Lo p) (W2 (tE (.int w) b D h).us₀ [])=σ.x from (d4u ..).trans hx.symm] at D2;refine q ⟨{φ.s with heap:=h2,toks:=tk'},fun i=>φ.ρ (plc L8 i),σ.x,D2⟩ rfl ⟨⟨fun i hi=>?_,i3 _,fun i _ hl=>hl,fun i hi zz=>ye zz fun o eo=>absurd (σ.D.obj i o eo).1 (M3.mpr hi),X7.keep,X7.tups,X7.tab⟩,?_⟩
   ·show φ.ρ (plc L8 i)=σ.ρ i
    refine rE (L8_id i (by rw[<-hn];exact hi)) ?_;exact X0.X.agree i hi
   ·show ({φ.s with heap:=h2,toks:=tk'}:Shared)={σ.s with heap:=h2,toks:=tk'}
    exact rE X0.e rfl
end
noncomputable def ctTl(p:Pm)(b:V):CT:=ctH (Lo p) ct0 ⟨[enSh b],[],[],[]⟩
noncomputable def cmpK(p:Pm)(b:V)(x:S):Res Unit:=((hk 200 (ctTl p b) 220).ex a68 eB x).bd fun v x=>(A6 a1y eB x).bd fun v2 x=>.same (.vs [v,v2]) (.vs [E8 b,E8 b]) <| .ok () x
noncomputable def sdK(s:Bool)(p:Pm)(v b:V)(D h:Nat->So):List Sd:=(cmpK p b (X (Lo p) (hiE v b D h))).side s (fun _ _=>[]) [] []
theorem K_run(p:Pm)(v b:V)(D h:Nat->So):sdK true p v b D h=sdK false p v b D h:=by kernel_rfl
theorem W_run(p:Pm)(b:V)(D h:Nat->So):mapL (fun w=>(hk 0 ct0 20).tr wT1 eB (X (Lo p) (hiE (.int w) b D h))) F9=mapL (fun w=>.ok true (X (Lo p) (hiE (.int w) b D h))) F9:=by kernel_rfl
section
variable{C:Cx}{A:Around}{E:Value->Shared->Prop}{σ:St C}{k:Nat}
theorem e75(rm:F0 k A){xs:List V}(hp:U5 40 (.tup xs)=true){u u':Value}(r:Vr σ (.tup xs) u)(r':Vr σ (.tup xs) u'):∀ (Q:Value->Shared->Prop),Q (.bool true) σ.s->wpAny C.m A (w9 .Eq u u') Q E σ.s:=fun Q z=>by
 refine G4 (J5 r) fun b vs c zy h1 h2=>?_;subst zy;refine G4 (J5 r') fun b' vs' c' zz h1' h2'=>?_;subst zz;have hl:=rm.line;have hu:A.units < cLine:=Z3 (m4 _ _) hl;have z1:=SeqAt.RcAt.tuples (A:=A) (s:=σ.s) (l:=b) (b:=b') (items:=vs.toArray) (items2:=vs'.toArray) (e:=fun _=>true) ⟨_,h1,rfl,_,rfl⟩ ⟨_,h1',rfl,_,rfl⟩ hu
  (b9m (fun v hv u u' r r'=>b30 39 v A.in1 u u' (b0b (show s7 (U5 39) xs=true from hp) v hv) (Z3 (by show A.units+1+39<=A.units+65;refine rE (a2m ..) ?_;exact k8 (by decide) _) hl) r r') h2 h2')
 rw[c3h h2 h2'] at z1;exact z1 _ _ E Q z
end
theorem Le.dead{C:Cx}{σ τ:St C}(X:Le σ τ):∃υ:St C,υ.s=τ.s/\υ.x=K5 σ.x.n/\Le σ υ:=
 ⟨⟨τ.s,σ.ρ,K5 σ.x.n,τ.D.dead σ.D.room⟩,rfl,rfl,⟨⟨fun i hi=>rfl,i3 _,fun i _ zy=>ye zy fun o e=>(by rw[a0a] at e;cases e),fun i _ zz=>ye zz fun o e=>(by rw[a0a] at e;cases e),fun b o hb e=>X.X.keep b o hb e,X.X.tups,X.X.tab⟩,X.e⟩⟩
theorem e3p{C:Cx}(Ex:l9 C)(Dr:V0 C){ne:Nat}{g:List Nat}(hn:ne∈l13){w:Int}(hw:w∈F9){A:Around}{σ:St C}{env:Env}{D h:Nat->So}(rm:F0 300 A)(hf:A.frames=some [env])(hx:σ.x=X (Lo (pA ne g)) (hiE (.int w) (shA ne g) D h))(He:Er σ eB env):
  GoR A (execs E9 env) σ Fr (.ok (.ret (.bool true)) (K5 264)):=fun Q E z=>by
 have tr:=(f7 (c:=0) (A3 (C:=C)) Dr 20).tr (rm.mono (by decide)) He wT1;rw[hx,y0 (W_run (pA ne g) (shA ne g) D h) w hw] at tr;refine rE e33 ?_;refine j9 (wpAny_If (tr _ _ (fun v τ hτ X1 r=>?_)));cases r;have He1:=X1.env He;show wpAny C.m A (execs [.Return (some (.BoolOp .And [a79,.Compare a68 [.Eq] [.Name a1y ⟨544,65,544,71⟩] ⟨544,49,544,71⟩] ⟨544,15,544,71⟩)) ⟨544,8,544,71⟩] env) _ _ _;refine j9 (wpAny_Return_some ?_);refine rE (arm_eval_BoolOp ..) ?_;show wpAny C.m A (boolOp _ .And [eval a79 env,eval (.Compare a68 [.Eq] [.Name a1y ⟨544,65,544,71⟩] ⟨544,49,544,71⟩) env]) _ _ _
 with_unfolding_all show wpAny C.m A (eval a79 env >>=_) _ _ _
 refine m0 (e7h Ex Dr (okA hn) hw rm hf hτ He1 fun υ hυ X2=>m0 (H5 (m0 (J2 (A5 (a:=true) (by rfl) ?_)))));show wpAny C.m A (boolOp _ .And [eval (.Compare a68 [.Eq] [.Name a1y ⟨544,65,544,71⟩] ⟨544,49,544,71⟩) env]) _ _ _;have He2:=X2.env He1;have CY:Y3 C 200 (ctTl (pA ne g) (shA ne g)):=a09 ⟨Y0 (.of (d2z Dr hn)),j1,j1,j1⟩ A3;have run:(cmpK (pA ne g) (shA ne g) υ.x).All fun _ _=>True:=by
  refine rE hυ (rE hτ ?_);exact Res.All_mono (fun _ _ _=>trivial) (Res.side_one (f:=fun _ _=>[]) (g:=fun _ _=>[]) (K_run (pA ne g) (.int w) (shA ne g) D h))
 refine wpAny_Compare1 (((f7 CY Dr 220).ex (rm.mono (by decide)) He2 a68).use run fun v u1 φ X3 r1 z3=>(v8 (X3.env He2)).use z3 fun v2 u2 ψ X4 r2 z4=>?_) rfl;obtain ⟨ev,_⟩:=z4;obtain ⟨e1,e2⟩:=Z0 (Sd.vs.inj ev);obtain ⟨e2,_⟩:=Z0 e2;subst e1 e2;have X14:=((X1.trans X2).trans X3).trans X4;refine e75 rm (xs:=_) (e9r ne g) (X4.v r1) r2 _ ?_;refine R0 X14.dead fun θ t1 t2 t3=>?_;rw[show σ.x.n=264 by refine rE hx (rE X_n ?_);rfl] at t2;exact t1▸z _ θ t2 t3 ⟨_,rfl,rfl⟩
theorem e8c{C:Cx}(Ex:l9 C)(L:a0w C)(Dr:V0 C):RunE C:=fun ne g hn=>by
 have hm:∀m,O1 m 5=0∨O1 m 5=1∨O1 m 5=2∨O1 m 5=3∨O1 m 5=4:=fun m=>(by decide:∀r,r < 5->r=0∨r=1∨r=2∨r=3∨r=4) _ (a02 m (by decide));have low:∀w,w∈F9->y5 ne g=.int w->∃r:Res FL,(r.All fun f _=>f=.ret (.bool true))/\∀ {A:Around} {σ:St C} {env:Env},F0 332 A->A.frames=some [env]->σ.x=X (Lo (pA ne g)) (hiE (y5 ne g) (shA ne g) (L5 ne g) (heldA ne g))->Er σ eB env->GoR A (execs E9 env) σ Fr r:=fun w hw e=>
  ⟨.ok (.ret (.bool true)) (K5 264),rfl,fun {A σ env} rm hf hx He=>e3p Ex Dr hn hw (rm.mono (by decide)) hf (e▸hx) He⟩
 have high:∀w,w=2∨w=3->y5 ne g=.int (.ofNat w)->∃r:Res FL,(r.All fun f _=>f=.ret (.bool true))/\∀ {A:Around} {σ:St C} {env:Env},F0 332 A->A.frames=some [env]->σ.x=X (Lo (pA ne g)) (hiE (y5 ne g) (shA ne g) (L5 ne g) (heldA ne g))->Er σ eB env->GoR A (execs E9 env) σ Fr r:=fun w hw e=>by
  refine yea (e79 Dr L (p:=pA ne g) (D:=L5 ne g) (H:=heldA ne g) (b:=shA ne g) (okdA hn) (c6j ne g hn) hw) fun r h1 h2=>?_;exact ⟨r,h1,fun {A σ env} rm hf hx He=>h2 rm (e▸hx) He⟩
 rcases hm (nthD g (w0 ne 5)) with h|h|h|h|h
 ·exact low (-1) (by unfold F9;decide) (by unfold y5;refine rE h ?_;rfl)
 ·exact low 0 (by unfold F9;decide) (by unfold y5;refine rE h ?_;rfl)
 ·exact low 1 (by unfold F9;decide) (by unfold y5;refine rE h ?_;rfl)
 ·exact high 2 (.inl rfl) (by unfold y5;refine rE h ?_;rfl)
 ·exact high 3 (.inr rfl) (by unfold y5;refine rE h ?_;rfl)
theorem e8a{C:Cx}(Ex:l9 C)(L:a0w C)(Dr:V0 C):RunB C:=e89 Dr (e8c Ex L Dr)
section
variable{C:Cx}
theorem e2s{l:Nat->List Nat}(hl:∀i,(l i).length<=3)(v:V):(keyL l v).length<=3:=by
 unfold keyL;cases a1n v with
 |none=>exact D5 3
 |some k=>
  show (ifb (U0 k 2) (l k) []).length<=3;cases U0 k 2 with
  |true=>exact hl k
  |false=>exact D5 3
theorem e5u(Dr:V0 C){a ne:Nat}{v:V}{g:List Nat}{b:Option Nat}{q:Nat->So}{l:Nat->List Nat}(ha:a < 2)(hl:∀i,(l i).length<=3):CtDOk C 100 lo0 (ctPg a ne v g b q l):=by
 have CY:Y3 C 60 (pgCT a v q l):=i6 j1 (Y0 fun vs x t h=>by cases h;exact f0i Dr ha (e2s hl _)) j1;have m:=(by decide:∀a,a < 2->a∈[0,1]) a ha;exact U1.okL (j:=jPg a ne v g b q l) Dr CY a1m rfl (y0 (e6u ne v g b q l) a m) (y0 (e6s ne v g b q l) a m)
theorem d9u(Dr:V0 C):B5 C 100 lo0 c6u:=fun vs x t h=>by
 have h:ifb (J0 (D4 (nsN (hd vs) x Y8)) 2) (some _) none=some t:=h;revert h;refine ifE fun h1 h=>?_;cases h;exact e5u Dr (B4 h1) fun i=>c04 _
end
structure b05(C:Cx)(a:Addr)(xs:List Int):Prop where
 at_:∃vs,C.hb.IsList a vs.toArray/\All2 (fun i u=>∃t,u=u9 i t) xs vs
 len:xs.length<=63
section
variable{C:Cx}{a:Addr}{xs:List Int}
theorem b7m{h:Heap}{ρ:Nat->Addr}{n:Nat}:∀ {xs:List Int} {vs:List Value},All2 (fun i u=>∃t,u=u9 i t) xs vs->VRl h ρ n (c3l xs) vs
 | [],_,r=>by cases r;exact .nil
 |x::xs,_,r=>by cases r with|cons h1 r=>exact .cons h1 (b7m r)
theorem d53:∀xs:List Int,(c3l xs).length=xs.length
 | []=>rfl
 |_::xs=>congrArg Q0 (d53 xs)
theorem f2k(hs:b05 C a xs){c:Nat}:XOk C c (xeT a xs):=fun {A σ e env} rm He r hr=>by
 cases hr;intro Q E z;show wpAny C.m A (eval slE env) Q E σ.s;unfold slE;refine wpAny_Subscript_Slice (T:="list") (id:="list.__getitem__") slot_list_getitem.lookup ((v8 He).use z fun v u τ X r1 z=>wpAny_Slice (wpAny_evalPart_none (wpAny_evalPart_some (wpAny_Constant_int (wpAny_evalPart_none ?_))))) (fun a b=>rfl);obtain ⟨ev,z⟩:=z;obtain rfl:=(Z0 (Sd.vs.inj ev)).1;revert z;refine ckE fun hx z=>?_;cases r1;refine yea hs.at_ fun vs zz rl=>?_;refine R0 zz fun ob e1 hc zy=>?_;clear zz;obtain ⟨k,hd⟩:=zy;have hlen:vs.length<=63:=by refine rE (VRl.len (b7m (h:=C.hb) (ρ:=id) (n:=0) rl)) (rE (d53 ..) ?_);exact hs.len
 have e1:=τ.D.keep _ _ e1;refine ⟨⟨_,V2 _ e1,hc⟩,?_⟩;refine wpAny_getItem_list_slice (items:=vs.toArray) (lo:=none) (hi:=some (.ofNat 63)) (st:=none) ⟨_,V2 _ e1,hc,_,hd⟩ (Heap.IsSliceOf.new _ _ _ _) .none (.int _ _) .none (by simp) ?_ (by refine rE p6 ?_;exact M4 (W0 hlen (by decide)));rw[show slicePick vs.toArray none (some (.ofNat 63)) none=vs.toArray from by
  have:=slicePick_upto' vs.toArray 63;rw[List.take_of_length_le hlen] at this;exact this]
 refine R0 (St.grow_k (σ:=τ) (h':=τ.h.push {cls:=.type "slice",data:=.fields #[.none,.int (.ofNat 63) τ.s.toks,.none]}) (τ.s.toks+1) fun b o e=>V2 _ e) fun ψ e5 e6 W=>?_;have e7:τ.h.push {cls:=.type "slice",data:=.fields #[.none,.int (.ofNat 63) τ.s.toks,.none]}=ψ.h:=congrArg a6y e5;have e8:({τ.s with heap:=τ.h.push {cls:=.type "slice",data:=.fields #[.none,.int (.ofNat 63) τ.s.toks,.none]},toks:=τ.s.toks+1}:Shared)=ψ.s:=e5;rw[<-e6] at z hx;have g:=A0.newL (A0.up (X.trans W) z) hx (b7m rl) (tk:=τ.s.toks+1) (c:=0);rw[<-e8,<-e7] at g;exact g
end
theorem d40:∀ (xs:List Int) {d:Int},0<=d->0<=tapD xs d
 | [],_,h=>h
 |c::xs,d,h=>d40 xs (d:=Int.add (Int.mul d 4099) (absI c)) (Int.add_nonneg (Int.mul_nonneg h (by decide)) (a9n _))
theorem d41:∀ (xs:List Int) {s:Int},0<=s/\s < 1000000007->0<=a9b xs s/\a9b xs s < 1000000007
 | [],_,h=>h
 |c::xs,s,h=>d41 xs (s:=Int.fmod (Int.add (Int.mul s 523) c) 1000000007) ⟨Int.fmod_nonneg_of_pos _ (by decide),Int.fmod_lt_of_pos _ (by decide)⟩
theorem f19(d s:Int)(hd:0<=d)(hs:0<=s/\s < 1000000007){C:Cx}{h:Heap}{ρ:Nat->Addr}{n:Nat}{ob:Obj}(q:OV C h ρ n (.list [.int d,.int s,.int 0]) ob):OV C h ρ n (.tape 0 []) ob:=by
 refine B1 q fun vs k r zz=>?_;clear q;subst zz;cases r with
 |cons h1 r=>cases r with
  |cons h2 r=>cases r with
   |cons h3 r=>
    cases r;obtain ⟨t,rfl⟩:=h1;obtain ⟨u,rfl⟩:=h2;obtain ⟨v,rfl⟩:=h3;exact ⟨_,k,rfl,d,s,0,t,u,v,rfl,hd,hs.1,hs.2,a6m 0,a6m 0⟩
theorem GoR.retell{C:Cx}{A:Around}{α β:Type}{t:Sem α}{σ:St C}{R:St C->β->α->Prop}{b:β}{x1 x2:S}{o1 o2:O}(go:GoR A t σ R (.ok b x1))(h1:∀i,x1.get i=if i=σ.x.n then some o1 else σ.x.get i)(h2:∀i,x2.get i=if i=σ.x.n then some o2 else σ.x.get i)(hn:x1.n=x2.n)(n1:x1.n=σ.x.n+1)(ho:∀ {h:Heap} {ρ:Nat->Addr} {n:Nat} {ob:Obj},OV C h ρ n o1 ob->OV C h ρ n o2 ob)(hR:∀ (τ υ:St C) v,τ.s=υ.s->τ.ρ=υ.ρ->τ.x.n=υ.x.n->R τ b v->R υ b v):GoR A t σ R (.ok b x2):=fun Q E z=>go Q E fun v τ hτ X r=>by
 have lv:∀i,Live x2 i->Live x1 i:=fun i zz=>ye zz fun o e=>by
  rw[h2] at e;by_cases q:i=σ.x.n
  ·exact ⟨o1,by exact rE (h1 ..) (rE (if_pos q) rfl)⟩
  ·rw[if_neg q] at e;exact ⟨o,by refine rE (h1 ..) (rE (if_neg q) ?_);exact e⟩
 have D:=τ.D;rw[hτ] at D;have D2:At C τ.ρ x2 τ.h:=by
  refine ⟨D.keep,fun i o e=>?_,fun i o e=>?_,fun i j o o' e e' q=>?_,hn▸D.room⟩
  ·rw[h2] at e
   by_cases q:i=σ.x.n
   ·rw[if_pos q] at e
    cases e;refine m5 (D.obj i o1 (by exact rE (h1 ..) (rE (if_pos q) rfl))) fun hi ob g1 g2=>?_;exact ⟨hn▸hi,ob,g1,ho (hn▸g2)⟩
   ·rw[if_neg q] at e
    refine m5 (D.obj i o (by refine rE (h1 ..) (rE (if_neg q) ?_);exact e)) fun hi ob g1 g2=>?_;exact ⟨hn▸hi,ob,g1,hn▸g2⟩
  ·obtain ⟨o',e'⟩:=lv i ⟨o,e⟩
   exact D.fresh i o' e'
  ·obtain ⟨p,e1⟩:=lv i ⟨o,e⟩
   obtain ⟨p',e2⟩:=lv j ⟨o',e'⟩;exact D.inj i j p p' e1 e2 q
 have Y:=X.X;rw[hτ] at Y;exact z v ⟨τ.s,τ.ρ,x2,D2⟩ rfl ⟨⟨Y.agree,hn▸Y.le,fun i hi l=>Y.live i hi (lv i l),fun i hi l=>Y.new i hi (lv i l),Y.keep,Y.tups,Y.tab⟩,X.e⟩ (hR τ _ v rfl rfl (by show τ.x.n=x2.n;exact rE hτ (rE hn rfl)) r)
section
variable{C:Cx}{a:Addr}{xs:List Int}
theorem c50(c:Nat->Int):∀ (xs:List Int) (i:Nat),(∀j v,xs[j]? =some v->c (i+j)=v)->cL c xs.length i=xs
 | [],_,_=>rfl
 |x::xs,i,h=>by
  show c i::cL c xs.length (Q0 i)=x::xs;exact rE (show c i=x from h 0 x rfl) (rE (c50 c xs (Q0 i) fun j v e=>by rw[show Q0 i+j=i+(j+1) by omega];exact h (j+1) v e) rfl)
theorem e4h:∀n,n<=63->n∈n64:=fun n h=>(by unfold n64;decide:∀n,n < 64->n∈n64) n (by omega)
theorem f1a(Dr:V0 C)(hs:b05 C a xs):CtOk C 90 lo0 (c5x a):=by
 have e:cL (fun i=>xs.getD i 0) xs.length 0=xs:=c50 _ xs 0 fun j v e=>by show xs.getD (0+j) 0=v;refine rE (K8 ..) (rE (a0y) (rE e ?_));rfl
 have run:=y0 (f1b a fun i=>xs.getD i 0) _ (e4h _ hs.len);rw[e] at run;have H:=Job.ok (j:=⟨lo0,ctTL a (tapD xs 0) (a9b xs 0),a1t⟩) Dr (c:=0) (i6 j1 j1 (Y0 (f2k hs))) a1m run;constructor
 intro A σ L rm F h0 hsb hp hn us r;obtain rfl:=o6 F.len;have hN:σ.x.n < 1000000:=σ.D.room;refine GoR.retell (H.go rm F h0 hsb hp hn us r) (o1:=.list [.int (tapD xs 0),.int (a9b xs 0),.int 0]) (o2:=.tape 0 []) (fun i=>b5f hN i) (fun i=>b5f hN i) rfl rfl (f19 _ _ (d40 xs (a6m 0)) (d41 xs ⟨a6m 0,by decide⟩)) fun τ υ v e1 e2 e3 r=>?_;obtain ⟨u,eu,r⟩:=r;refine ⟨u,eu,?_⟩;obtain ⟨r1,r2⟩:u=.ref (τ.ρ σ.x.n)/\σ.x.n < τ.x.n:=r;exact (show u=.ref (υ.ρ σ.x.n)/\σ.x.n < υ.x.n from ⟨by exact rE r1 (rE e2 rfl),e3▸r2⟩)
theorem e32(Dr:V0 C)(hs:b05 C a xs):Y3 C 100 (b80 a):=
 a09 ⟨Y0 ((d9x Dr).mono (by decide)),A1 ((d9p Dr).mono (by decide)) (Y0 (d9u Dr)),A1 ((e01 Dr).mono (by decide)) (Y0 ((d9s Dr).mono (by decide))),j1⟩ (i6 (Y0 (.of ((f1a Dr hs).mono (by decide)))) j1 j1)
theorem e36(Ex:l9 C)(L:a0w C)(Dr:V0 C)(hs:b05 C a xs){A:Around}{σ:St C}(rm:n8 332 A)(hf:A.frames=some [])(hx:σ.x=X lo0 []){Q:Value->Shared->Prop}{E:Value->Shared->Prop}(q:∀τ:St C,Le σ τ->Q (.bool true) τ.s):wpAny C.m A (p5 (.ref 727) [.ref a]) Q E σ.s:=
 e37 (e8a Ex L Dr) Dr (e32 Dr hs) rm hf hx (u:=.ref a) rfl Q E (Res.All_mono (fun v x e=>by subst e;exact fun u τ _ X r=>by cases r;exact q τ X) (e88 a))
end
theorem b4u{get:Nat->Obj}{a:Addr}{o:Obj}:∀ {as:List Nat},(KF get as).lookup a=some o->a∈as/\o=get a
 | [],h=>D0 h
 |b::as,h=>by
  have h:(((b,get b)::KF get as):Frag).lookup a=some o:=h;rw[List.lookup_cons] at h;cases q:a==b with
  |true=>rw[q] at h;obtain rfl:=beq_iff_eq.mp q;exact ⟨.head _,(C0 h).symm⟩
  |false=>rw[q] at h;exact ⟨.tail _ (b4u h).1,(b4u h).2⟩
theorem KF_congr{g g':Nat->Obj}(h:∀a,g a=g' a)(as:List Nat):KF g as=KF g' as:=by exact rE (show g=g' from funext h) rfl
theorem KF_in{get:Nat->Obj}{as:List Nat}{h:Heap}(hs:∀a∈as,h.get? a=some (get a)):(KF get as).In h:=fun a o e=>by
 obtain ⟨h1,rfl⟩:=b4u e;exact hs a h1
theorem c3x{get:Nat->Obj}:∀ {as:List Nat},((KF get as).all fun p=>!p.2.isFreed)=true->∀a∈as,(get a).isFreed=false
 |b::as,h,a,ha=>by
  obtain ⟨h1,h2⟩:=H8.mp (show ((!(get b).isFreed) && (KF get as).all fun p=>!p.2.isFreed)=true from h);cases ha with
  |head=>exact (n6 _).mp h1
  |tail _ ha=>exact c3x h2 a ha
section
variable{K K2:Frag}{w:World}{hb:Heap}
theorem e0g(X:K.In hb)(Y:POk o5 w hb K)(n3:nsOkIn K V3=true)(n0:nsOkIn K builtinsNs=true)(F:a31 K K2=a32):l9 ⟨o5,w,hb,K,Y⟩ where
 g:=⟨_,_,v7 X n3,v7 X n0,ns_none_of X (v7 X n3) (gE foo F 8),a5f X (v7 X n0) (gE foo F 9)⟩
 c:=X _ _ (gE fob F 0)
 ini:=gE foo F 1
 fn:=gE fov F 2
 cd:=by
  have h:((clsIn K 59).any fun cd=>cd.mro==[.ref 59,.ref 46,.type "Exception",.type "BaseException",.type "object"] && cd.hasDict)=true:=gE fbo F 3;cases q:clsIn K 59 with
  |none=>rw[q] at h;cases h
  |some cd=>
   rw[q] at h;obtain ⟨h1,h2⟩:=H8.mp h;exact ⟨cd,rfl,beq_iff_eq.mp h1,h2⟩
 sa:=gE foo F 4
 w1:=gE foo F 5
 w2:=gE foo F 6
 kp:=gE fbo F 7
theorem e2y(X:K.In hb)(Y:POk o5 w hb K)(n3:nsOkIn K V3=true)(F:a31 K K2=a32):a0w ⟨o5,w,hb,K,Y⟩ where
 g:=⟨_,v7 X n3,4,_,a5f X (v7 X n3) (gE foo F 11),by decide,by decide,by unfold T2;decide,X _ _ (gE fob F 12),rfl,rfl,rfl⟩
 c:=codeHd_of_K X (gE fbo F 10)
end
noncomputable def E5(s:Shared)(a:Nat):Obj:=ifb (J0 a s.heap.objs.size) ((s.heap.objs[a]?).getD default) default
theorem e17(s:a06):E5 s.abs=getT s:=by
 funext a
 show ifb (J0 a (absHeap s.tree s.n s.life).objs.size) (((absHeap s.tree s.n s.life).objs[a]?).getD default) default=ifb (J0 a s.n) ((s.tree.get a).getD default) default;refine rE (absHeap_size ..) (rE (absHeap_at ..) ?_);cases q:J0 a s.n with
 |false=>rfl
 |true=>refine rE (if_pos (show a < s.n from d3 q)) ?_;rfl
noncomputable def a7u(s:Shared):Bool×((Nat->Value)->s9->List (List (List Fc)))×List Fc:=(U0 728 s.heap.objs.size,factL (KF (E5 s) asL),a31 (KF (E5 s) asL) (KF (E5 s) [T2]))
theorem e0m(s:a06):a7u s.abs=b75 s:=by
 unfold a7u b75;exact rE (e17 ..) (rE (show s.abs.heap.objs.size=s.n from absHeap_size ..) rfl)
noncomputable def b74(_:World):Bool×((Nat->Value)->s9->List (List (List Fc)))×List Fc:=(true,(fun u _=>a7t u),a32)
noncomputable abbrev qv:W6:=view o5 [75]
theorem e3f:LeftO o5 qv loose (fun s=>xlAt qv [] s && recOk [] s) a7u b74 10200:=
 e3g (H₀:=a08) (gs₀:=Array.mk []) (d₀:=boot_drawn) (k₀:=boot_toks) d6z d70 (fun w os=>by
  refine yea (a05.mp (e0n w os)) fun s r e=>?_;obtain ⟨e,e3⟩:=a6x e;obtain ⟨e1,e2⟩:=a6x e;refine ⟨s.abs,?_,e1,e2,(e0m s).trans e3⟩;refine rF (d6y w.params) ?_;exact d1v r) (by decide)
theorem d6e:(asL.all fun a=>J0 a 728 && !o0 a T2)=true:=by kernel_rfl
theorem e5k{h:Heap}{a:Nat}{o:Obj}(e:h.objs[a]? =some o)(f:o.isFreed=false):h.get? a=some o:=by
 unfold Heap.get?;refine rE e ?_;obtain ⟨c,d,dt,sl⟩:=o;cases dt <;>first|rfl|cases f
theorem c7x{s:Shared}{a:Nat}(n:U0 728 s.heap.objs.size=true)(h:a < 728)(f:(E5 s a).isFreed=false):s.heap.get? a=some (E5 s a):=by
 have l:a < s.heap.objs.size:=H3 h (d3 n);refine e5k ?_ f;unfold E5;refine rE (show J0 a s.heap.objs.size=true from a9v l) (rE (a6h l) ?_);rfl
theorem e27{R:WRecords}{cl:Str->Option Addr}{h:Heap}(ds:List WData):∀ {vs:List Value} {as:List Addr},ReadsAllW R cl h vs ds as->WShape.hasItems R ds .int=true->∃xs:List Int,xs.length=ds.length/\All2 (fun i u=>∃t,u=u9 i t) xs vs:=by
 induction ds with
 |nil=>exact fun r _=>⟨[],rfl,(readsAllW_nil_inv r).1▸.nil⟩
 |cons d ds ih=>
  intro vs as r hh;obtain ⟨h1,h2⟩:=H8.mp hh;obtain ⟨i,rfl⟩:=hasW_int h1;refine T6 (readsAllW_cons_inv r) fun v vs' as1 as2 zz zy r1 r2=>?_;subst zz;subst zy;refine yea (ih r2 h2) fun xs e1 e2=>?_;exact ⟨i::xs,congrArg Q0 e1,.cons ((readsW_int_inv r1).imp fun _ h=>h.1) e2⟩
theorem e4e{R:WRecords}{ds:List WData}{b:WTm}(h:(WTm.and (.not (.lt (.lit (.int (63:Nat))) (.len (.arg 0)))) b).holds R {args:=[.list ds]}=true):ds.length<=63:=by
 have h:=(holds_andW h).1;have hv:WTm.value R ((WTm.lit (.int (63:Nat))).lt (WTm.arg 0).len).not {args:=[.list ds]}=some (.bool (!decide ((63:Int) < (ds.length:Int)))):=w_not (w_lt w_lit (w_len_list (w_arg rfl)));unfold WTm.holds at h;rw[hv] at h;exact Nat.le_of_not_lt fun q=>by rw[decide_eq_true (show (63:Int) < (ds.length:Int) from Int.ofNat_lt.mpr q)] at h;cases h
theorem d6c{cl:Str->Option Addr}{h:Heap}{args:List WData}{vals:List Value}{as:List Addr}(hp:PySem.Challenge.rw_qd0131_01.row.toRowW.claim.pre args=true)(r:ReadsAllW PySem.Challenge.rw_qd0131_01.row.toRowW.records cl h vals args as):∃la xs vs,vals=[.ref la]/\la∈as/\h.IsList la vs.toArray/\All2 (fun i u=>∃t,u=u9 i t) xs vs/\xs.length<=63:=by
 obtain ⟨hs,hc⟩:=pre_splitW hp;refine R3 (hasAllW_cons hs) fun dd q zu h1 h2=>?_;subst zu;refine yea (hasW_list h1) fun ds zv h3=>?_;subst zv;obtain rfl:=hasAllW_nil h2;refine T6 (readsAllW_cons_inv r) fun v vs as1 as2 zx zw r1 r2=>?_;subst zx;subst zw;obtain rfl:=(readsAllW_nil_inv r2).1;refine a0s (readsW_list_inv r1) fun la us bs zz l1 l4 zy=>?_;subst zz;subst zy;refine yea (e27 _ l4 h3) fun xs x1 x2=>?_;exact ⟨la,xs,us.toList,rfl,a0z _ (.head _),l1,x2,x1▸e4e hc⟩
theorem e34{h hb:Heap}{K:Frag}{w:World}{mg:Str->Option Value}{a:Addr}(P:POk o5 w hb K)(kp:∀b o,hb.get? b=some o->h.get? b=some o)(g:h.Ns V3 mg)(e:mg (N0 "law")=some (.ref a)):a=727:=by
 refine R3 P.glob fun mg' mb' zz _ gl=>?_;refine a0s zz fun o1 es ep q1 q2 q3 q4=>?_;clear zz;refine yea (gl (N0 "law") (.prog 727) (by kernel_rfl)) fun u hu hh=>?_;have hu:u=.ref 727:=hu _ (fun _=>0) 0 fun _ _ e=>e;have e1:mg' (N0 "law")=some (.ref a):=(congrFun ((Heap.Ns.eq_nsMap (⟨o1,es,ep,kp _ _ q1,q2,q3,q4⟩:h.Ns V3 mg')).trans g.eq_nsMap.symm) _).trans e;rcases hh with h| ⟨h,_⟩
 ·exact Z6 ((C0 (e1.symm.trans h)).trans hu)
 ·cases e1.symm.trans h
theorem b8e{i:Nat}{o:O}(e:(X lo0 []).get i=some o):i=255/\o=.code 255:=by
 rw[a71 (by decide)] at e;by_cases q:i < 256
 ·rw[if_pos q] at e
  unfold lo0 at e;rw[B.get_set _ 21 _ 255 i (by decide)] at e;by_cases q:i=255
  ·rw[if_pos q] at e;exact ⟨q,(C0 e).symm⟩
  ·rw[if_neg q] at e
   unfold a7 at e;rw[B.get_set none 21 .nil 73 i (by decide)] at e;by_cases q:i=73
   ·rw[if_pos q] at e;cases e
   ·rw[if_neg q] at e;exact D0 e
 ·rw[if_neg q] at e;cases e
theorem f0m{C:Cx}{h:Heap}(kp:∀b o,C.hb.get? b=some o->h.get? b=some o)(nb:C.hb.get? T2=none)(t:h.get? T2=some (tabObj #[])):At C (fun _=>T2) (X lo0 []) h:=
 ⟨kp,fun i o e=>by
  obtain ⟨rfl,rfl⟩:=b8e e;exact ⟨by show 255 < 256;decide,_,t,⟨rfl,by show (255:Nat) < 256;decide⟩,rfl⟩,fun _ _ _=>nb,fun i j o o' e e' _=>(b8e e).1.trans (b8e e').1.symm,by show (256:Nat) < 1000000;decide⟩
theorem e5p{h h':Heap}(t:h.get? T2=some (tabObj #[]))(c:isCodeTable h T2)(tab:o8 h->o8 h')(kp:∀b o,b≠T2->h.get? b=some o->h'.get? b=some o):OldK h h':=by
 obtain ⟨ps,ht⟩:=tab ⟨#[],t⟩;refine ⟨fun b o e=>?_,fun b o e=>?_⟩
 ·by_cases hb:b=T2
  ·rw[hb] at e ⊢
   refine rF (C0 (t.symm.trans e)) ?_;exact .inr (.inl ⟨c,rfl,#[],ps,rfl,by refine rE Array.empty_append ?_;exact ht⟩)
  ·exact .inl (kp b o hb e)
 ·by_cases hb:b=T2
  ·exact ⟨_,hb▸ht⟩
  ·exact ⟨o,kp b o hb e⟩
theorem f16{s₀:Shared}{K:Frag}(y1:U0 728 s₀.heap.objs.size=true)(F:a31 K (KF (E5 s₀) [T2])=a32):s₀.heap.get? T2=some (tabObj #[]):=by
 have t':E5 s₀ T2=tabObj #[]:=C0 ((show (KF (E5 s₀) [T2]).lookup T2=some (E5 s₀ T2) by
  show List.lookup T2 [(T2,E5 s₀ T2)]=_;exact rE List.lookup_cons (rE (beq_self_eq_true ..) rfl)).symm.trans (gE fob F 13))
 refine rF t' ?_;exact c7x y1 (by unfold T2;decide) (by refine rE t' ?_;rfl)
theorem e20{s₀ s₁:Shared}(y1:U0 728 s₀.heap.objs.size=true){K2:Frag}(F:a31 (KF (E5 s₀) asL) K2=a32)(kp:∀b o,s₀.heap.get? b=some o->s₁.heap.get? b=some o):(KF (E5 s₀) asL).In (s₁.heap.hide T2):=by
 have fr:((KF (E5 s₀) asL).all fun p=>!p.2.isFreed)=true:=gE fbo F 14;refine KF_in fun b hb=>?_;obtain ⟨h1,h2⟩:=H8.mp (X9.mp d6e b hb);refine rE (a6k _ (I7 ((n6 _).mp h2))) ?_;exact kp _ _ (c7x y1 (d3 h1) (c3x fr b hb))
theorem e39{d:DefRec}{kwd:List (Str×Expr)}(hn:d.name=N0 "law"):WalkX qv loose (XL qv []) a7u b74 PySem.Challenge.rw_qd0131_01.row.toRowW d kwd fun f vs=>p5 f vs:=by
 intro w s₀ s₁ mg mb G Y a o pm cd doc dV kV _ _ _ _ hmg hgens args vals as L hpre _ hrd _ _;have y1:U0 728 s₀.heap.objs.size=true:=congrArg (·.1) Y;have y2:factL (KF (E5 s₀) asL)=fun u _=>a7t u:=congrArg (·.2.1) Y;have y3:a31 (KF (E5 s₀) asL) (KF (E5 s₀) [T2])=a32:=congrArg (·.2.2) Y;have XK:=e20 y1 y3 L.keeps;have P:POk o5 w (s₁.heap.hide T2) (KF (E5 s₀) asL):=d5r XK y2;obtain rfl:=e34 P (fun _ _=>Heap.of_hide) G.T.g (hn▸hmg);refine k9 (d6c hpre hrd) fun la xs vs zx hm hl ha hlen=>?_;subst zx;have n3:nsOkIn (KF (E5 s₀) asL) V3=true:=gE fbo (gL2 (gL2 (congrFun (congrFun y2 (fun _=>.none)) S0) 4) 0) 0;have tab:=L.keeps _ _ (f16 y1 y3);have Lm:a0w ⟨o5,w,s₁.heap.hide T2,KF (E5 s₀) asL,P⟩:=e2y XK P n3 y3;have hla:la≠T2:=fun e=>a12.mpr (show T2 < 728 by unfold T2;decide) (W0 (d3 y1) (e▸(L.within.2.2 la hm).1));refine F7 (e36 (e0g XK P n3 (gE fbo (gL2 (gL2 (congrFun (congrFun y2 (fun _=>.none)) S0) 4) 0) 1) y3) Lm d8w ⟨⟨vs,hl.imp fun _ h=>⟨(a6k _ hla).trans h.1,h.2⟩,ha⟩,hlen⟩ (A:=callerA) (σ:=⟨s₁,fun _=>T2,X lo0 [],f0m (fun _ _=>Heap.of_hide) (b4s _ _) tab⟩) ⟨rfl,by decide,by decide⟩ rfl rfl (Q:=fun v s'=>GoodWG PySem.Challenge.rw_qd0131_01.row.toRowW.claim (classAt s₀.heap) (ExcName.means s₀.heap) args s₁ (.ok (.ret v)) s') (E:=fun _ _=>False) ?_) (fun _ _ h=>h) fun _ _ h=>h.elim;intro τ T;refine n5 Lm.c fun oc us _ zz=>?_;refine n5 zz fun _ _ _ zy=>?_;clear zz;refine k9 zy fun _ _ _ h1 h2 h3 h4 _=>?_;clear zy;refine ⟨.inl ⟨_,_,[],rfl,fun _=>rfl,ReadsW.bool true,by wrow_post,fun _=>⟨a2l,fun _ hm=>(nomatch hm)⟩⟩,e5p tab ⟨542,oc,us,Heap.of_hide h1,h2,h3,h4⟩ T.X.tab fun b o hb e=>T.X.keep b o (fun _ _ _ q=>hb q.symm) e,?_,?_⟩
 ·exact rE T.e rfl
 ·refine rE T.e ?_;exact .of_eq hgens
theorem e98:PySem.Challenge.rw_qd0131_01.wellSaid=true:=by
 rw[PySem.W.Fast.te9446332074065402090];kernel_rfl
noncomputable def dLaw:Option (DefRec×List (Str×Expr)):=defOf qv (N0 "law")
theorem def_a:dLaw.map (fun p=>some (p.1.params,p.1.body,p.1.scope))=some (o5.theDef (N0 "law")):=by kernel_rfl
theorem def_b:dLaw.map (fun p=>kwWritten? p.1.params.kwonlyargs p.1.params.kw_defaults)=dLaw.map fun p=>some p.2:=by kernel_rfl
theorem e5q:(chainsOk qv && opensWell o5 && (frees PySem.Challenge.rw_qd0131_01.row.toRowW && PySem.Challenge.rw_qd0131_01.row.within.isEmpty))=true:=by kernel_rfl
theorem f2t:PySem.Challenge.rw_qd0131_01.row.Holds:=by
 obtain ⟨p,e,h1⟩:=a05.mp def_a;have h2:=def_b;rw[e] at h2;exact holds_openX (r:=PySem.Challenge.rw_qd0131_01.row) (q:=qv) (loose:=loose) (Xt:=fun s=>xlAt qv [] s && recOk [] s) (XP:=XL qv []) (Yf:=a7u) (Ya:=b74) (d:=p.1) (kwd:=p.2) (N:=10200)
  e3f (fun s e=>xl_of s (H8.mp e).1) XL.keeps e h1.symm (C0 h2) (fun s e=>recFacts_of (H8.mp e).2) rfl
  (row_said e98) e5q ⟨rfl,rfl,rfl,rfl,rfl,by decide+kernel⟩ ⟨[.list []],by decide+kernel,by decide+kernel⟩ (e39 (defOf_name e))
end Mine
open PySem PySem.W Mine
theorem PySem.Challenge.cw_qd0131_01_holds : PySem.Challenge.rw_qd0131_01.Holds :=
  holds_law e98 fun _ => f2t
