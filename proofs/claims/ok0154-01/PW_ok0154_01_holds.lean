import PyProof.Rows.All
import PyProof.TableCode
import PyProof.Conv_int
import PyProof.Conv_int_bool
import PyProof.ListNew
import PyProof.Rows.RuleN_abs
import PyProof.Rows.Range3
import PyProof.SetNew
import KE.BytesMake
import KE.KBytesWalk
import KE.KDictSum
import KE.KSortTup
import KE.KTupSum
import Wide.FinOn
import OpenK.AllK
import Wide.All
import Lean
import PySem.Challenge.RW_ok0154_01
set_option Elab.async false
set_option maxRecDepth 100000
set_option linter.all false
set_option genSizeOf false
set_option genInjectivity false
set_option tactic.hygienic false
set_option compiler.extract_closed false
set_option bootstrap.genMatcherCode false
set_option autoImplicit true
open Array renaming getElem?_eq_getElem->vR,getD_eq_getD_getElem?->zi,length_toList->vS,getElem?_toList->zj,toList_inj->vT,mem_singleton->zk,eq_empty_of_size_eq_zero->JF,mem_toList_iff->C4,not_mem_empty->C5,perm_iff_toList_perm->JG,getElem?_eq_none->JH,size_push->C6,mk->tu
open Bool renaming and_eq_true_iff->bA,false->ak,true->ag,casesOn->dD,false_ne_true->ia,or_eq_true_iff->ni,eq_iff_iff->kX,not_eq_true'->ox,and_eq_true->rq,eq_false_iff->zl,and_eq_false_iff->C7,or_eq_false_iff->C8,false_eq_true->C9,and_true->zm,or_false->zo,or_eq_true->Dc,true_and->Dd,and_self->JI
open Classical renaming byContradiction->oy,em->lT,axiomOfChoice->JJ
open Decidable renaming byCases->De,em->JK
open Eq renaming trans->tv
open ForInStep renaming yield->zq
open Function renaming comp->oz
open Int renaming toNat_natCast->bJ,natCast_nonneg->cR,fmod_eq_emod_of_nonneg->tw,fmod_nonneg_of_pos->rr,natCast_pow->lU,not_lt->ib,fdiv_eq_ediv_of_nonneg->zt,toNat_of_nonneg->vU,fmod_lt_of_pos->zu,add_assoc->vV,le_antisymm->zv,add_zero->vW,le_trans->vX,ne_of_lt->vY,mul_nonneg->zw,add_nonneg->zx,one_mul->vZ,mul_one->v5,natCast_zero->Df,add_mul_ediv_left->JL,ne_of_gt->zA,le_of_eq->zB,mul_add->zC,lt_irrefl->Dg,lt_of_le_of_lt->JM,mul_comm->Dh,le_of_lt->Di,le_total->Dj,lt_trans->Dk,natCast_ediv->JN,ediv_nonneg->JO,natCast_mul->JP,natCast_sub->JQ,natCast_add->JR
open Lean.Parser.Tactic renaming tacticSeq->Aq515
open Lean.Unhygienic renaming run->UR
open List renaming range->ar,length_append->bb,length_map->aX,prefix_append->bH,getElem?_eq_some_iff->dF,map_append->b8,getD_eq_getElem?_getD->eP,getElem?_eq_getElem->eQ,mem_map->bX,getElem?_map->dG,size_toArray->dJ,casesOn->cw,replicate->cX,all_eq_true->dS,append_assoc->eH,range_succ->dZ,map_map->cV,map_congr_left->gF,getElem?_append_left->jL,length_range->fV,prefix_rfl->fg,mem_singleton->gQ,length_cons->fW,mem_range->fh,mem_append->fX,take_length->gR,length_take->gT,getElem?_toArray->kj,flatMap_append->jM,getElem?_append_right->oA,mem_of_getElem?->kY,map_cons->gG,mem_cons->gH,take_of_length_le->nj,lookup_cons->jN,mem_cons_self->kZ,append_nil->jr,getElem?_set_ne->nk,take_append_drop->oC,take_append_of_le_length->tx,getElem?_set_self->qd,getElem?_concat_length->tA,length_eq_zero_iff->rt,nodup_cons->lV,flatten_append->qe,set_append_right->rx,getElem?_eq_none->ry,set_set->jO,not_mem_nil->oE,length_replicate->tB,length_set->oF,nil_append->oH,toArray->k7,ext_getElem?->rz,range_succ_eq_map->v7,drop_of_length_le->v8,isEmpty_iff->rA,lookup->lW,nodup_append->tC,map_inj_left->tD,getElem?_replicate->zD,append_toArray->v9,any_eq_true->tE,lookup_append->wa,countP_eq_length_filter->Dl,mem_filter->tF,getElem?_set->wb,reverse_cons->wc,mem_of_mem_take->zE,mem_cons_of_mem->zF,drop_zero->tG,pairwise_iff_getElem->Dm,getElem?_eq_none_iff->Dn,mem_flatMap->we,cons_append->wg,sum_append->wh,pairwise_cons->zG,zip_cons_cons->zH,flatMap_cons->zI,contains_iff_mem->Dp,nodup_range->zJ,mem_append_left->Dq,find?_cons->zK,filterMap_cons->Dr,forIn_cons->zL,perm_ext_iff_of_nodup->JS,rec->oJ,set->oK,drop_eq_getElem_cons->JT,take_zero->zM,count_append->Ds,foldl_append->Dt,pairwise_map->Du,push_toArray->Dv,length->wi,range'->wj,length_eq_one_iff->JU,foldl_cons->Dw,length_nil->Dx,set_append_left->JV,mem_of_mem_drop->JW,drop_left->Dy,forIn_nil->Dz,getElem?_range->JX,filter_sublist->JY,getElem_of_mem->JZ,map_eq_nil_iff->Kd,replicate_succ->Kh,take->wk,take_nil->DA,sum_cons->DB,mem_replicate->Kj,map->tH,map_replicate->Kk,findIdx?_cons->Kl,filter_congr->Km,take_add_one->Ko,getElem_take->Kq,find?_isSome->Kr,getElem?_inj->Kt,any_eq_false->Kw,length_drop->Ky,getElem_mem->Kz,mem_flatten->KG,flatMap_nil->KH,filter_cons->KI,filter_map->KJ,of_mem_zip->KN,nodup_nil->KQ,foldl->DC,map_take->KR,any_cons->KS
open List.Pairwise renaming nil->zN
open List.Perm renaming refl->KW
open List.cons renaming inj->KY
open Nat renaming le_refl->aS,lt_of_lt_of_le->dj,lt_of_le_of_ne->dH,ne_of_lt->cq,not_lt_zero->dm,le_of_lt_succ->d0,le_trans->cG,zero_le->cz,mul_comm->dt,ne_of_gt->dK,not_lt_of_le->ic,succ_mul->fN,le_of_lt->fY,mul_le_mul_right->lX,lt_irrefl->iK,lt_succ_self->k8,le_add_left->k9,le_succ_of_le->nq,lt_or_ge->jt,two_pow_pos->lY,casesOn->ju,ble_eq->iL,div_eq_of_lt->oM,div_add_mod->oN,eq_of_beq_eq_true->tI,eq_zero_or_pos->rB,le_succ->km,pow_succ->lZ,lt_succ_of_lt->rC,le_add_right->rD,le_of_eq->nr,min_eq_left->rE,mod_lt->la,le_of_succ_le->tJ,mul_div_cancel_left->zO,mul_le_mul_left->wm,mod_two_eq_zero_or_one->DD,pow_le_pow_right->zP,ble->iY,mul_div_cancel->zQ,lt_of_le_of_lt->zR,ne_of_beq_eq_false->DE,le_of_succ_le_succ->DF,lt_succ_of_le->zS,sub_eq_zero_of_le->DG,min_eq_right->zT,div_lt_of_lt_mul->DH,not_succ_le_self->DI,mul_assoc->wo,beq->lb,mul_add_div->zU,le_antisymm->zV,add_comm->wq,lt_trichotomy->DJ,pow_add->wu,le_mul_of_pos_right->KZ,div_div_eq_div_mul->K6,rec->oO,div_lt_iff_lt_mul->K7,succ_pos->zW,mul_le_mul->DK,add_sub_cancel'->K8,sub_add_cancel->K9,one_le_two_pow->La,succ_le_of_lt->Lb,mul_left_comm->Lc,le_total->DL,sub_zero->DM,zero_mul->DN,zero_add->DO,add_zero->DP,div_self->DQ,lt_log2_self->Ld,succ_ne_self->Le,succ_le_succ->Lf,add_mul->DS,div_le_self->Lg
open Nat.succ renaming inj->nt
open Ne renaming symm->eI
open Option renaming some->aa,none->ae,map_eq_some_iff->ee,bind_eq_some_iff->fk,isNone_iff_eq_none->oP,eq_none_iff_forall_ne_some->tK,casesOn->jP,isSome_iff_exists->zX,isSome_map->DT,bind->wx,map->wy,getD->DU,map_map->Lh,none_or->Li
open Option.some renaming inj->bD
open Or renaming casesOn->wz
open Prod renaming ext->DW
open Prod.mk renaming inj->iM,injEq->tL
open PyProof.Rows renaming get?_update_seq->tM,IntsAre->l7,subscriptTail->zY,len_list->Lj,lt_int->Ll,listUpdate_at->DX,AllBare->tN,seqEpoch_at->DY,SortKind->zZ,general'->z4,KeyOrd->tO
open PyProof.Rows.KeyOrd renaming kle_refl->oQ,kle_of_klt->wA,kle_trans->wB,kle_antisymm->DZ
open PyProof.Rows.SortSt renaming mk'->z5
open PySem renaming Shared->aq,wpAny->aC,builtinLookup_eq_fast->iN,bm_if_false->dT,wpAny_specialOf->gU,Around->bB,typeLookup_type->iO,evalEach->cW,wpAny_call_entry->lh,wpAny_newObj_type->l8,Fin->fA,wpAny_of_eq->iP,typeLookup->ie,model->bR,mainGlobals->jQ,cellsFrom->ig,wpAny_typeNameOfWhole_keyiter->z6,wpAny_callSpecial?_slot->wC,sysModules->jR,arm_evalEach_cons->rF,Program->fB,wpAny_isInstance->rG,plainId_quiet->oR,isSubtype_type->qg,DictEntry->jS,wpAny_updateSeq->rH,checkBuiltinCall->tP,wpAny_load->l9,wpAny_mono->ma,NameKind->jv,methodCall->nu,firstArgMember->tQ,wpAny_newList->wD,sizeLine->lj,Str->nv,KeyKind->rI,World->ef,wpAny_dictEntries->z7,compareOp->oT,Stmt->b9,assign->iQ,Model->eR,wpAny_attempt->wF,swapsWithSole->wG,swappedStores->wH,builtinsNs->rJ,bm_if_true->rK,excClassObj->tR,updateBytearray->z8,codeAny_builtin->z9,letOwnedTupleGo->Aa,execs_cons_wrap->Ab,wpAny_pyIter_tuple->D1,entryFor->oU,GenState->oV,valueAt->mc,wpAny_seqItems->Ac,execs->fO,newFunctionEnv->Ad,recursionLimit->Ae,CmpOp->fZ,slot_dict_getitem->D2,slot_list_getitem->D3,updateSeq->rL,codeAny->ny,FuncData->qh,sizeLine_eq->wI,unsupported->wJ,valueOrNone->wK,wpAny_pyNext_range_item->Lm,comprehension->Af,wpAny_standAt->Ag,pyNext->ko,entryFor_of_fast->D4,entryFor_of_tree->D5,slot_list_append->D6,holding->oW,wpAny_notOrdered_dict->Ln,wpAny_dictEpoch->D7,wpAny_isOneOf_keyiter->Lo,codeAny_of_tree->D8,wpAny_ite_split->D9,wpAny_typeOf->Ah,wpAny_execs_nil->Ea,relabel->oX,importedModules->Eb,wpAny_rule->wL,assignEach->wM,wpAny_pyIter_keyiter->Lp,constantsAlone->Ec,isSubtype_stop->Ed,withoutEnding?->Ee,standAt->qi,wpAny_setItem_pairs->Lq,builtinType_eq_fast->Lr,byteArr->qj,interactive->Ai,wpAny_field->Aj,Operator->tT,foldedForSure->Ef,Comprehension->Eg,wpAny_getItem_list->Ls,intItems->tU,wpAny_handled->Eh,arm_eval_Subscript->Lu,wpAny_pyIter_range->Lv,Thread->nz,numAt->jT,callAny->rM,spliced->rN,call_meetsIn->Ei,bootBuiltins->Ej,exec->eJ,bindName->wN,Scope->ll,wpCode_mono->Ek,storedH->tV,seqIndex?->Ak,wpAny_throw->El,isSubtype->Am,Result->qk,lastMarks->An,treeTable->Ao,outcomeOf->Ap,table->mf,argsOk->rO,cLine->nA,evalOpt->wO,callerA->wQ,Frame->oY,newExc->tW,Flow->iZ
open PySem.Around renaming under_plainId->tX,over->Lw
open PySem.BoolOp renaming casesOn->Lx
open PySem.Builtin renaming bitNot->mh,bitAnd->rP,divisionGoesByPylong->Ly,bitOr->Aq
open PySem.Builtin.Bytes renaming buffer?->nE,ownRelease->wR,decodersThatHold->Em,write->wU,slotIsOwn->Ar,checkResize->En,exported->Eo,payload->Ep,takeBufferQuiet?->Lz,checkCodecArg->LA,exportsOf->LB,byteValue->LD
open PySem.Builtin.Bytes.exported renaming match_1->US
open PySem.Builtin.Dict renaming showsAll->LF
open PySem.Builtin.Generator renaming genWake->LG
open PySem.Builtin.Int renaming intBits->LH
open PySem.Builtin.List renaming listExtendWith->tY,listItems->Er,listLengthHint->LI
open PySem.Builtin.Range renaming rangeSize->ij,small->LJ
open PySem.Calls renaming Name_function_global->LK,call_function_entry->LM
open PySem.Challenge renaming pw_ok0154_01->tZ,rw_ok0154_01->wV
open PySem.Code renaming quiet_builtin->Es
open PySem.Comprehension renaming casesOn->LN
open PySem.Data renaming noConfusion->wW,casesOn->t5
open PySem.Expr renaming casesOn->nF
open PySem.Expr.Attribute renaming elim->UT
open PySem.Expr.Name renaming elim->wX
open PySem.Expr.Subscript renaming elim->Et
open PySem.Expr.Tuple renaming elim->Eu
open PySem.Expr.Yield renaming elim->Ew
open PySem.F renaming slot_dict_keyiterator_next->wY,bm_plain_loop->wZ,plainAttrs_list->Ex,plainAttrs_dict->Ey,args_dict_keyiterator_next_1->LO,entry_dict_keyiterator_next->LP,bm_plain->As,slot_range_iterator_next->LQ,plain_extend_loop->LR,slot_dict_setdefault->LS,bm_called->Ez,slot_dict_get->EA,bm_entry_loop->LU,slot_list_extend->LV,objNew->EB,bm_newCall->LW,slot_list_pop->LX,slot_dict_pop->LY,slot_dict_iter->LZ,bm_entry->L0,entry_dict_get->L1,bm_bind->L2,bm_sub->L3
open PySem.Frame renaming guarded->EC
open PySem.GenState renaming casesOn->L4
open PySem.Heap renaming get?_push_of_some->cf,get?_push_size->eg,lt_size->ei,get?_none_of_le->oZ,SameBut->i0,get?_update_self->rQ,get?_update_other->w6,size_push->t6,ExtBut->rR
open PySem.Heap.IsSliceOf renaming new->L7
open PySem.Heap.SameBut renaming update->lq
open PySem.NameKind renaming free->jU,noConfusion->Au,cell->t7
open PySem.Obj renaming mapSeq->i9,mapBytearray->ql,data_mapDictKeys->L8,data_mapFields->L9,mapDictKeys->Ma
open PySem.ScopeKind renaming function->Mb
open PySem.Sem renaming wp_mono->o3,bind_eq_wrap'->w7,wrap_wrap->t9,onRaise_eq_wrap->Mc,wp_bind'->ED,wrap_congr->Me
open PySem.Stmt.Expr renaming elim->EE
open PySem.Stmt.For renaming elim->EF
open PySem.Stmt.FunctionDef renaming elim->UU
open PySem.Str renaming ofString->jw
open PySem.UnaryOp renaming casesOn->Mf
open PySem.Value renaming none->eT,casesOn->o4,type->lu,noConfusion->Mg,ref->Av,int->EG
open PySem.Value.ref renaming inj->Mh
open PySem.Value.type renaming inj->Mi
open PySem.W renaming look_both->cT,typeIs_bytes->jx,boot_heap->jy,SharedT->jV,boot_drawn->w8,boot_toks->w9
open PySem.W.FB renaming slot_bytes_getitem->EH
open PySem.W.KBw renaming IsBytesIter->EI,pyIter_bytes->Mj
open UInt8 renaming ofNat->bY,toNat_ofNat_of_lt'->ua,ofNat_toNat->Mk,toNat_inj->Ml
namespace EJ.Internal
section
local macro_rules | `(tactic| omega) => `(tactic| lia)
inductive iR {A B:Type} (Z:A->B->Prop):Prop|mk (a:A) (b:B) (z:Z a b):iR Z
inductive jW {A B C:Type} (Z:A->B->C->Prop):Prop|mk (a:A) (b:B) (c:C) (z:Z a b c):jW Z
inductive ub {A B C D:Type} (Z:A->B->C->D->Prop):Prop|mk (a:A) (b:B) (c:C) (d:D) (z:Z a b c d):ub Z
inductive nG {A B C D E:Type} (Z:A->B->C->D->E->Prop):Prop|mk (a:A) (b:B) (c:C) (d:D) (e:E) (z:Z a b c d e):nG Z
inductive Aw {A B C D E F:Type} (Z:A->B->C->D->E->F->Prop):Prop|mk (a:A) (b:B) (c:C) (d:D) (e:E) (f:F) (z:Z a b c d e f):Aw Z
inductive xa {A B C D E F G:Type} (Z:A->B->C->D->E->F->G->Prop):Prop|mk (a:A) (b:B) (c:C) (d:D) (e:E) (f:F) (g:G) (z:Z a b c d e f g):xa Z
inductive Mm {A B C D E F G H I:Type} (Z:A->B->C->D->E->F->G->H->I->Prop):Prop|mk (a:A) (b:B) (c:C) (d:D) (e:E) (f:F) (g:G) (h:H) (i:I) (z:Z a b c d e f g h i):Mm Z
inductive EK {A B C D E F G H I J:Type} (Z:A->B->C->D->E->F->G->H->I->J->Prop):Prop|mk (a:A) (b:B) (c:C) (d:D) (e:E) (f:F) (g:G) (h:H) (i:I) (j:J) (z:Z a b c d e f g h i j):EK Z
inductive jz (A B C:Prop):Prop|mk (a:A) (b:B) (c:C):jz A B C
inductive jX (A B C D:Prop):Prop|mk (a:A) (b:B) (c:C) (d:D):jX A B C D
inductive nH (A B C D E:Prop):Prop|mk (a:A) (b:B) (c:C) (d:D) (e:E):nH A B C D E
inductive uc (A B C D E F:Prop):Prop|mk (a:A) (b:B) (c:C) (d:D) (e:E) (f:F):uc A B C D E F
inductive xb (A B C D E F G:Prop):Prop|mk (a:A) (b:B) (c:C) (d:D) (e:E) (f:F) (g:G):xb A B C D E F G
inductive ue (A B C D E F G H:Prop):Prop|mk (a:A) (b:B) (c:C) (d:D) (e:E) (f:F) (g:G) (h:H):ue A B C D E F G H
inductive UW (A B C D E F G H I:Prop):Prop|mk (a:A) (b:B) (c:C) (d:D) (e:E) (f:F) (g:G) (h:H) (i:I):UW A B C D E F G H I
theorem nO{α:Type}{x:α}{C:Prop}(h:ae=aa x):C:=nomatch h
theorem nS{α:Type}{x:α}{C:Prop}(h:aa x=ae):C:=nomatch h
theorem nB{C:Prop}(h:ak=ag):C:=nomatch h
theorem nT{C:Prop}(h:ag=ak):C:=nomatch h
theorem nN{m n:Nat}{C:Prop}(e:lb m n=ak)(h:m=n):C:=absurd h (DE e)
theorem Mn{α:Type}{l:List α}(h:l.length=2): ∃ a b,l=[a,b]:=by
 induction l using cw with
 |nil=>exact nN rfl h
 |cons a l=>exact(JU.mp (nt h)).elim λb e=>⟨a,b,congrArg _ e⟩
theorem nL{α:Type}{x:α}{l:List α}{C:Prop}(h:[]=x::l):C:=nomatch h
theorem nC{α:Type}{x:α}{l:List α}{C:Prop}(h:x::l=[]):C:=nomatch h
inductive NE where
 |v (i:Nat)|n (k:Nat)|a (x y:NE)|m (k:Nat) (x:NE)|w (x:NE) (k:Nat)
inductive IE where
 |v (i:Nat)|n (k:Int)|a (x y:IE)|s (x y:IE)|g (x:IE)|m (k:Int) (x:IE)|w (x:IE) (k:Int)|c (x:NE)
inductive PE where
 |l (x y:NE)|t (x y:NE)|e (x y:NE)|L (x y:IE)|T (x y:IE)|E (x y:IE)|ff|no (p:PE)|an (p q:PE)|o (p q:PE)|i (p q:PE)
@[reducible] noncomputable def xc:List Nat->Nat->Nat
 |[],_=>0
 |x::_,0=>x
 |_::l,i+1=>xc l i
@[reducible] noncomputable def xd:List Int->Nat->Int
 |[],_=>0
 |x::_,0=>x
 |_::l,i+1=>xd l i
@[reducible] noncomputable def ja (N:List Nat):NE->Nat
 | .v i=>xc N i
 | .n k=>k
 | .a x y=>ja N x+ja N y
 | .m k x=>k*ja N x
 | .w x k=>ja N x*k
@[reducible] noncomputable def gf (N:List Nat) (I:List Int):IE->Int
 | .v i=>xd I i
 | .n k=>k
 | .a x y=>gf N I x+gf N I y
 | .s x y=>gf N I x-gf N I y
 | .g x=> -gf N I x
 | .m k x=>k*gf N I x
 | .w x k=>gf N I x*k
 | .c x=>((ja N x:Nat):Int)
@[reducible] def den (N:List Nat) (I:List Int):PE->Prop
 | .l x y=>ja N x<=ja N y
 | .t x y=>ja N x<ja N y
 | .e x y=>ja N x=ja N y
 | .L x y=>gf N I x<=gf N I y
 | .T x y=>gf N I x<gf N I y
 | .E x y=>gf N I x=gf N I y
 | .ff=>False
 | .no p=> ¬ den N I p
 | .an p q=>den N I p/\den N I q
 | .o p q=>den N I p\/den N I q
 | .i p q=>den N I p->den N I q
structure LC where
 k:Int
 a:List Int
 b:List Int
noncomputable def dot:List Int->List Int->Int
 |[],_=>0
 |h::t,X=>h*X.headD 0+dot t X.tail
noncomputable def zp:List Int->List Int->List Int
 |[],y=>y
 |a::x,[]=>a::x
 |a::x,b::y=>(a+b)::zp x y
noncomputable def sc (k:Int):List Int->List Int
 |[]=>[]
 |a::x=>(k*a)::sc k x
noncomputable def un:Nat->List Int
 |0=>[1]
 |i+1=>0::un i
noncomputable def LC.val (A B:List Int) (c:LC):Int:=c.k+dot c.a A+dot c.b B
noncomputable def LC.ad (c d:LC):LC:=⟨c.k+d.k,zp c.a d.a,zp c.b d.b⟩
noncomputable def LC.ms (j:Int) (c:LC):LC:=⟨j*c.k,sc j c.a,sc j c.b⟩
theorem Ax(x y X:List Int):dot (zp x y) X=dot x X+dot y X:=by
 induction x generalizing y X with
 |nil=>exact(Int.zero_add _).symm
 |cons a x ih=>
  induction y using cw with
  |nil=>exact(vW _).symm
  |cons b y=>show(a+b)*X.headD 0+dot (zp x y) X.tail=(a*X.headD 0+dot x X.tail)+(b*X.headD 0+dot y X.tail);rw[ih,Int.add_mul];omega
theorem uf(k:Int)(x X:List Int):dot (sc k x) X=k*dot x X:=by
 induction x generalizing X with
 |nil=>exact(Int.mul_zero _).symm
 |cons a x ih=>show k*a*X.headD 0+dot (sc k x) X.tail=k*(a*X.headD 0+dot x X.tail);rw[ih,zC,Int.mul_assoc]
theorem xe(A B:List Int)(c d:LC):(c.ad d).val A B=c.val A B+d.val A B:=by show c.k+d.k+dot (zp c.a d.a) A+dot (zp c.b d.b) B=c.k+dot c.a A+dot c.b B+(d.k+dot d.a A+dot d.b B);rw[Ax,Ax];omega
theorem nI(A B:List Int)(j:Int)(c:LC):(c.ms j).val A B=j*c.val A B:=by show j*c.k+dot (sc j c.a) A+dot (sc j c.b) B=j*(c.k+dot c.a A+dot c.b B);rw[uf,uf,zC,zC]
noncomputable def nl:NE->LC
 | .v i=>⟨0,un i,[]⟩
 | .n k=>⟨k,[],[]⟩
 | .a x y=>(nl x).ad (nl y)
 | .m k x=>(nl x).ms k
 | .w x k=>(nl x).ms k
noncomputable def il:IE->LC
 | .v i=>⟨0,[],un i⟩
 | .n k=>⟨k,[],[]⟩
 | .a x y=>(il x).ad (il y)
 | .s x y=>(il x).ad ((il y).ms (-1))
 | .g x=>(il x).ms (-1)
 | .m k x=>(il x).ms k
 | .w x k=>(il x).ms k
 | .c x=>nl x
noncomputable def up:List Nat->List Int
 |[]=>[]
 |a::l=>(a:Int)::up l
theorem Mp(N:List Nat)(i:Nat):dot (un i) (up N)=(xc N i:Int):=by
 induction N generalizing i with
 |nil=>induction i with|zero=>rfl|succ i ih=>exact(congrArg (0*0+ ·) ih).trans rfl
 |cons a N ih=>induction i using ju with|zero=>show 1*(a:Int)+0=a;omega|succ i=>show 0*(a:Int)+dot (un i) (up N)=(xc N i:Int);rw[ih];omega
theorem UX(N:List Int)(i:Nat):dot (un i) N=xd N i:=by
 induction N generalizing i with
 |nil=>induction i with|zero=>rfl|succ i ih=>exact(congrArg (0*0+ ·) ih).trans rfl
 |cons a N ih=>induction i using ju with|zero=>show 1*a+0=a;omega|succ i=>show 0*a+dot (un i) N=xd N i;rw[ih];omega
theorem rT(N:List Nat)(I:List Int)(x:NE):(nl x).val (up N) I=(ja N x:Int):=by
 induction x with
 |v i=>show 0+dot (un i) (up N)+0=(xc N i:Int);rw[Mp];omega
 |n k=>show(k:Int)+0+0=k;omega
 |a x y hx hy=>exact(xe ..).trans (by rw[hx,hy];rfl)
 |m k x hx=>exact(nI ..).trans (by rw[hx];rfl)
 |w x k hx=>exact(nI ..).trans (by rw[hx];exact Dh _ _)
theorem ug(N:List Nat)(I:List Int)(x:IE):(il x).val (up N) I=gf N I x:=by
 induction x with
 |v i=>show 0+0+dot (un i) I=xd I i;rw[UX];omega
 |n k=>show k+0+0=k;omega
 |a x y hx hy=>exact(xe ..).trans (by rw[hx,hy])
 |s x y hx hy=>exact(xe ..).trans (by rw[nI,hx,hy];show _=gf N I x-gf N I y;omega)
 |g x hx=>exact(nI ..).trans (by rw[hx];show _= -gf N I x;omega)
 |m k x hx=>exact(nI ..).trans (by rw[hx])
 |w x k hx=>exact(nI ..).trans (by rw[hx];exact Dh _ _)
 |c x=>exact rT N I x
abbrev LL:=Bool×LC
def uh(A B:List Int)(x:LL):Prop:=match x with|(ag,c)=>c.val A B=0|(ak,c)=>0<=c.val A B
def sat(A B:List Int)(c:List LL):Prop:= ∀ x∈c,uh A B x
noncomputable def df (x y:LC) (k:Int):LC:=⟨y.k-x.k+k,zp y.a (sc (-1) x.a),zp y.b (sc (-1) x.b)⟩
theorem xf(A B:List Int)(x y:LC)(k:Int):(df x y k).val A B=y.val A B-x.val A B+k:=by show y.k-x.k+k+dot (zp y.a (sc (-1) x.a)) A+dot (zp y.b (sc (-1) x.b)) B=y.k+dot y.a A+dot y.b B-(x.k+dot x.a A+dot x.b B)+k;rw[Ax,Ax,uf,uf];omega
noncomputable def xg (x y:LC):Bool->List (List LL)
 |true=>[[(ak,df x y 0)]]
 |false=>[[(ak,df y x (-1))]]
noncomputable def EL (x y:LC):Bool->List (List LL)
 |true=>[[(ag,df x y 0)]]
 |false=>[[(ak,df x y (-1))],[(ak,df y x (-1))]]
noncomputable def pr (p q:List (List LL)):List (List LL):=p.flatMap λx=>q.map λy=>x++y
noncomputable def jA:PE->Bool->List (List LL)
 | .l x y,b=>xg (nl x) (nl y) b
 | .t x y,b=>xg (nl y) (nl x) (!b)
 | .e x y,b=>EL (nl x) (nl y) b
 | .L x y,b=>xg (il x) (il y) b
 | .T x y,b=>xg (il y) (il x) (!b)
 | .E x y,b=>EL (il x) (il y) b
 | .ff,ag=>[]
 | .ff,ak=>[[]]
 | .no p,b=>jA p (!b)
 | .an p q,ag=>pr (jA p ag) (jA q ag)
 | .an p q,ak=>jA p ak++jA q ak
 | .o p q,ag=>jA p ag++jA q ag
 | .o p q,ak=>pr (jA p ak) (jA q ak)
 | .i p q,ag=>jA p ak++jA q ag
 | .i p q,ak=>pr (jA p ag) (jA q ak)
def Hs(A B:List Int)(d:List (List LL)):Prop:= ∃ c∈d,sat A B c
theorem Hs.one(h:uh A B x):Hs A B [[x]]:=⟨_,.head _,λzy m=>by cases m with|head=>exact h|tail _ m=>cases m⟩
theorem Hs.l(h:Hs A B p):Hs A B (p++q):=h.elim λc h=>⟨c,fX.mpr (.inl h.1),h.2⟩
theorem Hs.r(h:Hs A B q):Hs A B (p++q):=h.elim λc h=>⟨c,fX.mpr (.inr h.1),h.2⟩
theorem Hs.pr(h:Hs A B p)(g:Hs A B q):Hs A B (pr p q):=h.elim λc h=>g.elim λd g=>⟨c++d,we.mpr ⟨c,h.1,bX.mpr ⟨d,g.1,rfl⟩⟩,λx m=>(fX.mp m).elim (h.2 x) (g.2 x)⟩
def nJ(A B:List Int)(P:Prop)(d:Bool->List (List LL)):Prop:=(P->Hs A B (d ag))/\(¬ P->Hs A B (d ak))
theorem nJ.le(h:P↔x.val A B<=y.val A B):nJ A B P (xg x y):=⟨λp=> .one (show 0<=LC.val A B _ by rw[xf];have:=h.1 p;omega),λp=> .one (show 0<=LC.val A B _ by rw[xf];have:=mt h.2 p;omega)⟩
theorem nJ.eq(h:P↔x.val A B=y.val A B):nJ A B P (EL x y):=
 ⟨λp=> .one (show LC.val A B _=0 by rw[xf];have:=h.1 p;omega),
  λp=>by
  have:=mt h.2 p;rcases Int.lt_or_gt_of_ne this with g|g
  .exact Hs.l (p:=[[_]]) (.one (show 0<=LC.val A B _ by rw[xf];omega))
  .exact Hs.r (p:=[[_]]) (.one (show 0<=LC.val A B _ by rw[xf];omega))⟩
theorem nJ.no(h:nJ A B P d):nJ A B (¬ P) (λb=>d (!b)):=⟨λp=>h.2 p,λp=>h.1 (Classical.not_not.mp p)⟩
theorem UY(N:List Nat)(I:List Int)(f:PE):nJ (up N) I (den N I f) (jA f):=by
 induction f with
 |l x y=>exact .le (by rw[rT,rT];exact Int.ofNat_le.symm)
 |t x y=>
  have:=(nJ.le (A:=up N) (B:=I) (x:=nl y) (y:=nl x) (P:=ja N y<=ja N x) (by rw[rT,rT];exact Int.ofNat_le.symm)).no
  rwa [show(¬ ja N y<=ja N x)=den N I (.t x y) from propext Nat.not_le] at this
 |e x y=>exact .eq (by rw[rT,rT];exact Int.ofNat_inj.symm)
 |L x y=>exact .le (by rw[ug,ug])
 |T x y=>
  have:=(nJ.le (A:=up N) (B:=I) (x:=il y) (y:=il x) (P:=gf N I y<=gf N I x) (by rw[ug,ug])).no
  rwa [show(¬ gf N I y<=gf N I x)=den N I (.T x y) from propext Int.not_le] at this
 |E x y=>exact .eq (by rw[ug,ug])
 |ff=>exact⟨False.elim,λzy=>⟨[],.head _,λzy m=>nomatch m⟩⟩
 |no p h=>exact h.no
 |an p q h g=>exact⟨λx=>(h.1 x.1).pr (g.1 x.2),λx=>by
   by_cases a:den N I p
   .exact(g.2 λb=>x ⟨a,b⟩).r
   .exact(h.2 a).l⟩
 |o p q h g=>exact⟨λx=>x.elim (λx=>(h.1 x).l) (λx=>(g.1 x).r),λx=>(h.2 λa=>x (.inl a)).pr (g.2 λa=>x (.inr a))⟩
 |i p q h g=>exact⟨λx=>by
   by_cases a:den N I p
   .exact(g.1 (x a)).r
   .exact(h.2 a).l,λx=>by
   have a:den N I p:=oy λa=>x λb=>absurd b a;exact(h.1 a).pr (g.2 λb=>x λzy=>b)⟩
noncomputable def LC.hd (c:LC):Int:=c.a.headD 0
noncomputable def LC.tl (c:LC):LC:=⟨c.k,c.a.tail,c.b⟩
theorem UZ(A B:List Int)(c:LC):c.val A B=c.hd*A.headD 0+c.tl.val A.tail B:=by
 obtain⟨k,a,b⟩:=c;induction a using cw with
 |nil=>show k+0+dot b B=0*A.headD 0+(k+0+dot b B);omega
 |cons h t=>show k+(h*A.headD 0+dot t A.tail)+dot b B=h*A.headD 0+(k+dot t A.tail+dot b B);omega
theorem EM{A B:List Int}{c:LC}(h:c.hd=0):c.tl.val A.tail B=c.val A B:=by rw[UZ A B c,h];omega
theorem Mq(c d:LC):(c.ad d).hd=c.hd+d.hd:=by
 obtain⟨_,a,_⟩:=c;obtain⟨_,b,_⟩:=d;induction a using cw with
 |nil=>exact(Int.zero_add _).symm
 |cons x a=>induction b using cw with|nil=>exact(vW _).symm|cons y b=>rfl
theorem Ay(j:Int)(c:LC):(c.ms j).hd=j*c.hd:=by
 obtain⟨_,a,_⟩:=c;induction a using cw with
 |nil=>exact(Int.mul_zero _).symm
 |cons x a=>rfl
noncomputable def big (c:LC) (g:Nat):Bool:=sc g (c.a.map (·/(g:Int)))==c.a&&sc g (c.b.map (·/(g:Int)))==c.b
noncomputable def gc (l:List Int) (g:Nat):Nat:=l.foldr (λx g=>Nat.gcd x.natAbs g) g
noncomputable def tg (x:LL):LL:=match x with|(ag,c)=>(ag,c)|(ak,c)=>bif iY (gc c.a (gc c.b 0)) 1 then(ak,c) else bif big c (gc c.a (gc c.b 0)) then(ak,⟨c.k/(gc c.a (gc c.b 0):Int),c.a.map (·/(gc c.a (gc c.b 0):Int)),c.b.map (·/(gc c.a (gc c.b 0):Int))⟩) else(ak,c)
theorem Mr(h:uh A B x):uh A B (tg x):=by
 obtain⟨b,c⟩:=x;induction b using dD with
 |true=>exact h
 |false=>
  show uh A B (bif _ then _ else _);generalize gc c.a (gc c.b 0)=g;cases e:iY g 1 with
  |true=>exact h
  |false=>
   cases e2:big c g with
   |false=>exact h
   |true=>
    have g0:(0:Int)<g:=by
     have: ¬ g<=1:=λh=>by rw[Nat.ble_eq_true_of_le h] at e;cases e
     omega
    have e3:=bA.mp e2;have ea:sc g (c.a.map (·/(g:Int)))=c.a:=eq_of_beq e3.1;have eb:sc g (c.b.map (·/(g:Int)))=c.b:=eq_of_beq e3.2;show 0<=c.k/(g:Int)+dot (c.a.map (·/(g:Int))) A+dot (c.b.map (·/(g:Int))) B;have h:0<=c.k+dot c.a A+dot c.b B:=h;rw[<- ea,<- eb,uf,uf,vV,<- zC] at h;have:=JO h (Di g0);rw[JL _ _ (zA g0)] at this;rw[vV];exact this
noncomputable def Ms (e c:LC):LC:=((c.ms (e.hd*e.hd)).ad (e.ms (-(e.hd*c.hd)))).tl
noncomputable def pick:List LL->Option LC
 |[]=>ae
 |(ag,c)::l=>bif c.hd==0 then pick l else aa c
 |(ak,_)::l=>pick l
noncomputable def qm (p:LC->Bool):List LL->List LC
 |[]=>[]
 |(ak,c)::l=>bif p c then c::qm p l else qm p l
 |(ag,_)::l=>qm p l
noncomputable def ui:List LL->List LL
 |[]=>[]
 |(t,c)::l=>bif c.hd==0 then(t,c.tl)::ui l else ui l
noncomputable def elim (cs:List LL):List LL:=match pick cs with|some e=>cs.map λx=>tg (x.1,Ms e x.2)|none=>ui cs++(qm (λc=>decide (0<c.hd)) cs).flatMap λp=>(qm (λc=>decide (c.hd<0)) cs).map λq=>tg (ak,((p.ms (-q.hd)).ad (q.ms p.hd)).tl)
theorem U1{cs:List LL}(h:pick cs=aa e)(s:sat A B cs):e.val A B=0:=by
 induction cs with
 |nil=>exact nO h
 |cons p l ih=>
  have ih:=λh=>ih h λx m=>s x (.tail _ m);obtain⟨t,c⟩:=p;induction t using dD with
  |true=>
   change (bif c.hd==0 then pick l else aa c)=aa e at h;cases g:c.hd==0 with
   |true=>rw[g] at h;exact ih h
   |false=>rw[g] at h;obtain rfl:=bD h;exact s _ (.head _)
  |false=>exact ih h
theorem xh: ∀ {cs:List LL},c∈qm p cs->sat A B cs->p c=ag/\0<=c.val A B
 |[],h,_=>by cases h
 |(ak,d)::l,h,s=>by
  change c∈(bif p d then d::qm p l else qm p l) at h;cases g:p d with
  |true=>
   rw[g] at h;cases h with
   |head=>exact⟨g,s _ (.head _)⟩
   |tail _ m=>exact xh m λx m=>s x (.tail _ m)
  |false=>rw[g] at h;exact xh h λx m=>s x (.tail _ m)
 |(ag,c)::l,h,s=>xh (cs:=l) h λx m=>s x (.tail _ m)
theorem EN{A B:List Int}{x:LL}: ∀ {cs:List LL},x∈ui cs->sat A B cs->uh A.tail B x
 |[],h,_=>by cases h
 |(t,d)::l,h,s=>by
  change x∈(bif d.hd==0 then(t,d.tl)::ui l else ui l) at h;cases g:d.hd==0 with
  |true=>
   rw[g] at h;cases h with
   |head=>
    have:=s _ (.head _);have e:=EM (A:=A) (B:=B) (eq_of_beq g);induction t using dD with
    |true=>exact e.trans this
    |false=>exact vX this (zB e.symm)
   |tail _ m=>exact EN m λx m=>s x (.tail _ m)
  |false=>rw[g] at h;exact EN h λx m=>s x (.tail _ m)
theorem U2{A B:List Int}{cs:List LL}(s:sat A B cs):sat A.tail B (elim cs):=by
 intro x m;unfold elim at m;cases e:pick cs with
 |some c=>
  rw[e] at m;obtain⟨y,my,hy⟩:=bX.mp m;have z:=U1 e s;have v:(Ms c y.2).val A.tail B=c.hd*c.hd*y.2.val A B:=by
   refine(EM (A:=A) ?_).trans ?_
   .rw[Mq,Ay,Ay,Int.neg_mul,Int.mul_right_comm];omega
   .rw[xe,nI,nI,z];omega
  have:=s y my;rw[<- hy];refine Mr ?_;obtain⟨t,d⟩:=y;induction t using dD with
  |true=>exact v.trans (by rw[show d.val A B=0 from this];omega)
  |false=>exact vX (zw (by induction Dj 0 c.hd using wz with|inl h=>exact zw h h|inr h=>exact Int.mul_nonneg_of_nonpos_of_nonpos h h) this) (zB v.symm)
 |none=>
  rw[e] at m;induction fX.mp m using wz with
  |inl m=>exact EN m s
  |inr m=>obtain⟨p,mp,m⟩:=we.mp m;obtain⟨q,mq,hq⟩:=bX.mp m;have hp:=xh mp s;have rU:=xh mq s;have p0:=of_decide_eq_true hp.1;have q0:=of_decide_eq_true rU.1;rw[<- hq];refine Mr (show 0<=LC.val A.tail B _ from ?_);rw[EM (A:=A) (by rw[Mq,Ay,Ay,Int.neg_mul,Dh];omega),xe,nI,nI];exact zx (zw (by omega) hp.2) (zw (by omega) rU.2)
noncomputable def el:Nat->List LL->List LL
 |0,cs=>cs
 |n+1,cs=>el n (elim cs)
noncomputable def Mt (n:Nat) (A:List Int):List Int:=match n with|0=>A|n+1=>Mt n A.tail
theorem EO: ∀ (n:Nat) {A:List Int} {cs:List LL},sat A B cs->sat (Mt n A) B (el n cs)
 |0,_,_,s=>s
 |n+1,_,_,s=>EO n (U2 s)
noncomputable def rV:List Int->Bool
 |[]=>ag
 |x::l=>x==0&&rV l
theorem Az: ∀ {l X:List Int},rV l=ag->dot l X=0
 |[],_,_=>rfl
 |x::l,X,h=>by have h:=bA.mp h;show x*X.headD 0+dot l X.tail=0;rw[Az h.2,eq_of_beq h.1];omega
noncomputable def uj:List LL->List LL
 |[]=>[]
 |(t,c)::l=>bif rV c.a then(t,⟨c.k,c.b,[]⟩)::uj l else uj l
theorem EP: ∀ {cs:List LL},sat A B cs->sat B [] (uj cs)
 |[],_=>λx m=>by cases m
 |(t,c)::l,s=>by
  intro x m;change x∈(bif rV c.a then(t,LC.mk c.k c.b [])::uj l else uj l) at m;cases g:rV c.a with
  |true=>
   rw[g] at m;cases m with
   |head=>
    have:=s _ (.head _);have e:(LC.mk c.k c.b []).val B []=c.val A B:=by show c.k+dot c.b B+0=c.k+dot c.a A+dot c.b B;rw[Az g];omega
    induction t using dD with
    |true=>exact e.trans this
    |false=>exact vX this (zB e.symm)
   |tail _ m=>exact EP (λx m=>s x (.tail _ m)) x m
  |false=>rw[g] at m;exact EP (λx m=>s x (.tail _ m)) x m
noncomputable def bad:List LL->Bool
 |[]=>ak
 |(t,c)::l=>(rV c.a&&rV c.b&&(decide (c.k<0)||t&&decide (0<c.k)))||bad l
theorem Mu: ∀ {cs:List LL},bad cs=ag->sat A B cs->False
 |[],h,_=>by cases h
 |(t,c)::l,h,s=>by
  induction ni.mp h using wz with
  |inr h=>exact Mu h λx m=>s x (.tail _ m)
  |inl h=>
   have h:=bA.mp h;have g:=bA.mp h.1;have this:=s _ (.head _);have e:c.val A B=c.k:=by show c.k+dot c.a A+dot c.b B=c.k;rw[Az g.1,Az g.2];omega
   induction t using dD with
   |true=>
    have this:c.val A B=0:=this;induction ni.mp h.2 using wz with
    |inl h=>have:=of_decide_eq_true h;omega
    |inr h=>have:=of_decide_eq_true (bA.mp h).2;omega
   |false=>
    have this:0<=c.val A B:=this;induction ni.mp h.2 using wz with
    |inl h=>have:=of_decide_eq_true h;omega
    |inr h=>cases h
noncomputable def ER:Nat->List LL
 |0=>[]
 |n+1=>(ak,⟨0,un n,[]⟩)::ER n
theorem Mv(N:List Nat)(I:List Int): ∀ n,sat (up N) I (ER n)
 |0=>λx m=>by cases m
 |n+1=>λx m=>by
  cases m with
  |head=>show 0<=0+dot (un n) (up N)+0;rw[Mp];omega
  |tail _ m=>exact Mv N I n x m
noncomputable def AA (n m:Nat) (f:PE):Bool:=(jA f ak).all λc=>bad (el m (uj (el n (ER n++c))))
theorem U3(n m:Nat)(N:List Nat)(I:List Int)(f:PE)(h:AA n m f=ag):den N I f:=oy λg=>((UY N I f).2 g).elim λc s=>Mu (dS.mp h c s.1) (EO m (EP (EO n λx w=>(fX.mp w).elim (Mv N I n x) (s.2 x))))
theorem uB(x y:Nat):(x-y)+y=x\/x-y=0/\x<=y:=(DL y x).elim (λh=> .inl (K9 h)) λh=> .inr ⟨DG h,h⟩
theorem uM(x y:Nat):min x y=x/\x<=y\/min x y=y/\y<=x:=(DL x y).elim (λh=> .inl ⟨rE h,h⟩) λh=> .inr ⟨zT h,h⟩
theorem uX(x y:Nat):max x y=x/\y<=x\/max x y=y/\x<=y:=(DL y x).elim (λh=> .inl ⟨Nat.max_eq_left h,h⟩) λh=> .inr ⟨Nat.max_eq_right h,h⟩
theorem uT(x:Int):(x.toNat:Int)=x\/x.toNat=0/\x<=0:=(Dj 0 x).elim (λh=> .inl (vU h)) λh=> .inr ⟨Int.toNat_of_nonpos h,h⟩
theorem uA(x:Int):(x.natAbs:Int)=x/\0<=x\/(x.natAbs:Int)= -x/\x<=0:=(Dj 0 x).elim (λh=> .inl ⟨Int.natAbs_of_nonneg h,h⟩) λh=> .inr ⟨Int.ofNat_natAbs_of_nonpos h,h⟩
def kr:Lean.Syntax:=(UR `(Aq515|kernel_rfl)).raw
theorem qo[Decidable p](h:ag=decide p):p:=of_decide_eq_true h.symm
theorem uF(x k:Int)(h:autoParam (ag=decide (0<k)) kr):x.fmod k+k*(x.fdiv k)=x/\0<=x.fmod k/\x.fmod k<k:=⟨Int.fmod_add_mul_fdiv x k,rr x (qo h),zu x (qo h)⟩
theorem uD(x k:Nat)(h:autoParam (ag=decide (0<k)) kr):k*(x/k)<=x/\x<k*(x/k)+k:=⟨Nat.mul_div_le x k,Nat.lt_mul_div_succ x (qo h)⟩
theorem uR(x k:Nat)(h:autoParam (ag=decide (0<k)) kr):x%k+k*(x/k)=x/\x%k<k:=⟨Nat.mod_add_div x k,la x (qo h)⟩
theorem ud(x k:Int)(h:autoParam (ag=decide (0<k)) kr):k*(x/k)<=x/\x<k*(x/k)+k:=⟨Int.mul_ediv_self_le (zA (qo h)),Int.lt_mul_ediv_self_add (qo h)⟩
theorem ur(x k:Int)(h:autoParam (ag=decide (0<k)) kr):x%k+k*(x/k)=x/\0<=x%k/\x%k<k:=⟨Int.emod_add_mul_ediv x k,Int.emod_nonneg x (zA (qo h)),Int.emod_lt_of_pos x (qo h)⟩
@[reducible] def cF (N:List Nat) (I:List Int) (g:PE):List PE->Prop
 |[]=>den N I g
 |p::l=>den N I p->cF N I g l
noncomputable def ES (g:PE):List PE->PE
 |[]=>g
 |p::l=> .i p (ES g l)
theorem Mw(N:List Nat)(I:List Int)(g:PE): ∀ l,den N I (ES g l)->cF N I g l
 |[],h=>h
 |p::l,h=>λx=>Mw N I g l (h x)
noncomputable def U4 (n m:Nat) (L:List PE) (g:PE):Bool:=AA n m (ES g L)
@[reducible] def cI (n m:Nat) (L:List PE) (g:PE):Prop:=ag=U4 n m L g
theorem bL(n m:Nat)(N:List Nat)(I:List Int)(l:List PE)(g:PE)(h:autoParam (cI n m l g) kr):cF N I g l:=Mw N I g l (U3 n m N I _ h.symm)
@[reducible] noncomputable def J0:NE:= .v 0
@[reducible] noncomputable def J1:NE:= .v 1
@[reducible] noncomputable def J2:NE:= .v 2
@[reducible] noncomputable def J3:NE:= .v 3
@[reducible] noncomputable def J4:NE:= .v 4
@[reducible] noncomputable def J5:NE:= .v 5
@[reducible] noncomputable def J6:NE:= .v 6
@[reducible] noncomputable def J7:NE:= .v 7
@[reducible] noncomputable def J8:NE:= .v 8
@[reducible] noncomputable def J9:NE:= .v 9
@[reducible] noncomputable def Mx:NE:= .v 10
@[reducible] noncomputable def J11:NE:= .v 11
@[reducible] noncomputable def J12:NE:= .v 12
@[reducible] noncomputable def Q0:IE:= .v 0
@[reducible] noncomputable def Q1:IE:= .v 1
@[reducible] noncomputable def Q2:IE:= .v 2
@[reducible] noncomputable def Q3:IE:= .v 3
@[reducible] noncomputable def Q4:IE:= .v 4
@[reducible] noncomputable def Y0:NE:= .n 0
@[reducible] noncomputable def Y1:NE:= .n 1
@[reducible] noncomputable def Y2:NE:= .n 2
@[reducible] noncomputable def pB (v x y:NE):PE:= .o (.e (.a v y) x) (.an (.e v Y0) (.l x y))
@[reducible] noncomputable def pM (v x y:NE):PE:= .o (.an (.e v x) (.l x y)) (.an (.e v y) (.l y x))
@[reducible] noncomputable def pX (v x y:NE):PE:= .o (.an (.e v x) (.l y x)) (.an (.e v y) (.l x y))
@[reducible] noncomputable def pT (v:NE) (x:IE):PE:= .o (.E (.c v) x) (.an (.e v Y0) (.L x (.n 0)))
@[reducible] noncomputable def pA (v:NE) (x:IE):PE:= .o (.an (.E (.c v) x) (.L (.n 0) x)) (.an (.E (.c v) (.g x)) (.L x (.n 0)))
@[reducible] noncomputable def pD (k:Nat) (v x:NE):PE:= .an (.l (.m k v) x) (.t x (.a (.m k v) (.n k)))
@[reducible] noncomputable def pR (k:Nat) (v d x:NE):PE:= .an (.e (.a v (.m k d)) x) (.t v (.n k))
@[reducible] noncomputable def pd (k:Int) (v x:IE):PE:= .an (.L (.m k v) x) (.T x (.a (.m k v) (.n k)))
@[reducible] noncomputable def rW (k:Int) (v d x:IE):PE:= .an (.E (.a v (.m k d)) x) (.an (.L (.n 0) v) (.T v (.n k)))
theorem cY(L:List PE)(g:PE)(h:autoParam (cI 0 1 L g) kr):cF [] [x] g L:=bL _ _ _ _ _ _ h
theorem mj(L:List PE)(g:PE)(h:autoParam (cI 0 2 L g) kr):cF [] [x,y] g L:=bL _ _ _ _ _ _ h
theorem My(L:List PE)(g:PE)(h:autoParam (cI 0 3 L g) kr):cF [] [x,y,z] g L:=bL _ _ _ _ _ _ h
theorem aw(L:List PE)(g:PE)(h:autoParam (cI 1 0 L g) kr):cF [a] [] g L:=bL _ _ _ _ _ _ h
theorem cM(L:List PE)(g:PE)(h:autoParam (cI 1 1 L g) kr):cF [a] [x] g L:=bL _ _ _ _ _ _ h
theorem U5(L:List PE)(g:PE)(h:autoParam (cI 1 2 L g) kr):cF [a] [x,y] g L:=bL _ _ _ _ _ _ h
theorem F13(L:List PE)(g:PE)(h:autoParam (cI 1 3 L g) kr):cF [a] [x,y,z] g L:=bL _ _ _ _ _ _ h
theorem au(L:List PE)(g:PE)(h:autoParam (cI 2 0 L g) kr):cF [a,b] [] g L:=bL _ _ _ _ _ _ h
theorem lx(L:List PE)(g:PE)(h:autoParam (cI 2 1 L g) kr):cF [a,b] [x] g L:=bL _ _ _ _ _ _ h
theorem xi(L:List PE)(g:PE)(h:autoParam (cI 2 2 L g) kr):cF [a,b] [x,y] g L:=bL _ _ _ _ _ _ h
theorem qp(L:List PE)(g:PE)(h:autoParam (cI 2 3 L g) kr):cF [a,b] [x,y,z] g L:=bL _ _ _ _ _ _ h
theorem az(L:List PE)(g:PE)(h:autoParam (cI 3 0 L g) kr):cF [a,b,c] [] g L:=bL _ _ _ _ _ _ h
theorem rX(L:List PE)(g:PE)(h:autoParam (cI 3 1 L g) kr):cF [a,b,c] [x] g L:=bL _ _ _ _ _ _ h
theorem F32(L:List PE)(g:PE)(h:autoParam (cI 3 2 L g) kr):cF [a,b,c] [x,y] g L:=bL _ _ _ _ _ _ h
theorem U6(L:List PE)(g:PE)(h:autoParam (cI 3 3 L g) kr):cF [a,b,c] [x,y,z] g L:=bL _ _ _ _ _ _ h
theorem aQ(L:List PE)(g:PE)(h:autoParam (cI 4 0 L g) kr):cF [a,b,c,d] [] g L:=bL _ _ _ _ _ _ h
theorem o7(L:List PE)(g:PE)(h:autoParam (cI 4 1 L g) kr):cF [a,b,c,d] [x] g L:=bL _ _ _ _ _ _ h
theorem U7(L:List PE)(g:PE)(h:autoParam (cI 4 2 L g) kr):cF [a,b,c,d] [x,y] g L:=bL _ _ _ _ _ _ h
theorem F43(L:List PE)(g:PE)(h:autoParam (cI 4 3 L g) kr):cF [a,b,c,d] [x,y,z] g L:=bL _ _ _ _ _ _ h
theorem bU(L:List PE)(g:PE)(h:autoParam (cI 5 0 L g) kr):cF [a,b,c,d,i] [] g L:=bL _ _ _ _ _ _ h
theorem Mz(L:List PE)(g:PE)(h:autoParam (cI 5 1 L g) kr):cF [a,b,c,d,i] [x] g L:=bL _ _ _ _ _ _ h
theorem F52(L:List PE)(g:PE)(h:autoParam (cI 5 2 L g) kr):cF [a,b,c,d,i] [x,y] g L:=bL _ _ _ _ _ _ h
theorem F53(L:List PE)(g:PE)(h:autoParam (cI 5 3 L g) kr):cF [a,b,c,d,i] [x,y,z] g L:=bL _ _ _ _ _ _ h
theorem dn(L:List PE)(g:PE)(h:autoParam (cI 6 0 L g) kr):cF [a,b,c,d,i,j] [] g L:=bL _ _ _ _ _ _ h
theorem F61(L:List PE)(g:PE)(h:autoParam (cI 6 1 L g) kr):cF [a,b,c,d,i,j] [x] g L:=bL _ _ _ _ _ _ h
theorem F62(L:List PE)(g:PE)(h:autoParam (cI 6 2 L g) kr):cF [a,b,c,d,i,j] [x,y] g L:=bL _ _ _ _ _ _ h
theorem F63(L:List PE)(g:PE)(h:autoParam (cI 6 3 L g) kr):cF [a,b,c,d,i,j] [x,y,z] g L:=bL _ _ _ _ _ _ h
theorem kq(L:List PE)(g:PE)(h:autoParam (cI 7 0 L g) kr):cF [a,b,c,d,i,j,k] [] g L:=bL _ _ _ _ _ _ h
theorem F71(L:List PE)(g:PE)(h:autoParam (cI 7 1 L g) kr):cF [a,b,c,d,i,j,k] [x] g L:=bL _ _ _ _ _ _ h
theorem F72(L:List PE)(g:PE)(h:autoParam (cI 7 2 L g) kr):cF [a,b,c,d,i,j,k] [x,y] g L:=bL _ _ _ _ _ _ h
theorem F73(L:List PE)(g:PE)(h:autoParam (cI 7 3 L g) kr):cF [a,b,c,d,i,j,k] [x,y,z] g L:=bL _ _ _ _ _ _ h
theorem ku(L:List PE)(g:PE)(h:autoParam (cI 8 0 L g) kr):cF [a,b,c,d,i,j,k,l] [] g L:=bL _ _ _ _ _ _ h
theorem F81(L:List PE)(g:PE)(h:autoParam (cI 8 1 L g) kr):cF [a,b,c,d,i,j,k,l] [x] g L:=bL _ _ _ _ _ _ h
theorem F82(L:List PE)(g:PE)(h:autoParam (cI 8 2 L g) kr):cF [a,b,c,d,i,j,k,l] [x,y] g L:=bL _ _ _ _ _ _ h
theorem F83(L:List PE)(g:PE)(h:autoParam (cI 8 3 L g) kr):cF [a,b,c,d,i,j,k,l] [x,y,z] g L:=bL _ _ _ _ _ _ h
theorem AB(L:List PE)(g:PE)(h:autoParam (cI 9 0 L g) kr):cF [a,b,c,d,i,j,k,l,m] [] g L:=bL _ _ _ _ _ _ h
theorem F91(L:List PE)(g:PE)(h:autoParam (cI 9 1 L g) kr):cF [a,b,c,d,i,j,k,l,m] [x] g L:=bL _ _ _ _ _ _ h
theorem F92(L:List PE)(g:PE)(h:autoParam (cI 9 2 L g) kr):cF [a,b,c,d,i,j,k,l,m] [x,y] g L:=bL _ _ _ _ _ _ h
theorem uk(L:List PE)(g:PE)(h:autoParam (cI 10 0 L g) kr):cF [a,b,c,d,i,j,k,l,m,n] [] g L:=bL _ _ _ _ _ _ h
theorem aiU(L:List PE)(g:PE)(h:autoParam (cI 10 1 L g) kr):cF [a,b,c,d,i,j,k,l,m,n] [x] g L:=bL _ _ _ _ _ _ h
def ids(s:String):Array Lean.Ident:=(s.splitOn " ").toArray.map λx=>Lean.mkIdent x.toName
inductive Il:List (List Int)->List (List Int)->List (List Int)->Prop where
 |nil:Il [] [] []
 |l {c p z:List (List Int)} (x:List Int):Il c p z->Il (c++[x]) p (z++[x])
 |r {c p z:List (List Int)} (x:List Int):Il c p z->Il c (p++[x]) (z++[x])
theorem Il.len(i:Il c p z):z.length=c.length+p.length:=by
 induction i with
 |nil=>rfl
 |l x _ ih=>simp;exact(az [.e J0 (.a J1 J2)] (.e (.a J0 Y1) (.a (.a J1 Y1) J2))) ih
 |r x _ ih=>simp;exact(az [.e J0 (.a J1 J2)] (.e (.a J0 Y1) (.a J1 (.a J2 Y1)))) ih
theorem Il.cut(i:Il c p z): ∀ k,k<=z.length-> ∃ a b,a<=c.length/\b<=p.length/\a+b=k/\Il (c.take a) (p.take b) (z.take k):=by
 induction i with
 |nil=>
  intro k hk;have:k=0:=by simpa using hk
  subst this;exact⟨0,0,by exact cz _,by exact cz _,rfl,Il.nil⟩
 | @l c p z x i ih=>
  intro k hk;rcases jt z.length k with h|h
  .have qq:k=(z++[x]).length:=by simp at hk ⊢;exact(au [.t J0 J1,.l J1 (.a J0 Y1)] (.e J1 (.a J0 Y1))) h hk
   subst qq;exact⟨(c++[x]).length,p.length,aS _,aS _,by have:=i.len;simp;exact(az [.e J0 (.a J1 J2)] (.e (.a (.a J1 Y1) J2) (.a J0 Y1))) this,by rw[gR,gR,gR];exact .l x i⟩
  .obtain⟨a,b,ha,hb,gV,j⟩:=ih k h
   exact⟨a,b,by simp;exact nq ha,hb,gV,by rw[tx ha,tx h];exact j⟩
 | @r c p z x i ih=>
  intro k hk;rcases jt z.length k with h|h
  .have qq:k=(z++[x]).length:=by simp at hk ⊢;exact(au [.t J0 J1,.l J1 (.a J0 Y1)] (.e J1 (.a J0 Y1))) h hk
   subst qq;exact⟨c.length,(p++[x]).length,aS _,aS _,by have:=i.len;simp;exact(az [.e J0 (.a J1 J2)] (.e (.a J1 (.a J2 Y1)) (.a J0 Y1))) this,by rw[gR,gR,gR];exact .r x i⟩
  .obtain⟨a,b,ha,hb,gV,j⟩:=ih k h
   exact⟨a,b,ha,by simp;exact(aQ [.l J0 J1,.e (.a J2 J0) J3] (.l J0 (.a J1 Y1))) hb gV,gV,by rw[tx hb,tx h];exact j⟩
theorem Il.count(i:Il c p z)(s:Int):z.flatten.count s=c.flatten.count s+p.flatten.count s:=by
 induction i with
 |nil=>rfl
 |l x _ ih=>simp[qe,Ds,ih];exact az [] (.e (.a (.a J0 J1) J2) (.a (.a J0 J2) J1))
 |r x _ ih=>simp[qe,Ds,ih];exact az [] (.e (.a (.a J0 J1) J2) (.a J0 (.a J1 J2)))
noncomputable def U8:List (List Int)->Option (List Int)->List (List Int):=oJ (λzy=>[]) λa zy ih o=>o.elim (ih (aa a)) λz=>(z++a)::ih ae
noncomputable def pk (l:List (List Int)):List (List Int):=U8 l ae
theorem ET{P:List (List Int)->Prop}(h0:P [])(h1: ∀ a,P [a])(h2: ∀ a b r,P r->P (a::b::r))(l):P l:=(oJ (motive:=λl=>P l/\ ∀ a,P (a::l)) ⟨h0,h1⟩ (λa zy ih=>⟨ih.2 a,λb=>h2 b a _ ih.1⟩) l).1
theorem um(l):(pk l).length=l.length/2:=by refine ET (P:=λl=>(pk l).length=l.length/2) rfl (λzy=>(oM (by decide:1<2)).symm) (λa b r ih=>?_) l;show(pk r).length+1=(r.length+1+1)/2;rw[ih];exact(az [pD 2 J0 J1,pD 2 J2 (.a (.a J1 Y1) Y1)] (.e (.a J0 Y1) J2)) (uD _ 2) (uD _ 2)
theorem MA(b:Nat)(l:List (List Int))(h:b<=(pk l).length):((pk l).take b).flatten=(l.take (2*b)).flatten:=by
 revert b;refine ET (P:=λl=> ∀ b,b<=(pk l).length->((pk l).take b).flatten=(l.take (2*b)).flatten) (λb zy=>by show(wk b []).flatten=_;rw[DA,DA]) (λzy b h=>by rw[Nat.le_zero.mp h];rfl) (λx y r ih b h=>?_) l;induction b using ju with
 |zero=>rfl
 |succ b=>rw[show 2*(b+1)=2*b+1+1 by exact aw [] (.e (.m 2 (.a J0 Y1)) (.a (.a (.m 2 J0) Y1) Y1))];show x++y++((pk r).take b).flatten=x++(y++(r.take (2*b)).flatten);rw[ih b (DF h),eH]
inductive nK (c:List (List Int)):Nat->List (List Int)->Prop where
 |z:nK c 0 c
 |s {t:Nat} {y z:List (List Int)}:nK c t y->Il c (pk y) z->nK c (t+1) z
theorem AD(g f:Int->Nat)(c:Nat): ∀ l:List Int,(∀ s∈l,c+g s<=f s)->l.length*c+(l.map g).sum<=(l.map f).sum
 |[],_=>by simp
 |x::r,h=>by have h1:=h x (kZ);have h2:=AD g f c r λs hs=>h s (by simp[hs]);simp only[fW,gG,DB,fN];exact(dn [.l (.a J0 J1) J2,.l (.a J3 J4) J5] (.l (.a (.a J3 J0) (.a J1 J4)) (.a J2 J5))) h1 h2
theorem MB(S:List Int):(S.map λs=>[s]).flatten=S:=by
 induction S with
 |nil=>rfl
 |cons x r ih=>simp[ih]
noncomputable def dk (t L:Nat):Nat:=2^(t+1)-2^(t+1-L)
theorem U9{S:List Int}(nd:S.Nodup){t:Nat}{z:List (List Int)}(R:nK (S.map λs=>[s]) t z): ∀ k,k<=z.length->
  (∀ s,(z.take k).flatten.count s<=t+1)/\(∀ s,s∉S->(z.take k).flatten.count s=0)/\k*2^t<=(S.map λs=>dk t ((z.take k).flatten.count s)).sum:=by
 have one: ∀ (l:List Int) (s:Int),l.Nodup->l.count s=if s∈l then 1 else 0:=λl s h=>h.count
 have tk: ∀ a,((S.map λs=>[s]).take a).flatten=S.take a:=λa=>by rw[<- KR,MB]
 have rY: ∀ a,(S.take a).Nodup:=λa=>nd.sublist (List.take_sublist _ _);induction R with
 |z=>
  intro k hk;rw[tk];refine⟨λs=>by rw[one _ _ (rY k)];split <;> (first|exact bL 0 0 [] [] [] (.l Y1 Y1)|exact bL 0 0 [] [] [] (.l Y0 Y1)),λs hs=>by rw[one _ _ (rY k),if_neg λh=>hs (zE h)],?_⟩;have e:(S.map λs=>dk 0 ((S.take k).count s))=((S.take k).map λs=>dk 0 ((S.take k).count s))++((S.drop k).map λs=>dk 0 ((S.take k).count s)):=by rw[<- b8,oC]
  rw[e,wh];have h1:=AD (λzy=>0) (λs=>dk 0 ((S.take k).count s)) 1 (S.take k) λs hs=>by rw[one _ _ (rY k),if_pos hs];decide
  have h2:(S.take k).length=k:=by rw[gT];simp at hk;exact(az [.l J0 J1,pM J2 J0 J1] (.e J2 J0)) hk (uM _ _)
  rw[h2] at h1;have:0<=((S.drop k).map λs=>dk 0 ((S.take k).count s)).sum:=cz _;exact(aQ [.l (.a (.w J0 1) J1) J2] (.l (.w J0 1) (.a J2 J3))) h1
 | @s t y z R I ih=>
  intro k hk;obtain⟨a,b,ha,hb,gV,J⟩:=I.cut k hk;have cnt: ∀ s,(z.take k).flatten.count s=(S.take a).count s+(y.take (2*b)).flatten.count s:=λs=>by rw[J.count s,tk,MA _ _ hb]
  have xj:2*b<=y.length:=by rw[um] at hb;exact(bU [.l J0 J1,.e (.a J3 J0) J4,pD 2 J1 J2] (.l (.m 2 J0) J2)) hb gV (uD _ 2)
  obtain⟨h1,h2,h3⟩:=ih (2*b) xj;simp only[aX] at ha;refine⟨λs=>?_,λs hs=>?_,?_⟩
  .rw[cnt,one _ _ (rY a)];have:=h1 s;split <;> (first|exact(au [.l J0 (.a J1 Y1)] (.l (.a Y1 J0) (.a (.a J1 Y1) Y1))) this|exact(au [.l J0 (.a J1 Y1)] (.l (.a Y0 J0) (.a (.a J1 Y1) Y1))) this)
  .rw[cnt,one _ _ (rY a),if_neg λh=>hs (zE h),h2 s hs]
  .have e: ∀ f:Int->Nat,(S.map f).sum=((S.take a).map f).sum+((S.drop a).map f).sum:=λf=>by
    rw[<- wh,<- b8,oC]
   have MC: ∀ L,L<=t+1->2^(t+1-L)<=2^(t+1):=λL zy=>zP (by decide) ((az [pB J0 (.a J1 Y1) J2] (.l J0 (.a J1 Y1))) (uB _ _));have g1:=AD (λs=>dk t ((y.take (2*b)).flatten.count s)) (λs=>dk (t+1) ((z.take k).flatten.count s)) (2^(t+1)) (S.take a) λs hs=>by show 2^(t+1)+dk t _<=dk (t+1) _;rw[cnt,one _ _ (rY a),if_pos hs];have:=MC _ (h1 s);unfold dk;rw[show t+1+1-(1+(y.take (2*b)).flatten.count s)=t+1-(y.take (2*b)).flatten.count s from(aQ [pB J0 (.a (.a J1 Y1) Y1) (.a Y1 J2),pB J3 (.a J1 Y1) J2] (.e J0 J3)) (uB _ _) (uB _ _),lZ 2 (t+1)];exact(aQ [.l J0 J1,pB J2 J1 J0,pB J3 (.w J1 2) J0] (.l (.a J1 J2) J3)) this (uB _ _) (uB _ _)
   have g2:=AD (λs=>dk t ((y.take (2*b)).flatten.count s)) (λs=>dk (t+1) ((z.take k).flatten.count s)) 0 (S.drop a) λs hs=>by
    have hn:s∉S.take a:=λh=>by have:=nd;rw[<- oC a S,tC] at this;exact this.2.2 s h s hs rfl
    show 0+dk t _<=dk (t+1) _;rw[cnt,one _ _ (rY a),if_neg hn];have:=MC _ (h1 s);have Va:=h1 s;unfold dk;rw[show t+1+1-(0+(y.take (2*b)).flatten.count s)=(t+1-(y.take (2*b)).flatten.count s)+1 from(aQ [.l J0 (.a J1 Y1),pB J2 (.a (.a J1 Y1) Y1) (.a Y0 J0),pB J3 (.a J1 Y1) J0] (.e J2 (.a J3 Y1))) Va (uB _ _) (uB _ _),lZ 2 (t+1),lZ];omega
   rw[e (λs=>dk t ((y.take (2*b)).flatten.count s))] at h3;rw[e];have Vb:(S.take a).length=a:=by rw[gT];exact(az [.l J0 J1,pM J2 J0 J1] (.e J2 J0)) ha (uM _ _)
   rw[Vb] at g1;have:k*2^(t+1)=a*2^(t+1)+2*b*2^t:=by rw[<- gV,DS,lZ];congr 1;rw[dt (2^t) 2,<- wo,dt b 2]
   exact(ku [.l J0 (.a J1 J2),.l (.a J3 J1) J4,.l (.a (.w J5 0) J2) J6,.e J7 (.a J3 J0)] (.l J7 (.a J4 J6))) h3 g1 g2 this
theorem Vc{c:List (List Int)}(hc:2<=c.length/\c.length<=18){t:Nat}{z:List (List Int)}(R:nK c t z):z.length=(oO c.length (λzy l=>c.length+l/2) t:Nat):=by
 induction R with
 |z=>rfl
 |s R I ih=>rw[I.len,um,ih]
theorem MD(hc:2<=c.length/\c.length<=18)(R:nK c 15 z):2*c.length-2<=z.length:=by
 rw[Vc hc R];obtain⟨h1,h2⟩:=hc;generalize c.length=n at *
 have h3:n<19:=zS h2;clear h2;revert h1;revert h3;revert n;decide
theorem ME(f:Int->Nat)(c:Nat): ∀ l:List Int,(∀ s∈l,f s<=c)->(l.map λs=>c-f s).sum+(l.map f).sum=l.length*c
 |[],_=>by simp
 |x::r,h=>by have h1:=h x (kZ);have h2:=ME f c r λs hs=>h s (by simp[hs]);simp only[fW,gG,DB,fN];exact(dn [.l J0 J1,.e (.a J2 J3) J4,pB J5 J1 J0] (.e (.a (.a J5 J2) (.a J0 J3)) (.a J4 J1))) h1 h2 (uB _ _)
theorem Vd(f:Int->Nat)(l:List Int)(x:Int)(h:x∈l):f x<=(l.map f).sum:=by
 induction h with
 |head=>exact rD _ _
 |tail _ _ ih=>exact cG ih (k9 _ _)
theorem Ve{fC:Int}{S:List Int}(nd:(fC::S).Nodup)(h0:1<=S.length/\S.length<=17){z:List (List Int)}(R:nK ((fC::S).map λs=>[s]) 15 z):
  (∀ s∈fC::S,1<=(z.take (2*S.length)).flatten.count s/\(z.take (2*S.length)).flatten.count s<=16)/\(∀ s,s∉fC::S->(z.take (2*S.length)).flatten.count s=0)/\(S.map λs=>2^(16-(z.take (2*S.length)).flatten.count s)).sum<2^16:=by
 have hl:=MD (by simp;exact(aw [.an (.l Y1 J0) (.l J0 (.n 17))] (.an (.l Y1 J0) (.l J0 (.n 17)))) h0) R;simp only[aX,fW] at hl;obtain⟨h1,h2,h3⟩:=U9 nd R (2*S.length) ((az [.l J0 J2,pB J0 (.m 2 (.a J1 Y1)) Y2] (.l (.m 2 J1) J2)) hl (uB _ _));generalize hL:(λs=>(z.take (2*S.length)).flatten.count s)=L at *
 have eL: ∀ s,(z.take (2*S.length)).flatten.count s=L s:=λs=>by rw[<- hL]
 simp only[eL] at h1 h2 h3 ⊢;have hs:=ME (λs=>2^(16-L s)) (2^16) (fC::S) λs zy=>zP (by decide) ((au [pB J0 (.n 16) J1] (.l J0 (.n 16))) (uB _ _));have MF:2*S.length*2^15<=((fC::S).map λs=>2^16-2^(16-L s)).sum:=h3;simp only[fW,fN] at hs;have MG:((fC::S).map λs=>2^(16-L s)).sum<=2^16:=(az [.l (.w (.m 2 J0) 32768) J1,.e (.a J1 J2) (.a (.w J0 65536) (.n 65536))] (.l J2 (.n 65536))) MF hs;refine⟨λs eB=>⟨?_,h1 s⟩,h2,?_⟩
 .rcases rB (L s) with h|h
  .exfalso
   obtain⟨x,hx,Vf⟩: ∃ x∈fC::S,x≠s:=by
    obtain⟨y,r,rfl⟩: ∃ y r,S=y::r:=by induction S using cw with|nil=>simp at h0|cons y r=>exact⟨y,r,rfl⟩
    by_cases e:fC=s
    .refine⟨y,by simp,λe2=>?_⟩
     subst e;subst e2;simp at nd
    .exact⟨fC,by exact kZ,e⟩
   have a1:=Vd (λs=>2^(16-L s)) ((fC::S).erase s) x ((List.mem_erase_of_ne Vf).mpr hx);have a2:((fC::S).map λs=>2^(16-L s)).sum=2^(16-L s)+(((fC::S).erase s).map λs=>2^(16-L s)).sum:=by have p:=(List.perm_cons_erase eB).map (λs=>2^(16-L s));rw[p.sum_nat];rfl
   have a3:1<=2^(16-L x):=La;rw[h] at a2;simp only[DM] at a2;exact(bU [.l (.w (.m 2 J0) 32768) J1,.e (.a J1 J2) (.a (.w J0 65536) (.n 65536)),.l J3 J4,.e J2 (.a (.n 65536) J4),.l Y1 J3] .ff) MF hs a1 a2 a3
  .exact h
 .have:1<=2^(16-L fC):=La
  simp only[gG,DB] at MG;exact(au [.l Y1 J0,.l (.a J0 J1) (.n 65536)] (.t J1 (.n 65536))) this MG
noncomputable def cZ (c:Nat->Nat):Nat->Nat:=oO 0 λk r=>(r+c k)*2
noncomputable def bM (c:Nat->Nat):Nat->Nat:=oO 0 λk r=>r+c k
noncomputable def jY (c:Nat->Nat):Nat->Nat:=oO 0 λk r=>r+c k*2^(15-k)
theorem Vg(c:Nat->Nat)(k)(h:k<=15):cZ c k*2^(15-k)=jY c k:=by
 induction k with
 |zero=>exact DN _
 |succ k ih=>
  have ih:=ih ((aw [.l (.a J0 Y1) (.n 15)] (.l J0 (.n 15))) h);have e:2^(15-k)=2*2^(15-(k+1)):=by rw[show 15-k=(15-(k+1))+1 from(az [.l (.a J0 Y1) (.n 15),pB J1 (.n 15) J0,pB J2 (.n 15) (.a J0 Y1)] (.e J1 (.a J2 Y1))) h (uB _ _) (uB _ _),lZ,dt]
  show(cZ c k+c k)*2*2^(15-(k+1))=jY c k+c k*2^(15-k);rw[wo,<- e,DS,ih]
theorem MH{f:Nat->Nat}(hf: ∀ k,f k<=f (k+1)){k l:Nat}(h:k<=l):f k<=f l:=by
 induction h with
 |refl=>exact aS _
 |step _ ih=>exact cG ih (hf _)
theorem Vh(c:Nat->Nat){l:Nat}(h:k<=l):jY c k<=jY c l:=MH (λzy=>rD _ _) h
theorem EU(c:Nat->Nat){l:Nat}(h:k<=l):bM c k<=bM c l:=MH (λzy=>rD _ _) h
theorem MI(h:jY c 16<2^16)(hk:k<16):cZ c k+c k<2^(k+1):=by
 have h1:(cZ c k+c k)*2^(15-k)=jY c (k+1):=by rw[DS,Vg c k ((aw [.t J0 (.n 16)] (.l J0 (.n 15))) hk)];rfl
 have h2:=Vh c (show k+1<=16 from hk);have h3:2^16=2^(k+1)*2^(15-k):=by rw[<- wu];congr 1;exact(au [.t J0 (.n 16),pB J1 (.n 15) J0] (.e (.n 16) (.a (.a J0 Y1) J1))) hk (uB _ _)
 refine Nat.lt_of_mul_lt_mul_right (a:=2^(15-k)) ?_;rw[h1,<- h3];exact(az [.t J0 (.n 65536),.e J1 J2,.l J2 J0] (.t J2 (.n 65536))) h h1 h2
theorem Vi(c:Nat->Nat)(k:Nat)(d):(cZ c k+c k)*2^(d+1)<=cZ c (k+1+d):=by
 induction d with
 |zero=>exact aS _
 |succ d ih=>show _<=(cZ c (k+1+d)+c (k+1+d))*2;rw[lZ,<- wo];exact(az [.l J0 J1] (.l (.w J0 2) (.w (.a J1 J2) 2))) ih
noncomputable def mn (c:Nat->Nat) (sy:List Int) (k i:Nat):List (Int×Nat×Nat):=(ar i).map λi=>(sy.getD (bM c k+i) 0,cZ c k+i,k+1)
noncomputable def gg (c:Nat->Nat) (sy:List Int) (j i:Nat):List (Int×Nat×Nat):=(ar j).flatMap (λk=>mn c sy k (c k))++mn c sy j i
theorem Vj:gg c sy 0 0=[]:=rfl
theorem MJ:gg c sy j (i+1)=gg c sy j i++[(sy.getD (bM c j+i) 0,cZ c j+i,j+1)]:=by unfold gg;rw[eH];congr 1;unfold mn;rw[dZ,b8];rfl
theorem EV:gg c sy (j+1) 0=gg c sy j (c j):=by unfold gg;rw[dZ,jM];simp[mn]
theorem EW{c:Nat->Nat}{sy:List Int}{k:Nat}: ∀ i,bM c k+i<=sy.length->(mn c sy k i).map (·.1)=(sy.drop (bM c k)).take i
 |0,_=>by rfl
 |i+1,h=>by
  have ih:=EW (c:=c) (sy:=sy) (k:=k) i ((az [.l (.a J0 (.a J1 Y1)) J2] (.l (.a J0 J1) J2)) h);have e:mn c sy k (i+1)=mn c sy k i++[(sy.getD (bM c k+i) 0,cZ c k+i,k+1)]:=by unfold mn;rw[dZ,b8];rfl
  rw[e,b8,ih];have hi:i<(sy.drop (bM c k)).length:=by rw[Ky];exact(aQ [.l (.a J0 (.a J1 Y1)) J2,pB J3 J2 J0] (.t J1 J3)) h (uB _ _)
  rw[List.take_succ_eq_append_getElem hi];congr 1;simp[eP,eQ (show bM c k+i<sy.length from(az [.l (.a J0 (.a J1 Y1)) J2] (.t (.a J0 J1) J2)) h)]
theorem AE{c:Nat->Nat}{sy:List Int}: ∀ (j i:Nat),bM c j+i<=sy.length->(gg c sy j i).map (·.1)=sy.take (bM c j+i)
 |0,i,h=>by
  have:gg c sy 0 i=mn c sy 0 i:=by unfold gg;rfl
  rw[this,EW i h];show wk i sy=wk (0+i) sy;rw[DO]
 |j+1,i,h=>by
  have e:gg c sy (j+1) i=gg c sy j (c j)++mn c sy (j+1) i:=by rw[<- EV];unfold gg;simp[mn]
  have h':bM c j+c j<=sy.length:=by have:bM c (j+1)=bM c j+c j:=rfl;exact(bU [.l (.a J0 J1) J2,.e J0 (.a J3 J4)] (.l (.a J3 J4) J2)) h this
  rw[e,b8,AE j (c j) h',EW i h];show wk (bM c (j+1)) sy++_=_;rw[<- List.take_add]
theorem AF(h:e∈gg c sy j i): ∃ k t,(k<j/\t<c k\/k=j/\t<i)/\e=(sy.getD (bM c k+t) 0,cZ c k+t,k+1):=by
 unfold gg at h;rcases fX.mp h with h|h
 .obtain⟨k,hk,h⟩:=we.mp h
  obtain⟨t,ht,rfl⟩:=bX.mp h;exact⟨k,t,.inl ⟨by simpa using hk,by simpa using ht⟩,rfl⟩
 .obtain⟨t,ht,rfl⟩:=bX.mp h
  exact⟨j,t,.inr ⟨rfl,by simpa using ht⟩,rfl⟩
structure ek (c:Nat->Nat) (sy:List Int):Prop where
 sum:bM c 16=sy.length
 nd:sy.Nodup
 ks:jY c 16<2^16
 rg: ∀ s∈sy,0<=s/\s<=16
 len:sy.length<=17
noncomputable def jZ (c:Nat->Nat) (sy:List Int):List (Int×Nat×Nat):=gg c sy 16 0
theorem ek.keys(H:ek c sy):(jZ c sy).map (·.1)=sy:=by unfold jZ;rw[AE 16 0 (by rw[H.sum];exact aS _),DP,H.sum,gR]
theorem ek.mem(H:ek c sy)(h:(s,cd,L)∈jZ c sy):1<=L/\L<=16/\cd<2^L/\ ∀ s' L',L'<L->(s',cd/2^(L-L'),L')∉jZ c sy:=by
 obtain⟨k,t,hk,e⟩:=AF h;obtain⟨hk,ht⟩:k<16/\t<c k:=by rcases hk with h|h;exact h;exact(az [.an (.e J0 (.n 16)) (.t J1 Y0)] (.an (.t J0 (.n 16)) (.t J1 J2))) h
 simp only[tL] at e;obtain⟨-,rfl,rfl⟩:=e;have:=MI H.ks hk;refine⟨by exact k9 _ _,by exact(az [.o (.an (.t J0 (.n 16)) (.t J1 J2)) (.an (.e J0 (.n 16)) (.t J1 Y0))] (.l (.a J0 Y1) (.n 16))) ‹_›,by exact(bU [.t (.a J0 J1) J2,.o (.an (.t J3 (.n 16)) (.t J4 J1)) (.an (.e J3 (.n 16)) (.t J4 Y0))] (.t (.a J0 J4) J2)) this ‹_›,λs' L' hL h'=>?_⟩;obtain⟨k',t',qq,e⟩:=AF h';obtain⟨qq,rZ⟩:k'<16/\t'<c k':=by rcases qq with h|h;exact h;exact(az [.an (.e J0 (.n 16)) (.t J1 Y0)] (.an (.t J0 (.n 16)) (.t J1 J2))) h
 simp only[tL] at e;obtain⟨-,e,rfl⟩:=e;obtain⟨d,rfl⟩: ∃ d,k=k'+1+d:=⟨k-k'-1,by exact(aQ [.t (.a J0 Y1) (.a J1 Y1),pB J3 J1 J0,pB J2 J3 Y1] (.e J1 (.a (.a J0 Y1) J2))) hL (uB _ _) (uB _ _)⟩;have h1:=Vi c k' d;have h2:cZ c k'+c k'<=(cZ c (k'+1+d)+t)/2^(d+1):=(Nat.le_div_iff_mul_le (lY _)).mpr ((az [.l J0 J1] (.l J0 (.a J1 J2))) h1);rw[show k'+1+d+1-(k'+1)=d+1 from(az [pB J0 (.a (.a (.a J1 Y1) J2) Y1) (.a J1 Y1)] (.e J0 (.a J2 Y1))) (uB _ _)] at e;exact(bU [.e J0 (.a J1 J2),.l (.a J1 J3) J0,.o (.an (.t J4 (.n 16)) (.t J2 J3)) (.an (.e J4 (.n 16)) (.t J2 Y0))] .ff) e h2 ‹_›
theorem ek.code(H:ek c sy)(h:s∈sy): ∃ cd L,(s,cd,L)∈jZ c sy:=by rw[<- H.keys] at h;obtain⟨⟨s',cd,L⟩,h',rfl⟩:=bX.mp h;exact⟨cd,L,h'⟩
theorem mr{α β:Type}{_:BEq α}[LawfulBEq α]{a:α}{v:β}{l:List (α×β)}(nd:(l.map (·.1)).Nodup)(h:(a,v)∈l):l.lookup a=aa v:=by
 induction l with
 |nil=>exact absurd h oE
 |cons p r ih=>
  have nd:=lV.mp nd;obtain⟨x,y⟩:=p;rw[jN];rcases gH.mp h with e|h
  .obtain⟨rfl,rfl⟩:=iM e
   rw[beq_self_eq_true]
  .rw[beq_false_of_ne λe=>nd.1 (bX.mpr ⟨_,h,e⟩)]
   exact ih nd.2 h
theorem uo{α β:Type}{_:BEq α}[LawfulBEq α]{a:α}{v:β}: ∀ {l:List (α×β)},l.lookup a=aa v->(a,v)∈l
 |[],h=>by simp at h
 |(x,y)::r,h=>by
  rw[lW] at h;cases e:a==x with
  |true=>rw[e] at h;have:=eq_of_beq e;obtain rfl:=bD h;subst this;exact kZ ..
  |false=>rw[e] at h;exact zF _ (uo h)
theorem lookup_none{α β:Type}{_:BEq α}[LawfulBEq α]{a:α}{l:List (α×β)}(h:a∉l.map (·.1)):l.lookup a=ae:=by
 cases e:l.lookup a with
 |none=>rfl
 |some v=>exact absurd (bX.mpr ⟨_,uo e,rfl⟩) h
theorem ek.look{c:Nat->Nat}{sy:List Int}(H:ek c sy){s:Int}{x:Nat×Nat}(h:(s,x)∈jZ c sy):(jZ c sy).lookup s=aa x:=mr (by rw[H.keys];exact H.nd) h
noncomputable def iT (c:Nat->Nat) (sy:List Int) (j i:Nat):List ((Int×Int)×Int):=(gg c sy j i).map λe=>(((e.2.2:Nat),(e.2.1:Nat)),e.1)
theorem MK:iT c sy j (i+1)=iT c sy j i++[((((j+1:Nat):Int),((cZ c j+i:Nat):Int)),sy.getD (bM c j+i) 0)]:=by unfold iT;rw[MJ,b8];rfl
theorem ML:iT c sy (j+1) 0=iT c sy j (c j):=by unfold iT;rw[EV]
theorem MM{c:Nat->Nat}{sy:List Int}{j i:Nat}:((((j+1:Nat):Int),((cZ c j+i:Nat):Int)):Int×Int)∉(iT c sy j i).map (·.1):=by intro h;unfold iT at h;rw[cV] at h;obtain⟨e,he,h⟩:=bX.mp h;obtain⟨k,t,hk,rfl⟩:=AF he;simp only[oz,tL] at h;obtain⟨h1,h2⟩:=h;have:k=j:=(au [.E (.c (.a J0 Y1)) (.c (.a J1 Y1))] (.e J0 J1)) h1;subst this;exact(bU [.o (.an (.t J0 J0) (.t J1 J2)) (.an (.e J0 J0) (.t J1 J3)),.E (.c (.a J4 J1)) (.c (.a J4 J3))] .ff) hk h2
theorem EX{c:Nat->Nat}{sy:List Int}: ∀ (j i:Nat),((iT c sy j i).map (·.1)).Nodup
 |0,0=>by simp[iT,Vj]
 |j,i+1=>by rw[MK,b8,tC];refine⟨EX j i,by simp,λa ha b hb e=>?_⟩;simp at hb;subst hb;subst e;exact MM ha
 |j+1,0=>by rw[ML];exact EX j (c j)
termination_by j i=>(j,i)
noncomputable def ly (c:Nat->Nat) (sy:List Int):List ((Int×Int)×Int):=iT c sy 16 0
theorem MN{c:Nat->Nat}{sy:List Int}{s:Int}{cd L:Nat}(h:(s,cd,L)∈jZ c sy): @lW (Int×Int) Int instBEqOfDecidableEq ((L:Int),(cd:Int)) (ly c sy)=aa s:=mr (EX 16 0) (bX.mpr ⟨_,h,rfl⟩)
theorem Vk{c:Nat->Nat}{sy:List Int}{cd L:Nat}(h: ∀ s,(s,cd,L)∉jZ c sy): @lW (Int×Int) Int instBEqOfDecidableEq ((L:Int),(cd:Int)) (ly c sy)=ae:=lookup_none λh'=>by unfold ly iT at h';rw[cV] at h';obtain⟨⟨s,a,b⟩,he,e⟩:=bX.mp h';simp only[oz,tL] at e;obtain rfl:b=L:=(aQ [.an (.E (.c J0) (.c J1)) (.E (.c J2) (.c J3))] (.e J0 J1)) e;obtain rfl:a=cd:=(az [.an (.E (.c J0) (.c J0)) (.E (.c J1) (.c J2))] (.e J1 J2)) e;exact h _ he
noncomputable def fD (l:List Nat):Nat->Nat:=λk=>l.getD k 0
theorem MO(hj:j<l.length):fD (l.set j (l.getD j 0+1)) k=if k=j then fD l k+1 else fD l k:=by
 unfold fD;rw[eP,wb];by_cases e:j=k
 .subst e;rw[if_pos rfl,if_pos hj,if_pos rfl];rfl
 .rw[if_neg e,if_neg (eI e),eP]
theorem Vl(hj:j<l.length)(n):bM (fD (l.set j (l.getD j 0+1))) n=bM (fD l) n+if j<n then 1 else 0:=by
 induction n with
 |zero=>rfl
 |succ n ih=>
  show bM _ n+fD _ n=bM _ n+fD l n+_;rw[ih,MO hj];by_cases h1:n=j
  .subst h1;rw[if_pos rfl,if_neg (iK _),if_pos (k8 _)];exact au [] (.e (.a (.a J0 Y0) (.a J1 Y1)) (.a (.a J0 J1) Y1))
  .rw[if_neg h1]
   by_cases h2:j<n
   .rw[if_pos h2,if_pos (rC h2)];exact au [] (.e (.a (.a J0 Y1) J1) (.a (.a J0 J1) Y1))
   .rw[if_neg h2,if_neg ((au [.no (.e J0 J1),.no (.t J1 J0)] (.no (.t J1 (.a J0 Y1)))) h1 h2)];exact au [] (.e (.a (.a J0 Y0) J1) (.a (.a J0 J1) Y0))
theorem Vm(hj:j<l.length)(n):jY (fD (l.set j (l.getD j 0+1))) n=jY (fD l) n+if j<n then 2^(15-j) else 0:=by
 induction n with
 |zero=>rfl
 |succ n ih=>
  show jY _ n+fD _ n*_=jY _ n+fD l n*_+_;rw[ih,MO hj];by_cases h1:n=j
  .subst h1;rw[if_pos rfl,if_neg (iK _),if_pos (k8 _),fN];exact az [] (.e (.a (.a J0 Y0) (.a J1 J2)) (.a (.a J0 J1) J2))
  .rw[if_neg h1]
   by_cases h2:j<n
   .rw[if_pos h2,if_pos (rC h2)];exact az [] (.e (.a (.a J0 J1) J2) (.a (.a J0 J2) J1))
   .rw[if_neg h2,if_neg ((au [.no (.e J0 J1),.no (.t J1 J0)] (.no (.t J1 (.a J0 Y1)))) h1 h2)];exact au [] (.e (.a (.a J0 Y0) J1) (.a (.a J0 J1) Y0))
open PySem
inductive PV where
 |none|bool (b:Bool)|int (i:Int)|str (s:Str)|bytes (b:List UInt8)
 |tup (l:List PV)|dw (a b s:Int)|j0 (l:List Int)|ref (k:Nat)
set_option genSizeOfSpec false in
inductive aB where
 |list (l:List PV)
 |dict (es:List (PV×PV))
 |dy (es:List (PV×PV))
 |set (es:List PV)
 |cb (b:List UInt8)
 |inst (c:Nat) (fs:List (Nat×PV))
 |gen (f:Nat) (loc:List (Option PV)) (rest:Option (List PV))
abbrev PH:=List aB
structure aj where
 heap:PH
 loc:List (Option PV)
inductive aY where
 |next|brk|cont|ret (v:PV)
abbrev HC(α:Type):=PH->(α->PH->Prop)->Prop
structure ax where
 call:Nat->List PV->HC PV
 step:Nat->HC (Option PV)
 ba:Bool
abbrev RM(α:Type):=ax->aj->(α->aj->Prop)->Prop
def bN(x:PV)(K:Int->Prop):Prop:=match x with| .int a=>K a|_=>False
def EY(x:PV)(K:Bool->Prop):Prop:=match x with| .bool a=>K a|_=>False
def AG(x:PV)(K:List UInt8->Prop):Prop:=match x with| .bytes a=>K a|_=>False
def qr(x:PV)(K:List PV->Prop):Prop:=match x with| .tup a=>K a|_=>False
def kx(x:PV)(K:Nat->Prop):Prop:=match x with| .ref a=>K a|_=>False
def one(xs:List PV)(K:PV->Prop):Prop:=match xs with|[x]=>K x|_=>False
def two(xs:List PV)(K:PV->PV->Prop):Prop:=match xs with|[x,y]=>K x y|_=>False
def xk(xs:List PV)(K:PV->Prop)(K':PV->PV->Prop):Prop:=match xs with|[x]=>K x|[x,y]=>K' x y|_=>False
def lk(h:PH)(k:Nat)(K:aB->Prop):Prop:= ∃ o,h[k]?=aa o/\K o
def oL(K:List PV->Prop)(o:aB):Prop:=match o with| .list l=>K l|_=>False
def oD(K:List (PV×PV)->Prop)(o:aB):Prop:=match o with| .dict l=>K l|_=>False
def oS(K:List PV->Prop)(o:aB):Prop:=match o with| .set l=>K l|_=>False
def oB(K:List UInt8->Prop)(o:aB):Prop:=match o with| .cb l=>K l|_=>False
def oI(K:Nat->List (Nat×PV)->Prop)(o:aB):Prop:=match o with| .inst c fs=>K c fs|_=>False
def gW(h:PH)(k:Nat)(K:List PV->Prop):Prop:=lk h k (oL K)
def guard(b:Bool)(P:Prop):Prop:=match b with|true=>P|false=>False
def uq(o:aB)(h:PH)(K:PV->PH->Prop):Prop:=K (.ref h.length) (h++[o])
def fP(l:List PV)(h:PH)(K:PV->PH->Prop):Prop:=guard (iY l.length 1000000) (K (.ref h.length) (h++[.list l]))
def qs(l:List PV)(h:PH)(K:PV->PH->Prop):Prop:=guard (iY l.length 1000000) (K (.tup l) h)
def o8(l:List UInt8)(h:PH)(K:PV->PH->Prop):Prop:=guard (iY l.length 1000000) (K (.bytes l) h)
noncomputable def intsOf:List PV->Option (List Int)
 |[]=>aa []
 | .int i::r=>(intsOf r).map (i:: ·)
 |_::_=>ae
noncomputable def gX:PV->PV->Bool
 | .int a,.int b=>a==b
 | .str a,.str b=>a==b
 | .tup a,.tup b=>intsOf a==intsOf b
 |_,_=>ak
noncomputable def keyKind:PV->Nat
 | .int _=>1
 | .str _=>2
 | .tup l=>bif (intsOf l).any (·.length==2) then 3 else 0
 |_=>0
noncomputable def keysOk (k:PV) (es:List (PV×PV)):Bool:=keyKind k != 0&&es.all λe=>keyKind e.1==keyKind k
noncomputable def dU (es:List (PV×PV)) (k:PV):Option PV:=(es.find? λe=>gX e.1 k).map (·.2)
noncomputable def dput (es:List (PV×PV)) (k v:PV):List (PV×PV):=if es.any λe=>gX e.1 k then es.map λe=>if gX e.1 k then(e.1,v) else e else es++[(k,v)]
noncomputable def r0 (es:List (PV×PV)) (k:PV):List (PV×PV):=es.filter λe=> !gX e.1 k
noncomputable def idxOf (i:Int) (n:Nat):Option Nat:=if 0<=i then(if i<n then aa i.toNat else ae) else(if 0<=i+n then aa (i+n).toNat else ae)
noncomputable def mw (i:Int) (n:Nat):Nat:=if 0<=i then min i.toNat n else(i+n).toNat
noncomputable def sliceOf {α:Type} (l:List α) (lo hi:Option Int):List α:=
 let a:=(lo.map λi=>mw i l.length).getD 0;let b:=(hi.map λi=>mw i l.length).getD l.length
 (l.take b).drop a
noncomputable def jB (a b s:Int):List PV:=if 0<s then(ar ((b-a+s-1)/s).toNat).map λ(k:Nat)=>PV.int (a+(k:Int)*s) else []
def mx(h:PH):Nat->PV->PV->Prop
 |0,_,_=>False
 |n+1,x,y=>match x with| .int a=>bN y λb=>a=b| .ref a=>kx y λb=>gW h a λxs=>gW h b λys=>xs.length=ys.length/\ ∀ (i:Nat) x y,xs[i]?=aa x->ys[i]?=aa y->mx h n x y|_=>False
def MP(h:PH)(x y:PV)(K:Bool->Prop):Prop:=match x with| .int a=>bN y λb=>K (decide (a=b))| .ref a=>(mx h 9 (.ref a) y/\K ag)\/kx y λb=>gW h a λxs=>gW h b λys=>xs.length≠ys.length/\K ak|_=>False
def MQ(h:PH)(x y:PV)(K:Bool->Prop):Prop:=match x with| .int a=>bN y λb=>K (decide (a≠b))| .ref a=>mx h 9 (.ref a) y/\K ak|_=>False
def EZ(x:PV)(l:List PV)(K:Bool->Prop):Prop:=bN x λa=> ∃ is,intsOf l=aa is/\K (is.contains a)
def qt(h:PH)(x y:PV)(K:Bool->Prop):Prop:=kx y λb=>lk h b λo=>match o with| .dict es=>keysOk x es=ag/\K (es.any λe=>gX e.1 x)| .set es=>EZ x es K| .list l=>EZ x l K|_=>False
noncomputable def isNone (x:PV):Bool:=match x with| .none=>ag|_=>ak
def jC(op:fZ)(x y:PV)(h:PH)(K:Bool->Prop):Prop:=match op with| .Eq=>MP h x y K| .NotEq=>MQ h x y K| .Lt=>bN x λa=>bN y λb=>K (decide (a<b))| .LtE=>bN x λa=>bN y λb=>K (decide (a<=b))| .Gt=>bN x λa=>bN y λb=>K (decide (b<a))| .GtE=>bN x λa=>bN y λb=>K (decide (b<=a))| .Is=>guard (isNone y) (K (isNone x))| .IsNot=>guard (isNone y) (K (!isNone x))| .In=>qt h x y K| .NotIn=>qt h x y λb=>K (!b)
noncomputable def eC (n:Int):Bool:=decide (0<=n)&&decide (n<=1000000)
noncomputable def bT (a:Int):Bool:=decide (a.natAbs<18446744073709551616)
def MR(x y:PV)(h:PH)(K:PV->PH->Prop):Prop:=match x with| .int a=>bN y λb=>K (.int (a+b)) h| .bytes a=>AG y λb=>o8 (a++b) h K| .ref a=>kx y λb=>gW h a λxs=>gW h b λys=>fP (xs++ys) h K|_=>False
def mulC(x y:PV)(h:PH)(K:PV->PH->Prop):Prop:=bN y λb=>match x with| .int a=>(bT a||bT b)=ag/\K (.int (a*b)) h| .ref a=>gW h a λl=> ∃ z,l=[z]/\ -1000000<=b/\fP (cX b.toNat z) h K|_=>False
def jb(op:tT)(x y:PV)(h:PH)(K:PV->PH->Prop):Prop:=match op with| .Add=>MR x y h K| .Sub=>bN x λa=>bN y λb=>K (.int (a-b)) h| .Mult=>mulC x y h K| .FloorDiv=>bN x λa=>bN y λb=>(b != 0&&bT b)=ag/\K (.int (a.fdiv b)) h| .Mod=>bN x λa=>bN y λb=>(b != 0&&bT b)=ag/\K (.int (a.fmod b)) h| .Pow=>bN x λa=>bN y λb=>(eC b&&bT a)=ag/\K (.int (a^b.toNat)) h| .LShift=>bN x λa=>bN y λb=>(eC b&&bT a)=ag/\K (.int (a*2^b.toNat)) h| .RShift=>bN x λa=>bN y λb=>eC b=ag/\K (.int (a.fdiv (2^b.toNat))) h| .BitOr=>bN x λa=>bN y λb=>K (.int (Aq a b)) h| .BitAnd=>bN x λa=>bN y λb=>K (.int (rP a b)) h|_=>False
def E0(l:List PV)(i:PV)(K:PV->Prop):Prop:=bN i λk=> ∃ j,idxOf k l.length=aa j/\ ∃ v,l[j]?=aa v/\K v
def xl(es:List (PV×PV))(i:PV)(K:PV->Prop):Prop:=keysOk i es=ag/\ ∃ v,dU es i=aa v/\K v
def mz(x i:PV)(h:PH)(K:PV->PH->Prop):Prop:=match x with
 | .tup l=>E0 l i λv=>K v h
 | .j0 l=>bN i λk=>0<=k/\ ∃ v,l[k.toNat]?=aa v/\K (.int v) h
 | .bytes l=>bN i λk=>0<=k/\ ∃ v,l[k.toNat]?=aa v/\K (.int v.toNat) h
 | .ref a=>lk h a λo=>match o with| .list l=>E0 l i λv=>K v h| .dict es=>xl es i λv=>K v h| .dy es=>xl es i λv=>K v h|_=>False
 |_=>False
def AH(x:PV)(lo hi:Option Int)(h:PH)(K:PV->PH->Prop):Prop:=match x with| .bytes l=>o8 (sliceOf l lo hi) h K| .ref a=>gW h a λl=>fP (sliceOf l lo hi) h K|_=>False
def uu(x i v:PV)(h:PH)(K:Unit->PH->Prop):Prop:=kx x λa=>lk h a λo=>match o with| .list l=>bN i λk=>0<=k/\k<l.length/\K () (h.set a (.list (l.set k.toNat v)))| .dict es=>keysOk i es=ag/\es.length<1000000/\K () (h.set a (.dict (dput es i v)))|_=>False
noncomputable def xm (cl:List (Nat×Nat)) (c a:Nat) (fs:List (Nat×PV)):Option PV:=if cl.contains (c,a) then ae else fs.lookup a
def E1(cl:List (Nat×Nat))(x:PV)(a:Nat)(h:PH)(K:PV->PH->Prop):Prop:=kx x λk=>lk h k (oI λc fs=> ∃ v,xm cl c a fs=aa v/\K v h)
noncomputable def ky:List (Nat×PV)->Nat->PV->List (Nat×PV)
 |[],a,v=>[(a,v)]
 |(b,w)::r,a,v=>bif b==a then(a,v)::r else(b,w)::ky r a v
def E3(cl:List (Nat×Nat))(x:PV)(a:Nat)(v:PV)(h:PH)(K:Unit->PH->Prop):Prop:=kx x λk=>lk h k (oI λc fs=>cl.contains (c,a)=ak/\K () (h.set k (.inst c (ky fs a v))))
noncomputable def nM:PV->PV->Bool
 | .int a,.int b=>decide (a<=b)
 | .tup [.int a,.int b],.tup [.int c,.int d]=>decide (a<c)||(a==c&&decide (b<=d))
 |_,_=>ak
noncomputable def nP (x:PV):List PV->List PV:=oJ [x] λy r ih=>if nM x y then x::y::r else y::ih
noncomputable def lA:List PV->List PV:=oJ [] λx zy ih=>nP x ih
noncomputable def sortable (l:List PV):Bool:=decide (l.length<64)&&(l.all (λx=>keyKind x==1)||l.all (λx=>keyKind x==3))
noncomputable def qu (i:Int):Bool:=decide (0<=i)&&decide (i<256)
noncomputable def r4 (l:List Int):Option (List UInt8):=if l.all qu then aa (l.map λi=>bY i.toNat) else ae
noncomputable def d7 (a b s:Int):Bool:=decide (0<s)&&decide (s<=1000)&&decide (a.natAbs<=1000000)&&decide (b.natAbs<=1000000)
inductive qw where
 |len|range|sorted|sum|list|tuple|bytes|bytearray|int|abs|max|min|set
def xn(l:List PV)(K:List Int->Prop):Prop:= ∃ is,intsOf l=aa is/\K is
def qx(a b s:Int)(h:PH)(K:PV->PH->Prop):Prop:=guard (d7 a b s) (K (.dw a b s) h)
def mkSort(l:List PV)(h:PH)(K:PV->PH->Prop):Prop:=sortable l=ag/\fP (lA l) h K
def mkBytes(l:List PV)(h:PH)(K:PV->PH->Prop):Prop:=xn l λis=> ∃ bs,r4 is=aa bs/\o8 bs h K
def AI(l:List PV)(K:Int->List Int->Prop):Prop:= ∃ x xs,intsOf l=aa (x::xs)/\K x xs
def MS(x:PV)(h:PH)(K:PV->PH->Prop):Prop:=match x with| .tup l=>K (.int l.length) h| .bytes l=>K (.int l.length) h| .j0 l=>K (.int l.length) h| .ref a=>gW h a λl=>K (.int l.length) h|_=>False
def MT(xs:List PV)(h:PH)(K:PV->PH->Prop):Prop:=match xs with|[x]=>bN x λn=>qx 0 n 1 h K|[x,y]=>bN x λa=>bN y λb=>qx a b 1 h K|[x,y,z]=>bN x λa=>bN y λb=>bN z λs=>qx a b s h K|_=>False
def MU(x:PV)(h:PH)(K:PV->PH->Prop):Prop:=kx x λa=>lk h a λo=>match o with| .list l=>mkSort l h K| .dict es=>mkSort (es.map (·.1)) h K|_=>False
def MV(x:PV)(h:PH)(K:PV->PH->Prop):Prop:=match x with| .dw a b s=>fP (jB a b s) h K| .bytes l=>fP (l.map λb=> .int b.toNat) h K| .ref a=>gW h a λl=>fP l h K|_=>False
def MW(x:PV)(h:PH)(K:PV->PH->Prop):Prop:=match x with| .tup l=>K (.tup l) h| .ref a=>gW h a λl=>qs l h K|_=>False
def MX(x:PV)(h:PH)(K:PV->PH->Prop):Prop:=match x with
 | .tup l=>mkBytes l h K
 | .ref a=>lk h a λo=>match o with| .list l=>mkBytes l h K| .cb bs=>o8 bs h K|_=>False
 |_=>False
def MY(x:PV)(h:PH)(K:PV->PH->Prop):Prop:=match x with| .int a=>K (.int a) h| .bool b=>K (.int (if b then 1 else 0)) h|_=>False
def er(ba:Bool)(b:qw)(xs:List PV)(h:PH)(K:PV->PH->Prop):Prop:=match b with| .len=>one xs λx=>MS x h K| .range=>MT xs h K| .sorted=>one xs λx=>MU x h K| .sum=>one xs λx=>qr x λl=>xn l λis=>K (.int is.sum) h| .list=>one xs λx=>MV x h K| .tuple=>one xs λx=>MW x h K| .bytes=>one xs λx=>MX x h K| .bytearray=>guard xs.isEmpty (guard ba (uq (.cb []) h K))| .int=>one xs λx=>MY x h K| .abs=>one xs λx=>bN x λa=>K (.int a.natAbs) h| .max=>one xs λx=>kx x λa=>gW h a λl=>AI l λx xs=>K (.int (xs.foldl max x)) h| .min=>one xs λx=>qr x λl=>AI l λx xs=>K (.int (xs.foldl min x)) h| .set=>guard xs.isEmpty (uq (.set []) h K)
noncomputable def fm:List Str:=(["message","samples","kind","middle","tops","rows","slots","predictor","sink","ident","across","down","quant",
 "precision","height","width","components","n","idents","dc_slots","ac_slots","start","end","high","low","counts","symbols","codes",
 "full","rest","size","tables","writer","code","payload","data","places"]:List String).map jw
noncomputable def gY:List Str:=(["append","pop","extend","get","setdefault","add","bit_length","told","put","padded","at","symbol","bits","finish","start","code","most_across","most_down","mcus_across","mcus_down","plane_size","blocks","is_alone","pad","octets"]:List String).map jw
noncomputable def xo (l:List Str) (s:Str):Option Nat:=l.findIdx? (·==s)
def AJ(m k:Nat)(xs:List PV)(h:PH)(K:PV->PH->Prop):Prop:=gW h k λl=>one xs λx=>match m with|0=>l.length<1000000/\K .none (h.set k (.list (l++[x])))|1=>x= .int 0/\ ∃ y r,l=y::r/\K y (h.set k (.list r))|2=>kx x λj=>gW h j λl'=>j≠k/\l.length+l'.length<1000000/\K .none (h.set k (.list (l++l')))|_=>False
def uv(m k:Nat)(xs:List PV)(h:PH)(K:PV->PH->Prop):Prop:=lk h k (oD λes=>match m with
 |1=>one xs λx=>bN x λi=>xl es (.int i) λv=>K v (h.set k (.dict (r0 es (.int i))))
 |3=>xk xs (λx=>bN x λi=>keysOk (.int i) es=ag/\K ((dU es (.int i)).getD .none) h) λx d=>bN x λi=>keysOk (.int i) es=ag/\K ((dU es (.int i)).getD d) h
 |4=>two xs λx d=> ∃ i j,x= .tup [.int i,.int j]/\keysOk x es=ag/\es.length<1000000/\ ((∃ v,dU es x=aa v/\K v h)\/dU es x=ae/\K d (h.set k (.dict (dput es x d))))
 |_=>False)
def setM(m k:Nat)(xs:List PV)(h:PH)(K:PV->PH->Prop):Prop:=lk h k (oS λes=>match m with
 |5=>one xs λx=>bN x λi=>xn es λis=>es.length<1000/\K .none (if is.contains i then h else h.set k (.set (es++[.int i])))
 |_=>False)
def E4(m k:Nat)(xs:List PV)(h:PH)(K:PV->PH->Prop):Prop:=lk h k (oB λbs=>one xs λx=>match m with
 |0=>bN x λi=>qu i=ag/\bs.length<1000000/\K .none (h.set k (.cb (bs++[bY i.toNat])))
 |2=>AG x λb=>bs.length+b.length<1000000/\K .none (h.set k (.cb (bs++b)))
 |_=>False)
noncomputable def xp (a:Int):Int:=if a=0 then 0 else(a.natAbs.log2+1:Nat)
section
variable{α β:Type}
noncomputable def eV:List (Option PV)->Nat->Option PV
 |[],_=>ae
 |a::_,0=>a
 |_::l,i+1=>eV l i
noncomputable def gk:List (Option PV)->Nat->PV->List (Option PV)
 |[],_,_=>[]
 |_::l,0,v=>aa v::l
 |a::l,i+1,v=>a::gk l i v
def E5(v:Option PV)(K:PV->aj->Prop)(s:aj):Prop:=match v with|some v=>K v s|none=>False
def kH(K:α->aj->Prop)(l:List (Option PV))(a:α)(h:PH):Prop:=K a ⟨h,l⟩
def ai(a:α)(_:ax)(s:aj)(K:α->aj->Prop):Prop:=K a s
def dp:RM α:=λzy zy zy=>False
def E6(f:HC α)(_:ax)(s:aj)(K:α->aj->Prop):Prop:=f s.heap (kH K s.loc)
def af(i:Nat)(_:ax)(s:aj)(K:PV->aj->Prop):Prop:=E5 (eV s.loc i) K s
def Vn(i:Nat)(v:PV)(_:ax)(s:aj)(K:Unit->aj->Prop):Prop:=K () ⟨s.heap,gk s.loc i v⟩
def MZ(op:tT)(x:PV)(K:PV->aj->Prop)(y:PV)(s:aj):Prop:=jb op x y s.heap (kH K s.loc)
def M0(op:tT)(b:RM PV)(O:ax)(K:PV->aj->Prop)(x:PV)(s:aj):Prop:=b O s (MZ op x K)
def ay(op:tT)(a b:RM PV)(O:ax)(s:aj)(K:PV->aj->Prop):Prop:=a O s (M0 op b O K)
def M1(x:PV)(K:PV->aj->Prop)(y:PV)(s:aj):Prop:=bN x λi=>bN y λj=>K (.int (i+j)) s
def E7(b:RM PV)(O:ax)(K:PV->aj->Prop)(x:PV)(s:aj):Prop:=b O s (M1 x K)
def AK(a b:RM PV)(O:ax)(s:aj)(K:PV->aj->Prop):Prop:=a O s (E7 b O K)
def M3(K:PV->aj->Prop)(x:PV)(s:aj):Prop:=bN x λi=>K (.int (-i)) s
def r5(a:RM PV)(O:ax)(s:aj)(K:PV->aj->Prop):Prop:=a O s (M3 K)
def AL(K:Bool->aj->Prop)(x:PV)(s:aj):Prop:=EY x λi=>K i s
def lB(a:RM PV)(O:ax)(s:aj)(K:Bool->aj->Prop):Prop:=a O s (AL K)
def iU(a b:RM α)(O:ax)(K:α->aj->Prop)(x:Bool)(s:aj):Prop:=match x with|true=>a O s K|false=>b O s K
def bq(c:RM Bool)(a b:RM α)(O:ax)(s:aj)(K:α->aj->Prop):Prop:=c O s (iU a b O K)
def qy(a b:RM PV):RM PV:=bq (lB a) b (ai (.bool ak))
def AM(a b:RM PV):RM PV:=bq (lB a) (ai (.bool ag)) b
def M4(K:Bool->aj->Prop)(x:Bool)(s:aj):Prop:=K (!x) s
def nQ(c:RM Bool)(O:ax)(s:aj)(K:Bool->aj->Prop):Prop:=c O s (M4 K)
def bP:List (RM Bool)->RM Bool
 |[]=>ai ag
 |c::r=>bq c (bP r) (ai ak)
def fQ:List (RM Bool)->RM Bool
 |[]=>ai ak
 |c::r=>bq c (ai ag) (fQ r)
def xq(op:fZ)(x:PV)(K:Bool->aj->Prop)(y:PV)(s:aj):Prop:=jC op x y s.heap λb=>K b s
def o9:PV->fZ->RM PV->List (fZ×RM PV)->RM Bool
 |x,op,b,[],O,s,K=>b O s (xq op x K)
 |x,op,b,(pb,b')::r,O,s,K=>b O s λy s=>xq op x (iU (o9 y pb b' r) (ai ak) O K) y s
def M5(op:fZ)(x:PV)(pb:fZ)(b':RM PV)(r:List (fZ×RM PV))(O:ax)(K:Bool->aj->Prop)(y:PV)(s:aj):Prop:=xq op x (iU (o9 y pb b' r) (ai ak) O K) y s
def E8(op:fZ)(b:RM PV)(r:List (fZ×RM PV))(O:ax)(K:Bool->aj->Prop)(x:PV)(s:aj):Prop:=o9 x op b r O s K
def aK(a:RM PV)(r:List (fZ×RM PV))(O:ax)(s:aj)(K:Bool->aj->Prop):Prop:=match r with|[]=>False|(op,b)::r=>a O s (E8 op b r O K)
def M6(K:PV->aj->Prop)(x:Bool)(s:aj):Prop:=K (.bool x) s
def fo(m:RM Bool)(O:ax)(s:aj)(K:PV->aj->Prop):Prop:=m O s (M6 K)
def E9(K:List PV->aj->Prop)(x:PV)(xs:List PV)(s:aj):Prop:=K (x::xs) s
def et:List (RM PV)->RM (List PV)
 |[],_,s,K=>K [] s
 |a::r,O,s,K=>a O s λx s=>et r O s (E9 K x)
def M7(r:List (RM PV))(O:ax)(K:List PV->aj->Prop)(x:PV)(s:aj):Prop:=et r O s (E9 K x)
def M8(K:PV->aj->Prop)(xs:List PV)(s:aj):Prop:=qs xs s.heap (kH K s.loc)
def cA(l:List (RM PV))(O:ax)(s:aj)(K:PV->aj->Prop):Prop:=et l O s (M8 K)
def M9(K:PV->aj->Prop)(xs:List PV)(s:aj):Prop:=fP xs s.heap (kH K s.loc)
def cJ(l:List (RM PV))(O:ax)(s:aj)(K:PV->aj->Prop):Prop:=et l O s (M9 K)
def pPairs:List (RM PV×RM PV)->List (PV×PV)->RM PV
 |[],es,_,s,K=>guard (es.all λe=>keyKind e.1==2) (K (.ref s.heap.length) ⟨s.heap++[.dict (es.foldl (λes e=>dput es e.1 e.2) [])],s.loc⟩)
 |(a,b)::r,es,O,s,K=>a O s λx s=>b O s λy s=>pPairs r (es++[(x,y)]) O s K
def j1(l:List (RM PV×RM PV))(O:ax)(s:aj)(K:PV->aj->Prop):Prop:=pPairs l [] O s K
def Na(cl:List (Nat×Nat))(a:Nat)(K:PV->aj->Prop)(x:PV)(s:aj):Prop:=E1 cl x a s.heap (kH K s.loc)
def aH(cl:List (Nat×Nat))(o:RM PV)(a:Nat)(O:ax)(s:aj)(K:PV->aj->Prop):Prop:=o O s (Na cl a K)
def Nb(x:PV)(K:PV->aj->Prop)(y:PV)(s:aj):Prop:=mz x y s.heap (kH K s.loc)
def Nc(i:RM PV)(O:ax)(K:PV->aj->Prop)(x:PV)(s:aj):Prop:=i O s (Nb x K)
def aO(o i:RM PV)(O:ax)(s:aj)(K:PV->aj->Prop):Prop:=o O s (Nc i O K)
def Fb(K:Option Int->aj->Prop)(x:PV)(s:aj):Prop:=bN x λi=>K (aa i) s
def pe(m:Option (RM PV))(O:ax)(s:aj)(K:Option Int->aj->Prop):Prop:=match m with|none=>K ae s|some m=>m O s (Fb K)
def Nd(x:PV)(a:Option Int)(K:PV->aj->Prop)(b:Option Int)(s:aj):Prop:=AH x a b s.heap (kH K s.loc)
def Nf(hi:Option (RM PV))(x:PV)(O:ax)(K:PV->aj->Prop)(a:Option Int)(s:aj):Prop:=pe hi O s (Nd x a K)
def Ng(lo hi:Option (RM PV))(O:ax)(K:PV->aj->Prop)(x:PV)(s:aj):Prop:=pe lo O s (Nf hi x O K)
def uw(o:RM PV)(lo hi:Option (RM PV))(O:ax)(s:aj)(K:PV->aj->Prop):Prop:=o O s (Ng lo hi O K)
def Nh(f:Nat)(O:ax)(K:PV->aj->Prop)(xs:List PV)(s:aj):Prop:=O.call f xs s.heap (kH K s.loc)
def aU(f:Nat)(args:List (RM PV))(O:ax)(s:aj)(K:PV->aj->Prop):Prop:=et args O s (Nh f O K)
def Ni(b:qw)(O:ax)(K:PV->aj->Prop)(xs:List PV)(s:aj):Prop:=er O.ba b xs s.heap (kH K s.loc)
def aN(b:qw)(args:List (RM PV))(O:ax)(s:aj)(K:PV->aj->Prop):Prop:=et args O s (Ni b O K)
noncomputable def nR (tab:List (Nat×Nat×Nat)) (c m:Nat):Option Nat:=(tab.find? λt=>t.1==c&&t.2.1==m).map (·.2.2)
def AN(f:Nat)(O:ax)(x:PV)(K:PV->aj->Prop)(xs:List PV)(s:aj):Prop:=O.call f (x::xs) s.heap (kH K s.loc)
def AO(m k:Nat)(K:PV->aj->Prop)(xs:List PV)(s:aj):Prop:=AJ m k xs s.heap (kH K s.loc)
def AP(m k:Nat)(K:PV->aj->Prop)(xs:List PV)(s:aj):Prop:=uv m k xs s.heap (kH K s.loc)
def AQ(m k:Nat)(K:PV->aj->Prop)(xs:List PV)(s:aj):Prop:=setM m k xs s.heap (kH K s.loc)
def AR(m k:Nat)(K:PV->aj->Prop)(xs:List PV)(s:aj):Prop:=E4 m k xs s.heap (kH K s.loc)
def Fc(a:Int)(K:PV->aj->Prop)(xs:List PV)(s:aj):Prop:=guard xs.isEmpty (K (.int (xp a)) s)
noncomputable def mL (m:Nat):Bool:=iY m 2
noncomputable def mD (m:Nat):Bool:=m==1||m==3||m==4
noncomputable def mS (m:Nat):Bool:=m==5
noncomputable def mA (m:Nat):Bool:=m==0||m==2
def Vo(tab:List (Nat×Nat×Nat))(m k:Nat)(args:List (RM PV))(O:ax)(K:PV->aj->Prop)(s:aj)(o:aB):Prop:=match o with| .inst c _=> ∃ f,nR tab c m=aa f/\et args O s (AN f O (.ref k) K)| .list _=>guard (mL m) (et args O s (AO m k K))| .dict _=>guard (mD m) (et args O s (AP m k K))| .set _=>guard (mS m) (et args O s (AQ m k K))| .cb _=>O.ba=ag/\guard (mA m) (et args O s (AR m k K))|_=>False
def qz(tab:List (Nat×Nat×Nat))(m:Nat)(args:List (RM PV))(O:ax)(K:PV->aj->Prop)(x:PV)(s:aj):Prop:=match x with| .int a=>guard (m==6) (et args O s (Fc a K))| .ref k=>lk s.heap k (Vo tab m k args O K s)|_=>False
def bx(tab:List (Nat×Nat×Nat))(o:RM PV)(m:Nat)(args:List (RM PV))(O:ax)(s:aj)(K:PV->aj->Prop):Prop:=o O s (qz tab m args O K)
inductive eW where
 |one (i:Nat)
 |many (is:List Nat)
def storeAll:List Nat->List PV->aj->(aj->Prop)->Prop
 |[],[],s,K=>K s
 |i::r,v::vs,s,K=>storeAll r vs ⟨s.heap,gk s.loc i v⟩ K
 |_,_,_,_=>False
def fR(t:eW)(v:PV)(s:aj)(K:aj->Prop):Prop:=match t with| .one i=>K ⟨s.heap,gk s.loc i v⟩| .many is=>qr v λl=>storeAll is l s K
inductive ik where
 |fixed (xs:List PV)
 |lst (k:Nat)
 |gen (k:Nat)
def Fd(v:PV)(h:PH)(K:ik->PH->Prop):Prop:=match v with
 | .dw a b s=>K (.fixed (jB a b s)) h
 | .tup l=>K (.fixed l) h
 | .bytes l=>K (.fixed (l.map λb=> .int b.toNat)) h
 | .ref k=>lk h k λo=>match o with| .list _=>K (.lst k) h| .dict es=>K (.fixed (es.map (·.1))) (h.set k (.dy es))| .dy es=>K (.fixed (es.map (·.1))) h| .gen _ _ _=>K (.gen k) h|_=>False
 |_=>False
def xr(s:ik)(i:Nat)(O:ax)(h:PH)(K:Option PV->PH->Prop):Prop:=match s with| .fixed xs=>K xs[i]? h| .lst k=>gW h k λl=>K l[i]? h| .gen k=>O.step k h K
def Fe(K:aY->aj->Prop)(N:aj->Prop)(f:aY)(s:aj):Prop:=match f with| .next=>N s| .cont=>N s| .brk=>K .next s| .ret v=>K (.ret v) s
def fE(b:RM α)(O:ax)(K:α->aj->Prop)(s:aj):Prop:=b O s K
def ux(t:eW)(b:RM α)(O:ax)(K:α->aj->Prop)(X:aj->Prop)(l:List (Option PV))(x:Option PV)(h:PH):Prop:=match x with|none=>X ⟨h,l⟩|some v=>fR t v ⟨h,l⟩ (fE b O K)
def qA(src:ik)(t:eW)(body:RM aY)(O:ax)(K:aY->aj->Prop):Nat->Nat->aj->Prop
 |0,_,_=>False
 |n+1,i,s=>xr src i O s.heap (ux t body O (Fe K (qA src t body O K n (i+1))) (K .next) s.loc)
def mC(t:eW)(body:RM aY)(O:ax)(K:aY->aj->Prop)(v:PV)(s:aj):Prop:=Fd v s.heap λsrc h=> ∃ n,qA src t body O K n 0 ⟨h,s.loc⟩
def cN(src:RM PV)(t:eW)(body:RM aY)(O:ax)(s:aj)(K:aY->aj->Prop):Prop:=src O s (mC t body O K)
def kz(b:RM α)(O:ax)(K:α->aj->Prop)(X:aj->Prop)(x:Bool)(s:aj):Prop:=match x with|true=>b O s K|false=>X s
def xt(c:RM Bool)(body:RM aY)(O:ax)(K:aY->aj->Prop):Nat->aj->Prop
 |0,_=>False
 |n+1,s=>c O s (kz body O (Fe K (xt c body O K n)) (K .next))
def qB(c:RM Bool)(body:RM aY)(O:ax)(s:aj)(K:aY->aj->Prop):Prop:= ∃ n,xt c body O K n s
def nU(src:ik)(t:eW)(ifs:RM Bool)(elt:RM PV)(O:ax)(K:List PV->aj->Prop):Nat->Nat->List PV->aj->Prop
 |0,_,_,_=>False
 |n+1,i,acc,s=>xr src i O s.heap (ux t ifs O (kz elt O (λv s=>nU src t ifs elt O K n (i+1) (acc++[v]) s) (nU src t ifs elt O K n (i+1) acc)) (K acc) s.loc)
noncomputable def iq (l:List (Option PV)) (caps:List (Option Nat)):List (Option PV):=caps.map λc=>c.bind (eV l)
noncomputable def noGen (s:ik):Bool:=match s with| .gen _=>ak|_=>ag
def xu(K:PV->aj->Prop)(l:List (Option PV))(vs:List PV)(s:aj):Prop:=fP vs s.heap (kH K l)
def mE(caps:List (Option Nat))(t:eW)(ifs:RM Bool)(elt:RM PV)(O:ax)(K:PV->aj->Prop)(v:PV)(s:aj):Prop:=Fd v s.heap λsrc h=>noGen src=ag/\ ∃ n,nU src t ifs elt O (xu K s.loc) n 0 [] ⟨h,iq s.loc caps⟩
def da(src:RM PV)(caps:List (Option Nat))(t:eW)(ifs:RM Bool)(elt:RM PV)(O:ax)(s:aj)(K:PV->aj->Prop):Prop:=src O s (mE caps t ifs elt O K)
def r6(b:RM aY)(O:ax)(K:aY->aj->Prop)(f:aY)(s:aj):Prop:=match f with| .next=>b O s K|f=>K f s
def ah(a b:RM aY)(O:ax)(s:aj)(K:aY->aj->Prop):Prop:=a O s (r6 b O K)
def ao(_:ax)(s:aj)(K:aY->aj->Prop):Prop:=K .next s
def Nj(K:aY->aj->Prop)(v:PV)(s:aj):Prop:=K (.ret v) s
def aZ(a:RM PV)(O:ax)(s:aj)(K:aY->aj->Prop):Prop:=a O s (Nj K)
def xv(i:Nat)(K:aY->aj->Prop)(v:PV)(s:aj):Prop:=K .next ⟨s.heap,gk s.loc i v⟩
def aT(i:Nat)(a:RM PV)(O:ax)(s:aj)(K:aY->aj->Prop):Prop:=a O s (xv i K)
def kU(K:aY->aj->Prop)(l:List (Option PV))(_:Unit)(h:PH):Prop:=K .next ⟨h,l⟩
def Nk(cl:List (Nat×Nat))(a:Nat)(x:PV)(K:aY->aj->Prop)(y:PV)(s:aj):Prop:=E3 cl y a x s.heap (kU K s.loc)
def Ff(cl:List (Nat×Nat))(o:RM PV)(a:Nat)(O:ax)(K:aY->aj->Prop)(x:PV)(s:aj):Prop:=o O s (Nk cl a x K)
def bK(cl:List (Nat×Nat))(o:RM PV)(a:Nat)(v:RM PV)(O:ax)(s:aj)(K:aY->aj->Prop):Prop:=v O s (Ff cl o a O K)
def Nl(x y:PV)(K:aY->aj->Prop)(z:PV)(s:aj):Prop:=uu y z x s.heap (kU K s.loc)
def Nm(i:RM PV)(x:PV)(O:ax)(K:aY->aj->Prop)(y:PV)(s:aj):Prop:=i O s (Nl x y K)
def AS(o i:RM PV)(O:ax)(K:aY->aj->Prop)(x:PV)(s:aj):Prop:=o O s (Nm i x O K)
def jD(o i v:RM PV)(O:ax)(s:aj)(K:aY->aj->Prop):Prop:=v O s (AS o i O K)
def Nn(K:aY->aj->Prop)(_:PV)(s:aj):Prop:=K .next s
def bZ(a:RM PV)(O:ax)(s:aj)(K:aY->aj->Prop):Prop:=a O s (Nn K)
inductive TT where
 |name (i:Nat)
 |sub (o i:RM PV)
def iu:List TT->List PV->RM aY
 |[],[],_,s,K=>K .next s
 | .name i::r,v::vs,O,s,K=>iu r vs O ⟨s.heap,gk s.loc i v⟩ K
 | .sub o i::r,v::vs,O,s,K=>jD o i (ai v) O s (r6 (iu r vs) O K)
 |_,_,_,_,_=>False
def uy(bk:Bool)(ts:List TT)(O:ax)(K:aY->aj->Prop)(s:aj)(l:List PV):Prop:=guard (l.length==ts.length) (bif bk then iu ts.reverse l.reverse O s K else iu ts l O s K)
def Np(bk:Bool)(ts:List TT)(O:ax)(K:aY->aj->Prop)(v:PV)(s:aj):Prop:=qr v (uy bk ts O K s)
def eD(bk:Bool)(ts:List TT)(a:RM PV)(O:ax)(s:aj)(K:aY->aj->Prop):Prop:=a O s (Np bk ts O K)
end
abbrev bg:=List (Str×jv)
set_option genInjectivity true in
set_option genSizeOfSpec false in
inductive j2 where
 |fn (params:List Str) (de:List PV) (names:bg) (body:List b9) (gen:Bool)
 |cls (c:Nat) (init:Nat)
set_option genSizeOfSpec false in
structure eK where
 glob:List (Str×Nat)
 Fg:List (Str×Int)
 meths:List (Nat×Nat×Nat)
 gJ:List (Nat×Nat)
 ents:List j2
noncomputable def xw:List (Str×qw):=[("len",.len),("range",.range),("sorted",.sorted),("sum",.sum),("list",.list),("tuple",.tuple),("bytes",.bytes),("bytearray",.bytearray),("int",.int),("abs",.abs),("max",.max),("min",.min),("set",.set)]
noncomputable def Fh (s:Str):Option qw:=xw.lookup s
noncomputable def Fi (k:jv):Bool:=k== .local||k== .cell||k== .free
noncomputable def nameAt (names:bg) (s:Str):Option Nat:=if(names.lookup s).any Fi then names.findIdx? (·.1==s) else ae
noncomputable def r7 (names:bg) (s:Str):Bool:=names.lookup s==aa .globalImplicit
noncomputable def mG (outer inner:bg):List (Option Nat):=inner.map λp=>if p.2== .free then nameAt outer p.1 else ae
noncomputable def gn (outer inner:bg):bg:=inner.map λp=>if p.2== .free&&outer.lookup p.1==aa .cell then(p.1,.cell) else p
noncomputable def sel {α:Type} {n k:Nat} (d:α) (f:n=k->α):α:=if h:n=k then f h else d
noncomputable def nameOf (e:Expr):Option (Str×Pos):=sel ae λh=>wX (motive_1:=λzy=>Option (Str×Pos)) e h λx p=>aa (x,p)
noncomputable def r8 (e:Expr):Option (List Expr):=sel ae λh=>Eu (motive_1:=λzy=>Option (List Expr)) e h λes zy zy=>aa es
noncomputable def xx (names:bg) (e:Expr):Option Nat:=(nameOf e).bind λp=>nameAt names p.1
noncomputable def gZ (names:bg) (e:Expr):Option eW:=match r8 e with|some es=>(es.mapM (xx names)).map .many|none=>(xx names e).map .one
section
variable{α β:Type}
def jE(o:Option α)(f:α->RM β):RM β:=match o with|some a=>f a|none=>dp
def gq(c:Bool)(m:RM α):RM α:=bif c then m else dp
end
noncomputable def noStar (e:Expr):Bool:=e.ctorIdx != 22
noncomputable def uz (e:Expr):Bool:=e.ctorIdx != 8&&e.ctorIdx != 9&&e.ctorIdx != 10
noncomputable def xy (e:Expr):Bool:=sel ag λh=>Expr.Call.elim (motive_1:=λzy=>Bool) e h λf as ks zy=> !((nameOf f).isSome&&(as.isEmpty&&ks.isEmpty))
noncomputable def Nq (names:bg) (x:Str) (p:Pos) (e:Expr):Bool:=sel ak λh=>Expr.ListComp.elim (motive_1:=λzy=>Bool) e h λzy zy sc vp=>(names.lookup x==aa .local&&p.line==vp.line)&& !(sc.names.any λ(n,k)=>n==x&&(k== .local||k== .cell))
noncomputable def AU (names:bg) (ts:List Expr) (v:Expr):Option Bool:=match r8 v with
 |some vs=>
  if !(ts.length==2||ts.length==3)||vs.length != ts.length then aa ak
  else if !vs.all noStar then aa ak
  else
   let ns:=ts.filterMap λt=>(nameOf t).bind λp=>if names.lookup p.1==aa .local&&p.2.line==(ts.head?.map (·.pos.line)).getD 0 then aa p.1 else ae
   if ns.length != ts.length||ns.eraseDups.length != ns.length then aa ak
   else if vs.all (Ef 8) then aa ak
   else if vs.all (Ec 8) then ae
   else aa ag
 |none=>aa ak
noncomputable def qC (e:Expr):Bool:=e.ctorIdx != 7
noncomputable def qD (e:Expr):Bool:=e.ctorIdx != 26
noncomputable def xA (t:Expr):List Str:=((r8 t).getD [t]).filterMap λe=>(nameOf e).map (·.1)
noncomputable def xB (outer:bg) (scope:ll) (t it:Expr):Bool:=
 scope.kind== .function&&qC it&&decide ((scope.names.map (·.1)).Nodup)&&(scope.names.all λp=>p.1 != ("__debug__" :Str)&&p.1 != ("__classdict__" :Str))&&
 (scope.names.all λp=>p.2 != .free||(nameAt outer p.1).isSome&&(outer.lookup p.1==aa .cell||outer.lookup p.1==aa .free))&&
 (xA t).all λx=>scope.names.lookup x==aa .local||scope.names.lookup x==aa .cell
noncomputable def xC (ops:List fZ) (rs:List Expr):Bool:= !ops.isEmpty&&ops.length==rs.length&& !lastMarks ops rs
structure mH where
 e:bg->Expr->RM PV
 t:bg->Expr->RM Bool
def Nr:Const->RM PV
 | .int i=>ai (.int i)
 | .bool b=>ai (.bool b)
 | .none=>ai .none
 | .str s=>ai (.str s)
 | .bytes b=>E6 (o8 b)
 |_=>dp
def Nt(c:mH)(nm:bg)(l:Expr)(ops:List fZ)(rs:List Expr):RM Bool:=gq (xC ops rs) (aK (c.e nm l) (ops.zip (rs.map (c.e nm))))
def Nu(c:mH)(nm:bg)(elt:Expr)(g:Eg)(scope:ll):RM PV:=match g with|⟨t,it,ifs,a⟩=>gq (a==0&&xB nm scope t it) (jE (gZ (gn nm scope.names) t) λtg=>da (c.e nm it) (mG nm scope.names) tg (bP (ifs.map (c.t (gn nm scope.names)))) (c.e (gn nm scope.names) elt))
def Nv(T:eK)(nm:bg)(x:Str)(ms:List (RM PV)):RM PV:=gq (r7 nm x) (match T.glob.lookup x with
 |some id=>aU id ms
 |none=>jE (Fh x) λb=>aN b ms)
def Nw(T:eK)(c:mH)(nm:bg)(pos:Pos)(ms:List (RM PV))(e:Expr):RM PV:=sel (sel dp λh=>UT (motive_1:=λzy=>RM PV) e h λo m apos=>gq (xy o&&apos.endLine==pos.line) (jE (xo gY m) λk=>bx T.meths (c.e nm o) k ms)) λh=>wX (motive_1:=λzy=>RM PV) e h λx zy=>Nv T nm x ms
def Ny(c:mH)(nm:bg)(v s:Expr):RM PV:=sel (aO (c.e nm v) (c.e nm s)) λh=>Expr.Slice.elim (motive_1:=λzy=>RM PV) s h λlo hi st zy=>gq st.isNone (uw (c.e nm v) (lo.map (c.e nm)) (hi.map (c.e nm)))
def Fj(T:eK)(nm:bg)(x:Str):RM PV:=match nameAt nm x with|some i=>af i|none=>gq (r7 nm x) (jE (T.Fg.lookup x) λi=>ai (.int i))
def Vp(c:mH)(nm:bg)(op:BoolOp)(vs:List Expr):RM PV:=match vs with
 |[a,b]=>match op with| .And=>qy (c.e nm a) (c.e nm b)| .Or=>AM (c.e nm a) (c.e nm b)
 |_=>dp
def Nz(T:eK)(c:mH)(nm:bg):Expr->RM PV
 | .Constant k _ _=>Nr k
 | .Name x _=>Fj T nm x
 | .BinOp l op r _=>ay op (c.e nm l) (c.e nm r)
 | .UnaryOp op x _=>match op with| .USub=>r5 (c.e nm x)|_=>dp
 | .BoolOp op vs _=>Vp c nm op vs
 | .IfExp t b o _=>bq (c.t nm t) (c.e nm b) (c.e nm o)
 | .Compare l ops rs _=>fo (Nt c nm l ops rs)
 | .Tuple es _ _=>gq (es.all noStar) (cA (es.map (c.e nm)))
 | .List es _=>gq (es.all noStar) (cJ (es.map (c.e nm)))
 | .Dict ks vs _=>jE (ks.mapM id) λg6=>gq (g6.length==vs.length&&decide (g6.length<=15)) (j1 ((g6.map (c.e nm)).zip (vs.map (c.e nm))))
 | .ListComp elt gens scope _=>match gens with|[g]=>Nu c nm elt g scope|_=>dp
 | .Attribute v a _=>gq (xy v) (jE (xo fm a) λk=>aH T.gJ (c.e nm v) k)
 | .Subscript v s _=>Ny c nm v s
 | .Call f args Vq pos=>match Vq with|[]=>gq (args.all noStar&&decide (args.length<30)) (Nw T c nm pos (args.map (c.e nm)) f)|_=>dp
 |_=>dp
def stepT(c:mH)(nm:bg):Expr->RM Bool
 | .UnaryOp op x _=>match op with| .Not=>nQ (c.t nm x)|_=>dp
 | .BoolOp op vs _=>match op with| .And=>bP (vs.map (c.t nm))| .Or=>fQ (vs.map (c.t nm))
 | .IfExp .. =>dp
 | .Compare l ops rs _=>Nt c nm l ops rs
 |e=>lB (c.e nm e)
noncomputable def cmp (T:eK):Nat->mH
 |0=>⟨λzy zy=>dp,λzy zy=>dp⟩
 |n+1=>⟨Nz T (cmp T n),stepT (cmp T n)⟩
noncomputable def qE:Nat:=100
abbrev cE(T:eK):bg->Expr->RM PV:=(cmp T qE).e
noncomputable def Fl (e:Expr):Option (Expr×Expr):=sel ae λh=>Et (motive_1:=λzy=>Option (Expr×Expr)) e h λo i zy=>bif qD i then aa (o,i) else ae
noncomputable def r9 (T:eK) (nm:bg) (e:Expr):Option TT:=match Fl e with|some (o,i)=>aa (.sub (cE T nm o) (cE T nm i))|none=>(xx nm e).map .name
def Fm(T:eK)(nm:bg)(v:Expr):Expr->RM aY
 | .Name x p=>gq (uz v||Nq nm x p v) (jE (nameAt nm x) λi=>aT i (cE T nm v))
 | .Attribute o a _=>jE (xo fm a) λk=>bK T.gJ (cE T nm o) k (cE T nm v)
 | .Subscript o i _=>gq (qD i) (jD (cE T nm o) (cE T nm i) (cE T nm v))
 | .Tuple es _ _=>jE (es.mapM (r9 T nm)) λtt=>jE (AU nm es v) λr=>eD r tt (cE T nm v)
 |_=>dp
def NA(T:eK)(nm:bg)(op:tT)(v t:Expr):RM aY:=gq (op== .Add) (jE (xx nm t) λi=>aT i (AK (af i) (cE T nm v)))
def blockOf(f:b9->RM aY):List b9->RM aY
 |[]=>ao
 |s::r=>ah (f s) (blockOf f r)
def NB(T:eK)(nm:bg)(c:b9->RM aY):b9->RM aY
 | .Expr v _=>gq (uz v) (bZ (cE T nm v))
 | .Assign ts v _=>match ts with|[t]=>Fm T nm v t|_=>dp
 | .AugAssign t op v _=>NA T nm op v t
 | .Return v _=>match v with|some e=>aZ (cE T nm e)|none=>ai (.ret .none)
 | .If t b o _=>bq ((cmp T qE).t nm t) (blockOf c b) (blockOf c o)
 | .While t b o _=>gq o.isEmpty (qB ((cmp T qE).t nm t) (blockOf c b))
 | .For t it b o _=>gq (o.isEmpty&&qC it) (jE (gZ nm t) λtg=>cN (cE T nm it) tg (blockOf c b))
 | .Continue _=>ai .cont
 | .Break _=>ai .brk
 | .Pass _=>ao
 |_=>dp
def cS(T:eK)(nm:bg):Nat->b9->RM aY
 |0,_=>dp
 |n+1,s=>NB T nm (cS T nm n) s
def cB(T:eK)(nm:bg)(l:List b9):RM aY:=blockOf (cS T nm qE) l
noncomputable def jF {α:Type} (ps:List Str) (vals dz:List α) (n:Str):Option α:=((ps.zip vals).lookup n).or (((ps.drop (ps.length-dz.length)).zip dz).lookup n)
noncomputable def sb (names:bg) (params:List Str) (de args:List PV):Option (List (Option PV)):=if args.length<=params.length/\params.length<=args.length+de.length/\de.length<=params.length then aa (names.map λp=>jF params args de p.1) else ae
def aW(K:PV->PH->Prop)(f:aY)(s:aj):Prop:=match f with| .ret v=>K v s.heap| .next=>K .none s.heap|_=>False
noncomputable def Fo (e:Expr):Option Expr:=sel ae λh=>Ew (motive_1:=λzy=>Option Expr) e h λo zy=>o
noncomputable def NC (s:b9):Option Expr:=sel ae λh=>EE (motive_2:=λzy=>Option Expr) s h λv zy=>Fo v
noncomputable def AV:List b9->Option Expr
 |[s]=>NC s
 |_=>ae
noncomputable def Fp (s:b9):Option (Expr×Expr×Expr):=sel ae λh=>EF (motive_2:=λzy=>Option (Expr×Expr×Expr)) s h λt it b o zy=>bif o.isEmpty then(AV b).map λe=>(t,it,e) else ae
noncomputable def nV:List b9->Option (List b9×Expr×Expr×Expr)
 |[]=>ae
 |s::r=>bif r.isEmpty then(Fp s).map λx=>([],x) else(nV r).map λx=>(s::x.1,x.2)
def AW(f k:Nat)(r:List PV)(K:Option PV->PH->Prop)(v:PV)(s:aj):Prop:=K (aa v) (s.heap.set k (.gen f s.loc (aa r)))
def nW(tg:eW)(e:RM PV)(O:ax)(f k:Nat)(loc:List (Option PV))(xs:List PV)(h:PH)(K:Option PV->PH->Prop):Prop:=match xs with|[]=>K ae (h.set k (.gen f [] ae))|x::r=>fR tg x ⟨h,loc⟩ (fE e O (AW f k r K))
def Fq(tg:eW)(e:RM PV)(O:ax)(f k:Nat)(K:Option PV->PH->Prop)(v:PV)(s:aj):Prop:=match v with| .dw a b st=>nW tg e O f k s.loc (jB a b st) s.heap K|_=>False
def xD(it:RM PV)(tg:eW)(e:RM PV)(O:ax)(f k:Nat)(K:Option PV->PH->Prop)(fl:aY)(s:aj):Prop:=match fl with| .next=>it O s (Fq tg e O f k K)|_=>False
def nX(T:eK)(O:ax)(f k:Nat)(loc:List (Option PV))(rest:Option (List PV))(h:PH)(K:Option PV->PH->Prop):Prop:=match T.ents[f]? with
 |some (.fn _ _ nm body ag)=>match nV body with
  |some (pre,t,it,e)=>match gZ nm t with
   |some tg=>match rest with|some xs=>nW tg (cE T nm e) O f k loc xs h K|none=>cB T nm pre O ⟨h,loc⟩ (xD (cE T nm it) tg (cE T nm e) O f k K)
   |none=>False
  |none=>False
 |_=>False
def oG(K:Nat->List (Option PV)->Option (List PV)->Prop)(o:aB):Prop:=match o with| .gen f l r=>K f l r|_=>False
def Fs(O:ax)(T:eK)(k:Nat)(h:PH)(K:Option PV->PH->Prop):Prop:=lk h k (oG λf loc rest=>loc≠[]/\nX T O f k loc rest (h.set k (.gen f [] ae)) K)
def xE(n:Nat)(K:PV->PH->Prop)(r:PV)(h:PH):Prop:=guard (isNone r) (K (.ref n) h)
def callC(T:eK)(O:ax)(id:Nat)(args:List PV)(h:PH)(K:PV->PH->Prop):Prop:=match T.ents[id]? with
 |some (.fn params de names body gen)=>match sb names params de args with|some loc=>bif gen then uq (.gen id loc ae) h K else cB T names body O ⟨h,loc⟩ (aW K)|none=>False
 |some (.cls c init)=>O.call init (.ref h.length::args) (h++[.inst c []]) (xE h.length K)
 |none=>False
noncomputable def xF (T:eK):Nat->Bool->ax
 |0,ba=>⟨λzy zy zy zy=>False,λzy zy zy=>False,ba⟩
 |n+1,ba=>⟨callC T (xF T n ba),Fs (xF T n ak) T,ba⟩
theorem ND: ∃ f:eK->Nat->Bool->ax,f=xF:=⟨_,rfl⟩
noncomputable def run:eK->Nat->Bool->ax:=Classical.choose ND
theorem Ft:run=xF:=Classical.choose_spec ND
theorem NF(T:eK)(n:Nat)(ba:Bool):run T (n+1) ba=⟨callC T (run T n ba),Fs (run T n ak) T,ba⟩:=by rw[Ft];rfl
noncomputable def Vr:Const->Option PV
 | .int i=>aa (.int i)
 | .bytes x=>aa (.bytes x)
 |_=>ae
noncomputable def Vs (d:Expr):Option PV:=sel (sel ae λh=>wX (motive_1:=λzy=>Option PV) d h λzy zy=>aa (.int 16)) λh=>Expr.Constant.elim (motive_1:=λzy=>Option PV) d h λc zy zy=>Vr c
noncomputable def Vt (s:b9):Option j2:=sel ae λh=>UU (motive_2:=λzy=>Option j2) s h λzy a b zy zy zy sc zy zy zy=>match a with|⟨[],fS,ae,[],[],ae,ds⟩=>(ds.mapM Vs).map λVu=> .fn (fS.map (λ(x:Arg)=>x.arg)) Vu sc.names b sc.isGenerator|_=>ae
noncomputable def Vv (s:b9):List b9:=sel [] λh=>Stmt.ClassDef.elim (motive_2:=λzy=>List b9) s h λzy zy zy b zy zy zy zy zy zy zy=>b
noncomputable def Vw:List Str:=(["LinePredictor","SampleGrid","LosslessWriter","Component","Frame","ScanHead","HuffTable","BitWriter","CodeSink","CountSink","Piece","Plane","Scan"]:List String).map jw
noncomputable def defNames:List Str:=(["category","bits_of","predicted","first_prediction","difference","filled_samples","check_interval","write_intervals","parts",
 "want","are_unlike","check_scan","write_scan","scan_to_head","code_rows","check_told","merged","packed","by_worth","best_sizes","table_of","best_table",
 "units_across","unit_count","unit_at","units","stuff","join_data","check_lossless_scan","line_predictor","counted","best_tables","written_scan",
 "put_kind","write_huffman","scan_pieces","kept_in",
 "_law_figure","_law_well","_law_plane","_law_codes","_law_intervals","_law_difference","_law_told","_law_read","law"]:List String).map jw
noncomputable def Vx:List Nat:=[9,10,14,15,16,21,23,24,26,35,36,37,38,40,44,45,50,51,52,53,54,55,57,58,59,60,72,73,76,77,78,79,80,85,86,88,91,95,96,97,98,99,100,101,102,103]
noncomputable def Vy:List (Nat×Nat):=[(17,0),(17,1),(17,2),(20,0),(20,1),(20,2),(22,0),(22,1),(22,2),(22,3),(27,0),(28,0),(28,1),(28,2),(28,3),(28,4),(28,5),(28,6),(28,7),(34,0),(46,0),(46,1),(62,0),(62,1),(62,2),(62,3),(64,0),(64,1),(64,2),(64,3),(65,0),(65,1),(65,2),(65,3),(70,0),(90,0),(90,1),(93,0),(93,1)]
noncomputable def body:List b9:=tZ.main.body
noncomputable def NG (s:Option b9):j2:=(s.bind Vt).getD (.fn [] [] [] [] ak)
noncomputable def Vz (i:Nat):j2:=NG body[i]?
noncomputable def VA (p:Nat×Nat):j2:=NG (body[p.1]?.bind λs=>(Vv s)[p.2]?)
noncomputable def sd (c:Nat):Nat:=([46,49,52,56,57,65,66,68,72,76,80,81,83]:List Nat).getD c 0
noncomputable def VB (c:Nat):j2:= .cls c (sd c)
noncomputable def ents:List j2:=Vx.map Vz++Vy.map VA++(ar 13).map VB
noncomputable def VC:List (Str×Nat):=defNames.zip (ar 46)++Vw.zip ((ar 13).map (·+85))
noncomputable def VD:List (Str×Int):=([("WORD",65536),("HALF",32768),("MOST_CATEGORY",16),("MOST_SLOT_head_segments",3),("MOST_IN_SCAN",4),("MOST_PLACE",63),("MOST_POINT",15),
 ("MOST_BITS_huffman",16),("MOST_SYMBOLS_huffman",256),("MOST_BITS_huffman_build",16),("NOBODY",-1),("DHT",196),("RST0",208),("SOS",218),("MOST_KIND",7),
 ("MOST_SLOT_table_segments",3),("CODE_SIZES",16),("MOST_SYMBOLS_table_segments",256)]:List (String×Int)).map λp=>(jw p.1,p.2)
noncomputable def br:List (Nat×Nat×Nat):=[(0,14,47),(0,7,48),(1,3,50),(1,8,51),(2,14,53),(2,15,54),(2,13,55),(4,16,58),(4,17,59),(4,18,60),(4,19,61),(4,20,62),(4,21,63),(4,9,64),(6,15,67),(7,8,69),(7,23,70),(7,24,71),(8,11,73),(8,12,74),(8,13,75),(9,11,77),(9,12,78),(9,13,79),(11,10,82),(12,22,84)]
noncomputable def aA:List (Nat×Nat):=[(0,21),(2,21),(2,33),(6,33)]
noncomputable def T:eK:=⟨VC,VD,br,aA,ents⟩
noncomputable def Fu:Nat:=45
def Fv(l:List Int):Prop:=(run T 40 ag).call Fu [.j0 l] [] λr zy=>r= .bool ag
theorem c0(O:ax)(x0:PV)(h:PH)(K:PV->PH->Prop):callC T O 0 [x0] h K=(ah (aZ (bx br (aN .abs [(af 0)]) 6 []))<|ao) O ⟨h,[aa x0,ae]⟩ (aW K):=by kernel_rfl
theorem c1(O:ax)(x0 x1:PV)(h:PH)(K:PV->PH->Prop):callC T O 1 [x0,x1] h K=(
 ah (bq (aK (af 0) [(.Lt,(ai (.int 0)))]) (
 ah (aZ (ay .Sub (ay .Add (af 0) (ay .Pow (ai (.int 2)) (af 1))) (ai (.int 1))))<|ao) (ao))<|
 ah (aZ (af 0))<|ao) O ⟨h,[aa x0,aa x1]⟩ (aW K):=by kernel_rfl
theorem c2(O:ax)(x0 x1 x2 x3:PV)(h:PH)(K:PV->PH->Prop):callC T O 2 [x0,x1,x2,x3] h K=(
 ah (bq (aK (af 0) [(.Eq,(ai (.int 1)))]) (
 ah (aZ (af 1))<|ao) (ao))<|
 ah (bq (aK (af 0) [(.Eq,(ai (.int 2)))]) (
 ah (aZ (af 2))<|ao) (ao))<|
 ah (bq (aK (af 0) [(.Eq,(ai (.int 3)))]) (
 ah (aZ (af 3))<|ao) (ao))<|
 ah (bq (aK (af 0) [(.Eq,(ai (.int 4)))]) (
 ah (aZ (ay .Sub (ay .Add (af 1) (af 2)) (af 3)))<|ao) (ao))<|
 ah (bq (aK (af 0) [(.Eq,(ai (.int 5)))]) (
 ah (aZ (ay .Add (af 1) (ay .RShift (ay .Sub (af 2) (af 3)) (ai (.int 1)))))<|ao) (ao))<|
 ah (bq (aK (af 0) [(.Eq,(ai (.int 6)))]) (
 ah (aZ (ay .Add (af 2) (ay .RShift (ay .Sub (af 1) (af 3)) (ai (.int 1)))))<|ao) (ao))<|
 ah (bq (aK (af 0) [(.Eq,(ai (.int 7)))]) (
 ah (aZ (ay .RShift (ay .Add (af 1) (af 2)) (ai (.int 1))))<|ao) (ao))<|
 ah (dp)<|ao) O ⟨h,[aa x0,aa x1,aa x2,aa x3,ae,ae]⟩ (aW K):=by kernel_rfl
theorem c3(O:ax)(x0 x1:PV)(h:PH)(K:PV->PH->Prop):callC T O 3 [x0,x1] h K=(ah (aZ (ay .LShift (ai (.int 1)) (ay .Sub (ay .Sub (af 0) (af 1)) (ai (.int 1)))))<|ao) O ⟨h,[aa x0,aa x1]⟩ (aW K):=by kernel_rfl
theorem c4(O:ax)(x0 x1:PV)(h:PH)(K:PV->PH->Prop):callC T O 4 [x0,x1] h K=(
 ah (aT 2 (ay .Mod (ay .Sub (af 0) (af 1)) (ai (.int 65536))))<|
 ah (aZ (bq (aK (af 2) [(.Gt,(ai (.int 32768)))]) (ay .Sub (af 2) (ai (.int 65536))) (af 2)))<|ao) O ⟨h,[aa x0,aa x1,ae,ae,ae]⟩ (aW K):=by kernel_rfl
theorem c5(O:ax)(x0 x1 x2:PV)(h:PH)(K:PV->PH->Prop):callC T O 5 [x0,x1,x2] h K=(
 ah (aT 3 (aN .range [(aN .len [(af 1)])]))<|
 ah (aT 5 (aU 86 [(da (af 3) [ae,ae,aa 0] (.one 1) (bP []) (bx br (af 2) 9 [(af 1)]))]))<|
 ah (cN (af 3) (.one 4) (
 ah (eD ak [.name 6,.name 7] (bx br (af 0) 9 [(af 4)]))<|
 ah (cN (aN .range [(af 7)]) (.one 8) (
  ah (cN (aN .range [(af 6)]) (.one 9) (
  ah (bZ (bx br (af 5) 8 [(af 4),(af 9),(af 8),(ay .RShift (bx br (aO (af 1) (af 4)) 10 [(af 9),(af 8)]) (af 2))]))<|ao))<|ao))<|ao))<|
 ah (aZ (af 5))<|ao) O ⟨h,[aa x0,aa x1,aa x2,ae,ae,ae,ae,ae,ae,ae,ae,ae,ae]⟩ (aW K):=by kernel_rfl
theorem c6(O:ax)(x0 x1:PV)(h:PH)(K:PV->PH->Prop):callC T O 6 [x0,x1] h K=(
 ah (bq (fQ [(aK (af 1) [(.Lt,(ai (.int 0)))]),(aK (ay .Mod (af 1) (af 0)) [(.NotEq,(ai (.int 0)))])]) (
 ah (dp)<|ao) (ao))<|ao) O ⟨h,[aa x0,aa x1,ae]⟩ (aW K):=by kernel_rfl
theorem c7(O:ax)(x0 x1 x2:PV)(h:PH)(K:PV->PH->Prop):callC T O 7 [x0,x1,x2] h K=(
 ah (aT 3 (cJ []))<|
 ah (aT 4 (ai (.int 0)))<|
 ah (bZ (bx br (af 2) 14 []))<|
 ah (cN (af 0) (.one 5) (
 ah (bq (bP [(aK (af 1) [(.Gt,(ai (.int 0)))]),(aK (af 4) [(.Eq,(af 1))])]) (
  ah (bZ (bx br (af 3) 0 [(bx br (af 2) 13 [])]))<|
  ah (bZ (bx br (af 2) 14 []))<|
  ah (aT 4 (ai (.int 0)))<|ao) (ao))<|
 ah (cN (af 5) (.many [6,7,8,9]) (ah (bZ (bx br (af 2) 15 [(af 6),(af 7),(af 8),(af 9)]))<|ao))<|
 ah (aT 4 (AK (af 4) (ai (.int 1))))<|ao))<|
 ah (bZ (bx br (af 3) 0 [(bx br (af 2) 13 [])]))<|
 ah (aZ (af 3))<|ao) O ⟨h,[aa x0,aa x1,aa x2,ae,ae,ae,ae,ae,ae,ae]⟩ (aW K):=by kernel_rfl
theorem c8(O:ax)(x0 x1:PV)(h:PH)(K:PV->PH->Prop):callC T O 8 [x0,x1] h K=(ah (aZ (ay .FloorDiv (ay .Sub (ay .Add (af 0) (af 1)) (ai (.int 1))) (af 1)))<|ao) O ⟨h,[aa x0,aa x1]⟩ (aW K):=by kernel_rfl
theorem c9(O:ax)(x0 x1:PV)(h:PH)(K:PV->PH->Prop):callC T O 9 [x0,x1] h K=(
 ah (bq (nQ (lB (af 0))) (
 ah (dp)<|ao) (ao))<|ao) O ⟨h,[aa x0,aa x1,ae]⟩ (aW K):=by kernel_rfl
theorem VE(O:ax)(x0:PV)(h:PH)(K:PV->PH->Prop):callC T O 10 [x0] h K=(
 ah (cN (aN .range [(aN .len [(af 0)])]) (.one 1) (
 ah (bq (aK (aO (af 0) (af 1)) [(.In,(uw (af 0) ae (aa (af 1))))]) (ah (aZ (ai (.bool ak)))<|ao) (ao))<|ao))<|
 ah (aZ (ai (.bool ag)))<|ao) O ⟨h,[aa x0,ae,ae,ae]⟩ (aW K):=by kernel_rfl
theorem VF(O:ax)(x0:PV)(h:PH)(K:PV->PH->Prop):callC T O 11 [x0] h K=(
 ah (aT 1 (aN .len [(aH aA (af 0) 18)]))<|
 ah (bZ (aU 9 [(fo (aK (ai (.int 1)) [(.LtE,(af 1)),(.LtE,(ai (.int 4)))])),(ai (.str "a scan has 1 to 4 components"))]))<|
 ah (bZ (aU 9 [(qy (fo (aK (aN .len [(aH aA (af 0) 19)]) [(.Eq,(af 1))])) (fo (aK (aN .len [(aH aA (af 0) 20)]) [(.Eq,(af 1))]))),(ai (.str "each component of a scan has two slots"))]))<|
 ah (bZ (aU 9 [(aU 10 [(aH aA (af 0) 18)]),(ai (.str "a component stands twice in a scan"))]))<|
 ah (cN (aH aA (af 0) 18) (.one 2) (
 ah (bZ (aU 9 [(fo (aK (ai (.int 0)) [(.LtE,(af 2)),(.LtE,(ai (.int 255)))])),(ai (.str "a component's name is a number of one octet"))]))<|ao))<|
 ah (cN (ay .Add (aN .list [(aH aA (af 0) 19)]) (aN .list [(aH aA (af 0) 20)])) (.one 3) (
 ah (bZ (aU 9 [(fo (aK (ai (.int 0)) [(.LtE,(af 3)),(.LtE,(ai (.int 3)))])),(ai (.str "a slot is from 0 to 3"))]))<|ao))<|
 ah (bZ (aU 9 [(qy (fo (aK (ai (.int 0)) [(.LtE,(aH aA (af 0) 21)),(.LtE,(ai (.int 63)))])) (fo (aK (ai (.int 0)) [(.LtE,(aH aA (af 0) 22)),(.LtE,(ai (.int 63)))]))),(ai (.str "a band is from 0 to 63"))]))<|
 ah (bZ (aU 9 [(qy (fo (aK (ai (.int 0)) [(.LtE,(aH aA (af 0) 23)),(.LtE,(ai (.int 15)))])) (fo (aK (ai (.int 0)) [(.LtE,(aH aA (af 0) 24)),(.LtE,(ai (.int 15)))]))),(ai (.str "a bit place is from 0 to 15"))]))<|ao) O ⟨h,[aa x0,ae,ae,ae,ae,ae,ae,ae,ae,ae,ae,ae]⟩ (aW K):=by kernel_rfl
theorem VG(O:ax)(x0:PV)(h:PH)(K:PV->PH->Prop):callC T O 12 [x0] h K=(
 ah (bZ (aU 11 [(af 0)]))<|
 ah (aT 1 (aN .bytes [(cJ [(aN .len [(aH aA (af 0) 18)])])]))<|
 ah (cN (aN .range [(aN .len [(aH aA (af 0) 18)])]) (.one 2) (
 ah (aT 1 (ay .Add (af 1) (aN .bytes [(cJ [(aO (aH aA (af 0) 18) (af 2)),(ay .Add (ay .Mult (aO (aH aA (af 0) 19) (af 2)) (ai (.int 16))) (aO (aH aA (af 0) 20) (af 2)))])])))<|ao))<|
 ah (aZ (ay .Add (af 1) (aN .bytes [(cJ [(aH aA (af 0) 21),(aH aA (af 0) 22),(ay .Add (ay .Mult (aH aA (af 0) 23) (ai (.int 16))) (aH aA (af 0) 24))])])))<|ao) O ⟨h,[aa x0,ae,ae,ae,ae,ae,ae]⟩ (aW K):=by kernel_rfl
theorem VH(O:ax)(x0 x1:PV)(h:PH)(K:PV->PH->Prop):callC T O 13 [x0,x1] h K=(
 ah (aT 2 (da (aH aA (af 0) 36) [ae,ae,aa 1] (.one 1) (bP []) (aH aA (aO (aH aA (af 2) 16) (af 1)) 9)))<|
 ah (aZ (aU 90 [(af 2),(aN .list [(aH aA (af 0) 19)]),(aN .list [(aH aA (af 0) 20)]),(aH aA (af 0) 21),(aH aA (af 0) 22),(aH aA (af 0) 23),(aH aA (af 0) 24)]))<|ao) O ⟨h,[aa x0,aa x1,ae,ae,ae]⟩ (aW K):=by kernel_rfl
theorem VI(O:ax)(x0:PV)(h:PH)(K:PV->PH->Prop):callC T O 14 [x0] h K=(
 ah (aT 1 (cJ []))<|
 ah (eD ak [.name 2,.name 3] (cA [(ai (.int 0)),(ai (.int 0))]))<|
 ah (cN (aN .range [(ai (.int 1)),(ay .Add (aN .len [(af 0)]) (ai (.int 1)))]) (.one 4) (
 ah (aT 5 (aO (af 0) (ay .Sub (af 4) (ai (.int 1)))))<|
 ah (bZ (bx br (af 1) 0 [(cA [(af 2),(af 5),(af 3)])]))<|
 ah (aT 2 (ay .Add (af 2) (af 5)))<|
 ah (aT 3 (ay .Add (af 3) (af 5)))<|
 ah (bq (bP [(aK (af 2) [(.GtE,(ay .Pow (ai (.int 2)) (af 4)))]),(aK (af 5) [(.Gt,(ai (.int 0)))])]) (ah (dp)<|ao) (ao))<|
 ah (aT 2 (ay .Mult (af 2) (ai (.int 2))))<|ao))<|
 ah (aZ (af 1))<|ao) O ⟨h,[aa x0,ae,ae,ae,ae,ae,ae,ae,ae]⟩ (aW K):=by kernel_rfl
theorem VJ(O:ax)(x0 x1:PV)(h:PH)(K:PV->PH->Prop):callC T O 15 [x0,x1] h K=(
 ah (bq (fQ [(aK (aN .len [(af 0)]) [(.NotEq,(ai (.int 16)))]),(aK (aN .min [(af 0)]) [(.Lt,(ai (.int 0)))])]) (
 ah (dp)<|ao) (ao))<|
 ah (bq (fQ [(aK (aN .sum [(af 0)]) [(.NotEq,(aN .len [(af 1)]))]),(aK (aN .len [(af 1)]) [(.Gt,(ai (.int 256)))])]) (
 ah (dp)<|ao) (ao))<|
 ah (aT 2 (aN .set []))<|
 ah (cN (af 1) (.one 3) (
 ah (bq (aK (af 3) [(.In,(af 2))]) (ah (dp)<|ao) (ao))<|
 ah (bZ (bx br (af 2) 5 [(af 3)]))<|ao))<|ao) O ⟨h,[aa x0,aa x1,ae,ae,ae,ae,ae,ae,ae,ae,ae]⟩ (aW K):=by kernel_rfl
theorem mI(O:ax)(x0 x1:PV)(h:PH)(K:PV->PH->Prop):callC T O 16 [x0,x1] h K=(
 ah (aT 2 (cJ []))<|
 ah (eD ak [.name 3,.name 4] (cA [(ai (.int 0)),(ai (.int 0))]))<|
 ah (qB (fQ [(aK (af 3) [(.Lt,(aN .len [(af 0)]))]),(aK (af 4) [(.Lt,(aN .len [(af 1)]))])]) (
 ah (bq (fQ [(aK (af 4) [(.Eq,(aN .len [(af 1)]))]),(bP [(aK (af 3) [(.Lt,(aN .len [(af 0)]))]),(aK (aO (aO (af 0) (af 3)) (ai (.int 0))) [(.LtE,(aO (aO (af 1) (af 4)) (ai (.int 0))))])])]) (
  ah (bZ (bx br (af 2) 0 [(aO (af 0) (af 3))]))<|
  ah (aT 3 (ay .Add (af 3) (ai (.int 1))))<|ao) (
  ah (bZ (bx br (af 2) 0 [(aO (af 1) (af 4))]))<|
  ah (aT 4 (ay .Add (af 4) (ai (.int 1))))<|ao))<|ao))<|
 ah (aZ (af 2))<|ao) O ⟨h,[aa x0,aa x1,ae,ae,ae,ae]⟩ (aW K):=by kernel_rfl
theorem VK(O:ax)(x0:PV)(h:PH)(K:PV->PH->Prop):callC T O 17 [x0] h K=(
 ah (aT 1 (cJ []))<|
 ah (cN (aN .range [(ai (.int 0)),(ay .Sub (aN .len [(af 0)]) (ai (.int 1))),(ai (.int 2))]) (.one 2) (
 ah (eD ag [.name 3,.name 4] (cA [(aO (af 0) (af 2)),(aO (af 0) (ay .Add (af 2) (ai (.int 1))))]))<|
 ah (bZ (bx br (af 1) 0 [(cA [(ay .Add (aO (af 3) (ai (.int 0))) (aO (af 4) (ai (.int 0)))),(ay .Add (aO (af 3) (ai (.int 1))) (aO (af 4) (ai (.int 1))))])]))<|ao))<|
 ah (aZ (af 1))<|ao) O ⟨h,[aa x0,ae,ae,ae,ae,ae,ae]⟩ (aW K):=by kernel_rfl
theorem VL(O:ax)(x0:PV)(h:PH)(K:PV->PH->Prop):callC T O 18 [x0] h K=(
 ah (aT 1 (aN .sorted [(da (af 0) [ae,ae,aa 0] (.one 1) (bP [(aK (aO (af 2) (af 1)) [(.Gt,(ai (.int 0)))])]) (cA [(aO (af 2) (af 1)),(r5 (af 1))]))]))<|
 ah (aZ (da (af 1) [ae,ae,ae] (.many [1,2]) (bP []) (cA [(af 1),(cJ [(r5 (af 2))])])))<|ao) O ⟨h,[aa x0,ae,ae]⟩ (aW K):=by kernel_rfl
theorem VM(O:ax)(x0 x1:PV)(h:PH)(K:PV->PH->Prop):callC T O 19 [x0,x1] h K=(
 ah (aT 2 (aU 18 [(af 0)]))<|
 ah (bq (aK (af 2) [(.Eq,(cJ []))]) (
 ah (aZ (j1 []))<|ao) (ao))<|
 ah (aT 2 (ay .Add (cJ [(cA [(ai (.int 0)),(cJ [(ai (.int (-1)))])])]) (af 2)))<|
 ah (bq (aK (aN .len [(af 2)]) [(.Gt,(ay .Pow (ai (.int 2)) (af 1)))]) (
 ah (dp)<|ao) (ao))<|
 ah (aT 3 (af 2))<|
 ah (cN (aN .range [(ay .Sub (af 1) (ai (.int 1)))]) (.one 4) (
 ah (aT 3 (aU 16 [(af 2),(aU 17 [(af 3)])]))<|ao))<|
 ah (aT 5 (j1 []))<|
 ah (cN (uw (af 3) ae (aa (ay .Sub (ay .Mult (ai (.int 2)) (aN .len [(af 2)])) (ai (.int 2))))) (.many [6,7]) (
 ah (cN (af 7) (.one 8) (ah (jD (af 5) (af 8) (ay .Add (bx br (af 5) 3 [(af 8),(ai (.int 0))]) (ai (.int 1))))<|ao))<|ao))<|
 ah (bZ (bx br (af 5) 1 [(ai (.int (-1)))]))<|
 ah (aZ (af 5))<|ao) O ⟨h,[aa x0,aa x1,ae,ae,ae,ae,ae,ae,ae,ae,ae,ae,ae,ae,ae,ae]⟩ (aW K):=by kernel_rfl
theorem VN(O:ax)(x0:PV)(h:PH)(K:PV->PH->Prop):callC T O 20 [x0] h K=(
 ah (aT 1 (ay .Mult (cJ [(ai (.int 0))]) (ai (.int 16))))<|
 ah (cN (af 0) (.one 2) (
 ah (jD (af 1) (ay .Sub (aO (af 0) (af 2)) (ai (.int 1))) (ay .Add (aO (af 1) (ay .Sub (aO (af 0) (af 2)) (ai (.int 1)))) (ai (.int 1))))<|ao))<|
 ah (aT 3 (aN .sorted [(da (af 0) [ae,ae,aa 0] (.one 1) (bP []) (cA [(aO (af 2) (af 1)),(af 1)]))]))<|
 ah (aZ (cA [(aN .tuple [(af 1)]),(aN .tuple [(da (af 3) [ae,ae,ae] (.many [1,2]) (bP []) (af 2))])]))<|ao) O ⟨h,[aa x0,ae,ae,ae,ae,ae,ae]⟩ (aW K):=by kernel_rfl
theorem VO(O:ax)(x0:PV)(h:PH)(K:PV->PH->Prop):callC T O 21 [x0] h K=(ah (aZ (aU 20 [(aU 19 [(af 0),(af 1)])]))<|ao) O ⟨h,[aa x0,aa (.int 16),ae,ae]⟩ (aW K):=by kernel_rfl
theorem VP(O:ax)(x0 x1:PV)(h:PH)(K:PV->PH->Prop):callC T O 22 [x0,x1] h K=(
 ah (bq (lB (bx br (af 1) 22 [])) (
 ah (aZ (aO (bx br (af 0) 21 [(aO (aH aA (af 1) 36) (ai (.int 0)))]) (ai (.int 0))))<|ao) (ao))<|
 ah (aZ (bx br (af 0) 18 []))<|ao) O ⟨h,[aa x0,aa x1]⟩ (aW K):=by kernel_rfl
theorem VQ(O:ax)(x0 x1:PV)(h:PH)(K:PV->PH->Prop):callC T O 23 [x0,x1] h K=(
 ah (bq (lB (bx br (af 1) 22 [])) (
 ah (eD ak [.name 2,.name 3] (bx br (af 0) 21 [(aO (aH aA (af 1) 36) (ai (.int 0)))]))<|
 ah (aZ (ay .Mult (af 2) (af 3)))<|ao) (ao))<|
 ah (aZ (ay .Mult (bx br (af 0) 18 []) (bx br (af 0) 19 [])))<|ao) O ⟨h,[aa x0,aa x1,ae,ae]⟩ (aW K):=by kernel_rfl
theorem VS(O:ax)(x0 x1 x2 x3:PV)(h:PH)(K:PV->PH->Prop):callC T O 24 [x0,x1,x2,x3] h K=(
 ah (bq (lB (bx br (af 1) 22 [])) (
 ah (aZ (cJ [(cA [(ai (.int 0)),(aO (aH aA (af 1) 36) (ai (.int 0))),(af 2),(af 3)])]))<|ao) (ao))<|
 ah (aT 4 (cJ []))<|
 ah (cN (aN .range [(aN .len [(aH aA (af 1) 36)])]) (.one 5) (
 ah (aT 6 (aO (aH aA (af 0) 16) (aO (aH aA (af 1) 36) (af 5))))<|
 ah (cN (aN .range [(aH aA (af 6) 11)]) (.one 7) (
  ah (cN (aN .range [(aH aA (af 6) 10)]) (.one 8) (
  ah (aT 9 (cA [(ay .Add (ay .Mult (af 2) (aH aA (af 6) 10)) (af 8)),(ay .Add (ay .Mult (af 3) (aH aA (af 6) 11)) (af 7))]))<|
  ah (bZ (bx br (af 4) 0 [(cA [(af 5),(aO (aH aA (af 1) 36) (af 5)),(aO (af 9) (ai (.int 0))),(aO (af 9) (ai (.int 1)))])]))<|ao))<|ao))<|ao))<|
 ah (aZ (af 4))<|ao) O ⟨h,[aa x0,aa x1,aa x2,aa x3,ae,ae,ae,ae,ae,ae,ae,ae]⟩ (aW K):=by kernel_rfl
theorem VT(O:ax)(x0 x1:PV)(h:PH)(K:PV->PH->Prop):callC T O 25 [x0,x1] h K=K (.ref h.length) (h++[.gen 25 [aa x0,aa x1,ae,ae,ae,ae,ae,ae] ae]):=by kernel_rfl
abbrev AX:RM PV:=aU 24 [af 0,af 1,ay .Mod (af 3) (af 2),ay .FloorDiv (af 3) (af 2)]
theorem NH(O:ax)(k:Nat)(l:List (Option PV))(xs:List PV)(h:PH)(K:Option PV->PH->Prop):nX T O 25 k l (aa xs) h K=nW (.one 3) AX O 25 k l xs h K:=by kernel_rfl
theorem VU(O:ax)(k:Nat)(l:List (Option PV))(h:PH)(K:Option PV->PH->Prop):nX T O 25 k l ae h K=ah (aT 2 (aU 22 [af 0,af 1])) ao O ⟨h,l⟩ (xD (aN .range [aU 23 [af 0,af 1]]) (.one 3) AX O 25 k K):=by kernel_rfl
theorem VV(O:ax)(x0:PV)(h:PH)(K:PV->PH->Prop):callC T O 26 [x0] h K=(
 ah (aT 1 (aN .bytearray []))<|
 ah (cN (af 0) (.one 2) (
 ah (bZ (bx br (af 1) 0 [(af 2)]))<|
 ah (bq (aK (af 2) [(.Eq,(ai (.int 255)))]) (ah (bZ (bx br (af 1) 0 [(ai (.int 0))]))<|ao) (ao))<|ao))<|
 ah (aZ (aN .bytes [(af 1)]))<|ao) O ⟨h,[aa x0,ae,ae,ae,ae]⟩ (aW K):=by kernel_rfl
theorem VW(O:ax)(x0:PV)(h:PH)(K:PV->PH->Prop):callC T O 27 [x0] h K=(
 ah (aT 1 (aN .bytearray []))<|
 ah (cN (aN .range [(aN .len [(af 0)])]) (.one 2) (
 ah (bq (aK (af 2) [(.Gt,(ai (.int 0)))]) (
  ah (bZ (bx br (af 1) 0 [(ai (.int 255))]))<|
  ah (bZ (bx br (af 1) 0 [(ay .Add (ai (.int 208)) (ay .Mod (ay .Sub (af 2) (ai (.int 1))) (ai (.int 8))))]))<|ao) (ao))<|
 ah (bZ (bx br (af 1) 2 [(aU 26 [(aO (af 0) (af 2))])]))<|ao))<|
 ah (aZ (aN .bytes [(af 1)]))<|ao) O ⟨h,[aa x0,ae,ae,ae,ae,ae,ae,ae,ae]⟩ (aW K):=by kernel_rfl
theorem VX(O:ax)(x0 x1:PV)(h:PH)(K:PV->PH->Prop):callC T O 28 [x0,x1] h K=(
 ah (bq (fQ [(nQ (aK (ai (.int 1)) [(.LtE,(aH aA (af 1) 21)),(.LtE,(ai (.int 7)))])),(aK (aH aA (af 1) 22) [(.NotEq,(ai (.int 0)))]),(aK (aH aA (af 1) 23) [(.NotEq,(ai (.int 0)))])]) (
 ah (dp)<|ao) (ao))<|
 ah (bq (nQ (aK (ai (.int 0)) [(.LtE,(aH aA (af 1) 24)),(.Lt,(aH aA (af 0) 13))])) (
 ah (dp)<|ao) (ao))<|ao) O ⟨h,[aa x0,aa x1,ae,ae]⟩ (aW K):=by kernel_rfl
theorem VY(O:ax)(x0 x1 x2:PV)(h:PH)(K:PV->PH->Prop):callC T O 29 [x0,x1,x2] h K=(ah (aZ (aU 85 [(af 2),(aH aA (af 1) 21),(aU 3 [(aH aA (af 0) 13),(aH aA (af 1) 24)])]))<|ao) O ⟨h,[aa x0,aa x1,aa x2,ae,ae]⟩ (aW K):=by kernel_rfl
theorem VZ(O:ax)(x0 x1 x2 x3:PV)(h:PH)(K:PV->PH->Prop):callC T O 30 [x0,x1,x2,x3] h K=(
 ah (aT 4 (aU 94 []))<|
 ah (aT 5 (aU 87 [(aH aA (af 1) 19),(af 2),(aU 29 [(af 0),(af 1),(af 2)]),(af 4)]))<|
 ah (bZ (aU 7 [(aU 25 [(af 0),(af 1)]),(af 3),(af 5)]))<|
 ah (aZ (aH aA (af 4) 25))<|ao) O ⟨h,[aa x0,aa x1,aa x2,aa x3,ae,ae,ae,ae,ae,ae,ae]⟩ (aW K):=by kernel_rfl
theorem V0(O:ax)(x0:PV)(h:PH)(K:PV->PH->Prop):callC T O 31 [x0] h K=(
 ah (aT 1 (j1 []))<|
 ah (cN (aN .sorted [(af 0)]) (.one 2) (
 ah (eD ak [.name 3,.name 4] (aU 21 [(aO (af 0) (af 2))]))<|
 ah (jD (af 1) (af 2) (aU 91 [(af 3),(af 4)]))<|ao))<|
 ah (aZ (af 1))<|ao) O ⟨h,[aa x0,ae,ae,ae,ae,ae,ae,ae]⟩ (aW K):=by kernel_rfl
theorem V1(O:ax)(x0 x1 x2 x3 x4:PV)(h:PH)(K:PV->PH->Prop):callC T O 32 [x0,x1,x2,x3,x4] h K=(
 ah (bZ (aU 28 [(af 0),(af 1)]))<|
 ah (bZ (aU 6 [(aU 22 [(af 0),(af 1)]),(af 3)]))<|
 ah (aT 5 (aU 29 [(af 0),(af 1),(af 2)]))<|
 ah (aT 6 (aU 87 [(aH aA (af 1) 19),(af 2),(af 5),(aU 93 [(af 4)])]))<|
 ah (aZ (aU 27 [(aU 7 [(aU 25 [(af 0),(af 1)]),(af 3),(af 6)])]))<|ao) O ⟨h,[aa x0,aa x1,aa x2,aa x3,aa x4,ae,ae,ae,ae,ae,ae,ae,ae,ae,ae,ae]⟩ (aW K):=by kernel_rfl
theorem V3(O:ax)(x0 x1 x2 x3:PV)(h:PH)(K:PV->PH->Prop):callC T O 33 [x0,x1,x2,x3] h K=(
 ah (bq (fQ [(nQ (aK (ai (.int 0)) [(.LtE,(af 1)),(.LtE,(af 2))])),(nQ (aK (ai (.int 0)) [(.LtE,(af 3)),(.LtE,(ai (.int 3)))]))]) (
 ah (dp)<|ao) (ao))<|
 ah (bZ (bx br (af 0) 0 [(ay .Add (ay .Mult (af 1) (ai (.int 16))) (af 3))]))<|ao) O ⟨h,[aa x0,aa x1,aa x2,aa x3,ae,ae]⟩ (aW K):=by kernel_rfl
theorem V4(O:ax)(x0:PV)(h:PH)(K:PV->PH->Prop):callC T O 34 [x0] h K=(
 ah (aT 1 (aN .bytearray []))<|
 ah (cN (af 0) (.many [2,3,4,5]) (
 ah (bZ (aU 33 [(af 1),(af 2),(ai (.int 1)),(af 3)]))<|
 ah (bq (fQ [(aK (aN .len [(af 4)]) [(.NotEq,(ai (.int 16)))]),(aK (aN .sum [(af 4)]) [(.NotEq,(aN .len [(af 5)]))]),(aK (aN .len [(af 5)]) [(.Gt,(ai (.int 256)))])]) (ah (dp)<|ao) (ao))<|
 ah (cN (af 4) (.one 6) (
  ah (bq (nQ (aK (ai (.int 0)) [(.LtE,(af 6)),(.LtE,(ai (.int 255)))])) (
  ah (dp)<|ao) (ao))<|
  ah (bZ (bx br (af 1) 0 [(af 6)]))<|ao))<|
 ah (bZ (bx br (af 1) 2 [(aN .bytes [(af 5)])]))<|ao))<|
 ah (aZ (aN .bytes [(af 1)]))<|ao) O ⟨h,[aa x0,ae,ae,ae,ae,ae,ae,ae,ae,ae,ae,ae,ae,ae,ae]⟩ (aW K):=by kernel_rfl
theorem V5(O:ax)(x0 x1 x2 x3:PV)(h:PH)(K:PV->PH->Prop):callC T O 35 [x0,x1,x2,x3] h K=(
 ah (aT 4 (aU 31 [(aU 30 [(af 0),(af 1),(af 2),(af 3)])]))<|
 ah (aT 5 (da (aN .sorted [(af 4)]) [ae,ae,aa 4] (.one 1) (bP []) (cA [(aO (af 1) (ai (.int 0))),(aO (af 1) (ai (.int 1))),(aH aA (aO (af 2) (af 1)) 25),(aH aA (aO (af 2) (af 1)) 26)])))<|
 ah (aT 6 (aU 32 [(af 0),(af 1),(af 2),(af 3),(af 4)]))<|
 ah (aZ (cJ [(aU 95 [(ai (.int 196)),(aU 34 [(af 5)])]),(aU 95 [(ai (.int 218)),(aU 12 [(aU 13 [(af 1),(af 0)])]),(af 6)])]))<|ao) O ⟨h,[aa x0,aa x1,aa x2,aa x3,ae,ae,ae,ae,ae,ae,ae,ae,ae,ae,ae,ae,ae]⟩ (aW K):=by kernel_rfl
theorem V6(O:ax)(x0 x1:PV)(h:PH)(K:PV->PH->Prop):callC T O 36 [x0,x1] h K=(
 ah (bq (aK (af 0) [(.Lt,(ai (.int 0)))]) (
 ah (aZ (ai (.int 0)))<|ao) (ao))<|
 ah (aZ (bq (aK (af 0) [(.Lt,(af 1))]) (af 0) (ay .Sub (af 1) (ai (.int 1)))))<|ao) O ⟨h,[aa x0,aa x1]⟩ (aW K):=by kernel_rfl
theorem V7(O:ax)(x0 x1:PV)(h:PH)(K:PV->PH->Prop):callC T O 37 [x0,x1] h K=(
 ah (bq (aK (aO (af 0) (ai (.str "number"))) [(.Gt,(ai (.int 0)))]) (
 ah (aT 2 (ay .Mod (aN .int [(aO (af 0) (ai (.str "number")))]) (af 1)))<|
 ah (jD (af 0) (ai (.str "number")) (ay .FloorDiv (aO (af 0) (ai (.str "number"))) (af 1)))<|
 ah (aZ (af 2))<|ao) (ao))<|
 ah (jD (af 0) (ai (.str "stir")) (ay .Mod (ay .Add (ay .Mult (aN .int [(aO (af 0) (ai (.str "stir")))]) (ai (.int 69621))) (ai (.int 5))) (ai (.int 2147483647))))<|
 ah (aZ (ay .Mod (ay .FloorDiv (aO (af 0) (ai (.str "stir"))) (ai (.int 13))) (af 1)))<|ao) O ⟨h,[aa x0,aa x1,ae,ae]⟩ (aW K):=by kernel_rfl
theorem V8(O:ax)(x0:PV)(h:PH)(K:PV->PH->Prop):callC T O 38 [x0] h K=(
 ah (aT 1 (bq (aK (aN .len [(af 0)]) [(.Gt,(ai (.int 0)))]) (aO (af 0) (ai (.int 0))) (ai (.int 0))))<|
 ah (aT 2 (bq (aK (af 1) [(.GtE,(ai (.int 0)))]) (aN .int [(af 1)]) (ay .Sub (r5 (ai (.int 1))) (aN .int [(af 1)]))))<|
 ah (aZ (j1 [((ai (.str "number")),(bq (aK (af 2) [(.Gt,(ay .Pow (ai (.int 10)) (ai (.int 17))))]) (af 2) (ai (.int 0)))),((ai (.str "stir")),(ay .Add (ay .Mod (ay .Add (ay .Mult (ai (.int 2)) (af 2)) (aN .int [(fo (aK (af 1) [(.Lt,(ai (.int 0)))]))])) (ai (.int 2147483563))) (ai (.int 19))))]))<|ao) O ⟨h,[aa x0,ae,ae,ae,ae]⟩ (aW K):=by kernel_rfl
theorem V9(O:ax)(x0 x1 x2 x3:PV)(h:PH)(K:PV->PH->Prop):callC T O 39 [x0,x1,x2,x3] h K=(
 ah (aT 4 (cJ []))<|
 ah (cN (aN .range [(af 2)]) (.one 5) (
 ah (bZ (bx br (af 4) 0 [(da (aN .range [(af 1)]) [ae,ae,ae,aa 3,aa 0] (.one 1) (bP []) (aO (cJ [(ai (.int 0)),(af 3),(aU 37 [(af 4),(ay .Add (af 3) (ai (.int 1)))])]) (aU 37 [(af 4),(ai (.int 3))])))]))<|ao))<|
 ah (aZ (aU 96 [(af 1),(af 2),(af 4)]))<|ao) O ⟨h,[aa x0,aa x1,aa x2,aa x3,ae,ae,ae,ae]⟩ (aW K):=by kernel_rfl
theorem Wa(O:ax)(x0:PV)(h:PH)(K:PV->PH->Prop):callC T O 40 [x0] h K=(
 ah (eD ag [.name 1,.name 2] (cA [(j1 []),(ai (.int 0))]))<|
 ah (qB (aK (af 2) [(.Lt,(aN .len [(af 0)]))]) (
 ah (bq (fQ [(aK (aO (af 0) (af 2)) [(.Gt,(ai (.int 3)))]),(aK (ay .Add (af 2) (ai (.int 17))) [(.Gt,(aN .len [(af 0)]))])]) (ah (aZ (ai .none))<|ao) (ao))<|
 ah (eD ak [.name 3,.name 4,.name 5,.name 6] (cA [(uw (af 0) (aa (ay .Add (af 2) (ai (.int 1)))) (aa (ay .Add (af 2) (ai (.int 17))))),(ay .Add (af 2) (ai (.int 17))),(j1 []),(ai (.int 0))]))<|
 ah (cN (aN .range [(ai (.int 1)),(ai (.int 17))]) (.one 7) (
  ah (cN (aN .range [(aO (af 3) (ay .Sub (af 7) (ai (.int 1))))]) (.one 8) (
  ah (jD (af 5) (cA [(af 7),(af 6)]) (aO (af 0) (af 4)))<|
  ah (eD ag [.name 4,.name 6] (cA [(ay .Add (af 4) (ai (.int 1))),(ay .Add (af 6) (ai (.int 1)))]))<|ao))<|
  ah (aT 6 (ay .Mult (ai (.int 2)) (af 6)))<|ao))<|
 ah (eD ak [.sub (af 1) (aO (af 0) (af 2)),.name 2] (cA [(af 5),(af 4)]))<|ao))<|
 ah (aZ (af 1))<|ao) O ⟨h,[aa x0,ae,ae,ae,ae,ae,ae,ae,ae,ae,ae]⟩ (aW K):=by kernel_rfl
theorem Wb(O:ax)(x0:PV)(h:PH)(K:PV->PH->Prop):callC T O 41 [x0] h K=(
 ah (eD ag [.name 1,.name 2,.name 3] (cA [(cJ [(cJ [])]),(ai (.int 0)),(ai (.int 0))]))<|
 ah (qB (aK (af 2) [(.Lt,(aN .len [(af 0)]))]) (
 ah (aT 4 (aO (af 0) (af 2)))<|
 ah (bq (bP [(aK (af 4) [(.Eq,(ai (.int 255)))]),(aK (aO (af 0) (ay .Add (af 2) (ai (.int 1)))) [(.NotEq,(ai (.int 0)))])]) (
  ah (bq (aK (aO (af 0) (ay .Add (af 2) (ai (.int 1)))) [(.NotEq,(ay .Add (ai (.int 208)) (ay .Mod (af 3) (ai (.int 8)))))]) (
  ah (aZ (ai .none))<|ao) (ao))<|
  ah (eD ag [.name 3,.name 2] (cA [(ay .Add (af 3) (ai (.int 1))),(ay .Add (af 2) (ai (.int 2)))]))<|
  ah (bZ (bx br (af 1) 0 [(cJ [])]))<|
  ah (ai .cont)<|ao) (ao))<|
 ah (bZ (bx br (aO (af 1) (r5 (ai (.int 1)))) 2 [(da (aN .range [(ai (.int 8))]) [ae,ae,aa 4] (.one 1) (bP []) (ay .Mod (ay .FloorDiv (af 2) (ay .Pow (ai (.int 2)) (ay .Sub (ai (.int 7)) (af 1)))) (ai (.int 2))))]))<|
 ah (aT 2 (ay .Add (af 2) (bq (aK (af 4) [(.Eq,(ai (.int 255)))]) (ai (.int 2)) (ai (.int 1)))))<|ao))<|
 ah (aZ (af 1))<|ao) O ⟨h,[aa x0,ae,ae,ae,ae,ae,ae]⟩ (aW K):=by kernel_rfl
theorem Wc(O:ax)(x0 x1:PV)(h:PH)(K:PV->PH->Prop):callC T O 42 [x0,x1] h K=(
 ah (eD ak [.name 2,.name 3] (cA [(ai (.int 0)),(ai (.int 0))]))<|
 ah (qB (aK (cA [(af 3),(af 2)]) [(.NotIn,(af 1))]) (
 ah (eD ag [.name 2,.name 3] (cA [(ay .Add (ay .Mult (ai (.int 2)) (af 2)) (bx br (af 0) 1 [(ai (.int 0))])),(ay .Add (af 3) (ai (.int 1)))]))<|ao))<|
 ah (aT 4 (aO (af 1) (cA [(af 3),(af 2)])))<|
 ah (bq (aK (af 4) [(.Eq,(ai (.int 16)))]) (
 ah (aZ (ai (.int 32768)))<|ao) (ao))<|
 ah (aT 5 (ai (.int 0)))<|
 ah (cN (aN .range [(af 4)]) (.one 6) (
 ah (aT 5 (ay .Add (ay .Mult (ai (.int 2)) (af 5)) (bx br (af 0) 1 [(ai (.int 0))])))<|ao))<|
 ah (aZ (bq (fQ [(aK (af 4) [(.Eq,(ai (.int 0)))]),(aK (af 5) [(.GtE,(ay .Pow (ai (.int 2)) (ay .Sub (af 4) (ai (.int 1)))))])]) (af 5) (ay .Add (ay .Sub (af 5) (ay .Pow (ai (.int 2)) (af 4))) (ai (.int 1)))))<|ao) O ⟨h,[aa x0,aa x1,ae,ae,ae,ae,ae,ae]⟩ (aW K):=by kernel_rfl
theorem Wd(O:ax)(x0 x1 x2 x3 x4 x5:PV)(h:PH)(K:PV->PH->Prop):callC T O 43 [x0,x1,x2,x3,x4,x5] h K=(
 ah (bq (lB (af 4)) (
 ah (aZ (bq (aK (af 1) [(.Eq,(ai (.int 0)))]) (af 5) (aO (aO (af 0) (af 2)) (ay .Sub (af 1) (ai (.int 1))))))<|ao) (ao))<|
 ah (bq (aK (af 1) [(.Eq,(ai (.int 0)))]) (
 ah (aZ (aO (aO (af 0) (ay .Sub (af 2) (ai (.int 1)))) (ai (.int 0))))<|ao) (ao))<|
 ah (eD ag [.name 6,.name 7,.name 8] (cA [(aO (aO (af 0) (af 2)) (ay .Sub (af 1) (ai (.int 1)))),(aO (aO (af 0) (ay .Sub (af 2) (ai (.int 1)))) (af 1)),(aO (aO (af 0) (ay .Sub (af 2) (ai (.int 1)))) (ay .Sub (af 1) (ai (.int 1))))]))<|
 ah (bq (aK (af 3) [(.Lt,(ai (.int 4)))]) (
 ah (aZ (aO (cJ [(af 6),(af 7),(af 8)]) (ay .Sub (af 3) (ai (.int 1)))))<|ao) (ao))<|
 ah (bq (aK (af 3) [(.Eq,(ai (.int 4)))]) (
 ah (aZ (ay .Sub (ay .Add (af 6) (af 7)) (af 8)))<|ao) (ao))<|
 ah (bq (aK (af 3) [(.Eq,(ai (.int 5)))]) (
 ah (aZ (ay .Add (af 6) (ay .FloorDiv (ay .Sub (af 7) (af 8)) (ai (.int 2)))))<|ao) (ao))<|
 ah (aZ (bq (aK (af 3) [(.Eq,(ai (.int 6)))]) (ay .Add (af 7) (ay .FloorDiv (ay .Sub (af 6) (af 8)) (ai (.int 2)))) (ay .FloorDiv (ay .Add (af 6) (af 7)) (ai (.int 2)))))<|ao) O ⟨h,[aa x0,aa x1,aa x2,aa x3,aa x4,aa x5,ae,ae,ae]⟩ (aW K):=by kernel_rfl
theorem We(O:ax)(x0 x1 x2 x3 x4 x5:PV)(h:PH)(K:PV->PH->Prop):callC T O 44 [x0,x1,x2,x3,x4,x5] h K=(
 ah (eD ak [.name 6,.name 7,.name 8] (af 2))<|
 ah (aT 11 (da (aN .range [(af 6)]) [ae,ae,ae,aa 8] (.one 1) (bP []) (da (aN .range [(af 3)]) [ae,ae] (.one 1) (bP []) (cJ []))))<|
 ah (cN (aN .range [(af 8)]) (.one 10) (
 ah (aT 12 (aO (af 0) (bq (aK (af 5) [(.Gt,(ai (.int 0)))]) (af 10) (ai (.int 0)))))<|
 ah (aT 13 (AM (fo (aK (af 10) [(.Eq,(ai (.int 0)))])) (fo (aK (af 5) [(.Gt,(ai (.int 0)))]))))<|
 ah (cN (aN .range [(af 7)]) (.one 14) (
  ah (cN (aN .range [(af 6)]) (.one 9) (
  ah (aT 15 (aU 43 [(aO (af 11) (af 9)),(af 14),(af 10),(af 3),(af 13),(af 4)]))<|
  ah (bZ (bx br (aO (aO (af 11) (af 9)) (af 10)) 0 [(ay .Mod (ay .Add (af 15) (aU 42 [(af 12),(aO (af 1) (af 9))])) (ai (.int 65536)))]))<|ao))<|ao))<|ao))<|
 ah (aZ (af 11))<|ao) O ⟨h,[aa x0,aa x1,aa x2,aa x3,aa x4,aa x5,ae,ae,ae,ae,ae,ae,ae,ae,ae,ae,ae,ae,ae]⟩ (aW K):=by kernel_rfl
theorem Wf(O:ax)(x0:PV)(h:PH)(K:PV->PH->Prop):callC T O 45 [x0] h K=(
 ah (aT 1 (aU 38 [(af 0)]))<|
 ah (aT 2 (ay .Add (ai (.int 1)) (aU 37 [(af 1),(ai (.int 2))])))<|
 ah (eD ak [.name 3,.name 4] (aO (cJ [(cA [(ai (.int 2)),(ai (.int 2))]),(cA [(ai (.int 3)),(ai (.int 2))]),(cA [(ai (.int 1)),(ai (.int 1))]),(cA [(ai (.int 3)),(ai (.int 1))]),(cA [(ai (.int 1)),(ai (.int 3))]),(cA [(ai (.int 1)),(ai (.int 10))])]) (aU 37 [(af 1),(ai (.int 6))])))<|
 ah (eD ak [.name 5,.name 6,.name 7] (cA [(aO (cJ [(ai (.int 2)),(ai (.int 8)),(ai (.int 16))]) (aU 37 [(af 1),(ai (.int 3))])),(ay .Add (ai (.int 1)) (aU 37 [(af 1),(ai (.int 7))])),(aU 37 [(af 1),(ai (.int 2))])]))<|
 ah (aT 8 (ay .Mult (af 3) (aU 37 [(af 1),(ai (.int 2))])))<|
 ah (aT 10 (da (aN .range [(af 2)]) [ae,ae,ae,aa 4,aa 5,aa 1,aa 3] (.one 1) (bP []) (aU 39 [(af 5),(af 6),(af 3),(ay .Sub (ay .Pow (ai (.int 2)) (af 4)) (ai (.int 1)))])))<|
 ah (aT 11 (aU 89 [(ai (.str "lossless")),(af 5),(af 4),(af 3),(da (aN .range [(af 2)]) [ae,ae,ae] (.one 1) (bP []) (aU 88 [(ay .Add (af 1) (ai (.int 1))),(ai (.int 1)),(ai (.int 1)),(ai (.int 0))])),(ai (.int 1))]))<|
 ah (aT 12 (aU 97 [(aN .list [(aN .range [(af 2)])]),(aN .list [(aN .range [(af 2)])]),(ay .Mult (cJ [(ai (.int 0))]) (af 2)),(af 6),(ai (.int 0)),(ai (.int 0)),(af 7)]))<|
 ah (aT 13 (aU 35 [(af 11),(af 12),(aU 5 [(af 11),(af 10),(af 7)]),(af 8)]))<|
 ah (bq (aK (da (af 13) [ae,ae] (.one 1) (bP []) (aH aA (af 1) 33)) [(.NotEq,(cJ [(ai (.int 196)),(ai (.int 218))]))]) (
 ah (aZ (ai (.bool ak)))<|ao) (ao))<|
 ah (aT 14 (cJ [(af 2)]))<|
 ah (cN (aN .range [(af 2)]) (.one 9) (
 ah (aT 14 (ay .Add (af 14) (cJ [(ay .Add (af 9) (ai (.int 1))),(ay .Mult (ai (.int 16)) (af 9))])))<|ao))<|
 ah (bq (aK (aN .list [(aH aA (aO (af 13) (ai (.int 1))) 34)]) [(.NotEq,(ay .Add (af 14) (cJ [(af 6),(ai (.int 0)),(af 7)])))]) (
 ah (aZ (ai (.bool ak)))<|ao) (ao))<|
 ah (eD ag [.name 15,.name 16] (cA [(aU 40 [(aH aA (aO (af 13) (ai (.int 0))) 34)]),(aU 41 [(aH aA (aO (af 13) (ai (.int 1))) 35)])]))<|
 ah (bq (fQ [(aK (af 15) [(.Is,(ai .none))]),(aK (aN .sorted [(af 15)]) [(.NotEq,(aN .list [(aN .range [(af 2)])]))]),(aK (af 16) [(.Is,(ai .none))]),(aK (aN .len [(af 16)]) [(.NotEq,(bq (aK (af 8) [(.Gt,(ai (.int 0)))]) (af 4) (ai (.int 1))))])]) (
 ah (aZ (ai (.bool ak)))<|ao) (ao))<|
 ah (aT 17 (aU 44 [(af 16),(af 15),(cA [(af 2),(af 3),(af 4)]),(af 6),(ay .Pow (ai (.int 2)) (ay .Sub (ay .Sub (af 5) (af 7)) (ai (.int 1)))),(af 8)]))<|
 ah (aT 18 (da (af 10) [ae,ae,aa 7] (.one 1) (bP []) (da (aH aA (af 1) 5) [ae,ae,aa 2] (.one 1) (bP []) (da (af 1) [ae,ae,aa 2] (.one 1) (bP []) (ay .FloorDiv (af 1) (ay .Pow (ai (.int 2)) (af 2)))))))<|
 ah (aZ (qy (fo (aK (af 17) [(.Eq,(af 18))])) (fo (aK (da (af 16) [ae,ae,ae] (.one 1) (bP [(fQ [(aK (ai (.int 0)) [(.In,(af 1))]),(aK (aN .len [(af 1)]) [(.Gt,(ai (.int 7)))])])]) (af 1)) [(.Eq,(cJ []))]))))<|ao) O ⟨h,[aa x0,ae,ae,ae,ae,ae,ae,ae,ae,ae,ae,ae,ae,ae,ae,ae,ae,ae,ae,ae,ae,ae,ae,ae,ae,ae,ae,ae,ae,ae,ae,ae]⟩ (aW K):=by kernel_rfl
theorem Wg(O:ax)(x0 x1 x2 x3:PV)(h:PH)(K:PV->PH->Prop):callC T O 46 [x0,x1,x2,x3] h K=(
 ah (bK aA (af 0) 1 (af 1))<|
 ah (bK aA (af 0) 2 (af 2))<|
 ah (bK aA (af 0) 3 (af 3))<|
 ah (bK aA (af 0) 4 (j1 []))<|ao) O ⟨h,[aa x0,aa x1,aa x2,aa x3]⟩ (aW K):=by kernel_rfl
theorem Wi(O:ax)(x0:PV)(h:PH)(K:PV->PH->Prop):callC T O 47 [x0] h K=(ah (bK aA (af 0) 4 (j1 []))<|ao) O ⟨h,[aa x0]⟩ (aW K):=by kernel_rfl
theorem Wj(O:ax)(x0 x1 x2 x3:PV)(h:PH)(K:PV->PH->Prop):callC T O 48 [x0,x1,x2,x3] h K=(
 ah (bq (aK (af 1) [(.NotIn,(aH aA (af 0) 4))]) (
 ah (jD (aH aA (af 0) 4) (af 1) (af 3))<|ao) (ao))<|
 ah (aT 4 (fo (aK (aO (aH aA (af 0) 4) (af 1)) [(.Eq,(af 3))])))<|
 ah (bq (aK (af 2) [(.Eq,(ai (.int 0)))]) (
 ah (aZ (bq (lB (af 4)) (aH aA (af 0) 3) (bx br (aH aA (af 0) 1) 3 [(af 1),(af 2),(ay .Sub (af 3) (ai (.int 1)))])))<|ao) (ao))<|
 ah (aT 5 (bx br (aH aA (af 0) 1) 3 [(af 1),(ay .Sub (af 2) (ai (.int 1))),(af 3)]))<|
 ah (bq (lB (af 4)) (
 ah (aZ (af 5))<|ao) (ao))<|
 ah (aT 6 (bx br (aH aA (af 0) 1) 3 [(af 1),(af 2),(ay .Sub (af 3) (ai (.int 1)))]))<|
 ah (aZ (aU 2 [(aH aA (af 0) 2),(af 5),(af 6),(bx br (aH aA (af 0) 1) 3 [(af 1),(ay .Sub (af 2) (ai (.int 1))),(ay .Sub (af 3) (ai (.int 1)))])]))<|ao) O ⟨h,[aa x0,aa x1,aa x2,aa x3,ae,ae,ae,ae]⟩ (aW K):=by kernel_rfl
theorem Wk(O:ax)(x0 x1:PV)(h:PH)(K:PV->PH->Prop):callC T O 49 [x0,x1] h K=(ah (bK aA (af 0) 5 (da (af 1) [ae,ae,ae,ae] (.many [1,2]) (bP []) (da (aN .range [(af 2)]) [ae,ae,aa 1] (.one 1) (bP []) (ay .Mult (cJ [(ai (.int 0))]) (af 2)))))<|ao) O ⟨h,[aa x0,aa x1]⟩ (aW K):=by kernel_rfl
theorem Wl(O:ax)(x0 x1 x2 x3:PV)(h:PH)(K:PV->PH->Prop):callC T O 50 [x0,x1,x2,x3] h K=(ah (aZ (aO (aO (aO (aH aA (af 0) 5) (af 1)) (af 3)) (af 2)))<|ao) O ⟨h,[aa x0,aa x1,aa x2,aa x3]⟩ (aW K):=by kernel_rfl
theorem Wm(O:ax)(x0 x1 x2 x3 x4:PV)(h:PH)(K:PV->PH->Prop):callC T O 51 [x0,x1,x2,x3,x4] h K=(ah (jD (aO (aO (aH aA (af 0) 5) (af 1)) (af 3)) (af 2) (af 4))<|ao) O ⟨h,[aa x0,aa x1,aa x2,aa x3,aa x4]⟩ (aW K):=by kernel_rfl
theorem Wn(O:ax)(x0 x1 x2 x3 x4:PV)(h:PH)(K:PV->PH->Prop):callC T O 52 [x0,x1,x2,x3,x4] h K=(
 ah (bK aA (af 0) 6 (af 1))<|
 ah (bK aA (af 0) 1 (af 2))<|
 ah (bK aA (af 0) 7 (af 3))<|
 ah (bK aA (af 0) 8 (af 4))<|ao) O ⟨h,[aa x0,aa x1,aa x2,aa x3,aa x4]⟩ (aW K):=by kernel_rfl
theorem Wo(O:ax)(x0:PV)(h:PH)(K:PV->PH->Prop):callC T O 53 [x0] h K=(ah (bZ (bx br (aH aA (af 0) 7) 14 []))<|ao) O ⟨h,[aa x0]⟩ (aW K):=by kernel_rfl
theorem Wq(O:ax)(x0 x1 x2 x3 x4:PV)(h:PH)(K:PV->PH->Prop):callC T O 54 [x0,x1,x2,x3,x4] h K=(
 ah (aT 5 (bx br (aH aA (af 0) 7) 7 [(af 2),(af 3),(af 4)]))<|
 ah (aT 6 (aU 4 [(bx br (aH aA (af 0) 1) 3 [(af 2),(af 3),(af 4)]),(af 5)]))<|
 ah (aT 7 (aU 0 [(af 6)]))<|
 ah (bZ (bx br (aH aA (af 0) 8) 11 [(cA [(ai (.int 0)),(aO (aH aA (af 0) 6) (af 1))]),(af 7)]))<|
 ah (bq (aK (ai (.int 0)) [(.Lt,(af 7)),(.Lt,(ai (.int 16)))]) (
 ah (bZ (bx br (aH aA (af 0) 8) 12 [(aU 1 [(af 6),(af 7)]),(af 7)]))<|ao) (ao))<|ao) O ⟨h,[aa x0,aa x1,aa x2,aa x3,aa x4,ae,ae,ae,ae,ae,ae,ae]⟩ (aW K):=by kernel_rfl
theorem Wr(O:ax)(x0:PV)(h:PH)(K:PV->PH->Prop):callC T O 55 [x0] h K=(ah (aZ (bx br (aH aA (af 0) 8) 13 []))<|ao) O ⟨h,[aa x0]⟩ (aW K):=by kernel_rfl
theorem Ws(O:ax)(x0 x1 x2 x3 x4:PV)(h:PH)(K:PV->PH->Prop):callC T O 56 [x0,x1,x2,x3,x4] h K=(
 ah (bK aA (af 0) 9 (af 1))<|
 ah (bK aA (af 0) 10 (af 2))<|
 ah (bK aA (af 0) 11 (af 3))<|
 ah (bK aA (af 0) 12 (af 4))<|ao) O ⟨h,[aa x0,aa x1,aa x2,aa x3,aa x4]⟩ (aW K):=by kernel_rfl
theorem Wt(O:ax)(x0 x1 x2 x3 x4 x5 x6:PV)(h:PH)(K:PV->PH->Prop):callC T O 57 [x0,x1,x2,x3,x4,x5,x6] h K=(
 ah (bK aA (af 0) 2 (af 1))<|
 ah (bK aA (af 0) 13 (af 2))<|
 ah (bK aA (af 0) 14 (af 3))<|
 ah (bK aA (af 0) 15 (af 4))<|
 ah (bK aA (af 0) 16 (af 5))<|
 ah (bK aA (af 0) 17 (af 6))<|ao) O ⟨h,[aa x0,aa x1,aa x2,aa x3,aa x4,aa x5,aa x6]⟩ (aW K):=by kernel_rfl
theorem Wu(O:ax)(x0:PV)(h:PH)(K:PV->PH->Prop):callC T O 58 [x0] h K=(ah (aZ (aN .max [(da (aH aA (af 0) 16) [ae,ae] (.one 1) (bP []) (aH aA (af 1) 10))]))<|ao) O ⟨h,[aa x0,ae]⟩ (aW K):=by kernel_rfl
theorem Wv(O:ax)(x0:PV)(h:PH)(K:PV->PH->Prop):callC T O 59 [x0] h K=(ah (aZ (aN .max [(da (aH aA (af 0) 16) [ae,ae] (.one 1) (bP []) (aH aA (af 1) 11))]))<|ao) O ⟨h,[aa x0,ae]⟩ (aW K):=by kernel_rfl
theorem Ww(O:ax)(x0:PV)(h:PH)(K:PV->PH->Prop):callC T O 60 [x0] h K=(ah (aZ (aU 8 [(aH aA (af 0) 15),(ay .Mult (aH aA (af 0) 17) (bx br (af 0) 16 []))]))<|ao) O ⟨h,[aa x0,ae]⟩ (aW K):=by kernel_rfl
theorem Wx(O:ax)(x0:PV)(h:PH)(K:PV->PH->Prop):callC T O 61 [x0] h K=(ah (aZ (aU 8 [(aH aA (af 0) 14),(ay .Mult (aH aA (af 0) 17) (bx br (af 0) 17 []))]))<|ao) O ⟨h,[aa x0,ae]⟩ (aW K):=by kernel_rfl
theorem Wy(O:ax)(x0 x1:PV)(h:PH)(K:PV->PH->Prop):callC T O 62 [x0,x1] h K=(
 ah (aT 2 (aO (aH aA (af 0) 16) (af 1)))<|
 ah (aT 3 (aU 8 [(ay .Mult (aH aA (af 0) 15) (aH aA (af 2) 10)),(bx br (af 0) 16 [])]))<|
 ah (aZ (cA [(af 3),(aU 8 [(ay .Mult (aH aA (af 0) 14) (aH aA (af 2) 11)),(bx br (af 0) 17 [])])]))<|ao) O ⟨h,[aa x0,aa x1,ae,ae,ae]⟩ (aW K):=by kernel_rfl
theorem Wz(O:ax)(x0 x1:PV)(h:PH)(K:PV->PH->Prop):callC T O 63 [x0,x1] h K=(
 ah (eD ak [.name 2,.name 3] (bx br (af 0) 20 [(af 1)]))<|
 ah (aZ (cA [(aU 8 [(af 2),(aH aA (af 0) 17)]),(aU 8 [(af 3),(aH aA (af 0) 17)])]))<|ao) O ⟨h,[aa x0,aa x1,ae,ae,ae]⟩ (aW K):=by kernel_rfl
theorem WA(O:ax)(x0 x1:PV)(h:PH)(K:PV->PH->Prop):callC T O 64 [x0,x1] h K=(
 ah (aT 2 (aO (aH aA (af 0) 16) (af 1)))<|
 ah (aZ (cA [(ay .Mult (bx br (af 0) 18 []) (aH aA (af 2) 10)),(ay .Mult (bx br (af 0) 19 []) (aH aA (af 2) 11))]))<|ao) O ⟨h,[aa x0,aa x1,ae]⟩ (aW K):=by kernel_rfl
theorem WB(O:ax)(x0 x1 x2 x3 x4 x5 x6 x7:PV)(h:PH)(K:PV->PH->Prop):callC T O 65 [x0,x1,x2,x3,x4,x5,x6,x7] h K=(
 ah (bK aA (af 0) 18 (af 1))<|
 ah (bK aA (af 0) 19 (af 2))<|
 ah (bK aA (af 0) 20 (af 3))<|
 ah (bK aA (af 0) 21 (af 4))<|
 ah (bK aA (af 0) 22 (af 5))<|
 ah (bK aA (af 0) 23 (af 6))<|
 ah (bK aA (af 0) 24 (af 7))<|ao) O ⟨h,[aa x0,aa x1,aa x2,aa x3,aa x4,aa x5,aa x6,aa x7]⟩ (aW K):=by kernel_rfl
theorem WC(O:ax)(x0 x1 x2:PV)(h:PH)(K:PV->PH->Prop):callC T O 66 [x0,x1,x2] h K=(
 ah (bZ (aU 15 [(af 1),(af 2)]))<|
 ah (bK aA (af 0) 25 (aN .tuple [(af 1)]))<|
 ah (bK aA (af 0) 26 (aN .tuple [(af 2)]))<|
 ah (bK aA (af 0) 5 (aU 14 [(aH aA (af 0) 25)]))<|
 ah (bK aA (af 0) 27 (j1 []))<|
 ah (cN (aN .range [(ai (.int 1)),(ay .Add (ai (.int 16)) (ai (.int 1)))]) (.one 3) (
 ah (eD ak [.name 4,.name 5,.name 6] (aO (aH aA (af 0) 5) (ay .Sub (af 3) (ai (.int 1)))))<|
 ah (cN (aN .range [(af 5)]) (.one 7) (ah (jD (aH aA (af 0) 27) (aO (aH aA (af 0) 26) (ay .Add (af 6) (af 7))) (cA [(ay .Add (af 4) (af 7)),(af 3)]))<|ao))<|ao))<|ao) O ⟨h,[aa x0,aa x1,aa x2,ae,ae,ae,ae,ae,ae,ae,ae,ae,ae]⟩ (aW K):=by kernel_rfl
theorem WD(O:ax)(x0 x1:PV)(h:PH)(K:PV->PH->Prop):callC T O 67 [x0,x1] h K=(
 ah (aT 2 (bx br (aH aA (af 0) 27) 3 [(af 1)]))<|
 ah (bq (aK (af 2) [(.Is,(ai .none))]) (
 ah (dp)<|ao) (ao))<|
 ah (aZ (af 2))<|ao) O ⟨h,[aa x0,aa x1,ae,ae,ae]⟩ (aW K):=by kernel_rfl
theorem WG(O:ax)(x0:PV)(h:PH)(K:PV->PH->Prop):callC T O 68 [x0] h K=(
 ah (bK aA (af 0) 28 (aN .bytearray []))<|
 ah (bK aA (af 0) 29 (ai (.int 0)))<|
 ah (bK aA (af 0) 30 (ai (.int 0)))<|ao) O ⟨h,[aa x0,ae]⟩ (aW K):=by kernel_rfl
theorem WH(O:ax)(x0 x1 x2:PV)(h:PH)(K:PV->PH->Prop):callC T O 69 [x0,x1,x2] h K=(
 ah (bq (fQ [(aK (af 2) [(.Lt,(ai (.int 0)))]),(nQ (aK (ai (.int 0)) [(.LtE,(af 1)),(.Lt,(ay .LShift (ai (.int 1)) (af 2)))]))]) (
 ah (dp)<|ao) (ao))<|
 ah (bK aA (af 0) 29 (ay .BitOr (ay .LShift (aH aA (af 0) 29) (af 2)) (af 1)))<|
 ah (bK aA (af 0) 30 (ay .Add (aH aA (af 0) 30) (af 2)))<|
 ah (qB (aK (aH aA (af 0) 30) [(.GtE,(ai (.int 8)))]) (
 ah (bK aA (af 0) 30 (ay .Sub (aH aA (af 0) 30) (ai (.int 8))))<|
 ah (bZ (bx br (aH aA (af 0) 28) 0 [(ay .RShift (aH aA (af 0) 29) (aH aA (af 0) 30))]))<|
 ah (bK aA (af 0) 29 (ay .BitAnd (aH aA (af 0) 29) (ay .Sub (ay .LShift (ai (.int 1)) (aH aA (af 0) 30)) (ai (.int 1)))))<|ao))<|ao) O ⟨h,[aa x0,aa x1,aa x2,ae]⟩ (aW K):=by kernel_rfl
theorem WJ(O:ax)(x0:PV)(h:PH)(K:PV->PH->Prop):callC T O 70 [x0] h K=(
 ah (bq (aK (aH aA (af 0) 30) [(.Gt,(ai (.int 0)))]) (
 ah (bZ (bx br (af 0) 8 [(ay .Sub (ay .LShift (ai (.int 1)) (ay .Sub (ai (.int 8)) (aH aA (af 0) 30))) (ai (.int 1))),(ay .Sub (ai (.int 8)) (aH aA (af 0) 30))]))<|ao) (ao))<|ao) O ⟨h,[aa x0]⟩ (aW K):=by kernel_rfl
theorem WK(O:ax)(x0:PV)(h:PH)(K:PV->PH->Prop):callC T O 71 [x0] h K=(ah (aZ (aN .bytes [(aH aA (af 0) 28)]))<|ao) O ⟨h,[aa x0,ae]⟩ (aW K):=by kernel_rfl
theorem WL(O:ax)(x0 x1:PV)(h:PH)(K:PV->PH->Prop):callC T O 72 [x0,x1] h K=(
 ah (bK aA (af 0) 31 (af 1))<|
 ah (bK aA (af 0) 32 (aU 92 []))<|ao) O ⟨h,[aa x0,aa x1,ae]⟩ (aW K):=by kernel_rfl
theorem WM(O:ax)(x0 x1 x2:PV)(h:PH)(K:PV->PH->Prop):callC T O 73 [x0,x1,x2] h K=(
 ah (eD ak [.name 3,.name 4] (bx br (aO (aH aA (af 0) 31) (af 1)) 15 [(af 2)]))<|
 ah (bZ (bx br (aH aA (af 0) 32) 8 [(af 3),(af 4)]))<|ao) O ⟨h,[aa x0,aa x1,aa x2,ae,ae]⟩ (aW K):=by kernel_rfl
theorem WN(O:ax)(x0 x1 x2:PV)(h:PH)(K:PV->PH->Prop):callC T O 74 [x0,x1,x2] h K=(ah (bZ (bx br (aH aA (af 0) 32) 8 [(af 1),(af 2)]))<|ao) O ⟨h,[aa x0,aa x1,aa x2]⟩ (aW K):=by kernel_rfl
theorem WO(O:ax)(x0:PV)(h:PH)(K:PV->PH->Prop):callC T O 75 [x0] h K=(
 ah (bZ (bx br (aH aA (af 0) 32) 23 []))<|
 ah (aT 1 (bx br (aH aA (af 0) 32) 24 []))<|
 ah (bK aA (af 0) 32 (aU 92 []))<|
 ah (aZ (af 1))<|ao) O ⟨h,[aa x0,ae,ae]⟩ (aW K):=by kernel_rfl
theorem WQ(O:ax)(x0:PV)(h:PH)(K:PV->PH->Prop):callC T O 76 [x0] h K=(ah (bK aA (af 0) 25 (j1 []))<|ao) O ⟨h,[aa x0]⟩ (aW K):=by kernel_rfl
theorem WR(O:ax)(x0 x1 x2:PV)(h:PH)(K:PV->PH->Prop):callC T O 77 [x0,x1,x2] h K=(
 ah (aT 3 (bx br (aH aA (af 0) 25) 4 [(af 1),(j1 [])]))<|
 ah (jD (af 3) (af 2) (ay .Add (bx br (af 3) 3 [(af 2),(ai (.int 0))]) (ai (.int 1))))<|ao) O ⟨h,[aa x0,aa x1,aa x2,ae]⟩ (aW K):=by kernel_rfl
theorem WT(O:ax)(x0 x1 x2:PV)(h:PH)(K:PV->PH->Prop):callC T O 78 [x0,x1,x2] h K=(ah (ao)<|ao) O ⟨h,[aa x0,aa x1,aa x2]⟩ (aW K):=by kernel_rfl
theorem WU(O:ax)(x0:PV)(h:PH)(K:PV->PH->Prop):callC T O 79 [x0] h K=(ah (aZ (E6 (o8 [])))<|ao) O ⟨h,[aa x0]⟩ (aW K):=by kernel_rfl
theorem WV(O:ax)(x0 x1 x2 x3:PV)(h:PH)(K:PV->PH->Prop):callC T O 80 [x0,x1,x2,x3] h K=(
 ah (bK aA (af 0) 33 (af 1))<|
 ah (bK aA (af 0) 34 (af 2))<|
 ah (bK aA (af 0) 35 (af 3))<|ao) O ⟨h,[aa x0,aa x1,aa x2,aa x3]⟩ (aW K):=by kernel_rfl
theorem WW(O:ax)(x0 x1 x2:PV)(h:PH)(K:PV->PH->Prop):callC T O 80 [x0,x1,x2] h K=(
 ah (bK aA (af 0) 33 (af 1))<|
 ah (bK aA (af 0) 34 (af 2))<|
 ah (bK aA (af 0) 35 (af 3))<|ao) O ⟨h,[aa x0,aa x1,aa x2,aa (.bytes [])]⟩ (aW K):=by kernel_rfl
theorem WX(O:ax)(x0 x1 x2 x3:PV)(h:PH)(K:PV->PH->Prop):callC T O 81 [x0,x1,x2,x3] h K=(
 ah (bK aA (af 0) 15 (af 1))<|
 ah (bK aA (af 0) 14 (af 2))<|
 ah (bK aA (af 0) 5 (af 3))<|ao) O ⟨h,[aa x0,aa x1,aa x2,aa x3]⟩ (aW K):=by kernel_rfl
theorem WY(O:ax)(x0 x1 x2:PV)(h:PH)(K:PV->PH->Prop):callC T O 82 [x0,x1,x2] h K=(ah (aZ (aO (aO (aH aA (af 0) 5) (aU 36 [(af 2),(aH aA (af 0) 14)])) (aU 36 [(af 1),(aH aA (af 0) 15)])))<|ao) O ⟨h,[aa x0,aa x1,aa x2,ae]⟩ (aW K):=by kernel_rfl
theorem WZ(O:ax)(x0 x1 x2 x3 x4 x5 x6 x7:PV)(h:PH)(K:PV->PH->Prop):callC T O 83 [x0,x1,x2,x3,x4,x5,x6,x7] h K=(
 ah (bK aA (af 0) 36 (af 1))<|
 ah (bK aA (af 0) 19 (af 2))<|
 ah (bK aA (af 0) 20 (af 3))<|
 ah (bK aA (af 0) 21 (af 4))<|
 ah (bK aA (af 0) 22 (af 5))<|
 ah (bK aA (af 0) 23 (af 6))<|
 ah (bK aA (af 0) 24 (af 7))<|ao) O ⟨h,[aa x0,aa x1,aa x2,aa x3,aa x4,aa x5,aa x6,aa x7]⟩ (aW K):=by kernel_rfl
theorem W3(O:ax)(x0:PV)(h:PH)(K:PV->PH->Prop):callC T O 84 [x0] h K=(ah (aZ (fo (aK (aN .len [(aH aA (af 0) 36)]) [(.Eq,(ai (.int 1)))])))<|ao) O ⟨h,[aa x0,ae]⟩ (aW K):=by kernel_rfl
abbrev Wh{α:Type}(f:HC α)(h:PH)(Q:α->PH->Prop):Prop:=f h Q
def NI(r:List (RM PV×RM PV))(es:List (PV×PV))(x:PV)(O:ax)(K:PV->aj->Prop)(y:PV)(s:aj):Prop:=pPairs r (es++[(x,y)]) O s K
def NJ(q:RM PV)(r:List (RM PV×RM PV))(es:List (PV×PV))(O:ax)(K:PV->aj->Prop)(x:PV)(s:aj):Prop:=q O s (NI r es x O K)
section
variable{α:Type}{O:ax}{s:aj}{h:PH}{l:List (Option PV)}{a:Option PV}{v x y z:PV}{i:Nat}{KV:PV->aj->Prop}{KB:Bool->aj->Prop}{KA:α->aj->Prop}{KF:aY->aj->Prop}{K:PV->PH->Prop}{KC:Bool->Prop}
theorem W6:eV (a::l) 0=a:=rfl
theorem W7:eV (a::l) (i+1)=eV l i:=rfl
theorem AY:gk (a::l) 0 v=aa v::l:=rfl
theorem AZ:gk (a::l) (i+1) v=a::gk l i v:=rfl
theorem W8:E5 (aa v) KV s=KV v s:=rfl
theorem W9:bN (.int n) P=P n:=rfl
theorem Xa:EY (.bool n) P=P n:=rfl
theorem Xb:qr (.tup n) P=P n:=rfl
theorem Xc:iU p q O KA ag s=p O s KA:=rfl
theorem Xd:iU p q O KA ak s=q O s KA:=rfl
theorem Xe:kz p O KA X ag s=p O s KA:=rfl
theorem Xf:kz p O KA X ak s=X s:=rfl
theorem Xg:bP [] O s KB=KB ag s:=rfl
theorem Xh:bP (c::r) O s KB=c O s (iU (bP r) (ai ak) O KB):=rfl
theorem Xi:fQ [] O s KB=KB ak s:=rfl
theorem Xj:fQ (c::r) O s KB=c O s (iU (ai ag) (fQ r) O KB):=rfl
theorem Xk:qy p q O s KV=p O s (AL (iU q (ai (.bool ak)) O KV)):=rfl
theorem Xl:AM p q O s KV=p O s (AL (iU (ai (.bool ag)) q O KV)):=rfl
theorem Xm:aK p ((op,q)::r) O s KB=p O s (E8 op q r O KB):=rfl
theorem Xn:o9 x op q [] O s KB=q O s (xq op x KB):=rfl
theorem Xo:o9 x op q ((pb,q')::r) O s KB=q O s (M5 op x pb q' r O KB):=rfl
theorem Xp:et [] O s P=P [] s:=rfl
theorem Xq:et (p::r) O s P=p O s (M7 r O P):=rfl
theorem Xr:pe ae O s P=P ae s:=rfl
theorem Xs:pe (aa p) O s P=p O s (Fb P):=rfl
theorem Xu:iu [] [] O s KF=KF .next s:=rfl
theorem Xv:iu (.name i::r) (v::vs) O s KF=iu r vs O ⟨s.heap,gk s.loc i v⟩ KF:=rfl
theorem Xw:iu (.sub p q::r) (v::vs) O s KF=jD p q (ai v) O s (r6 (iu r vs) O KF):=rfl
theorem Xx:uy ak [t,u] O KF s [x,y]=iu [t,u] [x,y] O s KF:=rfl
theorem Xy:uy ak [t,u,w] O KF s [x,y,z]=iu [t,u,w] [x,y,z] O s KF:=rfl
theorem Xz:uy ak [t,u,w,w'] O KF s [x,y,z,z']=iu [t,u,w,w'] [x,y,z,z'] O s KF:=rfl
theorem XA:uy ag [t,u] O KF s [x,y]=iu [u,t] [y,x] O s KF:=rfl
theorem XB:uy ag [t,u,w] O KF s [x,y,z]=iu [w,u,t] [z,y,x] O s KF:=rfl
theorem Fw:fR (.one i) v s X=X ⟨s.heap,gk s.loc i v⟩:=rfl
theorem XD:fR (.many is) (.tup vs) s X=storeAll is vs s X:=rfl
theorem XE:storeAll [] [] s X=X s:=rfl
theorem XF:storeAll (i::is) (v::vs) s X=storeAll is vs ⟨s.heap,gk s.loc i v⟩ X:=rfl
theorem XG:ux t p O KA X l (aa v) h=fR t v ⟨h,l⟩ (fE p O KA):=rfl
theorem XH:ux t p O KA X l ae h=X ⟨h,l⟩:=rfl
theorem NK:r6 p O KF .next s=p O s KF:=rfl
theorem XI:r6 p O KF (.ret v) s=KF (.ret v) s:=rfl
theorem XJ:r6 p O KF .cont s=KF .cont s:=rfl
theorem XK:aW K (.ret v) s=K v s.heap:=rfl
theorem XM:aW K .next s=K .none s.heap:=rfl
theorem XN:xD p t e O f k P .next s=p O s (Fq t e O f k P):=rfl
theorem XO{e:RM PV}{t:eW}{f k:Nat}{a b c:Int}{P:Option PV->PH->Prop}:Fq t e O f k P (.dw a b c) s=nW t e O f k s.loc (jB a b c) s.heap P:=rfl
theorem XQ:nW t e O f k l (x::xs) h P=fR t x ⟨h,l⟩ (fE e O (AW f k xs P)):=rfl
theorem XR:xE i K .none h=K (.ref i) h:=rfl
section
variable{m n:Int}
theorem XS:jb .Add (.int m) (.int n) h K=K (.int (m+n)) h:=rfl
theorem XT:jb .Sub (.int m) (.int n) h K=K (.int (m-n)) h:=rfl
theorem XU:jb .BitOr (.int m) (.int n) h K=K (.int (Aq m n)) h:=rfl
theorem XW:jb .BitAnd (.int m) (.int n) h K=K (.int (rP m n)) h:=rfl
theorem XX:jC .Eq (.int m) (.int n) h KC=KC (decide (m=n)):=rfl
theorem XY:jC .NotEq (.int m) (.int n) h KC=KC (decide (m≠n)):=rfl
theorem XZ:jC .Lt (.int m) (.int n) h KC=KC (decide (m<n)):=rfl
theorem X1:jC .LtE (.int m) (.int n) h KC=KC (decide (m<=n)):=rfl
theorem X2:jC .Gt (.int m) (.int n) h KC=KC (decide (n<m)):=rfl
theorem X3:jC .GtE (.int m) (.int n) h KC=KC (decide (n<=m)):=rfl
theorem X4:jC .Is x .none h KC=KC (isNone x):=rfl
theorem X5:jC .IsNot x .none h KC=KC (!isNone x):=rfl
theorem X6:isNone (.ref i)=ak:=rfl
theorem X7:(!true)=ak:=rfl
theorem X8:(!false)=ag:=rfl
theorem X9:isNone (.tup w)=ak:=rfl
theorem Yb:isNone (.int n)=ak:=rfl
theorem Yc:isNone .none=ag:=rfl
theorem Yd:jC .In x y h KC=qt h x y KC:=rfl
theorem Ye:jC .NotIn x y h KC=qt h x y λb=>KC (!b):=rfl
theorem Yg:ky [] i v=[(i,v)]:=rfl
theorem Yh:ky ((j,x)::r) i v=bif j==i then(i,v)::r else(j,x)::ky r i v:=rfl
variable{ba:Bool}
theorem Yi:er ba .len [.tup w] h K=K (.int w.length) h:=rfl
theorem Yj:er ba .len [.bytes w] h K=K (.int w.length) h:=rfl
theorem Yk:er ba .len [.j0 w] h K=K (.int w.length) h:=rfl
theorem Yl:er ba .tuple [.tup w] h K=K (.tup w) h:=rfl
theorem Ym:er ba .int [.int m] h K=K (.int m) h:=rfl
theorem Yn:er ba .int [.bool w] h K=K (.int (if w then 1 else 0)) h:=rfl
theorem Yo:er ba .abs [.int m] h K=K (.int m.natAbs) h:=rfl
theorem Yp:er ba .set [] h K=K (.ref h.length) (h++[.set []]):=rfl
theorem Yq:er ba .range [.int n] h K=qx 0 n 1 h K:=rfl
theorem Yr:er ba .range [.int m,.int n] h K=qx m n 1 h K:=rfl
theorem Ys:er ba .range [.int m,.int n,.int o] h K=qx m n o h K:=rfl
theorem Yt:qz tab 6 [] O KV (.int m) s=KV (.int (xp m)) s:=rfl
end
theorem Yu:qs [] h K=K (.tup []) h:=rfl
theorem Yv:qs [x] h K=K (.tup [x]) h:=rfl
theorem Yw:qs [x,y] h K=K (.tup [x,y]) h:=rfl
theorem Yx:qs [x,y,z] h K=K (.tup [x,y,z]) h:=rfl
theorem Yy:qs [x,y,z,v] h K=K (.tup [x,y,z,v]) h:=rfl
theorem Yz:fP [] h K=K (.ref h.length) (h++[.list []]):=rfl
theorem YA:fP [x] h K=K (.ref h.length) (h++[.list [x]]):=rfl
theorem YB:fP [x,y] h K=K (.ref h.length) (h++[.list [x,y]]):=rfl
theorem YC:fP [x,y,z] h K=K (.ref h.length) (h++[.list [x,y,z]]):=rfl
theorem YD:o8 [] h K=K (.bytes []) h:=rfl
theorem YE:pPairs [] [] O s KV=KV (.ref s.heap.length) ⟨s.heap++[.dict []],s.loc⟩:=rfl
theorem YF:pPairs ((p,q)::r) es O s KV=p O s (NJ q r es O KV):=rfl
end
theorem gd(e:b=ag)(p:P):guard b P:=by subst e;exact p
section
variable{α:Type}{O:ax}{s:aj}{h:PH}{l:List (Option PV)}{KV:PV->aj->Prop}{K:PV->PH->Prop}{KU:Unit->PH->Prop}{k:Nat}
theorem fF{p q:RM α}{K:α->aj->Prop}{c:Prop}[Decidable c](h1:c->p O s K)(h2: ¬ c->q O s K):iU p q O K (decide c) s:=by
 by_cases e:c
 .rw[decide_eq_true e];exact h1 e
 .rw[decide_eq_false e];exact h2 e
theorem NL{p q:RM α}{K:α->aj->Prop}{c:Prop}[Decidable c](e:c)(w:p O s K):iU p q O K (decide c) s:=by rw[decide_eq_true e];exact w
theorem NM{p q:RM α}{K:α->aj->Prop}{c:Prop}[Decidable c](e: ¬ c)(w:q O s K):iU p q O K (decide c) s:=by rw[decide_eq_false e];exact w
theorem YG{p q:RM α}{K:α->aj->Prop}{c:Bool}(w:iU q p O K c s):iU p q O K (!c) s:=by cases c <;> exact w
theorem se{p:RM α}{K:α->aj->Prop}{X:aj->Prop}{c:Prop}[Decidable c](h1:c->p O s K)(h2: ¬ c->X s):kz p O K X (decide c) s:=by
 by_cases e:c
 .rw[decide_eq_true e];exact h1 e
 .rw[decide_eq_false e];exact h2 e
theorem YH{p:RM α}{K:α->aj->Prop}{X:aj->Prop}{c:Bool}(h1:c=ag->p O s K)(h2:c=ak->X s):kz p O K X c s:=by induction c using dD with|true=>exact h1 rfl|false=>exact h2 rfl
theorem NN{p q:RM aY}{K:aY->aj->Prop}(R:aj->Prop)(h1: ∀ K':aY->aj->Prop,(∀ {s'},R s'->K' .next s')->p O s K')(h2: ∀ s',R s'->q O s' K):ah p q O s K:=h1 _ λr=>h2 _ r
theorem NO{c:RM α}{K:α->aj->Prop}(R:α->Prop)(h1: ∀ K':α->aj->Prop,(∀ {v},R v->K' v s)->c O s K')(h2: ∀ v,R v->K v s):c O s K:=h1 _ λr=>h2 _ r
theorem Fx{a b:Nat}(e:a<=b):iY a b=ag:=iL.mpr e
theorem NP(e:x.length<=1000000)(q:K (.tup x) h):qs x h K:=gd (Fx e) q
theorem dW(e:x.length<=1000000)(q:K (.ref h.length) (h++[.list x])):fP x h K:=gd (Fx e) q
theorem uC(e:x.length<=1000000)(q:K (.bytes x) h):o8 x h K:=gd (Fx e) q
theorem YI(g:(bT i||bT j)=ag)(q:K (.int (i*j)) h):jb .Mult (.int i) (.int j) h K:=⟨g,q⟩
theorem YJ(g:(j != 0&&bT j)=ag)(q:K (.int (i.fdiv j)) h):jb .FloorDiv (.int i) (.int j) h K:=⟨g,q⟩
theorem YK(g:(j != 0&&bT j)=ag)(q:K (.int (i.fmod j)) h):jb .Mod (.int i) (.int j) h K:=⟨g,q⟩
theorem YL(g:(eC n&&bT i)=ag)(q:K (.int (i^n.toNat)) h):jb .Pow (.int i) (.int n) h K:=⟨g,q⟩
theorem YM(g:(eC n&&bT i)=ag)(q:K (.int (i*2^n.toNat)) h):jb .LShift (.int i) (.int n) h K:=⟨g,q⟩
theorem YN(g:eC n=ag)(q:K (.int (i.fdiv (2^n.toNat))) h):jb .RShift (.int i) (.int n) h K:=⟨g,q⟩
theorem NQ(g:(a++b).length<=1000000)(q:K (.bytes (a++b)) h):jb .Add (.bytes a) (.bytes b) h K:=uC g q
theorem xG(ha:h[a]?=aa (.list x))(hb:h[b]?=aa (.list y))(g:(x++y).length<=1000000)(q:K (.ref h.length) (h++[.list (x++y)])):jb .Add (.ref a) (.ref b) h K:=⟨_,ha,_,hb,dW g q⟩
theorem Fy(ha:h[a]?=aa (.list [z]))(hn: -1000000<=n)(g:n<=1000000)(q:K (.ref h.length) (h++[.list (cX n.toNat z)])):jb .Mult (.ref a) (.int n) h K:=⟨_,ha,_,rfl,hn,dW (by rw[tB];exact(cM [.L Q0 (.n 1000000),pT J0 Q0] (.l J0 (.n 1000000))) g (uT _)) q⟩
theorem NR(hn:0<=n)(hv:x[n.toNat]?=aa v)(q:P v):E0 x (.int n) P:=⟨_,by have:=(dF.mp hv).1;unfold idxOf;rw[if_pos hn,if_pos (by exact(lx [.L (.n 0) Q0,.t J0 J1,pT J0 Q0] (.T Q0 (.c J1))) hn this (uT _))],_,hv,q⟩
theorem Fz(hk:0<=n)(hv:x[n.toNat]?=aa v)(q:K v h):mz (.tup x) (.int n) h K:=NR (P:=λv=>K v h) hk hv q
theorem bS(ha:h[a]?=aa (.list x))(hk:0<=n)(hv:x[n.toNat]?=aa v)(q:K v h):mz (.ref a) (.int n) h K:=⟨_,ha,NR (P:=λv=>K v h) hk hv q⟩
theorem nY(hk:0<=n)(hv:x[n.toNat]?=aa v)(q:K (.int v.toNat) h):mz (.bytes x) (.int n) h K:=⟨hk,_,hv,q⟩
theorem YO(hk:0<=n)(hv:x[n.toNat]?=aa v)(q:K (.int v) h):mz (.j0 x) (.int n) h K:=⟨hk,_,hv,q⟩
theorem pf(ha:h[a]?=aa (.dict es))(hk:keysOk i es=ag)(hv:dU es i=aa v)(q:K v h):mz (.ref a) i h K:=⟨_,ha,hk,_,hv,q⟩
theorem xH(ha:h[a]?=aa (.dy es))(hk:keysOk i es=ag)(hv:dU es i=aa v)(q:K v h):mz (.ref a) i h K:=⟨_,ha,hk,_,hv,q⟩
theorem YQ(hz:(sliceOf x lo hi).length<=1000000)(q:K (.bytes (sliceOf x lo hi)) h):AH (.bytes x) lo hi h K:=uC hz q
theorem NS(ha:h[a]?=aa (.list x))(hz:(sliceOf x lo hi).length<=1000000)(q:K (.ref h.length) (h++[.list (sliceOf x lo hi)])):AH (.ref a) lo hi h K:=⟨_,ha,dW hz q⟩
theorem YR(hk:h[k]?=aa (.inst c fs))(hv:xm aA c a fs=aa v)(q:K v h):E1 aA (.ref k) a h K:=⟨_,hk,_,hv,q⟩
theorem FC(hk:h[k]?=aa (.inst c fs))(hc:aA.contains (c,a)=ak)(q:KU () (h.set k (.inst c (ky fs a v)))):E3 aA (.ref k) a v h KU:=⟨_,hk,hc,q⟩
theorem NT(ha:h[a]?=aa (.list x))(hk:0<=n)(hl:n<x.length)(q:KU () (h.set a (.list (x.set n.toNat v)))):uu (.ref a) (.int n) v h KU:=⟨_,ha,hk,hl,q⟩
theorem nZ(ha:h[a]?=aa (.dict es))(hk:keysOk i es=ag)(hl:es.length<1000000)(q:KU () (h.set a (.dict (dput es i v)))):uu (.ref a) i v h KU:=⟨_,ha,hk,hl,q⟩
theorem NU(ha:h[a]?=aa (.list x))(hi:intsOf x=aa is)(q:KC (is.contains n)):qt h (.int n) (.ref a) KC:=⟨_,ha,_,hi,q⟩
theorem YS(ha:h[a]?=aa (.set x))(hi:intsOf x=aa is)(q:KC (is.contains n)):qt h (.int n) (.ref a) KC:=⟨_,ha,_,hi,q⟩
theorem NV(ha:h[a]?=aa (.dict x))(hk:keysOk i x=ag)(q:KC (x.any λe=>gX e.1 i)):qt h i (.ref a) KC:=⟨_,ha,hk,q⟩
theorem NW(e:mx h 9 (.ref a) (.ref b))(q:KC ag):jC .Eq (.ref a) (.ref b) h KC:= .inl ⟨e,q⟩
theorem YT(ha:h[a]?=aa (.list x))(hb:h[b]?=aa (.list y))(hn:x.length≠y.length)(q:KC ak):jC .Eq (.ref a) (.ref b) h KC:= .inr ⟨_,ha,_,hb,hn,q⟩
theorem FD(e:mx h 9 (.ref a) (.ref b))(q:KC ak):jC .NotEq (.ref a) (.ref b) h KC:=⟨e,q⟩
variable{ba:Bool}
theorem YU(hk:h[k]?=aa (.list x))(q:K (.int x.length) h):er ba .len [.ref k] h K:=⟨_,hk,q⟩
theorem FE(g:d7 a b c=ag)(q:K (.dw a b c) h):qx a b c h K:=gd g q
theorem NX(hk:h[k]?=aa (.list x))(g:sortable x=ag)(q:K (.ref h.length) (h++[.list (lA x)]))(hz:(lA x).length<=1000000):er ba .sorted [.ref k] h K:=⟨_,hk,g,dW hz q⟩
theorem FF{x:List (PV×PV)}(hk:h[k]?=aa (.dict x))(g:sortable (x.map (·.1))=ag)(hz:(lA (x.map (·.1))).length<=1000000)(q:K (.ref h.length) (h++[.list (lA (x.map (·.1)))])):er ba .sorted [.ref k] h K:=⟨_,hk,g,dW hz q⟩
theorem NY(hi:intsOf x=aa is)(q:K (.int is.sum) h):er ba .sum [.tup x] h K:=⟨_,hi,q⟩
theorem FG(hz:(jB a b c).length<=1000000)(q:K (.ref h.length) (h++[.list (jB a b c)])):er ba .list [.dw a b c] h K:=dW hz q
theorem YV(hz:x.length<=1000000)(q:K (.ref h.length) (h++[.list (x.map λb=> .int b.toNat)])):er ba .list [.bytes x] h K:=dW (by rw[aX];exact hz) q
theorem A0(hk:h[k]?=aa (.list x))(hz:x.length<=1000000)(q:K (.ref h.length) (h++[.list x])):er ba .list [.ref k] h K:=⟨_,hk,dW hz q⟩
theorem NZ(hk:h[k]?=aa (.list x))(hz:x.length<=1000000)(q:K (.tup x) h):er ba .tuple [.ref k] h K:=⟨_,hk,NP hz q⟩
theorem FH(hk:h[k]?=aa (.list x))(hi:intsOf x=aa is)(ho:r4 is=aa bs)(hz:bs.length<=1000000)(q:K (.bytes bs) h):er ba .bytes [.ref k] h K:=⟨_,hk,_,hi,_,ho,uC hz q⟩
theorem YW(hi:intsOf x=aa is)(ho:r4 is=aa bs)(hz:bs.length<=1000000)(q:K (.bytes bs) h):er ba .bytes [.tup x] h K:=⟨_,hi,_,ho,uC hz q⟩
theorem A1(hk:h[k]?=aa (.cb bs))(hz:bs.length<=1000000)(q:K (.bytes bs) h):er ba .bytes [.ref k] h K:=⟨_,hk,uC hz q⟩
theorem YX(e:ba=ag)(q:K (.ref h.length) (h++[.cb []])):er ba .bytearray [] h K:=by subst e;exact q
theorem N0(hk:h[k]?=aa (.list x))(hi:intsOf x=aa (i::is))(q:K (.int (is.foldl max i)) h):er ba .max [.ref k] h K:=⟨_,hk,_,_,hi,q⟩
theorem YY(hi:intsOf x=aa (i::is))(q:K (.int (is.foldl min i)) h):er ba .min [.tup x] h K:=⟨_,_,hi,q⟩
variable{tab:List (Nat×Nat×Nat)}{m:Nat}{args:List (RM PV)}
theorem A2{c id:Nat}{fs:List (Nat×PV)}(hk:h[k]?=aa (.inst c fs))(hf:nR tab c m=aa id)(w:et args O ⟨h,l⟩ (AN id O (.ref k) KV)):qz tab m args O KV (.ref k) ⟨h,l⟩:=⟨_,hk,_,hf,w⟩
theorem YZ(hk:h[k]?=aa (.list x))(g:mL m=ag)(w:et args O ⟨h,l⟩ (AO m k KV)):qz tab m args O KV (.ref k) ⟨h,l⟩:=⟨_,hk,gd g w⟩
theorem Y3(hk:h[k]?=aa (.dict x))(g:mD m=ag)(w:et args O ⟨h,l⟩ (AP m k KV)):qz tab m args O KV (.ref k) ⟨h,l⟩:=⟨_,hk,gd g w⟩
theorem Y4(hk:h[k]?=aa (.set x))(g:mS m=ag)(w:et args O ⟨h,l⟩ (AQ m k KV)):qz tab m args O KV (.ref k) ⟨h,l⟩:=⟨_,hk,gd g w⟩
theorem Y5(hk:h[k]?=aa (.cb x))(e:O.ba=ag)(g:mA m=ag)(w:et args O ⟨h,l⟩ (AR m k KV)):qz tab m args O KV (.ref k) ⟨h,l⟩:=⟨_,hk,e,gd g w⟩
theorem Y6(hk:h[k]?=aa (.list x))(hz:x.length<1000000)(q:K .none (h.set k (.list (x++[v])))):AJ 0 k [v] h K:=⟨_,hk,hz,q⟩
theorem N3(hk:h[k]?=aa (.list (v::x)))(q:K v (h.set k (.list x))):AJ 1 k [.int 0] h K:=⟨_,hk,rfl,_,_,rfl,q⟩
theorem N4(hk:h[k]?=aa (.list x))(hj:h[j]?=aa (.list y))(n:j≠k)(hz:x.length+y.length<1000000)(q:K .none (h.set k (.list (x++y)))):AJ 2 k [.ref j] h K:=⟨_,hk,_,hj,n,hz,q⟩
theorem Y7(hk:h[k]?=aa (.dict es))(g:keysOk (.int i) es=ag)(q:K ((dU es (.int i)).getD .none) h):uv 3 k [.int i] h K:=⟨_,hk,g,q⟩
theorem FI(hk:h[k]?=aa (.dict es))(g:keysOk (.int i) es=ag)(q:K ((dU es (.int i)).getD d) h):uv 3 k [.int i,d] h K:=⟨_,hk,g,q⟩
theorem Y8(hk:h[k]?=aa (.dict es))(g:keysOk (.tup [.int i,.int j]) es=ag)(hz:es.length<1000000)(hv:dU es (.tup [.int i,.int j])=aa v)(q:K v h):uv 4 k [.tup [.int i,.int j],d] h K:=⟨_,hk,_,_,rfl,g,hz,.inl ⟨_,hv,q⟩⟩
theorem Y9(hk:h[k]?=aa (.dict es))(g:keysOk (.tup [.int i,.int j]) es=ag)(hz:es.length<1000000)(hv:dU es (.tup [.int i,.int j])=ae)(q:K d (h.set k (.dict (dput es (.tup [.int i,.int j]) d)))):uv 4 k [.tup [.int i,.int j],d] h K:=⟨_,hk,_,_,rfl,g,hz,.inr ⟨hv,q⟩⟩
theorem Za(hk:h[k]?=aa (.dict es))(g:keysOk (.int i) es=ag)(hv:dU es (.int i)=aa v)(q:K v (h.set k (.dict (r0 es (.int i))))):uv 1 k [.int i] h K:=⟨_,hk,g,_,hv,q⟩
theorem Zb(hk:h[k]?=aa (.set es))(hi:intsOf es=aa is)(hz:es.length<1000)(hn:is.contains i=ak)(q:K .none (h.set k (.set (es++[.int i])))):setM 5 k [.int i] h K:=⟨_,hk,_,hi,hz,by rw[hn];exact q⟩
theorem sf(hk:h[k]?=aa (.cb bs))(g:qu i=ag)(hz:bs.length<1000000)(q:K .none (h.set k (.cb (bs++[bY i.toNat])))):E4 0 k [.int i] h K:=⟨_,hk,g,hz,q⟩
theorem N5(hk:h[k]?=aa (.cb bs))(hz:bs.length+b.length<1000000)(q:K .none (h.set k (.cb (bs++b)))):E4 2 k [.bytes b] h K:=⟨_,hk,hz,q⟩
end
theorem N6(n:Nat)(b:Bool):(run T n b).ba=b:=by rw[Ft];cases n <;> rfl
theorem bc(e:callC T (run T n b) i args h K=A)(w:A):(run T (n+1) b).call i args h K:=by rw[NF];exact e.mpr w
theorem j3(he:T.ents[i]?=aa (.cls c init))(w:(run T n b).call init (.ref h.length::args) (h++[.inst c []]) (xE h.length Q)):(run T (n+1) b).call i args h Q:=bc (by unfold callC;rw[he]) w
theorem FJ(hg:h[g]?=aa (.gen f (a::l) r))(e:nX T (run T n ak) f g (a::l) r (h.set g (.gen f [] ae)) K=A)(w:A):(run T (n+1) b).step g h K:=by rw[NF];exact⟨_,hg,nofun,e.mpr w⟩
theorem Zc:T.ents[85]?=aa (.cls 0 46):=by kernel_rfl
theorem Zd:T.ents[86]?=aa (.cls 1 49):=by kernel_rfl
theorem Ze:T.ents[87]?=aa (.cls 2 52):=by kernel_rfl
theorem Zf:T.ents[88]?=aa (.cls 3 56):=by kernel_rfl
theorem Zg:T.ents[89]?=aa (.cls 4 57):=by kernel_rfl
theorem Zh:T.ents[90]?=aa (.cls 5 65):=by kernel_rfl
theorem Zi:T.ents[91]?=aa (.cls 6 66):=by kernel_rfl
theorem Zj:T.ents[92]?=aa (.cls 7 68):=by kernel_rfl
theorem Zk:T.ents[93]?=aa (.cls 8 72):=by kernel_rfl
theorem Zl:T.ents[94]?=aa (.cls 9 76):=by kernel_rfl
theorem N7:T.ents[95]?=aa (.cls 10 80):=by kernel_rfl
theorem Zm:T.ents[96]?=aa (.cls 11 81):=by kernel_rfl
theorem Zn:T.ents[97]?=aa (.cls 12 83):=by kernel_rfl
section
variable{h:PH}
theorem bh(hk:h[k]?=aa a):k<h.length:=(dF.mp hk).1
theorem aJ{k:Nat}{o o':aB}(hk:h[k]?=aa o):(h++[o'])[k]?=aa o:=by rw[jL (bh hk)];exact hk
theorem aM:(h++[o])[h.length]?=aa o:=tA
theorem bj(hk:h[k]?=aa o)(hj:j≠k):(h.set j o')[k]?=aa o:=by rw[nk hj];exact hk
theorem bF(hk:h[k]?=aa o'):(h.set k o)[k]?=aa o:=qd (bh hk)
theorem aI{h':PH}{k:Nat}{o:aB}(p:h<+:h')(hk:h[k]?=aa o):h'[k]?=aa o:=by obtain⟨e,rfl⟩:=p;rw[jL (bh hk)];exact hk
theorem pre_app{h₀:PH}{o:aB}(p:h₀<+:h):h₀<+:h++[o]:=p.trans (bH _ _)
theorem eX{h₀:PH}{k:Nat}{o:aB}(p:h₀<+:h)(hk:h₀.length<=k):h₀<+:h.set k o:=by obtain⟨e,rfl⟩:=p;rw[rx _ _ hk];exact bH _ _
theorem sg{l:PH}{a:aB}:(h++a::l)[h.length]?=aa a:=by simp
theorem FK{l:PH}{a b:aB}:(h++a::b::l)[h.length+1]?=aa b:=by simp
theorem at2{l:PH}{a b c:aB}:(h++a::b::c::l)[h.length+2]?=aa c:=by simp
noncomputable def FL:aB->Nat
 | .inst c _=>c+9
 |o=>o.ctorIdx
theorem cy{j k:Nat}{a b:aB}(hj:h[j]?=aa a)(hk:h[k]?=aa b)(n:lb (FL a) (FL b)=ak):j≠k:=λe=>DE n (congrArg FL (bD (hj.symm.trans (e▸hk))))
end
abbrev Go(f:aY):Prop:=f= .next\/f= .cont
section
variable{α:Type}{O:ax}{h:PH}{l:List (Option PV)}{t:eW}{body:RM aY}{K:aY->aj->Prop}{src:ik}
theorem FN{N:Nat}{x:Nat->PV}{Inv:Nat->aj->Prop}
  (qF: ∀ i st,i<=N->Inv i st-> ∀ P:Option PV->PH->Prop,P (if i<N then aa (x i) else ae) st.heap->xr src i O st.heap P)
  (step: ∀ i st (K':aY->aj->Prop),(∀ {f s},Go f->Inv (i+1) s->K' f s)->i<N->Inv i st->fR t (x i) st (fE body O K')) (fin: ∀ st,Inv N st->K .next st):
  ∀ n i st,i<=N->N-i=n->Inv i st->qA src t body O K (n+1) i st
 |0,i,st,hi,hn,I=>by
  obtain rfl:i=N:=by exact(az [.l J0 J1,.e J2 Y0,pB J2 J1 J0] (.e J0 J1)) hi hn (uB _ _)
  exact qF i st hi I _ (by rw[if_neg (iK _)];exact fin st I)
 |n+1,i,st,hi,hn,I=>by
  have bf:i<N:=by exact(aQ [.l J0 J1,.e J2 (.a J3 Y1),pB J2 J1 J0] (.t J0 J1)) hi hn (uB _ _)
  refine qF i st hi I _ ?_;rw[if_pos bf];refine step i st _ (fun{f s} hf I'=>?_) bf I;have:=FN qF step fin n (i+1) s bf (by exact(bU [.l J0 J1,.e J2 (.a J3 Y1),.t J0 J1,pB J2 J1 J0,pB J4 J1 (.a J0 Y1)] (.e J4 J3)) hi hn bf (uB _ _) (uB _ _)) I';rcases hf with rfl|rfl <;> exact this
theorem uE{xs:List PV}{x:Nat->PV}{N:Nat}{Inv:Nat->aj->Prop}(hx: ∀ i,xs[i]?=if i<N then aa (x i) else ae)(h0:Inv 0 ⟨h,l⟩)
  (step: ∀ i st (K':aY->aj->Prop),(∀ {f s},Go f->Inv (i+1) s->K' f s)->i<N->Inv i st->fR t (x i) st (fE body O K')) (fin: ∀ st,Inv N st->K .next st):
  ∃ n,qA (.fixed xs) t body O K n 0 ⟨h,l⟩:=⟨_,FN (λi st zy zy P p=>by show P xs[i]? st.heap;rw[hx];exact p) step fin _ 0 ⟨h,l⟩ (cz _) rfl h0⟩
theorem pg{n:Nat}:jB 0 (n:Int) 1=(ar n).map λk:Nat=>PV.int k:=by
 unfold jB;rw[if_pos (by decide)];have:(((n:Int)-0+1-1)/1).toNat=n:=by exact(lx [pd 1 Q0 (.s (.a (.s (.c J1) (.n 0)) (.n 1)) (.n 1)),pT J0 Q0] (.e J0 J1)) (ud _ 1) (uT _)
 rw[this];exact gF λk zy=>by rw[show(0:Int)+k*1=k by omega]
theorem Zo{a:Int}{n:Nat}{b:Int}(hb:b=a+n):jB a b 1=(ar n).map λk:Nat=>PV.int (a+k):=by
 subst hb;unfold jB;rw[if_pos (by decide)];have:((a+(n:Int)-a+1-1)/1).toNat=n:=by exact(xi [pd 1 Q0 (.s (.a (.s (.a Q1 (.c J1)) Q1) (.n 1)) (.n 1)),pT J0 Q0] (.e J0 J1)) (ud _ 1) (uT _)
 rw[this];exact gF λk zy=>by rw[show a+(k:Int)*1=a+k by omega]
theorem A3{α:Type}{n:Nat}{f:Nat->α}(i:Nat):((ar n).map f)[i]?=if i<n then aa (f i) else ae:=by
 rw[dG];split
 .rw[JX (by assumption)];rfl
 .rw[ry (by rw[fV];exact(au [.no (.t J0 J1)] (.l J1 J0)) ‹_›)];rfl
theorem uG(xs:List α)(d:α)(i:Nat):xs[i]?=if i<xs.length then aa (xs.getD i d) else ae:=by
 split
 .rename_i e;rw[eP,eQ e];rfl
 .rw[ry (by exact(au [.no (.t J0 J1)] (.l J1 J0)) ‹_›)]
theorem uH{α:Type}{xs:List α}{d:α}{i:Nat}(hi:i<xs.length):xs[i]?=aa (xs.getD i d):=(uG xs d i).trans (if_pos hi)
theorem iw{n:Nat}{m:Int}(Inv:Nat->aj->Prop)(hm:m=n)(h0:Inv 0 ⟨h,l⟩)
  (step: ∀ (i:Nat) st (K':aY->aj->Prop),(∀ {f s},Go f->Inv (i+1) s->K' f s)->i<n->Inv i st->fR t (.int i) st (fE body O K')) (fin: ∀ st,Inv n st->K .next st):mC t body O K (.dw 0 m 1) ⟨h,l⟩:=by
 subst hm;exact uE (λi=>by rw[pg];exact A3 i) h0 step fin
theorem FO{n:Nat}{a b:Int}(Inv:Nat->aj->Prop)(hb:b=a+n)(h0:Inv 0 ⟨h,l⟩)
  (step: ∀ (i:Nat) st (K':aY->aj->Prop),(∀ {f s},Go f->Inv (i+1) s->K' f s)->i<n->Inv i st->fR t (.int (a+i)) st (fE body O K')) (fin: ∀ st,Inv n st->K .next st):mC t body O K (.dw a b 1) ⟨h,l⟩:=
 uE (λi=>by rw[Zo hb];exact A3 i) h0 step fin
theorem N8{xs:List PV}(Inv:Nat->aj->Prop)(h0:Inv 0 ⟨h,l⟩)
  (step: ∀ i x st (K':aY->aj->Prop),(∀ {f s},Go f->Inv (i+1) s->K' f s)->xs[i]?=aa x->Inv i st->fR t x st (fE body O K')) (fin: ∀ st,Inv xs.length st->K .next st):mC t body O K (.tup xs) ⟨h,l⟩:=
 uE (uG xs .none) h0 (λi st K' hK hi I=>step i _ st K' hK (uH hi) I) fin
theorem Zp{bs:List UInt8}(Inv:Nat->aj->Prop)(h0:Inv 0 ⟨h,l⟩)
  (step: ∀ i (x:UInt8) st (K':aY->aj->Prop),(∀ {f s},Go f->Inv (i+1) s->K' f s)->bs[i]?=aa x->Inv i st->fR t (.int x.toNat) st (fE body O K')) (fin: ∀ st,Inv bs.length st->K .next st):mC t body O K (.bytes bs) ⟨h,l⟩:=
 uE (x:=λi=> .int (bs.getD i 0).toNat) (N:=bs.length) (λi=>by rw[dG,uG bs 0 i];split <;> rfl) h0 (λi st K' hK hi I=>step i _ st K' hK (uH hi) I) fin
theorem sh{k:Nat}{xs:List PV}(Inv:Nat->aj->Prop)(hk:h[k]?=aa (.list xs))(h0:Inv 0 ⟨h,l⟩)(keep: ∀ i st,Inv i st->st.heap[k]?=aa (.list xs))
  (step: ∀ i x st (K':aY->aj->Prop),(∀ {f s},Go f->Inv (i+1) s->K' f s)->xs[i]?=aa x->Inv i st->fR t x st (fE body O K')) (fin: ∀ st,Inv xs.length st->K .next st):mC t body O K (.ref k) ⟨h,l⟩:=
 ⟨_,hk,_,FN (src:= .lst k) (O:=O) (N:=xs.length) (x:=λi=>xs.getD i .none) (λi st zy I P p=>⟨_,keep i st I,by rw[<- uG xs .none i] at p;exact p⟩) (λi st K' hK hi I=>step i _ st K' hK (uH hi) I) fin _ 0 ⟨h,l⟩ (cz _) rfl h0⟩
theorem N9(es:List (PV×PV))(i:Nat):(es.map (·.1))[i]?=if i<es.length then aa (es.getD i (.none,.none)).1 else ae:=by rw[dG,uG es (.none,.none) i];split <;> rfl
theorem Zq{k:Nat}{es:List (PV×PV)}(Inv:Nat->aj->Prop)(hk:h[k]?=aa (.dict es))(h0:Inv 0 ⟨h.set k (.dy es),l⟩)
  (step: ∀ i x v st (K':aY->aj->Prop),(∀ {f s},Go f->Inv (i+1) s->K' f s)->es[i]?=aa (x,v)->Inv i st->fR t x st (fE body O K')) (fin: ∀ st,Inv es.length st->K .next st):mC t body O K (.ref k) ⟨h,l⟩:=
 ⟨_,hk,uE (N9 es) h0 (λi st K' hK hi I=>step i _ (es.getD i (.none,.none)).2 st K' hK (uH hi) I) fin⟩
theorem Zr(N:Nat)(Inv:Nat->aj->Prop)(hk:h[k]?=aa (.gen f lo re))(h0:Inv 0 ⟨h,l⟩)
  (step: ∀ i st (K':aY->aj->Prop),(∀ {f s},Go f->Inv (i+1) s->K' f s)->i<N->Inv i st->O.step k st.heap (ux t body O K' (K .next) st.loc))
  (fin: ∀ st (K':aY->aj->Prop),Inv N st->O.step k st.heap (ux t body O K' (K .next) st.loc)):mC t body O K (.ref k) ⟨h,l⟩:=by
 refine⟨_,hk,N+1,?_⟩;have go: ∀ n i st,i<=N->N-i=n->Inv i st->qA (.gen k) t body O K (n+1) i st:=by
  intro n;induction n with
  |zero=>
       intro i st hi hn I;obtain rfl:i=N:=by exact(az [.l J0 J1,.e J2 Y0,pB J2 J1 J0] (.e J0 J1)) hi hn (uB _ _)
       exact fin st _ I
  |succ n ih=>intro i st hi hn I;refine step i st _ (fun{f s} hf I'=>?_) (by exact(aQ [.l J0 J1,.e J2 (.a J3 Y1),pB J2 J1 J0] (.t J0 J1)) hi hn (uB _ _)) I;have:=ih (i+1) s (by exact(aQ [.l J0 J1,.e J2 (.a J3 Y1),pB J2 J1 J0] (.l (.a J0 Y1) J1)) hi hn (uB _ _)) (by exact(bU [.l J0 J1,.e J2 (.a J3 Y1),pB J2 J1 J0,pB J4 J1 (.a J0 Y1)] (.e J4 J3)) hi hn (uB _ _) (uB _ _)) I';rcases hf with rfl|rfl <;> exact this
 exact go N 0 ⟨h,l⟩ (cz _) rfl h0
theorem xI(Inv:Nat->aj->Prop)(h0:Inv m s)
  (step: ∀ m st (K':aY->aj->Prop),(∀ {f s m'},Go f->m'<m->Inv m' s->K' f s)->Inv m st->c O st (kz body O K' (K .next))):qB c body O s K:=by
 have go: ∀ n m st,m<=n->Inv m st->xt c body O K (n+1) st:=by
  intro n;induction n with
  |zero=>intro m st hm I;exact step m st _ (fun{f s m'} zy bf zy=>by omega) I
  |succ n ih=>intro m st hm I;refine step m st _ (fun{f s m'} hf bf I'=>?_) I;have:=ih m' s (by exact(az [.l J0 (.a J1 Y1),.t J2 J0] (.l J2 J1)) hm bf) I';rcases hf with rfl|rfl <;> exact this
 exact⟨_,go m m s (aS _) h0⟩
variable{ifs:RM Bool}{elt:RM PV}{caps:List (Option Nat)}{KV:PV->aj->Prop}
theorem A7{N:Nat}{x:Nat->PV}{Inv:Nat->aj->List PV->Prop}{KL:List PV->aj->Prop}
  (qF: ∀ i st acc,i<=N->Inv i st acc-> ∀ P:Option PV->PH->Prop,P (if i<N then aa (x i) else ae) st.heap->xr src i O st.heap P)
  (step: ∀ i st acc (K':PV->aj->Prop) (X:aj->Prop),(∀ {v s},Inv (i+1) s (acc++[v])->K' v s)->(∀ {s},Inv (i+1) s acc->X s)->i<N->Inv i st acc->fR t (x i) st (fE ifs O (kz elt O K' X))) (fin: ∀ st acc,Inv N st acc->KL acc st):
  ∀ n i st acc,i<=N->N-i=n->Inv i st acc->nU src t ifs elt O KL (n+1) i acc st
 |0,i,st,acc,hi,hn,I=>by
  obtain rfl:i=N:=by exact(az [.l J0 J1,.e J2 Y0,pB J2 J1 J0] (.e J0 J1)) hi hn (uB _ _)
  exact qF i st acc hi I _ (by rw[if_neg (iK _)];exact fin st acc I)
 |n+1,i,st,acc,hi,hn,I=>by
  have bf:i<N:=by exact(aQ [.l J0 J1,.e J2 (.a J3 Y1),pB J2 J1 J0] (.t J0 J1)) hi hn (uB _ _)
  refine qF i st acc hi I _ ?_;rw[if_pos bf];exact step i st acc _ _ (λI'=>A7 qF step fin n (i+1) _ _ bf (by exact(bU [.l J0 J1,.e J2 (.a J3 Y1),.t J0 J1,pB J2 J1 J0,pB J4 J1 (.a J0 Y1)] (.e J4 J3)) hi hn bf (uB _ _) (uB _ _)) I') (λI'=>A7 qF step fin n (i+1) _ _ bf (by exact(bU [.l J0 J1,.e J2 (.a J3 Y1),.t J0 J1,pB J2 J1 J0,pB J4 J1 (.a J0 Y1)] (.e J4 J3)) hi hn bf (uB _ _) (uB _ _)) I') bf I
theorem Oa{xs:List PV}{x:Nat->PV}{N:Nat}{Inv:Nat->aj->List PV->Prop}(hx: ∀ i,xs[i]?=if i<N then aa (x i) else ae){h:PH}(h0:Inv 0 ⟨h,iq l caps⟩ [])
  (step: ∀ i st acc (K':PV->aj->Prop) (X:aj->Prop),(∀ {v s},Inv (i+1) s (acc++[v])->K' v s)->(∀ {s},Inv (i+1) s acc->X s)->i<N->Inv i st acc->fR t (x i) st (fE ifs O (kz elt O K' X)))
  (fin: ∀ st acc,Inv N st acc->fP acc st.heap (kH KV l)):noGen (.fixed xs)=ag/\ ∃ n,nU (.fixed xs) t ifs elt O (xu KV l) n 0 [] ⟨h,iq l caps⟩:=
 ⟨rfl,_,A7 (λi st acc zy zy P p=>by show P xs[i]? st.heap;rw[hx];exact p) step fin _ 0 _ [] (cz _) rfl h0⟩
theorem qG{n:Nat}{m:Int}(Inv:Nat->aj->List PV->Prop)(hm:m=n)(h0:Inv 0 ⟨h,iq l caps⟩ [])
  (step: ∀ (i:Nat) st acc (K':PV->aj->Prop) (X:aj->Prop),(∀ {v s},Inv (i+1) s (acc++[v])->K' v s)->(∀ {s},Inv (i+1) s acc->X s)->i<n->Inv i st acc->fR t (.int i) st (fE ifs O (kz elt O K' X)))
  (fin: ∀ st acc,Inv n st acc->fP acc st.heap (kH KV l)):mE caps t ifs elt O KV (.dw 0 m 1) ⟨h,l⟩:=by
 subst hm;exact Oa (λi=>by rw[pg];exact A3 i) h0 step fin
theorem lC{k:Nat}{xs:List PV}(Inv:Nat->aj->List PV->Prop)(hk:h[k]?=aa (.list xs))(h0:Inv 0 ⟨h,iq l caps⟩ [])
  (keep: ∀ i st acc,Inv i st acc->st.heap[k]?=aa (.list xs))
  (step: ∀ i x st acc (K':PV->aj->Prop) (X:aj->Prop),(∀ {v s},Inv (i+1) s (acc++[v])->K' v s)->(∀ {s},Inv (i+1) s acc->X s)->xs[i]?=aa x->Inv i st acc->fR t x st (fE ifs O (kz elt O K' X)))
  (fin: ∀ st acc,Inv xs.length st acc->fP acc st.heap (kH KV l)):mE caps t ifs elt O KV (.ref k) ⟨h,l⟩:=
 ⟨_,hk,rfl,_,A7 (src:= .lst k) (O:=O) (N:=xs.length) (x:=λi=>xs.getD i .none) (λi st acc zy I P p=>⟨_,keep i st acc I,by rw[<- uG xs .none i] at p;exact p⟩) (λi st acc K' X h1 h2 hi I=>step i _ st acc K' X h1 h2 (uH hi) I) fin _ 0 _ [] (cz _) rfl h0⟩
theorem set_same(hk:h[k]?=aa o):h.set k o=h:=rz λi=>by
 rw[wb];split
 .rename_i e;subst e;rw[if_pos (bh hk),hk]
 .rfl
theorem Ob{k:Nat}{es:List (PV×PV)}(Inv:Nat->aj->List PV->Prop)(hk:h[k]?=aa (.dict es)\/h[k]?=aa (.dy es))(h0:Inv 0 ⟨h.set k (.dy es),iq l caps⟩ [])
  (step: ∀ i x v st acc (K':PV->aj->Prop) (X:aj->Prop),(∀ {v s},Inv (i+1) s (acc++[v])->K' v s)->(∀ {s},Inv (i+1) s acc->X s)->es[i]?=aa (x,v)->Inv i st acc->fR t x st (fE ifs O (kz elt O K' X)))
  (fin: ∀ st acc,Inv es.length st acc->fP acc st.heap (kH KV l)):mE caps t ifs elt O KV (.ref k) ⟨h,l⟩:=by
 have:=Oa (t:=t) (O:=O) (ifs:=ifs) (elt:=elt) (caps:=caps) (N9 es) h0 (λi st acc K' X h1 h2 hi I=>step i _ (es.getD i (.none,.none)).2 st acc K' X h1 h2 (uH hi) I) fin;rcases hk with hk|hk
 .exact⟨_,hk,this⟩
 .rw[set_same hk] at this
  exact⟨_,hk,this⟩
end
section
local macro_rules | `(tactic| omega) => `(tactic| lia)
local macro_rules | `(tactic| lcg_src) => `(tactic| first | with_reducible assumption | with_reducible exact aM | ((with_reducible refine' bF ?s0); case s0 => lcg_src) | ((with_reducible refine aJ ?_); lcg_src) | ((with_reducible refine bj ?_ ?_); (· lcg_src); · lsm_bools) | ((with_reducible refine' aI ?s0 ?s1); (case s0 => with_reducible assumption); case s1 => lcg_src))
local macro_rules | `(tactic| lsm_bools) => `(tactic| first | with_reducible assumption | rfl | decide | omega | (symm; assumption) | exact ni.mpr (.inr rfl) | (refine' cy ?s0 ?s1 ?s2; (case s0 => lcg_src); (case s1 => lcg_src); case s2 => rfl))
local macro_rules | `(tactic| kbo_bools) => do
 let l:=ids "W6 W7 AY AZ W8 W9 Xa Xb Xc Xd Xe Xf Xg Xh Xi Xj Xk Xl Xm Xn Xo Xp Xq Xr Xs Xu Xv Xw Xx Xy Xz XA XB Fw XD XE XF XG XH NK XI XJ XK XM XR XN XO XQ AW AX XS XT XU XW XX XY XZ X1 X2 X3 X4 X5 X6 X9 Yb Yc Yd Ye Yg Yh Yi Yj Yk Yl Ym Yn Yo Yp Yq Yr Ys Yt Yu Yv Yw Yx Yy Yz YA YB YC YD YE YF j1 NJ NI kH ai E6 af Vn MZ M0 ay M1 E7 AK M3 r5 AL lB bq M4 nQ xq M5 E8 M6 fo E9 M7 M8 cA M9 cJ Na aH Nb Nc aO Fb Nd Nf Ng uw Nh aU Ni aN AN AO AP AQ AR Fc bx cN xu da ah ao Nj aZ xv aT kU Nk Ff bK Nl Nm AS jD Nn bZ Np eD fE Option.isSome_none Option.isSome_some Nat.reduceBEq cond_true cond_false X7 X8"
 let a:=ids "YR A2 YZ Y3 Y4 FC"
 let b:=ids "FE YI YJ YK YL YM YN"
 let c:=ids "NP dW uC"
 let d:=ids "Y6 Y7"
 `(tactic|first
  | dsimp only [$[$l:ident],*]
  | first $[| ((with_reducible refine' $a ?s0 ?s1 ?_); (case s0 => lcg_src); case s1 => rfl)]*
  | ((with_reducible refine' Y5 ?s0 ?s1 ?s2 ?_); (case s0 => lcg_src); (case s1 => exact N6 _ _); case s2 => rfl)
  | ((with_reducible refine' Fz ?s0 ?s1 ?_); (case s0 => decide); case s1 => rfl)
  | ((with_reducible refine' YU ?s0 ?_); case s0 => lcg_src)
  | first $[| ((with_reducible refine' $b ?s0 ?_); case s0 => lsm_bools)]*
  | first $[| ((with_reducible refine' $c ?s0 ?_); case s0 => first | (simp; done) | lsm_bools)]*
  | first $[| ((with_reducible refine' $d ?s0 ?s1 ?_); (case s0 => lcg_src); case s1 => lsm_bools)]*
  | ((with_reducible refine' YX ?s0 ?_); case s0 => exact N6 _ _)
  | with_reducible refine YG ?_
  | ((with_reducible refine NL ?_ ?_); · omega)
  | ((with_reducible refine NM ?_ ?_); · omega))
local macro_rules | `(tactic| nofun) => `(tactic| repeat kbo_bools)
theorem Zs(q:Q (.int (if(v.natAbs:Int)=0 then 0 else((v.natAbs:Int).natAbs.log2+1:Nat))) h):Wh ((run T (n+1) b).call 0 [.int v]) h Q:=by refine bc (c0 _ _ _ _) ?_;nofun;exact q
theorem Zt(hs:0<=s/\s<=1000)(q:Q (.int (if v<0 then v+2^s.toNat-1 else v)) h):Wh ((run T (n+1) b).call 1 [.int v,.int s]) h Q:=by
 refine bc (c1 _ _ _ _ _) ?_;nofun;have g:(eC s&&bT 2)=ag:=by unfold eC;rw[decide_eq_true hs.1,decide_eq_true (show s<=1000000 from(cY [.an (.L (.n 0) Q0) (.L Q0 (.n 1000))] (.L Q0 (.n 1000000))) hs)];rfl
 refine fF (λhp=>?_) λhp=>?_
 .rw[if_pos hp] at q;nofun
 .rw[if_neg hp] at q;nofun
theorem Zu(q:Q (.int (if 32768<(s-t).fmod 65536 then(s-t).fmod 65536-65536 else(s-t).fmod 65536)) h):Wh ((run T (n+1) b).call 4 [.int s,.int t]) h Q:=by
 refine bc (c4 _ _ _ _ _) ?_;nofun;refine fF (λhp=>?_) λhp=>?_
 .rw[if_pos hp] at q;nofun
 .rw[if_neg hp] at q;nofun
noncomputable def FP (k x y z:Int):Int:=if k=1 then x else if k=2 then y else if k=3 then z else if k=4 then x+y-z else if k=5 then x+(y-z).fdiv 2 else if k=6 then y+(x-z).fdiv 2 else(x+y).fdiv 2
theorem Zv(hk:1<=k/\k<=7)(q:Q (.int (FP k x y z)) h):Wh ((run T (n+1) b).call 2 [.int k,.int x,.int y,.int z]) h Q:=by
 refine bc (c2 _ _ _ _ _ _ _) ?_;obtain⟨h1,h2⟩:=hk;obtain rfl|rfl|rfl|rfl|rfl|rfl|rfl:k=1\/k=2\/k=3\/k=4\/k=5\/k=6\/k=7:=(cY [.L (.n 1) Q0,.L Q0 (.n 7)] (.o (.E Q0 (.n 1)) (.o (.E Q0 (.n 2)) (.o (.E Q0 (.n 3)) (.o (.E Q0 (.n 4)) (.o (.E Q0 (.n 5)) (.o (.E Q0 (.n 6)) (.E Q0 (.n 7))))))))) h1 h2
 all_goals (nofun)
 all_goals exact q
theorem Zw(hp:0<=p-t-1/\p-t-1<=1000)(q:Q (.int (2^(p-t-1).toNat)) h):Wh ((run T (n+1) b).call 3 [.int p,.int t]) h Q:=by
 refine bc (c3 _ _ _ _ _) ?_;have g:(eC (p-t-1)&&bT 1)=ag:=by unfold eC;rw[decide_eq_true hp.1,decide_eq_true (show p-t-1<=1000000 from(mj [.an (.L (.n 0) (.s (.s Q0 Q1) (.n 1))) (.L (.s (.s Q0 Q1) (.n 1)) (.n 1000))] (.L (.s (.s Q0 Q1) (.n 1)) (.n 1000000))) hp)];rfl
 rw[show(2:Int)^(p-t-1).toNat=1*2^(p-t-1).toNat by rw[vZ]] at q;nofun
theorem Zx(ha:0<a/\a<=1000)(hi:i=0\/i=a)(q:Q .none h):Wh ((run T (n+1) b).call 6 [.int a,.int i]) h Q:=by
 refine bc (c6 _ _ _ _ _) ?_;have g:(a != 0&&bT a)=ag:=by unfold bT;rw[decide_eq_true (show a.natAbs<18446744073709551616 from(cM [.an (.T (.n 0) Q0) (.L Q0 (.n 1000)),pA J0 Q0] (.t J0 (.n 18446744073709551616))) ha (uA _)),zm,bne_iff_ne];exact(cY [.an (.T (.n 0) Q0) (.L Q0 (.n 1000))] (.no (.E Q0 (.n 0)))) ha
 have hz:i.fmod a=0:=by rcases hi with rfl|rfl <;> simp
 nofun
theorem uI(q:Q (.int a) h):Wh ((run T (n+1) b).call 8 [.int a,.int 1]) h Q:=by refine bc (c8 _ _ _ _ _) ?_;rw[show a=(a+1-1).fdiv 1 by rw[Int.fdiv_one];exact cY [] (.E Q0 (.s (.a Q0 (.n 1)) (.n 1)))] at q;nofun
theorem Zy(q:Q .none h):Wh ((run T (n+1) b).call 9 [.bool ag,m]) h Q:=by refine bc (c9 _ _ _ _ _) ?_;nofun
theorem Oc(hp:0<=p/\p<s)(q:Q (.int p) h):Wh ((run T (n+1) b).call 36 [.int p,.int s]) h Q:=by refine bc (V6 _ _ _ _ _) ?_;nofun
noncomputable def wd (n s:Int):aB:= .dict [(.str "number",.int n),(.str "stir",.int s)]
theorem Zz:dU [(.str "number",.int n),(.str "stir",.int s)] (.str "number")=aa (.int n):=by kernel_rfl
theorem ZA:dU [(.str "number",.int n),(.str "stir",.int s)] (.str "stir")=aa (.int s):=by kernel_rfl
theorem ZC:dput [(.str "number",.int n),(.str "stir",.int s)] (.str "number") (.int m)=[(.str "number",.int m),(.str "stir",.int s)]:=by kernel_rfl
theorem ZD:dput [(.str "number",.int n),(.str "stir",.int s)] (.str "stir") (.int m)=[(.str "number",.int n),(.str "stir",.int m)]:=by kernel_rfl
theorem ZE(hw:h[W]?=aa (wd n s))(q:Q () (h.set W (wd m s))):uu (.ref W) (.str "number") (.int m) h Q:=nZ hw (by rfl) (by show(2:Nat)<1000000;decide) (by rw[ZC];exact q)
theorem ZF(hw:h[W]?=aa (wd n s))(q:Q () (h.set W (wd n m))):uu (.ref W) (.str "stir") (.int m) h Q:=nZ hw (by rfl) (by show(2:Nat)<1000000;decide) (by rw[ZD];exact q)
theorem FQ(hw:h[W]?=aa (wd n s))(q:Q (.int n) h):mz (.ref W) (.str "number") h Q:=pf hw (by rfl) Zz q
theorem Od(hw:h[W]?=aa (wd n s))(q:Q (.int s) h):mz (.ref W) (.str "stir") h Q:=pf hw (by rfl) ZA q
theorem Oe(hm:0<m/\m<=1000000):(m != 0&&bT m)=ag:=by unfold bT;rw[decide_eq_true (show m.natAbs<18446744073709551616 from(cM [.an (.T (.n 0) Q0) (.L Q0 (.n 1000000)),pA J0 Q0] (.t J0 (.n 18446744073709551616))) hm (uA _)),zm,bne_iff_ne];exact(cY [.an (.T (.n 0) Q0) (.L Q0 (.n 1000000))] (.no (.E Q0 (.n 0)))) hm
theorem qH(hw:h[W]?=aa (wd n s))(hm:0<m/\m<=1000000)(hs:0<=s)(q: ∀ f n' s':Int,0<=f->f<m->0<=s'->Q (.int f) (h.set W (wd n' s'))):Wh ((run T (k+1) b).call 37 [.ref W,.int m]) h Q:=by
 refine bc (V7 _ _ _ _ _) ?_;have g:=Oe hm;nofun;refine FQ hw ?_;nofun;refine fF (λhp=>?_) λhp=>?_
 .nofun
  refine FQ hw ?_;nofun;refine FQ hw ?_;nofun;refine ZE hw ?_;nofun;exact q _ _ _ (rr _ hm.1) (zu _ hm.1) hs
 .nofun
  refine Od hw ?_;nofun;refine ZF hw ?_;nofun;refine Od (bF hw) ?_;nofun;exact q _ _ _ (rr _ hm.1) (zu _ hm.1) (rr _ (by decide))
theorem Of(hk:gX (.str k1) (.str k2)=ak)(w:K (.ref s.heap.length) ⟨s.heap++[.dict [(.str k1,v1),(.str k2,v2)]],s.loc⟩):pPairs [] ([]++[(.str k1,v1)]++[(.str k2,v2)]) O s K:=by
 show K _ ⟨s.heap++[.dict (dput [(.str k1,v1)] (.str k2) v2)],s.loc⟩;have:dput [(PV.str k1,v1)] (.str k2) v2=[(.str k1,v1),(.str k2,v2)]:=by unfold dput;simp[hk]
 rw[this];exact w
theorem ZG(q: ∀ n s:Int,0<=s->Q (.ref h.length) (h++[wd n s])):Wh ((run T (k+1) b).call 38 [.j0 x]) h Q:=by
 refine bc (V8 _ _ _ _) ?_;have hk:gX (.str "number") (.str "stir")=ak:=by kernel_rfl
 nofun;induction x using cw with
 |nil=>
  refine NM (by decide) ?_;nofun;refine Of hk ?_
  all_goals (nofun)
  all_goals refine q _ _ ?_
  all_goals exact zx (rr _ (by decide)) (by decide)
 |cons a r=>
  refine NL (by simp) ?_;nofun;refine YO (by decide) rfl ?_;nofun;refine fF (λhp=>?_) λhp=>?_
  all_goals (nofun)
  all_goals refine fF (λhp=>?_) λhp=>?_
  all_goals (nofun)
  all_goals refine Of hk ?_
  all_goals (nofun)
  all_goals refine q _ _ ?_
  all_goals exact zx (rr _ (by decide)) (by decide)
structure Kp (W:Nat) (h h':PH):Prop where
 len:h.length<=h'.length
 get: ∀ (k:Nat) (o:aB),k≠W->h[k]?=aa o->h'[k]?=aa o
theorem Kp.refl(W:Nat)(h:PH):Kp W h h:=⟨aS _,λzy zy zy e=>e⟩
theorem Kp.trans(x:Kp W h h')(y:Kp W h' uJ):Kp W h uJ:=⟨cG x.len y.len,λk o n e=>y.get k o n (x.get k o n e)⟩
theorem Kp.app(x:Kp W h h'):Kp W h (h'++[o]):=⟨by have:=x.len;simp;exact nq this,λk o n e=>aJ (x.get k o n e)⟩
theorem Kp.set(x:Kp W h h'):Kp W h (h'.set W o):=⟨by have:=x.len;simpa using this,λk o n e=>bj (x.get k o n e) (eI n)⟩
theorem Kp.A8(x:Kp W h h')(hk:h.length<=k):Kp W h (h'.set k o):=⟨by have:=x.len;simpa using this,λj o n e=>bj (x.get j o n e) (by have:=bh e;exact(az [.l J0 J1,.t J2 J0] (.no (.e J1 J2))) hk this)⟩
theorem Kp.pre{W:Nat}{h h':PH}(p:h<+:h'):Kp W h h':=⟨p.length_le,λzy zy zy e=>aI p e⟩
theorem pre_of{h h':PH}(hl:h.length<=h'.length)(hg: ∀ (k:Nat) (o:aB),h[k]?=aa o->h'[k]?=aa o):h<+:h':=by
 refine⟨h'.drop h.length,?_⟩;refine rz λi=>?_;rcases jt i h.length with hi|hi
 .rw[jL hi]
  have:=hg i _ (eQ hi);rw[this,eQ hi]
 .rw[oA hi,List.getElem?_drop]
  congr 1;exact(az [.l J0 J1,pB J2 J1 J0] (.e (.a J0 J2) J1)) hi (uB _ _)
theorem mJ{α:Type}{l:List α}{n:Nat}{f:Nat->α}(hl:l.length=n)(hf: ∀ j,j<n->l[j]?=aa (f j)):l=(ar n).map f:=by
 refine rz λi=>?_;rw[dG];rcases jt i n with hi|hi
 .rw[hf i hi,eQ (by simpa using hi)];simp
 .rw[ry ((az [.e J0 J1,.l J1 J2] (.l J0 J2)) hl hi),ry (by simpa using hi)];rfl
theorem b0{α:Type}{n i:Nat}{f:Nat->α}(hi:i<n):((ar n).map f)[i]?=aa (f i):=by rw[dG,eQ (by simpa using hi)];simp
theorem ph{α:Type}{l:List α}{i j:Nat}{v:α}(hl:l.length=i)(hj:j<i+1):(l++[v])[j]?=if j<i then l[j]? else aa v:=by
 split
 .rename_i h;rw[jL ((az [.e J0 J1,.t J2 (.a J1 Y1),.t J2 J1] (.t J2 J0)) hl hj h)]
 .rename_i h;rw[oA ((az [.e J0 J1,.t J2 (.a J1 Y1),.no (.t J2 J1)] (.l J0 J2)) hl hj h)];have:j-l.length=0:=(aQ [.e J0 J1,.t J2 (.a J1 Y1),.no (.t J2 J1),pB J3 J2 J0] (.e J3 Y0)) hl hj h (uB _ _)
  rw[this];rfl
inductive jG (h:PH) (r ht w:Nat) (V:Nat->Nat->Int):Prop
 |mk (R:Nat->Nat) (s1:h[r]?=aa (.list ((ar ht).map λy=> .ref (R y)))) (s2: ∀ y,y<ht->h[R y]?=aa (.list ((ar w).map λx=> .int (V y x)))):jG h r ht w V
theorem jG.mono(g:jG h r ht w V)(hk: ∀ (k:Nat) l,h[k]?=aa (.list l)->h'[k]?=aa (.list l)):jG h' r ht w V:=by obtain⟨R,a,b⟩:=g;exact⟨R,hk _ _ a,λy hy=>hk _ _ (b y hy)⟩
theorem Og{α β:Type}[Inhabited α][Inhabited β]{n:Nat}{P:Nat->α->β->Prop}(h: ∀ j,j<n-> ∃ a b,P j a b): ∃ (A:Nat->α) (B:Nat->β),∀ j,j<n->P j (A j) (B j):=by
 have: ∀ j,∃ ab:α×β,j<n->P j ab.1 ab.2:=λj=>by
  by_cases hj:j<n
  .obtain⟨a,b,p⟩:=h j hj;exact⟨(a,b),λzy=>p⟩
  .exact⟨default,λh=>absurd h hj⟩
 obtain⟨f,hf⟩:=JJ this;exact⟨λj=>(f j).1,λj=>(f j).2,λj hj=>hf j hj⟩
theorem jG.of{h:PH}{r ht w:Nat}{l:List PV}(hl:l.length=ht)(hr:h[r]?=aa (.list l)){P:Int->Prop}(lD: ∀ y,y<ht-> ∃ (a:Nat) (row:List PV),l[y]?=aa (.ref a)/\h[a]?=aa (.list row)/\row.length=w/\ ∀ x,x<w-> ∃ v,row[x]?=aa (.int v)/\P v):
  ∃ V,jG h r ht w V/\ ∀ y x,y<ht->x<w->P (V y x):=by
 obtain⟨A,B,FT⟩:=Og lD;have: ∀ y,∃ f:Nat->Int,y<ht-> ∀ x,x<w->(B y)[x]?=aa (.int (f x))/\P (f x):=λy=>by
  by_cases hy:y<ht
  .obtain⟨f,_,hf⟩:=Og (α:=Int) (β:=Unit) (P:=λx v zy=>(B y)[x]?=aa (.int v)/\P v) (λx hx=>by obtain⟨v,e⟩:=(FT y hy).2.2.2 x hx;exact⟨v,(),e⟩)
   exact⟨f,λzy x hx=>hf x hx⟩
  .exact⟨λzy=>0,λh=>absurd h hy⟩
 obtain⟨F,hF⟩:=JJ this;refine⟨F,⟨A,?_,λy hy=>?_⟩,λy x hy hx=>(hF y hy x hx).2⟩
 .rw[hr,mJ hl λj hj=>(FT j hj).1]
 .obtain⟨_,b,c,d⟩:=FT y hy
  rw[b,mJ c λx hx=>(hF y hy x hx).1]
theorem gK(h:0<=a/\a<=1000000):d7 0 a 1=ag:=by unfold d7;rw[decide_eq_true (show a.natAbs<=1000000 from(cM [.an (.L (.n 0) Q0) (.L Q0 (.n 1000000)),pA J0 Q0] (.l J0 (.n 1000000))) h (uA _))];rfl
theorem ZH(hs:h[s]?=aa (.inst 11 []))(q:Q .none (h.set s (.inst 11 [(15,x),(14,y),(5,z)]))):Wh ((run T (k+1) b).call 81 [.ref s,x,y,z]) h Q:=by refine bc (WX _ _ _ _ _ _ _) ?_;nofun;simp only[jO];exact q
theorem ZI(hW:h[W]?=aa (wd n s))(hs:0<=s)(hw:w<=1000)(hh:ht<=1000)(hm:0<=most/\most<100000)
  (q: ∀ h' r p V n' s',Kp W h h'->h'[W]?=aa (wd n' s')->0<=s'->h'[p]?=aa (.inst 11 [(15,.int w),(14,.int ht),(5,.ref r)])->jG h' r ht w V->(∀ y x,y<ht->x<w->0<=V y x/\V y x<=most)->Q (.ref p) h'):
  Wh ((run T (k+3) b).call 39 [.ref W,.int w,.int ht,.int most]) h Q:=by
 refine bc (V9 _ _ _ _ _ _ _) ?_;have g1:d7 0 (ht:Int) 1=ag:=gK ((aw [.l J0 (.n 1000)] (.an (.L (.n 0) (.c J0)) (.L (.c J0) (.n 1000000)))) hh);have g2:d7 0 (w:Int) 1=ag:=gK ((aw [.l J0 (.n 1000)] (.an (.L (.n 0) (.c J0)) (.L (.c J0) (.n 1000000)))) hw);nofun;have bf:=bh hW;refine iw (n:=ht) (λi st=>nG λh1 n s e l=>xb (st=⟨h1,[aa (.ref W),aa (.int w),aa (.int ht),aa (.int most),aa (.ref h.length),e,ae,ae]⟩) (Kp W h h1) (h1[W]?=aa (wd n s)) (0<=s) (h1[h.length]?=aa (.list l)) (l.length=i) (∀ y,y<i-> ∃ (a:Nat) (row:List PV),h.length<a/\l[y]?=aa (.ref a)/\h1[a]?=aa (.list row)/\row.length=w/\ ∀ x,x<w-> ∃ v,row[x]?=aa (.int v)/\0<=v/\v<=most)) rfl ?_ ?_ ?_
 .exact⟨_,n,s,_,[],rfl,Kp.app (Kp.refl _ _),aJ hW,hs,aM,rfl,λy hy=>absurd hy (dm _)⟩
 .rintro i _ K hK hi ⟨h1,n,s,e,l,rfl,K1,qI,j4,dX,eY,lD⟩
  nofun;refine qG (n:=w) (λj st acc=>ub λh2 n s e=>uc (st=⟨h2,[ae,e,ae,aa (.int most),aa (.ref W)]⟩) (Kp W h1 h2) (h2[W]?=aa (wd n s)) (0<=s) (acc.length=j) (∀ x,x<j-> ∃ v,acc[x]?=aa (.int v)/\0<=v/\v<=most)) rfl ?_ ?_ ?_
  .exact⟨_,n,s,ae,rfl,Kp.refl _ _,qI,j4,rfl,λx hx=>absurd hx (dm _)⟩
  .rintro j _ acc K X hK hX hj ⟨h2,n,s,e,rfl,K2,lE,n6,xJ,FU⟩
   nofun;refine qH lE ((cY [.an (.L (.n 0) Q0) (.T Q0 (.n 100000))] (.an (.T (.n 0) (.a Q0 (.n 1))) (.L (.a Q0 (.n 1)) (.n 1000000)))) hm) n6 λf n' s' ZJ FV eB=>?_;nofun;refine qH (aJ (bF lE)) (by decide) eB λf' n2 s2 Oh ZK ZL=>?_;have ZM:((h2.set W (wd n' s')++[aB.list [.int 0,.int most,.int f]]).set W (wd n2 s2))[(h2.set W (wd n' s')).length]?=aa (.list [.int 0,.int most,.int f]):=bj aM (by have:=bh lE;simp;exact cq this);obtain⟨v,hv,ZN,ZO⟩: ∃ v:Int,[PV.int 0,.int most,.int f][f'.toNat]?=aa (.int v)/\0<=v/\v<=most:=by
    obtain rfl|rfl|rfl:f'=0\/f'=1\/f'=2:=(cY [.L (.n 0) Q0,.T Q0 (.n 3)] (.o (.E Q0 (.n 0)) (.o (.E Q0 (.n 1)) (.E Q0 (.n 2))))) Oh ZK
    .exact⟨0,rfl,by exact bL 0 0 [] [] [] (.L (.n 0) (.n 0)),by exact(cY [.an (.L (.n 0) Q0) (.T Q0 (.n 100000))] (.L (.n 0) Q0)) hm⟩
    .exact⟨most,rfl,by exact(cY [.an (.L (.n 0) Q0) (.T Q0 (.n 100000))] (.L (.n 0) Q0)) hm,by exact cY [] (.L Q0 Q0)⟩
    .exact⟨f,rfl,by exact(cY [.L (.n 0) Q0] (.L (.n 0) Q0)) ZJ,by exact(mj [.T Q0 (.a Q1 (.n 1))] (.L Q0 Q1)) FV⟩
   refine bS ZM Oh hv ?_;refine hK ⟨_,n2,s2,_,rfl,(((K2.set).app).set),bF (aJ (bF lE)),ZL,by simp[xJ],λx hx=>?_⟩;rw[ph xJ hx]
   split
   .exact FU x (by assumption)
   .exact⟨v,rfl,ZN,ZO⟩
  .rintro _ acc ⟨h2,n,s,e,rfl,K2,lE,n6,xJ,FU⟩
   refine dW ((au [.l J0 (.n 1000),.e J1 J0] (.l J1 (.n 1000000))) hw xJ) ?_;have hR:=K2.get _ _ (dK bf) dX;have xK:=bh hR;dsimp only;have hz:l.length<1000000:=(az [.l J0 (.n 1000),.t J1 J0,.e J2 J1] (.t J2 (.n 1000000))) hh hi eY;nofun;refine hK (.inl rfl) ⟨_,n,s,_,l++[.ref h2.length],rfl,(K1.trans K2.app).A8 (aS _),bj (aJ lE) (dK bf),n6,bF (aJ hR),by simp[eY],λy hy=>?_⟩;rw[ph eY hy]
   split
   .obtain⟨a,row,a0,a1,a2,a3,a4⟩:=lD y (by assumption)
    exact⟨a,row,a0,a1,bj (aJ (K2.get _ _ ((az [.t J0 J1,.t J1 J2] (.no (.e J2 J0))) bf a0) a2)) (cq a0),a3,a4⟩
   .exact⟨_,acc,xK,rfl,bj aM (cq xK),xJ,FU⟩
 .rintro _ ⟨h1,n,s,e,l,rfl,K1,qI,j4,dX,eY,lD⟩
  nofun;refine j3 Zm (ZH aM ?_);nofun;have hk:=bh dX;obtain⟨V,hV,ZP⟩:=jG.of (P:=λv=>0<=v/\v<=most) eY dX (λy hy=>by obtain⟨a,row,_,b,c,d,e⟩:=lD y hy;exact⟨a,row,b,c,d,e⟩);have A9:h1.length≠W:=by have:=bh qI;exact dK this
  refine q _ h.length _ V n s ((K1.app).A8 (fY hk)) (bj (aJ qI) A9) j4 (bF aM) (hV.mono λk l e=>bj (aJ e) (by have:=bh e;exact dK this)) ZP
theorem ints_map: ∀ l:List Int,intsOf (l.map PV.int)=aa l
 |[]=>rfl
 |i::r=>by show(intsOf (r.map PV.int)).map (i:: ·)=_;rw[ints_map r];rfl
theorem Ba{n:Nat}{f:Nat->Int}:intsOf ((ar n).map λi=>PV.int (f i))=aa ((ar n).map f):=by rw[show((ar n).map λi=>PV.int (f i))=((ar n).map f).map PV.int by rw[cV];rfl];exact ints_map _
theorem Oi{g:Int->Int->Int}(hg:g 1 1=1): ∀ l:List Int,(∀ x∈l,x=1)->l.foldl g 1=1
 |[],_=>rfl
 |x::r,h=>by rw[Dw,h x (.head _),hg];exact Oi hg r λy hy=>h y (.tail _ hy)
theorem ZQ{k:Nat}{b:Bool}{s:Nat}{x y z w:PV}{h:PH}{Q:PV->PH->Prop}(hs:h[s]?=aa (.inst 3 []))(q:Q .none (h.set s (.inst 3 [(9,x),(10,y),(11,z),(12,w)]))):Wh ((run T (k+1) b).call 56 [.ref s,x,y,z,w]) h Q:=by refine bc (Ws _ _ _ _ _ _ _ _) ?_;nofun;simp only[jO];exact q
theorem ZR{k:Nat}{b:Bool}{s:Nat}{x1 x2 x3 x4 x5 x6:PV}{h:PH}{Q:PV->PH->Prop}(hs:h[s]?=aa (.inst 4 []))(q:Q .none (h.set s (.inst 4 [(2,x1),(13,x2),(14,x3),(15,x4),(16,x5),(17,x6)]))):Wh ((run T (k+1) b).call 57 [.ref s,x1,x2,x3,x4,x5,x6]) h Q:=by refine bc (Wt _ _ _ _ _ _ _ _ _ _) ?_;nofun;simp only[jO];exact q
theorem ZS{k:Nat}{b:Bool}{s:Nat}{x1 x2 x3 x4 x5 x6 x7:PV}{h:PH}{Q:PV->PH->Prop}(hs:h[s]?=aa (.inst 12 []))(q:Q .none (h.set s (.inst 12 [(36,x1),(19,x2),(20,x3),(21,x4),(22,x5),(23,x6),(24,x7)]))):Wh ((run T (k+1) b).call 83 [.ref s,x1,x2,x3,x4,x5,x6,x7]) h Q:=by refine bc (WZ _ _ _ _ _ _ _ _ _ _ _) ?_;nofun;simp only[jO];exact q
theorem ZT{k:Nat}{b:Bool}{s:Nat}{x1 x2 x3 x4 x5 x6 x7:PV}{h:PH}{Q:PV->PH->Prop}(hs:h[s]?=aa (.inst 5 []))(q:Q .none (h.set s (.inst 5 [(18,x1),(19,x2),(20,x3),(21,x4),(22,x5),(23,x6),(24,x7)]))):Wh ((run T (k+1) b).call 65 [.ref s,x1,x2,x3,x4,x5,x6,x7]) h Q:=by refine bc (WB _ _ _ _ _ _ _ _ _ _ _) ?_;nofun;simp only[jO];exact q
theorem ZU{k:Nat}{b:Bool}{s:Nat}{x1 x2 x3:PV}{h:PH}{Q:PV->PH->Prop}(hs:h[s]?=aa (.inst 10 []))(q:Q .none (h.set s (.inst 10 [(33,x1),(34,x2),(35,x3)]))):Wh ((run T (k+1) b).call 80 [.ref s,x1,x2,x3]) h Q:=by refine bc (WV _ _ _ _ _ _ _) ?_;nofun;simp only[jO];exact q
theorem ZV{k:Nat}{b:Bool}{s:Nat}{x1 x2:PV}{h:PH}{Q:PV->PH->Prop}(hs:h[s]?=aa (.inst 10 []))(q:Q .none (h.set s (.inst 10 [(33,x1),(34,x2),(35,.bytes [])]))):Wh ((run T (k+1) b).call 80 [.ref s,x1,x2]) h Q:=by refine bc (WW _ _ _ _ _ _) ?_;nofun;simp only[jO];exact q
theorem Bb{h:PH}{o o':aB}:(h++[o]).set h.length o'=h++[o']:=by simp
inductive dI (h:PH) (f m w ht:Nat) (p:Int) (kd:PV):Prop
 |mk (pos:0<m) (most:m<=4) (cl:Nat) (C:Nat->Nat) (s1:h[f]?=aa (.inst 4 [(2,kd),(13,.int p),(14,.int ht),(15,.int w),(16,.ref cl),(17,.int 1)])) (s2:h[cl]?=aa (.list ((ar m).map λi=> .ref (C i)))) (s3: ∀ i,i<m->h[C i]?=aa (.inst 3 [(9,.int (i+1:Nat)),(10,.int 1),(11,.int 1),(12,.int 0)])):dI h f m w ht p kd
theorem dI.pos{h:PH}{f m w ht:Nat}{p:Int}{kd:PV}(H:dI h f m w ht p kd):0<m:=by cases H;assumption
theorem dI.most{h:PH}{f m w ht:Nat}{p:Int}{kd:PV}(H:dI h f m w ht p kd):m<=4:=by cases H;assumption
theorem dI.mono{h h':PH}{f m w ht:Nat}{p:Int}{kd:PV}(F:dI h f m w ht p kd)(hp:h<+:h'):dI h' f m w ht p kd:=by obtain⟨a,a',cl,C,b,c,d⟩:=F;exact⟨a,a',cl,C,aI hp b,aI hp c,λi hi=>aI hp (d i hi)⟩
theorem Oj{m:Nat}(hm:0<m){l:List PV}(hl:l.length=m)(hv: ∀ j,j<m->l[j]?=aa (.int 1)): ∃ is,intsOf l=aa (1::is)/\is.foldl max 1=1:=by rw[mJ hl hv,Ba (f:=λzy=>1)];obtain⟨k,rfl⟩: ∃ k,m=k+1:=⟨m-1,by exact(au [.t Y0 J0,pB J1 J0 Y1] (.e J0 (.a J1 Y1))) hm (uB _ _)⟩;rw[v7];refine⟨_,rfl,Oi (by decide) _ λx hx=>(bX.mp hx).elim λzy w=>w.2.symm⟩
section
variable{k:Nat}{b:Bool}{f m w ht:Nat}{p:Int}{kd:PV}{h:PH}{Q:PV->PH->Prop}
theorem Ol(F:dI h f m w ht p kd)(q: ∀ h',h<+:h'->Q (.int 1) h'):Wh ((run T (k+1) b).call 58 [.ref f]) h Q:=by
 obtain⟨hm,cO,cl,C,f1,f2,f3⟩:=F;refine bc (Wu _ _ _ _) ?_;nofun;refine lC (xs:=(ar m).map λi=> .ref (C i)) (λj st acc=> ∃ e,jz (st=⟨h,[ae,e]⟩) (acc.length=j) (∀ x,x<j->acc[x]?=aa (.int 1))) f2 ⟨_,rfl,rfl,λx hx=>absurd hx (dm _)⟩ (λi st acc zz=>by obtain⟨e,h1,_⟩:=zz;rw[h1];exact f2) ?_ ?_
 .rintro j x _ acc K X hK hX hx ⟨e,rfl,h1,h2⟩
  have hj:j<m:=by simpa using(dF.mp hx).1
  rw[b0 hj] at hx;obtain rfl:=bD hx;have xM:=f3 j hj;nofun;refine hK ⟨_,rfl,by simp[h1],λx hx=>?_⟩;rw[ph h1 hx];split
  .exact h2 x (by assumption)
  .rfl
 .rintro _ acc ⟨e,rfl,h1,h2⟩
  rw[aX,fV] at h1 h2;obtain⟨is,i1,i2⟩:=Oj hm h1 h2;refine dW ((au [.l J0 (.n 4),.e J1 J0] (.l J1 (.n 1000000))) cO h1) ?_;dsimp only;nofun;refine N0 aM i1 ?_;rw[i2];nofun;exact q _ (bH _ _)
theorem Om(F:dI h f m w ht p kd)(q: ∀ h',h<+:h'->Q (.int 1) h'):Wh ((run T (k+1) b).call 59 [.ref f]) h Q:=by
 obtain⟨hm,cO,cl,C,f1,f2,f3⟩:=F;refine bc (Wv _ _ _ _) ?_;nofun;refine lC (xs:=(ar m).map λi=> .ref (C i)) (λj st acc=> ∃ e,jz (st=⟨h,[ae,e]⟩) (acc.length=j) (∀ x,x<j->acc[x]?=aa (.int 1))) f2 ⟨_,rfl,rfl,λx hx=>absurd hx (dm _)⟩ (λi st acc zz=>by obtain⟨e,h1,_⟩:=zz;rw[h1];exact f2) ?_ ?_
 .rintro j x _ acc K X hK hX hx ⟨e,rfl,h1,h2⟩
  have hj:j<m:=by simpa using(dF.mp hx).1
  rw[b0 hj] at hx;obtain rfl:=bD hx;have xM:=f3 j hj;nofun;refine hK ⟨_,rfl,by simp[h1],λx hx=>?_⟩;rw[ph h1 hx];split
  .exact h2 x (by assumption)
  .rfl
 .rintro _ acc ⟨e,rfl,h1,h2⟩
  rw[aX,fV] at h1 h2;obtain⟨is,i1,i2⟩:=Oj hm h1 h2;refine dW ((au [.l J0 (.n 4),.e J1 J0] (.l J1 (.n 1000000))) cO h1) ?_;dsimp only;nofun;refine N0 aM i1 ?_;rw[i2];nofun;exact q _ (bH _ _)
theorem aiV{x:Int}:(1:Int)*1=1:=rfl
theorem FW(F:dI h f m w ht p kd)(q: ∀ h',h<+:h'->Q (.int w) h'):Wh ((run T (k+2) b).call 60 [.ref f]) h Q:=by obtain⟨hm,cO,cl,C,f1,f2,f3⟩:=id F;refine bc (Ww _ _ _ _) ?_;nofun;refine Ol F λh1 p1=>?_;nofun;refine uI ?_;nofun;exact q _ p1
theorem Oo(F:dI h f m w ht p kd)(q: ∀ h',h<+:h'->Q (.int ht) h'):Wh ((run T (k+2) b).call 61 [.ref f]) h Q:=by obtain⟨hm,cO,cl,C,f1,f2,f3⟩:=id F;refine bc (Wx _ _ _ _) ?_;nofun;refine Om F λh1 p1=>?_;nofun;refine uI ?_;nofun;exact q _ p1
theorem ZW{i:Nat}(F:dI h f m w ht p kd)(hi:i<m)(q: ∀ h',h<+:h'->Q (.tup [.int w,.int ht]) h'):Wh ((run T (k+2) b).call 62 [.ref f,.int i]) h Q:=by obtain⟨hm,cO,cl,C,f1,f2,f3⟩:=id F;refine bc (Wy _ _ _ _ _) ?_;have xM:=f3 i hi;nofun;refine bS f2 (cR _) (b0 (by simpa using hi)) ?_;rw[bJ];nofun;refine Ol F λh1 p1=>?_;nofun;rw[v5];refine uI ?_;nofun;refine Om (F.mono p1) λh2 p2=>?_;nofun;rw[v5];refine uI ?_;nofun;exact q _ (p1.trans p2)
theorem Oq{i:Nat}(F:dI h f m w ht p kd)(hi:i<m)(q: ∀ h',h<+:h'->Q (.tup [.int w,.int ht]) h'):Wh ((run T (k+3) b).call 63 [.ref f,.int i]) h Q:=by obtain⟨hm,cO,cl,C,f1,f2,f3⟩:=id F;refine bc (Wz _ _ _ _ _) ?_;nofun;refine ZW F hi λh1 p1=>?_;nofun;refine uI ?_;nofun;refine uI ?_;nofun;exact q _ p1
theorem Ot{i:Nat}(F:dI h f m w ht p kd)(hi:i<m)(q: ∀ h',h<+:h'->Q (.tup [.int w,.int ht]) h'):Wh ((run T (k+3) b).call 64 [.ref f,.int i]) h Q:=by obtain⟨hm,cO,cl,C,f1,f2,f3⟩:=id F;refine bc (WA _ _ _ _ _) ?_;have xM:=f3 i hi;nofun;refine bS f2 (cR _) (b0 (by simpa using hi)) ?_;rw[bJ];nofun;refine FW F λh1 p1=>?_;nofun;refine Oo (F.mono p1) λh2 p2=>?_;nofun;rw[v5,v5];exact q _ (p1.trans p2)
end
inductive gu (h:PH) (sc m:Nat) (kd pt:Int):Prop
 |mk (pl dc ac:Nat) (s1:h[sc]?=aa (.inst 12 [(36,.ref pl),(19,.ref dc),(20,.ref ac),(21,.int kd),(22,.int 0),(23,.int 0),(24,.int pt)])) (s2:h[pl]?=aa (.list ((ar m).map λi=> .int (i:Nat)))) (s3:h[dc]?=aa (.list ((ar m).map λi=> .int (i:Nat)))) (s4:h[ac]?=aa (.list (cX m (.int 0)))):gu h sc m kd pt
theorem gu.kp{h h':PH}{sc m g:Nat}{kd pt:Int}{a:Nat}{b:List (Option PV)}{c:Option (List PV)}(S:gu h sc m kd pt)(K:Kp g h h')(hg:h[g]?=aa (.gen a b c)):gu h' sc m kd pt:=by obtain⟨pl,dc,ac,s1,s2,s3,s4⟩:=S;exact⟨pl,dc,ac,K.get _ _ (cy s1 hg rfl) s1,K.get _ _ (cy s2 hg rfl) s2,K.get _ _ (cy s3 hg rfl) s3,K.get _ _ (cy s4 hg rfl) s4⟩
theorem gu.mono{h h':PH}{sc m:Nat}{kd pt:Int}(S:gu h sc m kd pt)(p:h<+:h'):gu h' sc m kd pt:=by obtain⟨pl,dc,ac,s1,s2,s3,s4⟩:=S;exact⟨pl,dc,ac,aI p s1,aI p s2,aI p s3,aI p s4⟩
theorem dI.kp(F:dI h f m w ht p kd)(K:Kp g h h')(hg:h[g]?=aa (.gen a b c)):dI h' f m w ht p kd:=by obtain⟨hm,cO,cl,C,f1,f2,f3⟩:=F;exact⟨hm,cO,cl,C,K.get _ _ (cy f1 hg rfl) f1,K.get _ _ (cy f2 hg rfl) f2,λi hi=>K.get _ _ (cy (f3 i hi) hg rfl) (f3 i hi)⟩
section
variable{k:Nat}{b:Bool}{f m w ht sc:Nat}{p kd pt:Int}{kk:PV}{h:PH}{Q:PV->PH->Prop}
theorem FX(S:gu h sc m kd pt)(q:Q (.bool (decide ((m:Int)=1))) h):Wh ((run T (k+1) b).call 84 [.ref sc]) h Q:=by obtain⟨pl,dc,ac,s1,s2,s3,s4⟩:=S;refine bc (W3 _ _ _ _) ?_;rw[show(m:Int)=((ar m).map λi=>PV.int (i:Nat)).length by simp] at q;nofun
theorem Ou(F:dI h f m w ht p kk)(S:gu h sc m kd pt)(q: ∀ h',h<+:h'->Q (.int w) h'):Wh ((run T (k+4) b).call 22 [.ref f,.ref sc]) h Q:=by
 obtain⟨hm,cO,cl,C,f1,f2,f3⟩:=id F;obtain⟨pl,dc,ac,s1,s2,s3,s4⟩:=id S;refine bc (VP _ _ _ _ _) ?_;nofun;refine FX S ?_;nofun;refine fF (λhp=>?_) λhp=>?_
 .nofun
  refine bS s2 (by decide) (b0 (by show 0<m;exact(aw [.E (.c J0) (.n 1)] (.t Y0 J0)) hp)) ?_;nofun;refine Oq F (i:=0) ((aw [.E (.c J0) (.n 1)] (.t Y0 J0)) hp) λh1 p1=>?_;nofun;exact q _ p1
 .nofun
  refine FW F λh1 p1=>?_;nofun;exact q _ p1
theorem ZX(F:dI h f m w ht p kk)(S:gu h sc m kd pt)(hw:w<=1000)(q: ∀ h',h<+:h'->Q (.int (w*ht:Nat)) h'):Wh ((run T (k+4) b).call 23 [.ref f,.ref sc]) h Q:=by
 obtain⟨hm,cO,cl,C,f1,f2,f3⟩:=id F;obtain⟨pl,dc,ac,s1,s2,s3,s4⟩:=id S;refine bc (VQ _ _ _ _ _) ?_;have g:(bT (w:Int)||bT (ht:Int))=ag:=by rw[show bT (w:Int)=ag by unfold bT;rw[decide_eq_true_eq];exact(au [.l J0 (.n 1000),pA J1 (.c J0)] (.t J1 (.n 18446744073709551616))) hw (uA _)];rfl
 rw[JP] at q;nofun;refine FX S ?_;nofun;refine fF (λhp=>?_) λhp=>?_
 .nofun
  refine bS s2 (by decide) (b0 (by show 0<m;exact(aw [.E (.c J0) (.n 1)] (.t Y0 J0)) hp)) ?_;nofun;refine Oq F (i:=0) ((aw [.E (.c J0) (.n 1)] (.t Y0 J0)) hp) λh1 p1=>?_;nofun;exact q _ p1
 .nofun
  refine FW F λh1 p1=>?_;nofun;refine Oo (F.mono p1) λh2 p2=>?_;nofun;exact q _ (p1.trans p2)
noncomputable def qJ (m:Nat) (x y:Int):List PV:=(ar m).map λi=> .tup [.int (i:Nat),.int (i:Nat),.int x,.int y]
theorem ZY(F:dI h f m w ht p kk)(S:gu h sc m kd pt)(q: ∀ h' u,h<+:h'->h.length<=u->h'[u]?=aa (.list (qJ m x y))->Q (.ref u) h'):Wh ((run T (k+2) b).call 24 [.ref f,.ref sc,.int x,.int y]) h Q:=by
 obtain⟨hm,cO,cl,C,f1,f2,f3⟩:=id F;obtain⟨pl,dc,ac,s1,s2,s3,s4⟩:=id S;refine bc (VS _ _ _ _ _ _ _) ?_;nofun;refine FX S ?_;nofun;refine fF (λhp=>?_) λhp=>?_
 .nofun
  refine bS s2 (by decide) (b0 (by show 0<m;exact(aw [.E (.c J0) (.n 1)] (.t Y0 J0)) hp)) ?_;nofun;obtain rfl:m=1:=(aw [.E (.c J0) (.n 1)] (.e J0 Y1)) hp;exact q _ _ (bH _ _) (aS _) aM
 .nofun
  have g:d7 0 (((ar m).map λi=>PV.int (i:Nat)).length:Int) 1=ag:=by simp;exact gK ((aw [.t Y0 J0,.l J0 (.n 4),.no (.E (.c J0) (.n 1))] (.an (.L (.n 0) (.c J0)) (.L (.c J0) (.n 1000000)))) hm cO hp)
  nofun;refine iw (n:=m) (λi st=>xa λh1 e1 e2 e3 e4 e5 l=>nH (st=⟨h1,[aa (.ref f),aa (.ref sc),aa (.int x),aa (.int y),aa (.ref h.length),e1,e2,e3,e4,e5,ae,ae]⟩) (h<+:h1) (h1[h.length]?=aa (.list l)) (l.length=i) (∀ j,j<i->l[j]?=aa (.tup [.int (j:Nat),.int (j:Nat),.int x,.int y]))) (by simp) ?_ ?_ ?_
  .exact⟨_,_,_,_,_,_,[],rfl,bH _ _,aM,rfl,λj hj=>absurd hj (dm _)⟩
  .rintro i _ K hK hi ⟨h1,e1,e2,e3,e4,e5,l,rfl,p1,l1,l2,l3⟩
   have xM:=f3 i hi;nofun;refine bS (aI p1 s2) (cR _) (b0 (by simpa using hi)) ?_;rw[bJ];refine bS (aI p1 f2) (cR _) (b0 (by simpa using hi)) ?_;rw[bJ];nofun;refine iw (n:=1) (λj st=>nG λh2 e3 e4 e5 l'=>jX (st=⟨h2,[aa (.ref f),aa (.ref sc),aa (.int x),aa (.int y),aa (.ref h.length),aa (.int i),aa (.ref (C i)),e3,e4,e5,ae,ae]⟩) (h<+:h2) (h2[h.length]?=aa (.list l')) (l'=if j=0 then l else l++[.tup [.int (i:Nat),.int (i:Nat),.int x,.int y]])) rfl ?_ ?_ ?_
   .exact⟨h1,_,_,_,l,rfl,p1,l1,rfl⟩
   .rintro j _ K hK hj ⟨h2,e3,e4,e5,l',rfl,p2,l4,l5⟩
    obtain rfl:j=0:=(aw [.t J0 Y1] (.e J0 Y0)) hj;rw[if_pos rfl] at l5;rw[l5] at l4;clear l5;nofun;refine iw (n:=1) (λj st=>ub λh2 e4 e5 l'=>jX (st=⟨h2,[aa (.ref f),aa (.ref sc),aa (.int x),aa (.int y),aa (.ref h.length),aa (.int i),aa (.ref (C i)),aa (.int ((0:Nat):Int)),e4,e5,ae,ae]⟩) (h<+:h2) (h2[h.length]?=aa (.list l')) (l'=if j=0 then l else l++[.tup [.int (i:Nat),.int (i:Nat),.int x,.int y]])) rfl ?_ ?_ ?_
    .exact⟨h2,_,_,l,rfl,p2,l4,rfl⟩
    .rintro j _ K hK hj ⟨h3,e4,e5,l',rfl,p3,l6,l5⟩
     obtain rfl:j=0:=(aw [.t J0 Y1] (.e J0 Y0)) hj;rw[if_pos rfl] at l5;rw[l5] at l6;clear l5;have hz:l.length<1000000:=(az [.l J0 (.n 4),.t J1 J0,.e J2 J1] (.t J2 (.n 1000000))) cO hi l2;nofun;refine bS (aI p3 s2) (cR _) (b0 (by simpa using hi)) ?_;rw[bJ];nofun;refine hK (.inl rfl) ⟨_,_,_,_,rfl,eX p3 (aS _),bF l6,?_⟩;simp
    .rintro _ ⟨h3,e4,e5,l',rfl,p3,l6,l5⟩
     nofun;exact hK (.inl rfl) ⟨_,_,_,_,_,rfl,p3,l6,l5⟩
   .rintro _ ⟨h3,e3,e4,e5,l',rfl,p3,l6,l5⟩
    rw[if_neg (by decide)] at l5;rw[l5] at l6;clear l5;nofun;refine hK (.inl rfl) ⟨_,_,_,_,_,_,_,rfl,p3,l6,by simp[l2],λj hj=>?_⟩;rw[ph l2 hj];split
    .exact l3 j (by assumption)
    .obtain rfl:j=i:=(au [.t J0 (.a J1 Y1),.no (.t J0 J1)] (.e J0 J1)) hj ‹_›
     rfl
  .rintro _ ⟨h1,e1,e2,e3,e4,e5,l,rfl,p1,l1,l2,l3⟩
   nofun;refine q _ _ p1 (aS _) (l1.trans ?_);rw[mJ l2 l3];rfl
end
noncomputable def ZZ (f sc:Nat) (w:Int) (i:Nat):List (Option PV):=[aa (.ref f),aa (.ref sc),aa (.int w),aa (.int i),ae,ae,ae,ae]
def GenAt(h:PH)(g f sc w N i:Nat):Prop:=(i=0/\h[g]?=aa (.gen 25 [aa (.ref f),aa (.ref sc),ae,ae,ae,ae,ae,ae] ae))\/ ∃ j,i=j+1/\h[g]?=aa (.gen 25 (ZZ f sc w j) (aa (((ar N).map λi=>PV.int (i:Nat)).drop i)))
theorem Ov{n:Nat}{b:Bool}{f sc:Nat}{h:PH}{Q:PV->PH->Prop}(q:Q (.ref h.length) (h++[.gen 25 [aa (.ref f),aa (.ref sc),ae,ae,ae,ae,ae,ae] ae])):(run T (n+1) b).call 25 [.ref f,.ref sc] h Q:=bc (VT _ _ _ _ _) q
section
variable{k n:Nat}{b:Bool}{f m w ht sc g N i:Nat}{p kd pt:Int}{kk:PV}{h:PH}{Q:Option PV->PH->Prop}
theorem Ow(hg:h[g]?=aa (.gen 25 [] ae))(F:dI h f m w ht p kk)(S:gu h sc m kd pt)(hw:0<w/\w<=1000)(hi:i<N)
  (q: ∀ h' u,Kp g h h'->h'[u]?=aa (.list (qJ m ((i%w:Nat):Int) ((i/w:Nat):Int)))->u≠g->h.length<=u->GenAt h' g f sc w N (i+1)->Q (aa (.ref u)) h'):
  nW (.one 3) AX (run T (k+2) b) 25 g [aa (.ref f),aa (.ref sc),aa (.int w),v3,ae,ae,ae,ae] (((ar N).map λi=>PV.int (i:Nat)).drop i) h Q:=by
 have hd:((ar N).map λi=>PV.int (i:Nat)).drop i= .int i::((ar N).map λi=>PV.int (i:Nat)).drop (i+1):=by rw[JT (by simpa using hi)];simp
 rw[hd];have gm:=Oe (m:=w) ((aw [.an (.t Y0 J0) (.l J0 (.n 1000))] (.an (.T (.n 0) (.c J0)) (.L (.c J0) (.n 1000000)))) hw);nofun;refine ZY F S λh' u p1 lF hu=>?_;have uK:u≠g:=cy hu (aI p1 hg) rfl;rw[tw _ ((aw [.an (.t Y0 J0) (.l J0 (.n 1000))] (.L (.n 0) (.c J0))) hw),zt _ ((aw [.an (.t Y0 J0) (.l J0 (.n 1000))] (.L (.n 0) (.c J0))) hw)] at hu;refine q _ u ((Kp.pre p1).set) (bj hu (eI uK)) uK lF (.inr ⟨i,rfl,?_⟩);exact bF (aI p1 hg)
theorem Z0(hn:k+6=n)(F:dI h f m w ht p kk)(S:gu h sc m kd pt)(hw:0<w/\w<=1000)(hh:ht<=1000)(hN:N=w*ht)(G:GenAt h g f sc w N i)(hi:i<N)
  (q: ∀ h' u,Kp g h h'->h'[u]?=aa (.list (qJ m ((i%w:Nat):Int) ((i/w:Nat):Int)))->u≠g->h.length<=u->GenAt h' g f sc w N (i+1)->Q (aa (.ref u)) h'):(run T n b).step g h Q:=by
 subst hn;have K0: ∀ {l r},h[g]?=aa (.gen 25 l r)->Kp g h (h.set g (.gen 25 [] ae)):=λzy=>Kp.set (Kp.refl _ _);rcases G with⟨rfl,hg⟩|⟨j,rfl,hg⟩
 .have F0:=F.kp (K0 hg) hg
  have S0:=S.kp (K0 hg) hg;refine FJ hg (VU _ _ _ _ _) ?_;nofun;refine Ou F0 S0 λh1 p1=>?_;nofun;refine ZX (F0.mono p1) (S0.mono p1) hw.2 λh2 p2=>?_;refine FE (gK (by have:=DK hw.2 hh;exact(aw [.l J0 (.n 1000000)] (.an (.L (.n 0) (.c J0)) (.L (.c J0) (.n 1000000)))) this)) ?_;have hp:=p1.trans p2;rw[<- hN];nofun;rw[pg];exact Ow (b:=ak) (k:=k+3) (i:=0) (aI hp (bF hg)) (F0.mono hp) (S0.mono hp) hw hi λh' u K' e1 e2 e4 e3=>q h' u (((K0 hg).trans (Kp.pre hp)).trans K') e1 e2 (by have:=((K0 hg).trans (Kp.pre hp)).len;exact cG this e4) e3
 .exact FJ hg (NH _ _ _ _ _ _) (Ow (b:=ak) (k:=k+3) (i:=j+1) (v3:=aa (.int j)) (bF hg) (F.kp (K0 hg) hg) (S.kp (K0 hg) hg) hw hi λh' u K' e1 e2 e4 e3=>q h' u ((K0 hg).trans K') e1 e2 (by have:=(K0 hg).len;exact cG this e4) e3)
theorem Z1(hN:0<N)(G:GenAt h g f sc w N N)(q: ∀ h',Kp g h h'->Q ae h'):(run T (n+1) b).step g h Q:=by
 rcases G with⟨rfl,hg⟩|⟨j,hj,hg⟩
 .exact((bL 0 0 [] [] [.t Y0 Y0] .ff) hN).elim
 .refine FJ hg (NH _ _ _ _ _ _) ?_
  rw[List.drop_eq_nil_of_le (by simp)];exact q _ (Kp.set (Kp.set (Kp.refl g h)))
end
theorem set_range{α:Type}{n x:Nat}{f:Nat->α}{v:α}:((ar n).map f).set x v=(ar n).map λi=>if i=x then v else f i:=by
 refine mJ (by simp) λj hj=>?_;rw[wb]
 split
 .rename_i e;subst e;rw[if_pos (by simpa using hj),if_pos rfl]
 .rename_i e;rw[if_neg (λq=>e q.symm),b0 hj]
structure SW (lo:Nat) (h:PH) (s m w ht r:Nat) (P:Nat->Nat) (R:Nat->Nat->Nat) (V:Nat->Nat->Nat->Int):Prop where
 obj:h[s]?=aa (.inst 1 [(5,.ref r)])
 Ox:h[r]?=aa (.list ((ar m).map λp=> .ref (P p)))
 rws: ∀ p,p<m->h[P p]?=aa (.list ((ar ht).map λy=> .ref (R p y)))
 row: ∀ p y,p<m->y<ht->h[R p y]?=aa (.list ((ar w).map λx=> .int (V p y x)))
 low: ∀ p y,p<m->y<ht->lo<=R p y
 inj: ∀ p y p' y',p<m->y<ht->p'<m->y'<ht->R p y=R p' y'->p=p'/\y=y'
 Z3: ∀ p y,p<m->y<ht->R p y≠r
 Z4: ∀ p y p',p<m->y<ht->p'<m->R p y≠P p'
inductive j5 (h:PH) (s m w ht:Nat) (V:Nat->Nat->Nat->Int):Prop
 |mk (r:Nat) (P:Nat->Nat) (R:Nat->Nat->Nat) (s1:h[s]?=aa (.inst 1 [(5,.ref r)])) (s2:h[r]?=aa (.list ((ar m).map λp=> .ref (P p)))) (s3:(∀ p,p<m->h[P p]?=aa (.list ((ar ht).map λy=> .ref (R p y))))) (s4: ∀ p y,p<m->y<ht->h[R p y]?=aa (.list ((ar w).map λx=> .int (V p y x)))):j5 h s m w ht V
theorem j5.mono{h h':PH}{s m w ht:Nat}{V:Nat->Nat->Nat->Int}(S:j5 h s m w ht V)(hp:h<+:h'):j5 h' s m w ht V:=by obtain⟨r,P,R,a,b,c,d⟩:=S;exact⟨r,P,R,aI hp a,aI hp b,λp x=>aI hp (c p x),λp y x z=>aI hp (d p y x z)⟩
theorem SW.mono{lo s m w ht r:Nat}{P:Nat->Nat}{R:Nat->Nat->Nat}{V:Nat->Nat->Nat->Int}{h h':PH}(S:SW lo h s m w ht r P R V)(hp:h<+:h'):SW lo h' s m w ht r P R V:=⟨aI hp S.obj,aI hp S.Ox,λp x=>aI hp (S.rws p x),λp y x z=>aI hp (S.row p y x z),S.low,S.inj,S.Z3,S.Z4⟩
section
variable{k n:Nat}{b:Bool}{m w ht lo s r p x y:Nat}{P:Nat->Nat}{R:Nat->Nat->Nat}{V:Nat->Nat->Nat->Int}{h:PH}{Q:PV->PH->Prop}
theorem xN(S:j5 h s m w ht V)(hp:p<m)(hy:y<ht)(hx:x<w){ip ix iy:Int}(ep:ip=p)(ex:ix=x)(ey:iy=y)(q:Q (.int (V p y x)) h):Wh ((run T (k+1) b).call 50 [.ref s,.int ip,.int ix,.int iy]) h Q:=by subst ep;subst ex;subst ey;obtain⟨r,P,R,a,b',c,d⟩:=S;refine bc (Wl _ _ _ _ _ _ _) ?_;nofun;refine bS b' (cR _) (b0 (by simpa using hp)) ?_;rw[bJ];nofun;refine bS (c p hp) (cR _) (b0 (by simpa using hy)) ?_;rw[bJ];nofun;refine bS (d p y hp hy) (cR _) (b0 (by simpa using hx)) ?_;rw[bJ];nofun
theorem Z5(S:SW lo h s m w ht r P R V)(hp:p<m)(hy:y<ht)(hx:x<w)
  (q: ∀ o,SW lo (h.set (R p y) o) s m w ht r P R (λp' y' x'=>if p'=p/\y'=y/\x'=x then v else V p' y' x')->Q .none (h.set (R p y) o)):Wh ((run T (k+1) b).call 51 [.ref s,.int (p:Nat),.int (x:Nat),.int (y:Nat),.int v]) h Q:=by
 obtain⟨a,b',c,d,e,g,o1,o2⟩:=S;refine bc (Wm _ _ _ _ _ _ _ _) ?_;nofun;refine bS b' (cR _) (b0 (by simpa using hp)) ?_;rw[bJ];nofun;refine bS (c p hp) (cR _) (b0 (by simpa using hy)) ?_;rw[bJ];nofun;refine NT (d p y hp hy) (cR _) (by simpa using hx) ?_;rw[bJ,set_range];nofun;have hr:=d p y hp hy;refine q _ ⟨bj a (cy hr a rfl),bj b' (o1 p y hp hy),λp' gL=>bj (c p' gL) (o2 p y p' hp hy gL),λp' y' gL iz=>?_,e,g,o1,o2⟩;by_cases he:R p y=R p' y'
 .obtain⟨rfl,rfl⟩:=g p y p' y' hp hy gL iz he
  refine(bF hr).trans ?_;congr 2;refine gF λz zy=>?_;by_cases hz:z=x <;> simp[hz]
 .refine(bj (d p' y' gL iz) he).trans ?_
  congr 2;refine gF λz zy=>?_;rw[if_neg];rintro⟨rfl,rfl,-⟩;exact he rfl
theorem Z6{u r:Nat}{V:Nat->Nat->Int}(hu:h[u]?=aa (.inst 11 [(15,.int w),(14,.int ht),(5,.ref r)]))(G:jG h r ht w V)(hy:y<ht)(hx:x<w)(q:Q (.int (V y x)) h):Wh ((run T (k+2) b).call 82 [.ref u,.int (x:Nat),.int (y:Nat)]) h Q:=by obtain⟨R,g1,g2⟩:=G;refine bc (WY _ _ _ _ _ _) ?_;nofun;refine Oc ((au [.t J0 J1] (.an (.L (.n 0) (.c J0)) (.T (.c J0) (.c J1)))) hy) ?_;nofun;refine bS g1 (cR _) (b0 (by simpa using hy)) ?_;rw[bJ];nofun;refine Oc ((au [.t J0 J1] (.an (.L (.n 0) (.c J0)) (.T (.c J0) (.c J1)))) hx) ?_;nofun;refine bS (g2 y hy) (cR _) (b0 (by simpa using hx)) ?_;rw[bJ];nofun
theorem Z7{z:Nat}(hs:h[s]?=aa (.inst 1 []))(hz:h[z]?=aa (.list ((ar m).map λzy=> .tup [.int w,.int ht])))(hm:m<=1000)(hw:w<=1000)(hh:ht<=1000)(jc:lo<=h.length)
  (q: ∀ h' o r P R,h<+:h'->SW lo (h'.set s o) s m w ht r P R (λzy zy zy=>0)->Q .none (h'.set s o)):Wh ((run T (k+1) b).call 49 [.ref s,.ref z]) h Q:=by
 refine bc (Wk _ _ _ _ _) ?_;nofun;have gh:d7 0 (ht:Int) 1=ag:=gK ((aw [.l J0 (.n 1000)] (.an (.L (.n 0) (.c J0)) (.L (.c J0) (.n 1000000)))) hh);refine lC (xs:=(ar m).map λzy=> .tup [.int w,.int ht]) (λi st acc=>nG λ(h1:PH) (e1 e2:Option PV) (P:Nat->Nat) (R:Nat->Nat->Nat)=>uc (st=⟨h1,[ae,e1,e2,ae]⟩) (h<+:h1) (acc.length=i) ((∀ p,p<i->acc[p]?=aa (.ref (P p))/\h1[P p]?=aa (.list ((ar ht).map λy=> .ref (R p y)))/\ ∀ y,y<ht->h1[R p y]?=aa (.list ((ar w).map λx=> .int 0))/\h.length<=R p y)) ((∀ p y p' y',p<i->y<ht->p'<i->y'<ht->R p y=R p' y'->p=p'/\y=y')) (∀ p y p',p<i->y<ht->p'<i->R p y≠P p')) hz ?_ ?_ ?_ ?_
 .exact⟨h,ae,ae,λzy=>0,λzy zy=>0,rfl,fg,rfl,λp hp=>absurd hp (dm _),λp zy zy zy hp=>absurd hp (dm _),λp zy zy hp=>absurd hp (dm _)⟩
 .rintro i _ acc ⟨h1,e1,e2,P,R,rfl,p1,_⟩
  exact aI p1 hz
 .rintro i v _ acc K X hK hX hv ⟨h1,e1,e2,P,R,rfl,p1,l1,l2,l3,l4⟩
  have hi:i<m:=by simpa using(dF.mp hv).1
  rw[b0 hi] at hv;obtain rfl:=bD hv;nofun;refine qG (n:=ht) (λj st j6=>jW λ(h2:PH) (e:Option PV) (A:Nat->Nat)=>nH (st=⟨h2,[ae,e,aa (.int w)]⟩) (h1<+:h2) (j6.length=j) ((∀ y,y<j->j6[y]?=aa (.ref (A y))/\h2[A y]?=aa (.list ((ar w).map λx=> .int 0))/\h1.length<=A y)) (∀ y y',y<j->y'<j->A y=A y'->y=y')) rfl ?_ ?_ ?_
  .exact⟨h1,ae,λzy=>0,rfl,fg,rfl,λy hy=>absurd hy (dm _),λy zy hy=>absurd hy (dm _)⟩
  .rintro j _ j6 K X hK hX hj ⟨h2,e,A,rfl,p2,a1,a2,a3⟩
   nofun;refine Fy aM (aw [] (.L (.n (-1000000)) (.c J0))) ((aw [.l J0 (.n 1000)] (.L (.c J0) (.n 1000000))) hw) ?_;have d8: ∀ y,y<j->A y<(h2++[aB.list [PV.int 0]]).length:=λy hy=>by have:=bh (a2 y hy).2.1;simp;exact rC this
   refine hK ⟨_,_,λy=>if y=j then(h2++[aB.list [PV.int 0]]).length else A y,rfl,pre_app (pre_app p2),by simp[a1],λy hy=>?_,λy y' hy iz e=>?_⟩
   .dsimp only
    rw[ph a1 hy];by_cases si:y=j
    .subst si
     rw[if_neg (iK _),if_pos rfl];refine⟨rfl,aM.trans ?_,by have:=p2.length_le;simp;exact nq this⟩;rw[bJ,mJ (f:=λzy=>PV.int 0) (tB (n:=w)) λj hj=>by rw[zD,if_pos hj]]
    .rw[if_pos (dH (d0 hy) si),if_neg si]
     obtain⟨b1,b2,b3⟩:=a2 y (dH (d0 hy) si);exact⟨b1,aJ (aJ b2),b3⟩
   .dsimp only at e
    split at e <;> split at e
    .exact(az [.e J0 J1,.e J2 J1] (.e J0 J2)) ‹_› ‹_›
    .have:=d8 y' (dH (d0 iz) ‹_›);exact(aQ [.e J0 J1,.t J1 J0] (.e J2 J3)) e this
    .have:=d8 y (dH (d0 hy) ‹_›);exact(aQ [.e J0 J1,.t J0 J1] (.e J2 J3)) e this
    .exact a3 y y' (dH (d0 hy) ‹_›) (dH (d0 iz) ‹_›) e
  .rintro _ j6 ⟨h2,e,A,rfl,p2,a1,a2,a3⟩
   refine dW ((au [.l J0 (.n 1000),.e J1 J0] (.l J1 (.n 1000000))) hh a1) ?_;dsimp only;have Z8: ∀ y,y<ht->A y<h2.length:=λy hy=>bh (a2 y hy).2.1;have Z9:=p2.length_le;have hR: ∀ p y,p<i->y<ht->R p y<h1.length:=λp y hp hy=>bh ((l2 p hp).2.2 y hy).1;have hP: ∀ p,p<i->P p<h1.length:=λp hp=>bh (l2 p hp).2.1;have FY:=p1.length_le;refine hK ⟨_,_,_,λp=>if p=i then h2.length else P p,λp y=>if p=i then A y else R p y,rfl,pre_app (p1.trans p2),by simp[l1],λp hp=>?_,λp y p' y' hp hy gL iz e=>?_,λp y p' hp hy gL=>?_⟩
   .dsimp only
    rw[ph l1 hp];by_cases pj:p=i
    .subst pj
     rw[if_neg (iK _),if_pos rfl];refine⟨rfl,aM.trans ?_,λy hy=>?_⟩
     .rw[mJ a1 λy hy=>(a2 y hy).1];simp
     .rw[if_pos rfl]
      exact⟨aJ (a2 y hy).2.1,by have:=(a2 y hy).2.2;exact cG FY this⟩
    .rw[if_pos (dH (d0 hp) pj),if_neg pj]
     obtain⟨b1,b2,b3⟩:=l2 p (dH (d0 hp) pj);refine⟨b1,(aJ (aI p2 b2)).trans ?_,λy hy=>?_⟩
     .simp[pj]
     .rw[if_neg pj]
      exact⟨aJ (aI p2 (b3 y hy).1),(b3 y hy).2⟩
   .dsimp only at e
    split at e <;> split at e
    .rename_i c1 c2
     exact⟨by exact(az [.e J0 J1,.e J2 J1] (.e J0 J2)) c1 c2,a3 y y' hy iz e⟩
    .have:=(a2 y hy).2.2;have:=hR p' y' (dH (d0 gL) ‹_›) iz;exact(kq [.e J0 J1,.t J1 J2,.l J2 J0] (.an (.e J3 J4) (.e J5 J6))) e this ‹_›
    .have:=(a2 y' iz).2.2;have:=hR p y (dH (d0 hp) ‹_›) hy;exact(kq [.e J0 J1,.t J0 J2,.l J2 J1] (.an (.e J3 J4) (.e J5 J6))) e this ‹_›
    .exact l3 p y p' y' (dH (d0 hp) ‹_›) hy (dH (d0 gL) ‹_›) iz e
   .dsimp only
    split <;> split
    .have:=Z8 y hy;exact cq this
    .have:=(a2 y hy).2.2;have:=hP p' (dH (d0 gL) ‹_›);exact dK (dj this ‹_›)
    .have:=hR p y (dH (d0 hp) ‹_›) hy;exact cq (dj this Z9)
    .exact l4 p y p' (dH (d0 hp) ‹_›) hy (dH (d0 gL) ‹_›)
 .rintro _ acc ⟨h1,e1,e2,P,R,rfl,p1,l1,l2,l3,l4⟩
  simp only[aX,fV] at l1 l2 l3 l4;refine dW ((au [.l J0 (.n 1000),.e J1 J0] (.l J1 (.n 1000000))) hm l1) ?_;dsimp only;nofun;have j4:=bh (aI p1 hs);have hR: ∀ p y,p<m->y<ht->R p y<h1.length:=λp y hp hy=>bh ((l2 p hp).2.2 y hy).1;refine q _ _ h1.length P R (pre_app p1) ⟨bF (aJ (aI p1 hs)),?_,λp hp=>?_,λp y hp hy=>?_,λp y hp hy=>by have:=((l2 p hp).2.2 y hy).2;exact cG jc this,l3,λp y hp hy=>cq (hR p y hp hy),l4⟩
  .rw[bj aM (cq j4),mJ l1 λp hp=>(l2 p hp).1]
  .exact bj (aJ (l2 p hp).2.1) (cy (aI p1 hs) (l2 p hp).2.1 rfl)
  .exact bj (aJ ((l2 p hp).2.2 y hy).1) (cy (aI p1 hs) ((l2 p hp).2.2 y hy).1 rfl)
end
inductive Oy (h:PH) (u ht w:Nat) (V:Nat->Nat->Int):Prop
 |mk (r:Nat) (s1:h[u]?=aa (.inst 11 [(15,.int w),(14,.int ht),(5,.ref r)])) (s2:jG h r ht w V):Oy h u ht w V
inductive qK (h:PH) (pl m w ht:Nat) (V:Nat->Nat->Nat->Int):Prop
 |mk (U:Nat->Nat) (s1:h[pl]?=aa (.list ((ar m).map λp=> .ref (U p)))) (s2: ∀ p,p<m->Oy h (U p) ht w (V p)):qK h pl m w ht V
theorem qK.mono{h h':PH}{pl m w ht:Nat}{V:Nat->Nat->Nat->Int}(A:qK h pl m w ht V)(hp:h<+:h'):qK h' pl m w ht V:=by obtain⟨U,a,b⟩:=A;exact⟨U,aI hp a,λp x=>by obtain⟨r,c,d⟩:=b p x;exact⟨r,aI hp c,d.mono λk l e=>aI hp e⟩⟩
section
variable{k:Nat}{b:Bool}{f m w ht pl:Nat}{pr pt:Int}{kk:PV}{h:PH}{V:Nat->Nat->Nat->Int}{Q:PV->PH->Prop}
theorem aaa(F:dI h f m w ht pr kk)(A:qK h pl m w ht V)(hw:w<=1000)(hh:ht<=1000)(fq:eC pt=ag)(q: ∀ h' s,h<+:h'->j5 h' s m w ht (λp y x=>(V p y x).fdiv (2^pt.toNat))->Q (.ref s) h'):
  Wh ((run T (k+4) b).call 5 [.ref f,.ref pl,.int pt]) h Q:=by
 obtain⟨U,a1,a2⟩:=id A;have hm:=F.most;have Oz:=F.pos;refine bc (c5 _ _ _ _ _ _) ?_;have gm:d7 0 (((ar m).map λp=>PV.ref (U p)).length:Int) 1=ag:=by simp;exact gK ((aw [.l J0 (.n 4),.t Y0 J0] (.an (.L (.n 0) (.c J0)) (.L (.c J0) (.n 1000000)))) hm Oz)
 nofun;obtain⟨Oz,cO,cl,C,f1,f2,f3⟩:=id F;refine qG (n:=m) (λi st acc=>iR λ(h1:PH) (e:Option PV)=>jX (st=⟨h1,[ae,e,aa (.ref f)]⟩) (h<+:h1) (acc.length=i) (∀ j,j<i->acc[j]?=aa (.tup [.int w,.int ht]))) (by simp) ⟨h,ae,rfl,fg,rfl,λj hj=>absurd hj (dm _)⟩ ?_ ?_
 .rintro i _ acc K X hK hX hi ⟨h1,e,rfl,p1,l1,l2⟩
  nofun;refine Ot (F.mono p1) hi λh2 p2=>?_;refine hK ⟨h2,_,rfl,p1.trans p2,by simp[l1],λj hj=>?_⟩;rw[ph l1 hj];split
  .exact l2 j (by assumption)
  .rfl
 .rintro _ acc ⟨h1,e,rfl,p1,l1,l2⟩
  refine dW ((au [.l J0 (.n 4),.e J1 J0] (.l J1 (.n 1000000))) hm l1) ?_;dsimp only;nofun;refine j3 Zd (Z7 (lo:=h.length) (w:=w) (ht:=ht) (m:=m) (aM) (aJ (aM.trans (by rw[mJ l1 l2]))) ((aw [.l J0 (.n 4)] (.l J0 (.n 1000))) hm) hw hh (by have:=p1.length_le;simp;exact(au [.l J0 J1] (.l J0 (.a J1 Y2))) this) λh2 o r P R p2 S=>?_);have g7:h<+:h2.set (h1++[aB.list acc]).length o:=eX ((pre_app (pre_app p1)).trans p2) (by have:=p1.length_le;simp;exact nq this);nofun;refine iw (n:=m) (λi st=>EK λ(h3:PH) (e0 e1 e2 e3 e4:Option PV) (W:Nat->Nat->Nat->Int) (r:Nat) (P:Nat->Nat) (R:Nat->Nat->Nat)=>jX (st=⟨h3,[aa (.ref f),aa (.ref pl),aa (.int pt),aa (.dw 0 (((ar m).map λp=>PV.ref (U p)).length:Int) 1),e0,aa (.ref (h1++[aB.list acc]).length),e1,e2,e3,e4,ae,ae,ae]⟩) (h<+:h3) (SW h.length h3 (h1++[aB.list acc]).length m w ht r P R W) (∀ p y x,p<i->y<ht->x<w->W p y x=(V p y x).fdiv (2^pt.toNat))) (by simp) ⟨_,_,_,_,_,_,_,_,_,_,rfl,g7,S,λp zy zy hp=>absurd hp (dm _)⟩ ?_ ?_
  .rintro i _ K hK hi ⟨h3,e0,e1,e2,e3,e4,W,r,P,R,rfl,p3,S3,hW⟩
   nofun;refine Ot (F.mono p3) hi λh4 p4=>?_;have gh:d7 0 (ht:Int) 1=ag:=gK ((aw [.l J0 (.n 1000)] (.an (.L (.n 0) (.c J0)) (.L (.c J0) (.n 1000000)))) hh);have gw:d7 0 (w:Int) 1=ag:=gK ((aw [.l J0 (.n 1000)] (.an (.L (.n 0) (.c J0)) (.L (.c J0) (.n 1000000)))) hw);nofun;refine iw (n:=ht) (λj st=>ub λ(h3:PH) (e3 e4:Option PV) (W:Nat->Nat->Nat->Int)=>nH (st=⟨h3,[aa (.ref f),aa (.ref pl),aa (.int pt),aa (.dw 0 (((ar m).map λp=>PV.ref (U p)).length:Int) 1),aa (.int i),aa (.ref (h1++[aB.list acc]).length),aa (.int w),aa (.int ht),e3,e4,ae,ae,ae]⟩) (h<+:h3) (SW h.length h3 (h1++[aB.list acc]).length m w ht r P R W) ((∀ p y x,p<i->y<ht->x<w->W p y x=(V p y x).fdiv (2^pt.toNat))) (∀ y x,y<j->x<w->W i y x=(V i y x).fdiv (2^pt.toNat))) rfl ⟨h4,_,_,W,rfl,p3.trans p4,S3.mono p4,hW,λy zy hy=>absurd hy (dm _)⟩ ?_ ?_
   .rintro j _ K hK hj ⟨h5,e3,e4,W,rfl,p5,S5,qI,lE⟩
    nofun;refine iw (n:=w) (λx st=>jW λ(h3:PH) (e4:Option PV) (W:Nat->Nat->Nat->Int)=>uc (st=⟨h3,[aa (.ref f),aa (.ref pl),aa (.int pt),aa (.dw 0 (((ar m).map λp=>PV.ref (U p)).length:Int) 1),aa (.int i),aa (.ref (h1++[aB.list acc]).length),aa (.int w),aa (.int ht),aa (.int j),e4,ae,ae,ae]⟩) (h<+:h3) (SW h.length h3 (h1++[aB.list acc]).length m w ht r P R W) ((∀ p y x,p<i->y<ht->x<w->W p y x=(V p y x).fdiv (2^pt.toNat))) ((∀ y x,y<j->x<w->W i y x=(V i y x).fdiv (2^pt.toNat))) (∀ x',x'<x->W i j x'=(V i j x').fdiv (2^pt.toNat))) rfl ⟨h5,_,W,rfl,p5,S5,qI,lE,λx hx=>absurd hx (dm _)⟩ ?_ ?_
    .rintro x _ K hK hx ⟨h6,e4,W,rfl,p6,S6,FZ,F1,F2⟩
     obtain⟨ru,u1,u2⟩:=a2 i hi;have Bc:=aI p6 u1;have so:=S6.obj;nofun;refine bS (aI p6 a1) (cR _) (b0 (by simpa using hi)) ?_;rw[bJ];nofun;refine Z6 Bc (u2.mono λk l e=>aI p6 e) hj hx ?_;nofun;refine Z5 S6 hi hj hx λo S7=>?_;nofun;refine hK (.inl rfl) ⟨_,_,_,rfl,eX p6 (S6.low i j hi hj),S7,λp y x' hp hy mK=>?_,λy x' hy mK=>?_,λx' mK=>?_⟩
     .rw[if_neg ((dn [.t J0 J1] (.no (.an (.e J0 J1) (.an (.e J2 J3) (.e J4 J5))))) hp)];exact FZ p y x' hp hy mK
     .rw[if_neg ((bU [.t J0 J1] (.no (.an (.e J2 J2) (.an (.e J0 J1) (.e J3 J4))))) hy)];exact F1 y x' hy mK
     .skip
      by_cases F3:x'=x
      .subst F3;rw[if_pos ⟨rfl,rfl,rfl⟩]
      .rw[if_neg ((aQ [.t J0 (.a J1 Y1),.no (.e J0 J1)] (.no (.an (.e J2 J2) (.an (.e J3 J3) (.e J0 J1))))) mK F3)];exact F2 x' (dH (d0 mK) F3)
    .rintro _ ⟨h6,e4,W,rfl,p6,S6,FZ,F1,F2⟩
     nofun;refine hK (.inl rfl) ⟨_,_,_,_,rfl,p6,S6,FZ,λy x hy hx=>?_⟩;by_cases si:y=j
     .subst si;exact F2 x hx
     .exact F1 y x (dH (d0 hy) si) hx
   .rintro _ ⟨h5,e3,e4,W,rfl,p5,S5,qI,lE⟩
    nofun;refine hK (.inl rfl) ⟨_,_,_,_,_,_,_,_,_,_,rfl,p5,S5,λp y x hp hy hx=>?_⟩;by_cases pj:p=i
    .subst pj;exact lE y x hy hx
    .exact qI p y x (dH (d0 hp) pj) hy hx
  .rintro _ ⟨h3,e0,e1,e2,e3,e4,W,r,P,R,rfl,p3,S3,hW⟩
   nofun;refine q _ _ p3 ⟨r,P,R,S3.obj,S3.Ox,S3.rws,λp y hp hy=>?_⟩;rw[S3.row p y hp hy];congr 2;exact gF λx hx=>by rw[hW p y x hp hy (fh.mp hx)]
end
structure sj {κ:Type} [DecidableEq κ] (K:κ->PV) (kn:Nat):Prop where
 eq: ∀ a b,gX (K a) (K b)=decide (a=b)
 kind: ∀ a,keyKind (K a)=kn
 pos:kn≠0
noncomputable def KP (p:Int×Int):PV:= .tup [.int p.1,.int p.2]
theorem dA:sj PV.int 1:=⟨λa b=>rfl,λzy=>rfl,by decide⟩
theorem iA:sj KP 3:=⟨λa b=>kX.mpr (by show(aa [a.1,a.2]==aa [b.1,b.2])=ag↔_;rw[decide_eq_true_eq,beq_iff_eq,Prod.ext_iff];simp),λzy=>rfl,by decide⟩
section
variable{κ:Type}[DecidableEq κ]{K:κ->PV}{kn:Nat}
noncomputable def KD (K:κ->PV) (l:List (κ×PV)):List (PV×PV):=l.map λe=>(K e.1,e.2)
noncomputable def eE (l:List (κ×PV)) (a:κ) (v:PV):List (κ×PV):=if l.any (·.1==a) then l.map λe=>if e.1==a then(e.1,v) else e else l++[(a,v)]
theorem jH(E:sj K kn)(a:κ): ∀ l:List (κ×PV),dU (KD K l) (K a)=l.lookup a
 |[]=>rfl
 |(b,v)::r=>by
  have ih:=jH E a r;show wy _ (List.find? _ ((K b,v)::KD K r))=_;rw[zK,jN];dsimp only;rw[E.eq];by_cases h:b=a
  .subst h;simp
  .rw[decide_eq_false h,show(a==b)=ak by simpa usingλe=>h e.symm];exact ih
theorem Bd(E:sj K kn)(a:κ): ∀ l:List (κ×PV),((KD K l).any λe=>gX e.1 (K a))=l.any (·.1==a)
 |[]=>rfl
 |(b,v)::r=>by show(gX (K b) (K a)||(KD K r).any _)=((b==a)||r.any _);rw[Bd E a r,E.eq];rfl
theorem uL(a:κ): ∀ l:List (κ×PV),l.any (·.1==a)=(l.lookup a).isSome
 |[]=>rfl
 |(b,v)::r=>by
  rw[KS,jN,uL a r];by_cases h:b=a
  .subst h;simp
  .rw[show(b==a)=ak by simpa using h,show(a==b)=ak by simpa usingλe=>h e.symm];rfl
theorem pn(E:sj K kn)(a:κ)(v:PV)(l:List (κ×PV)):dput (KD K l) (K a) v=KD K (eE l a v):=by
 unfold dput eE;rw[Bd E]
 split
 .unfold KD
  rw[cV,cV];refine gF λe zy=>?_;dsimp only[oz];rw[E.eq];by_cases h:e.1=a
  .rw[if_pos (decide_eq_true h),if_pos (by simpa using h)]
  .rw[if_neg (by simpa using h),if_neg (by simpa using h)]
 .unfold KD;rw[b8];rfl
theorem aab(E:sj K kn)(a:κ)(l:List (κ×PV)):r0 (KD K l) (K a)=KD K (l.filter λe=> !(e.1==a)):=by unfold r0 KD;rw[KJ];refine congrArg _ (Km λe zy=>?_);dsimp only[oz];rw[E.eq];rfl
theorem eZ(E:sj K kn)(a:κ)(l:List (κ×PV)):keysOk (K a) (KD K l)=ag:=by unfold keysOk KD;rw[rq];refine⟨by simpa[E.kind] using E.pos,?_⟩;rw[List.all_map,dS];intro e _;simp[E.kind]
theorem F4(a b:κ)(v:PV)(l:List (κ×PV)):(eE l a v).lookup b=if b=a then aa v else l.lookup b:=by
 unfold eE
 split
 .rename_i h
  induction l with
  |nil=>cases h
  |cons e r ih=>
   obtain⟨c,u⟩:=e;rw[gG,jN];by_cases hc:c=a
   .subst hc
    simp only[beq_self_eq_true,if_true];rw[jN];by_cases hb:b=c
    .subst hb;simp
    .rw[show(b==c)=ak by simpa using hb,if_neg hb]
     dsimp only;clear ih h;induction r with
     |nil=>rfl
     |cons e r ih=>
      rw[gG,jN,jN];by_cases he:e.1=c
      .rw[if_pos (by simpa using he)];dsimp only;rw[he,show(b==c)=ak by simpa using hb];exact ih
      .rw[if_neg (by simpa using he),ih]
   .rw[if_neg (by simpa using hc)]
    dsimp only;rw[jN];by_cases hb:b=c
    .subst hb;simp[hc]
    .rw[show(b==c)=ak by simpa using hb]
     refine ih ?_;simpa[hc] using h
 .rename_i h
  rw[Bool.not_eq_true,uL] at h;rw[wa];by_cases hb:b=a
  .subst hb
   rw[if_pos rfl];cases hl:l.lookup b with
   |none=>simp
   |some x=>rw[hl] at h;cases h
  .rw[if_neg hb,jN,show(b==a)=ak by simpa using hb]
   cases l.lookup b <;> rfl
theorem F5(a:κ)(v:PV)(l:List (κ×PV)):(eE l a v).length<=l.length+1:=by unfold eE;split <;> simp
end
theorem aac(hs:h[s]?=aa (.inst 0 []))(q:Q .none (h.set s (.inst 0 [(1,x),(2,y),(3,z),(4,.ref h.length)])++[aB.dict []])):Wh ((run T (k+1) b).call 46 [.ref s,x,y,z]) h Q:=by refine bc (Wg _ _ _ _ _ _ _) ?_;nofun;have hl:=bh hs;simp only[jO,oF];rw[JV _ _ (by simpa using hl),jO];exact q
theorem aad(hs:h[s]?=aa (.inst 0 [(1,x),(2,y),(3,z),(4,u)]))(q:Q .none ((h++[aB.dict []]).set s (.inst 0 [(1,x),(2,y),(3,z),(4,.ref h.length)]))):Wh ((run T (k+1) b).call 47 [.ref s]) h Q:=by refine bc (Wi _ _ _ _) ?_;nofun
noncomputable def fG (V:Nat->Nat->Int) (kd mid:Int) (first:Bool) (x y:Nat):Int:=if x=0 then(if first then mid else V (y-1) 0) else if first then V y (x-1) else FP kd (V y (x-1)) (V (y-1) x) (V (y-1) (x-1))
theorem aae{k:Nat}{b:Bool}{pr s tp m w ht p x y y0:Nat}{kd mid:Int}{V:Nat->Nat->Nat->Int}{es dM:List (Int×PV)}{h:PH}{Q:PV->PH->Prop}(mM:h[pr]?=aa (.inst 0 [(1,.ref s),(2,.int kd),(3,.int mid),(4,.ref tp)]))(S:j5 h s m w ht V)(lG:h[tp]?=aa (.dict (KD PV.int es)))
  (hp:p<m) (hx:x<w) (hy:y<ht) (cj:1<=kd/\kd<=7) (F6:es.length<1000) (qL:es.lookup (p:Int)=ae/\y0=y/\dM=eE es (p:Int) (.int (y:Nat))\/es.lookup (p:Int)=aa (.int (y0:Nat))/\dM=es) (eu:y0<=y)
  (q: ∀ h',Kp tp h h'->h'.length=h.length->h'[tp]?=aa (.dict (KD PV.int dM))->Q (.int (fG (V p) kd mid (decide (y0=y)) x y)) h'):Wh ((run T (k+2) b).call 48 [.ref pr,.int (p:Nat),.int (x:Nat),.int (y:Nat)]) h Q:=by
 refine bc (Wj _ _ _ _ _ _ _) ?_;refine NN (λst=> ∃ h',nH (st=⟨h',[aa (.ref pr),aa (.int (p:Nat)),aa (.int (x:Nat)),aa (.int (y:Nat)),ae,ae,ae,ae]⟩) (Kp tp h h') (h'.length=h.length) (h'[tp]?=aa (.dict (KD PV.int dM))) (dM.lookup (p:Int)=aa (.int (y0:Nat)))) (λK' hK=>?_) ?_
 .nofun
  refine NV lG (eZ dA _ _) ?_;rw[Bd dA,uL];rcases qL with⟨e1,rfl,rfl⟩|⟨e1,rfl⟩
  .rw[e1]
   nofun;refine nZ lG (eZ dA _ _) (by unfold KD;simp;exact(aw [.t J0 (.n 1000)] (.t J0 (.n 1000000))) F6) ?_;rw[pn dA];nofun;exact hK ⟨_,rfl,Kp.set (Kp.refl _ _),by exact oF,bF lG,by rw[F4,if_pos rfl]⟩
  .rw[e1]
   nofun;exact hK ⟨_,rfl,Kp.refl _ _,rfl,lG,e1⟩
 .rintro _ ⟨h',rfl,K1,hl,rZ,d9⟩
  have aiW:=K1.get _ _ (cy mM lG rfl) mM;have S':j5 h' s m w ht V:=by obtain⟨r,P,R,a,b',c,d⟩:=S;exact⟨r,P,R,K1.get _ _ (cy a lG rfl) a,K1.get _ _ (cy b' lG rfl) b',λp hp=>K1.get _ _ (cy (c p hp) lG rfl) (c p hp),λp y hp hy=>K1.get _ _ (cy (d p y hp hy) lG rfl) (d p y hp hy)⟩
  have Q':=q h' K1 hl rZ;unfold fG at Q';nofun;refine pf rZ (eZ dA _ _) ((jH dA _ _).trans d9) ?_;nofun;have aaf:decide ((y0:Int)=(y:Int))=decide (y0=y):=by rw[kX];simp;omega
  rw[aaf];refine fF (λeF=>?_) λeF=>?_
  .rw[if_pos ((aw [.E (.c J0) (.n 0)] (.e J0 Y0)) eF)] at Q'
   nofun;refine fF (λhf=>?_) λhf=>?_
   .rw[if_pos (decide_eq_true hf)] at Q'
    nofun
   .rw[if_neg (by simpa using hf)] at Q'
    obtain⟨r,P,R,a,_⟩:=id S';nofun;refine xN S' hp (y:=y-1) (x:=0) ((aQ [.t J0 J1,.l J2 J0,.no (.e J2 J0),pB J3 J0 Y1] (.t J3 J1)) hy eu hf (uB _ _)) ((au [.t J0 J1,.E (.c J0) (.n 0)] (.t Y0 J1)) hx eF) rfl eF ((az [.l J0 J1,.no (.e J0 J1),pB J2 J1 Y1] (.E (.s (.c J1) (.n 1)) (.c J2))) eu hf (uB _ _)) ?_;nofun
  .rw[if_neg ((aw [.no (.E (.c J0) (.n 0))] (.no (.e J0 Y0))) eF)] at Q'
   obtain⟨r,P,R,a,_⟩:=id S';nofun;refine xN S' hp (y:=y) (x:=x-1) (hy) ((az [.t J0 J1,.no (.E (.c J0) (.n 0)),pB J2 J0 Y1] (.t J2 J1)) hx eF (uB _ _)) rfl ((au [.no (.E (.c J0) (.n 0)),pB J1 J0 Y1] (.E (.s (.c J0) (.n 1)) (.c J1))) eF (uB _ _)) rfl ?_;nofun;refine fF (λhf=>?_) λhf=>?_
   .rw[if_pos (decide_eq_true hf)] at Q'
    nofun
   .rw[if_neg (by simpa using hf)] at Q'
    nofun;refine xN S' hp (y:=y-1) (x:=x) ((aQ [.t J0 J1,.l J2 J0,.no (.e J2 J0),pB J3 J0 Y1] (.t J3 J1)) hy eu hf (uB _ _)) (hx) rfl rfl ((az [.l J0 J1,.no (.e J0 J1),pB J2 J1 Y1] (.E (.s (.c J1) (.n 1)) (.c J2))) eu hf (uB _ _)) ?_;nofun;refine xN S' hp (y:=y-1) (x:=x-1) ((aQ [.t J0 J1,.l J2 J0,.no (.e J2 J0),pB J3 J0 Y1] (.t J3 J1)) hy eu hf (uB _ _)) ((az [.t J0 J1,.no (.E (.c J0) (.n 0)),pB J2 J0 Y1] (.t J2 J1)) hx eF (uB _ _)) rfl ((au [.no (.E (.c J0) (.n 0)),pB J1 J0 Y1] (.E (.s (.c J0) (.n 1)) (.c J1))) eF (uB _ _)) ((az [.l J0 J1,.no (.e J0 J1),pB J2 J1 Y1] (.E (.s (.c J1) (.n 1)) (.c J2))) eu hf (uB _ _)) ?_;nofun;refine Zv cj ?_;nofun
structure dq (A:Nat->Prop) (h h':PH):Prop where
 len:h.length<=h'.length
 get: ∀ (k:Nat) (o:aB),¬ A k->h[k]?=aa o->h'[k]?=aa o
theorem dq.refl(A:Nat->Prop)(h:PH):dq A h h:=⟨aS _,λzy zy zy e=>e⟩
theorem dq.of{W:Nat}{A:Nat->Prop}{h h':PH}(K:Kp W h h')(hA:A W):dq A h h':=⟨K.len,λk o n e=>K.get k o (λq=>n (q▸hA)) e⟩
theorem dq.mono{A B:Nat->Prop}{h h':PH}(K:dq A h h')(hA: ∀ k,k<h.length->A k->B k):dq B h h':=⟨K.len,λk o n e=>K.get k o (λq=>n (hA k (bh e) q)) e⟩
theorem dq.trans{A:Nat->Prop}{h h' uJ:PH}(x:dq A h h')(y:dq (λk=>A k\/h.length<=k) h' uJ):dq A h uJ:=⟨cG x.len y.len,λk o n e=>y.get k o (λq=>q.elim n λq=>by have:=bh e;omega) (x.get k o n e)⟩
theorem dq.pre{A:Nat->Prop}{h₀ h h':PH}(x:dq A h h')(p:h₀<+:h)(hA: ∀ k,A k->h₀.length<=k):h₀<+:h':=pre_of (cG p.length_le x.len) λk o e=>x.get k o (λq=>by have:=bh e;have:=hA k q;exact ic this ‹_›) (aI p e)
noncomputable def fH (s t:Int):Int:=if 32768<(s-t).fmod 65536 then(s-t).fmod 65536-65536 else(s-t).fmod 65536
noncomputable def aG (v:Int):Nat:=if v.natAbs=0 then 0 else v.natAbs.log2+1
noncomputable def jI (v:Int) (s:Nat):Int:=if v<0 then v+2^s-1 else v
set_option genInjectivity false in
structure Sink (h₀:PH) (n:Nat) (b:Bool) where
 σ:Type
 sk:Nat
 c:Nat
 iS:Nat
 iB:Nat
 iF:Nat
 inv:σ->(Nat->Prop)->PH->Prop
 sym:Nat->Nat->σ->σ
 bits:Int->Nat->σ->σ
 fin:σ->σ×List UInt8
 ok:Nat->Nat->Prop
 mS:nR br c 11=aa iS
 mB:nR br c 12=aa iB
 mF:nR br c 13=aa iF
 at': ∀ st O h,inv st O h-> ∃ fs,h[sk]?=aa (.inst c fs)
 low: ∀ st O h,inv st O h-> ∀ k,O k->h₀.length<=k
 lt: ∀ st O h,inv st O h-> ∀ k,O k->k<h.length
 keep: ∀ st O h h',inv st O h->h₀<+:h'->(∀ (k:Nat) o,O k->h[k]?=aa o->h'[k]?=aa o)->inv st O h'
 sz:σ->Nat
 Be: ∀ p s st,sz (sym p s st)<=sz st+16
 F7: ∀ v s st,s<=16->sz (bits v s st)<=sz st+16
 F8: ∀ st,sz (fin st).1<=sz st
 F9: ∀ st O h p s,inv st O h->sz st<=200000->h₀<+:h->ok p s-> ∀ Q:PV->PH->Prop,(∀ h' O',inv (sym p s st) O' h'->dq O h h'->(∀ k,O' k->O k\/h.length<=k)->Q .none h')->Wh ((run T n b).call iS [.ref sk,.tup [.int 0,.int (p:Nat)],.int (s:Nat)]) h Q
 Ga: ∀ st O h v s,inv st O h->sz st<=200000->h₀<+:h->0<=v->v<2^s->s<=16-> ∀ Q:PV->PH->Prop,(∀ h' O',inv (bits v s st) O' h'->dq O h h'->(∀ k,O' k->O k\/h.length<=k)->Q .none h')->Wh ((run T n b).call iB [.ref sk,.int v,.int (s:Nat)]) h Q
 Gb: ∀ st O h,inv st O h->sz st<=200000->h₀<+:h-> ∀ Q:PV->PH->Prop,(∀ h' O',inv (fin st).1 O' h'->dq O h h'->(∀ k,O' k->O k\/h.length<=k)->Q (.bytes (fin st).2) h')->Wh ((run T n b).call iF [.ref sk]) h Q
noncomputable def Sink.code {h₀:PH} {n:Nat} {b:Bool} (K:Sink h₀ n b) (e:Nat×Int) (st:K.σ):K.σ:=
 let OA:=K.sym e.1 (aG e.2) st
 if 0<aG e.2/\aG e.2<16 then K.bits (jI e.2 (aG e.2)) (aG e.2) OA else OA
theorem Sink.szC{h₀:PH}{n:Nat}{b:Bool}(K:Sink h₀ n b){e:Nat×Int}(he:aG e.2<=16)(st:K.σ):K.sz (K.code e st)<=K.sz st+32:=by
 have h1:=K.Be e.1 (aG e.2) st;have h2:=K.F7 (jI e.2 (aG e.2)) (aG e.2) (K.sym e.1 (aG e.2) st) he;unfold Sink.code;dsimp only
 split <;> (first|exact(az [.l J0 (.a J1 (.n 16)),.l J2 (.a J0 (.n 16))] (.l J2 (.a J1 (.n 32)))) h1 h2|exact(au [.l J0 (.a J1 (.n 16))] (.l J0 (.a J1 (.n 32)))) h1)
theorem Gd{v:Int}(hs:0<aG v):0<=jI v (aG v)/\jI v (aG v)<2^aG v:=by
 unfold jI;have hv:v.natAbs≠0:=λe=>by unfold aG at hs;rw[if_pos e] at hs;exact(bL 0 0 [] [] [.t Y0 Y0] .ff) hs
 have hc:aG v=v.natAbs.log2+1:=by unfold aG;rw[if_neg hv]
 have h1:v.natAbs<2^aG v:=by rw[hc];exact Ld
 have h2:((2:Int)^aG v)=((2^aG v:Nat):Int):=by rw[lU];rfl
 rw[h2]
 split <;> (first|exact(o7 [.no (.e J0 Y0),.e J1 (.a J2 Y1),.t J0 J3,pA J0 Q0,.T Q0 (.n 0)] (.an (.L (.n 0) (.s (.a Q0 (.c J3)) (.n 1))) (.T (.s (.a Q0 (.c J3)) (.n 1)) (.c J3)))) hv hc h1 (uA _) ‹_› |exact(o7 [.no (.e J0 Y0),.e J1 (.a J2 Y1),.t J0 J3,pA J0 Q0,.no (.T Q0 (.n 0))] (.an (.L (.n 0) Q0) (.T Q0 (.c J3)))) hv hc h1 (uA _) ‹_›)
section
variable{k:Nat}{b:Bool}{h₀ h:PH}{wr s sl pr tp m w ht p x y y0:Nat}{kd mid:Int}{V:Nat->Nat->Nat->Int}{es dM:List (Int×PV)}{Q:PV->PH->Prop}
theorem aag{wr:Nat}{x1 x2 x3 x4:PV}(hs:h[wr]?=aa (.inst 2 []))(q:Q .none (h.set wr (.inst 2 [(6,x1),(1,x2),(7,x3),(8,x4)]))):Wh ((run T (k+1) b).call 52 [.ref wr,x1,x2,x3,x4]) h Q:=by refine bc (Wn _ _ _ _ _ _ _ _) ?_;nofun;simp only[jO];exact q
theorem aah{v:Int}(q:Q (.int (aG v:Nat)) h):Wh ((run T (k+1) b).call 0 [.int v]) h Q:=by
 refine Zs ?_;have:(if(v.natAbs:Int)=0 then(0:Int) else((v.natAbs:Int).natAbs.log2+1:Nat))=(aG v:Nat):=by
  unfold aG;by_cases h:v.natAbs=0
  .rw[if_pos h,if_pos ((cM [.e J0 Y0,pA J0 Q0] (.E (.c J0) (.n 0))) h (uA _))];rfl
  .rw[if_neg h,if_neg ((cM [.no (.e J0 Y0),pA J0 Q0] (.no (.E (.c J0) (.n 0)))) h (uA _)),Int.natAbs_natCast]
 rw[this];exact q
theorem aai{v:Int}{s:Nat}(hs:s<=1000)(q:Q (.int (jI v s)) h):Wh ((run T (k+1) b).call 1 [.int v,.int (s:Nat)]) h Q:=by refine Zt ((aw [.l J0 (.n 1000)] (.an (.L (.n 0) (.c J0)) (.L (.c J0) (.n 1000)))) hs) ?_;rw[bJ];exact q
theorem aaj{x t:Int}(q:Q (.int (fH x t)) h):Wh ((run T (k+1) b).call 4 [.int x,.int t]) h Q:=Zu q
theorem OB{x1 x2 x3:PV}(mO:h[wr]?=aa (.inst 2 [(6,x1),(1,x2),(7,.ref pr),(8,x3)])){y1 y2 y3 y4:PV}(hs:h[pr]?=aa (.inst 0 [(1,y1),(2,y2),(3,y3),(4,y4)]))(q:Q .none ((h++[aB.dict []]).set pr (.inst 0 [(1,y1),(2,y2),(3,y3),(4,.ref h.length)]))):Wh ((run T (k+2) b).call 53 [.ref wr]) h Q:=by refine bc (Wo _ _ _ _) ?_;nofun;refine aad hs ?_;nofun
theorem OC(K:Sink h₀ (k+1) b){st:K.σ}{x1 x2 x3:PV}(g7:h₀<+:h)(mO:h[wr]?=aa (.inst 2 [(6,x1),(1,x2),(7,x3),(8,.ref K.sk)])){O:Nat->Prop}(hI:K.inv st O h)(hz:K.sz st<=200000)
  (q: ∀ h' O',K.inv (K.fin st).1 O' h'->dq O h h'->(∀ k,O' k->O k\/h.length<=k)->Q (.bytes (K.fin st).2) h'):Wh ((run T (k+2) b).call 55 [.ref wr]) h Q:=by
 refine bc (Wr _ _ _ _) ?_;obtain⟨fs,hk⟩:=K.at' _ _ _ hI;nofun;refine A2 hk K.mF ?_;nofun;refine K.Gb _ _ h hI hz g7 _ λh' O' a1 a2 a3=>?_;nofun;exact q _ _ a1 a2 a3
theorem aak(K:Sink h₀ (k+2) b){st:K.σ}(g7:h₀<+:h)(mO:h[wr]?=aa (.inst 2 [(6,.ref sl),(1,.ref s),(7,.ref pr),(8,.ref K.sk)]))(mP:h₀[sl]?=aa (.list ((ar m).map λi=> .int (i:Nat))))
  (mM:h[pr]?=aa (.inst 0 [(1,.ref s),(2,.int kd),(3,.int mid),(4,.ref tp)])) (S:j5 h₀ s m w ht V) (lG:h[tp]?=aa (.dict (KD PV.int es))) (jc:h₀.length<=tp) {O:Nat->Prop} (hI:K.inv st O h) (hz:K.sz st<=150000) (hw: ¬ O wr) (gL: ¬ O pr) (rZ: ¬ O tp)
  (hp:p<m) (hx:x<w) (hy:y<ht) (cj:1<=kd/\kd<=7) (F6:es.length<1000) (qL:es.lookup (p:Int)=ae/\y0=y/\dM=eE es (p:Int) (.int (y:Nat))\/es.lookup (p:Int)=aa (.int (y0:Nat))/\dM=es) (eu:y0<=y)
  (uN:K.ok p (aG (fH (V p y x) (fG (V p) kd mid (decide (y0=y)) x y)))) (jd:aG (fH (V p y x) (fG (V p) kd mid (decide (y0=y)) x y))<=16)
  (q: ∀ h' O',K.inv (K.code (p,fH (V p y x) (fG (V p) kd mid (decide (y0=y)) x y)) st) O' h'->h'[tp]?=aa (.dict (KD PV.int dM))->dq (λk=>k=tp\/O k) h h'->(∀ k,O' k->O k\/h.length<=k)->Q .none h'):
  Wh ((run T (k+3) b).call 54 [.ref wr,.int (p:Nat),.int (p:Nat),.int (x:Nat),.int (y:Nat)]) h Q:=by
 refine bc (Wq _ _ _ _ _ _ _ _) ?_;nofun;refine aae mM (S.mono g7) lG hp hx hy cj F6 qL eu λh1 K1 dX OD=>?_;have aal:=K1.get _ _ (cy mO lG rfl) mO;have uO:h₀<+:h1:=(dq.of (A:=λk=>k=tp) K1 rfl).pre g7 (λk e=>e▸jc);have Ge:K.inv st O h1:=K.keep _ _ _ _ hI uO λk o ho e=>K1.get _ _ (λq=>rZ (q▸ho)) e;obtain⟨fs1,hk1⟩:=K.at' _ _ _ Ge;obtain⟨rS,PS,RS,sa,_⟩:=id (S.mono uO);nofun;refine xN (S.mono uO) hp hy hx rfl rfl rfl ?_;nofun;generalize hd:fH (V p y x) (fG (V p) kd mid (decide (y0=y)) x y)=d at *
 refine aaj ?_;rw[hd];nofun;refine aah ?_;nofun;refine A2 hk1 K.mS ?_;nofun;refine bS (aI uO mP) (cR _) (b0 (by simpa using hp)) ?_;rw[bJ];nofun;refine K.F9 st O h1 p (aG d) Ge ((aw [.l J0 (.n 150000)] (.l J0 (.n 200000))) hz) uO uN _ λh2 Bf Bg K2 O2=>?_;have uP:=K2.get _ _ hw aal;have Gf:=K2.get _ _ rZ OD;have Gg:=K2.pre uO (K.low _ _ _ Ge);have Bh:dq (λk=>k=tp\/O k) h h2:=(dq.of (A:=λk=>k=tp\/O k) K1 (.inl rfl)).trans (K2.mono λk zy e=> .inl (.inr e));nofun;refine fF (λc0=>?_) λc0=>?_
 .nofun
  refine fF (λc1=>?_) λc1=>?_
  .nofun
   obtain⟨fs2,hk2⟩:=K.at' _ _ _ Bg;refine A2 hk2 K.mB ?_;nofun;refine aai ((aw [.T (.c J0) (.n 16)] (.l J0 (.n 1000))) c1) ?_;nofun;have hb:=Gd (v:=d) ((aw [.T (.n 0) (.c J0)] (.t Y0 J0)) c0);refine K.Ga _ _ h2 _ (aG d) Bg (by have:=K.Be p (aG d) st;exact(au [.l J0 (.n 150000),.l J1 (.a J0 (.n 16))] (.l J1 (.n 200000))) hz this) Gg hb.1 hb.2 jd _ λh3 xO OE K3 O3=>?_;have xP:K.code (p,d) st=K.bits (jI d (aG d)) (aG d) (K.sym p (aG d) st):=by unfold Sink.code;exact if_pos (show 0<aG d/\aG d<16 from(aw [.l J0 (.n 16),.T (.n 0) (.c J0),.T (.c J0) (.n 16)] (.an (.t Y0 J0) (.t J0 (.n 16)))) jd c0 c1)
   rw[<- xP] at OE;have ht2: ¬ Bf tp:=λe=>by rcases O2 _ e with e|e;exact rZ e;have:=bh OD;exact ic e this
   nofun;refine q _ _ OE (K3.get _ _ ht2 Gf) (Bh.trans (K3.mono λk hk e=>?_)) λk e=>?_
   .rcases O2 _ e with e|e
    .exact .inl (.inr e)
    .right;exact(az [.e J0 J1,.l J0 J2] (.l J1 J2)) dX e
   .rcases O3 _ e with e|e
    .rcases O2 _ e with e|e
     .exact .inl e
     .right;exact(az [.e J0 J1,.l J0 J2] (.l J1 J2)) dX e
    .right;have:=Bh.len;exact cG this e
  .have xP:K.code (p,d) st=K.sym p (aG d) st:=by unfold Sink.code;exact if_neg (show ¬ (0<aG d/\aG d<16) from(aw [.l J0 (.n 16),.no (.T (.c J0) (.n 16))] (.no (.an (.t Y0 J0) (.t J0 (.n 16))))) jd c1)
   rw[xP] at q;nofun;refine q _ _ Bg Gf Bh λk e=>?_;rcases O2 _ e with e|e
   .exact .inl e
   .right;exact(az [.e J0 J1,.l J0 J2] (.l J1 J2)) dX e
 .have xP:K.code (p,d) st=K.sym p (aG d) st:=by unfold Sink.code;exact if_neg (show ¬ (0<aG d/\aG d<16) from(aw [.no (.T (.n 0) (.c J0))] (.no (.an (.t Y0 J0) (.t J0 (.n 16))))) c0)
  rw[xP] at q;nofun;refine q _ _ Bg Gf Bh λk e=>?_;rcases O2 _ e with e|e
  .exact .inl e
  .right;exact(az [.e J0 J1,.l J0 J2] (.l J1 J2)) dX e
end
noncomputable def ec (V:Nat->Nat->Nat->Int) (kd mid:Int) (m w y0 i:Nat):List (Nat×Int):=(ar m).map λp=>(p,fH (V p (i/w) (i%w)) (fG (V p) kd mid (decide (y0=i/w)) (i%w) (i/w)))
noncomputable def fu (V:Nat->Nat->Nat->Int) (kd mid:Int) (m w B j c:Nat):List (Nat×Int):=(ar c).flatMap λq=>ec V kd mid m w (j*B/w) (j*B+q)
noncomputable def Sink.codes (K:Sink h₀ n b) (l:List (Nat×Int)) (st:K.σ):K.σ:=l.foldl (λst e=>K.code e st) st
noncomputable def Sink.outs (K:Sink h₀ n b):List (List (Nat×Int))->K.σ->K.σ×List (List UInt8)
 |[],st=>(st,[])
 |iv::r,st=>((K.outs r (K.fin (K.codes iv st)).1).1,(K.fin (K.codes iv st)).2::(K.outs r (K.fin (K.codes iv st)).1).2)
theorem Sink.Gi(K:Sink h₀ n b)(iv:List (Nat×Int)): ∀ (l:List (List (Nat×Int))) (st:K.σ),K.outs (l++[iv]) st=((K.fin (K.codes iv (K.outs l st).1)).1,(K.outs l st).2++[(K.fin (K.codes iv (K.outs l st).1)).2])
 |[],st=>rfl
 |a::r,st=>by show((K.outs (r++[iv]) _).1,_::(K.outs (r++[iv]) _).2)=_;rw[K.Gi iv r];rfl
theorem Sink.OF(K:Sink h₀ n b)(l l':List (Nat×Int))(st:K.σ):K.codes (l++l') st=K.codes l' (K.codes l st):=Dt
theorem Sink.OG(K:Sink h₀ n b): ∀ (l:List (Nat×Int)) (st:K.σ),(∀ e∈l,aG e.2<=16)->K.sz (K.codes l st)<=K.sz st+32*l.length
 |[],st,_=>aS _
 |e::r,st,h=>by have h1:=K.szC (h e (kZ)) st;have h2:=K.OG r (K.code e st) λx hx=>h x (by simp[hx]);show K.sz (K.codes r (K.code e st))<=_;rw[fW];exact(aQ [.l J0 (.a J1 (.n 32)),.l J2 (.a J0 (.m 32 J3))] (.l J2 (.a J1 (.m 32 (.a J3 Y1))))) h1 h2
theorem aam(hc: ∀ p,p<m->aG (fH (V p (i/w) (i%w)) (fG (V p) kd mid (decide (y0=i/w)) (i%w) (i/w)))<=16): ∀ e∈ec V kd mid m w y0 i,aG e.2<=16:=by intro e he;unfold ec at he;obtain⟨p,hp,rfl⟩:=bX.mp he;exact hc p (by simpa using hp)
theorem Gj(K:Sink h₀ n b)(hc: ∀ p,p<m->aG (fH (V p (i/w) (i%w)) (fG (V p) kd mid (decide (y0=i/w)) (i%w) (i/w)))<=16)(hm:m<=4)(st:K.σ)(p:Nat):K.sz (K.codes ((ec V kd mid m w y0 i).take p) st)<=K.sz st+128:=by
 have h1:=K.OG ((ec V kd mid m w y0 i).take p) st λe he=>aam hc e (zE he);have h2:((ec V kd mid m w y0 i).take p).length<=m:=by rw[gT];simp[ec];exact(az [pM J0 J1 J2] (.l J0 J2)) (uM _ _)
 exact(aQ [.l J0 (.n 4),.l J1 (.a J2 (.m 32 J3)),.l J3 J0] (.l J1 (.a J2 (.n 128)))) hm h1 h2
theorem Bi:fu V kd mid m w B j (c+1)=fu V kd mid m w B j c++ec V kd mid m w (j*B/w) (j*B+c):=by unfold fu;rw[dZ,jM];simp
theorem OH(hp:p<m):(ec V kd mid m w y0 i).take (p+1)=(ec V kd mid m w y0 i).take p++[(p,fH (V p (i/w) (i%w)) (fG (V p) kd mid (decide (y0=i/w)) (i%w) (i/w)))]:=by rw[List.take_succ];congr 1;unfold ec;rw[b0 hp];rfl
structure WI {h₀:PH} {n:Nat} {b:Bool} (K:Sink h₀ n b) (wr sl s pr g fl m:Nat) (kd mid:Int) (st:K.σ) (O:Nat->Prop) (es:List (Int×PV)) (outs:List (List UInt8)) (h:PH):Prop where
 pre:h₀<+:h
 xQ:h[wr]?=aa (.inst 2 [(6,.ref sl),(1,.ref s),(7,.ref pr),(8,.ref K.sk)])
 Gk: ∃ tp,h[pr]?=aa (.inst 0 [(1,.ref s),(2,.int kd),(3,.int mid),(4,.ref tp)])/\h[tp]?=aa (.dict (KD PV.int es))/\h₀.length<=tp/\ ¬ O tp
 fJ:h[fl]?=aa (.list (outs.map PV.bytes))
 inv:K.inv st O h
 nw: ¬ O wr
 np: ¬ O pr
 ng: ¬ O g
 nf: ¬ O fl
 lp:h₀.length<=pr
 lf:h₀.length<=fl
 lg:h₀.length<=g
def uQ(es:List (Int×PV))(m seen y0:Nat):Prop:=es.length<=seen/\ ∀ p,p<m->es.lookup (p:Int)=if p<seen then aa (.int (y0:Nat)) else ae
section
variable{k:Nat}{b:Bool}{h₀ h:PH}{wr s sl pr g fl m w ht B N f sc:Nat}{kd mid I p0 pt:Int}{kk:PV}{V:Nat->Nat->Nat->Int}{Q:PV->PH->Prop}
theorem OI(K:Sink h₀ (k+2) b)(mP:h₀[sl]?=aa (.list ((ar m).map λi=> .int (i:Nat))))(S:j5 h₀ s m w ht V)(cj:1<=kd/\kd<=7)(hm:m<=4){st:K.σ}(hz:K.sz st<=149000){es:List (Int×PV)}{outs:List (List UInt8)}{u i y0 seen:Nat}{v1 v3 v4:PV}{e6 e7 e8 e9:Option PV}{O:Nat->Prop}
  (W:WI K wr sl s pr g fl m kd mid st O es outs h) (hu:h[u]?=aa (.list (qJ m ((i%w:Nat):Int) ((i/w:Nat):Int)))) (uK: ¬ O u) (Gl:u≠g) (Bj:u≠fl) {ga:Nat} {gb:List (Option PV)} {gc:Option (List PV)} (hg:h[g]?=aa (.gen ga gb gc)) (hw:0<w) (hi:i<w*ht) (eu:y0<=i/w) (lH:seen=m\/seen=0/\y0=i/w) (qL:uQ es m seen y0)
  (uN: ∀ p,p<m->K.ok p (aG (fH (V p (i/w) (i%w)) (fG (V p) kd mid (decide (y0=i/w)) (i%w) (i/w))))) (jd: ∀ p,p<m->aG (fH (V p (i/w) (i%w)) (fG (V p) kd mid (decide (y0=i/w)) (i%w) (i/w)))<=16)
  {R:aY->aj->Prop} (q: ∀ h' O' dM e6 e7 e8 e9,WI K wr sl s pr g fl m kd mid (K.codes (ec V kd mid m w y0 i) st) O' dM outs h'->(∀ k,O' k->O k\/h.length<=k)->uQ dM m m y0->h'[g]?=aa (.gen ga gb gc)->R .next ⟨h',[aa (.ref g),aa v1,aa (.ref wr),aa v3,aa v4,aa (.ref u),e6,e7,e8,e9]⟩):
  mC (.many [6,7,8,9]) (ah (bZ (bx br (af 2) 15 [(af 6),(af 7),(af 8),(af 9)])) ao) (run T (k+3) b) R (.ref u) ⟨h,[aa (.ref g),aa v1,aa (.ref wr),aa v3,aa v4,aa (.ref u),e6,e7,e8,e9]⟩:=by
 have lF:(qJ m ((i%w:Nat):Int) ((i/w:Nat):Int)).length=m:=(aX _).trans fV;have hd:i/w<ht:=DH hi;have je:i%w<w:=la _ hw;refine sh (xs:=qJ m ((i%w:Nat):Int) ((i/w:Nat):Int)) (λp n7=>xa λ(h':PH) (O':Nat->Prop) (dM:List (Int×PV)) (e6 e7 e8 e9:Option PV)=>ue (n7=⟨h',[aa (.ref g),aa v1,aa (.ref wr),aa v3,aa v4,aa (.ref u),e6,e7,e8,e9]⟩) (WI K wr sl s pr g fl m kd mid (K.codes ((ec V kd mid m w y0 i).take p) st) O' dM outs h') ((∀ k,O' k->O k\/h.length<=k)) (h.length<=h'.length) (uQ dM m (max seen p) y0) (h'[u]?=aa (.list (qJ m ((i%w:Nat):Int) ((i/w:Nat):Int)))) (¬ O' u) (h'[g]?=aa (.gen ga gb gc))) hu ⟨h,O,es,e6,e7,e8,e9,rfl,W,λk e=> .inl e,aS _,by simpa using qL,hu,uK,hg⟩ (λzy zy zz=>by obtain⟨_,_,_,_,_,_,_,e,_,_,_,_,e',_⟩:=zz;rw[e];exact e') ?_ ?_
 .rintro p x _ KC hK hx ⟨h',O',dM,e6,e7,e8,e9,rfl,W',Gm,Gn,n8,Bk,Gp,lI⟩
  have hp:p<m:=by have:=(dF.mp hx).1;exact(az [.e J0 J1,.t J2 J0] (.t J2 J1)) lF this
  unfold qJ at hx;rw[b0 hp] at hx;obtain rfl:=bD hx;obtain⟨tp,t1,t2,t3,t4⟩:=W'.Gk;have Bl:=W'.xQ;nofun;have d9:=n8.2 p hp;have hlen:dM.length<1000:=by have:=n8.1;exact(kq [.l J0 (.n 4),.o (.e J1 J0) (.an (.e J1 Y0) (.e J2 J3)),.t J4 J0,.l J5 J6,pX J6 J1 J4] (.t J5 (.n 1000))) hm lH hp this (uX _ _)
  have sq:dM.lookup (p:Int)=ae/\y0=i/w/\(eE dM (p:Int) (.int (i/w:Nat))=eE dM (p:Int) (.int (i/w:Nat)))\/dM.lookup (p:Int)=aa (.int (y0:Nat)):=by
   rcases lH with rfl|⟨rfl,e⟩
   .right;rw[d9,if_pos ((az [.t J0 J1,pX J2 J1 J0] (.t J0 J2)) hp (uX _ _))]
   .left;rw[d9,if_neg ((au [pX J1 Y0 J0] (.no (.t J0 J1))) (uX _ _))];exact⟨rfl,e,rfl⟩
  obtain⟨xR,aan,n6⟩: ∃ xR,(dM.lookup (p:Int)=ae/\y0=i/w/\xR=eE dM (p:Int) (.int (i/w:Nat))\/dM.lookup (p:Int)=aa (.int (y0:Nat))/\xR=dM)/\uQ xR m (max seen (p+1)) y0:=by
   rcases sq with⟨e1,e2,_⟩|e1
   .refine⟨_,.inl ⟨e1,e2,rfl⟩,?_,λp' gL=>?_⟩
    .have h1:=F5 (p:Int) (.int (i/w:Nat)) dM
     have h2:=n8.1;rcases lH with rfl|⟨rfl,e⟩
     .rw[d9,if_pos ((az [.t J0 J1,pX J2 J1 J0] (.t J0 J2)) hp (uX _ _))] at e1;cases e1
     .exact(bU [.l J0 (.a J1 Y1),.l J1 J2,pX J2 Y0 J3,pX J4 Y0 (.a J3 Y1)] (.l J0 J4)) h1 h2 (uX _ _) (uX _ _)
    .rw[F4,n8.2 p' gL]
     by_cases Gq:p'=p
     .subst Gq;rw[if_pos rfl,if_pos ((dn [.o (.e J0 J1) (.an (.e J0 Y0) (.e J2 J3)),.t J4 J1,pX J5 J0 (.a J4 Y1)] (.t J4 J5)) lH gL (uX _ _)),e2]
     .rw[if_neg ((au [.no (.e J0 J1)] (.no (.E (.c J0) (.c J1)))) Gq)]
      by_cases bf:p'<max seen p
      .rw[if_pos bf,if_pos ((ku [.o (.e J0 J1) (.an (.e J0 Y0) (.e J2 J3)),.t J4 J1,.t J5 J6,pX J6 J0 J4,pX J7 J0 (.a J4 Y1)] (.t J5 J7)) lH hp bf (uX _ _) (uX _ _))]
      .rw[if_neg bf,if_neg ((ku [.o (.e J0 J1) (.an (.e J0 Y0) (.e J2 J3)),.t J4 J1,.no (.e J5 J4),.no (.t J5 J6),pX J6 J0 J4,pX J7 J0 (.a J4 Y1)] (.no (.t J5 J7))) lH hp Gq bf (uX _ _) (uX _ _))]
   .refine⟨dM,.inr ⟨e1,rfl⟩,by have:=n8.1;exact(ku [.o (.e J0 J1) (.an (.e J0 Y0) (.e J2 J3)),.t J4 J1,.l J5 J6,pX J6 J0 J4,pX J7 J0 (.a J4 Y1)] (.l J5 J7)) lH hp this (uX _ _) (uX _ _),λp' gL=>?_⟩
    rw[n8.2 p' gL];by_cases bf:p'<max seen p
    .rw[if_pos bf,if_pos ((ku [.o (.e J0 J1) (.an (.e J0 Y0) (.e J2 J3)),.t J4 J1,.t J5 J6,pX J6 J0 J4,pX J7 J0 (.a J4 Y1)] (.t J5 J7)) lH hp bf (uX _ _) (uX _ _))]
    .rw[if_neg bf]
     rcases lH with rfl|⟨rfl,e⟩
     .exact((aQ [.no (.t J0 J1),.t J0 J2,pX J1 J2 J3] .ff) bf gL (uX _ _)).elim
     .rw[d9,if_neg ((au [pX J1 Y0 J0] (.no (.t J0 J1))) (uX _ _))] at e1;cases e1
  refine aak K W'.pre Bl mP t1 S t2 t3 W'.inv (by have:=Gj K jd hm st p;exact(au [.l J0 (.n 149000),.l J1 (.a J0 (.n 128))] (.l J1 (.n 150000))) hz this) W'.nw W'.np t4 hp je hd cj hlen aan eu (uN p hp) (jd p hp) λh2 Bf a1 a2 a3 a4=>?_;have iC:K.code (p,fH (V p (i/w) (i%w)) (fG (V p) kd mid (decide (y0=i/w)) (i%w) (i/w))) (K.codes ((ec V kd mid m w y0 i).take p) st)=K.codes ((ec V kd mid m w y0 i).take (p+1)) st:=by rw[OH hp,K.OF];rfl
  rw[iC] at a1;have uS: ∀ z,z<h'.length-> ¬ O' z-> ¬ Bf z:=λz hz hn e=>by rcases a4 _ e with e|e;exact hn e;exact ic e hz
  have Gg:h₀<+:h2:=a3.pre W'.pre λk e=>by rcases e with rfl|e;exact t3;exact K.low _ _ _ W'.inv k e
  have utp:u≠tp:=cy Bk t2 rfl;have gtp:g≠tp:=cy lI t2 rfl;have get: ∀ (z:Nat) (o:aB),z≠tp-> ¬ O' z->h'[z]?=aa o->h2[z]?=aa o:=λz o n1 n2 e=>a3.get _ _ (by rintro(e|e);exact n1 e;exact n2 e) e;nofun;refine hK (.inl rfl) ⟨h2,Bf,xR,_,_,_,_,rfl,?_,λk e=>?_,cG Gn a3.len,n6,get _ _ utp Gp Bk,uS _ (bh Bk) Gp,get _ _ gtp W'.ng lI⟩
  rotate_left
  .rcases a4 _ e with e|e
   .exact Gm _ e
   .right;exact cG Gn e
  exact⟨Gg,get _ _ (cy Bl t2 rfl) W'.nw Bl,⟨tp,get _ _ (cy t1 t2 rfl) W'.np t1,a2,t3,uS _ (bh t2) t4⟩,get _ _ (cy W'.fJ t2 rfl) W'.nf W'.fJ,a1,uS _ (bh Bl) W'.nw,uS _ (bh t1) W'.np,uS _ (bh lI) W'.ng,uS _ (bh W'.fJ) W'.nf,W'.lp,W'.lf,W'.lg⟩
 .rintro _ ⟨h',O',dM,e6,e7,e8,e9,rfl,W',Gm,Gn,n8,Bk,Gp,lI⟩
  rw[lF] at W' n8;rw[nj (by simp[ec])] at W';refine q h' O' dM e6 e7 e8 e9 W' Gm ?_ lI;rcases lH with rfl|⟨rfl,e⟩
  .simpa using n8
  .simpa using n8
end
section
variable{k:Nat}{b:Bool}{h₀ h:PH}{wr s sl pr g m w ht B N f sc:Nat}{kd mid I p0 pt:Int}{kk:PV}{V:Nat->Nat->Nat->Int}{Q:PV->PH->Prop}
noncomputable def fw (V:Nat->Nat->Nat->Int) (kd mid:Int) (m w B j:Nat):List (List (Nat×Int)):=(ar j).map λj=>fu V kd mid m w B j B
theorem OJ:fw V kd mid m w B (j+1)=fw V kd mid m w B j++[fu V kd mid m w B j B]:=by unfold fw;rw[dZ,b8];rfl
theorem OK:fu V kd mid m w B j 0=[]:=rfl
theorem OL(K:Sink h₀ n b): ∀ (l:List (List (Nat×Int))) (st:K.σ),(K.outs l st).2.length=l.length
 |[],_=>rfl
 |_::r,st=>by show(_::(K.outs r _).2).length=_;rw[fW,OL K r];rfl
theorem GenAt.congr(e:h'[g]?=h[g]?)(G:GenAt h g f sc w N i):GenAt h' g f sc w N i:=by unfold GenAt at G ⊢;rw[e];exact G
theorem WI.kp{n:Nat}{K:Sink h₀ n b}{fl:Nat}{st:K.σ}{O:Nat->Prop}{es:List (Int×PV)}{outs:List (List UInt8)}{h':PH}{ga:Nat}{gb:List (Option PV)}{gc:Option (List PV)}(W:WI K wr sl s pr g fl m kd mid st O es outs h)(hg:h[g]?=aa (.gen ga gb gc))(uU:Kp g h h'):WI K wr sl s pr g fl m kd mid st O es outs h':=by obtain⟨tp,t1,t2,t3,t4⟩:=W.Gk;have hp:h₀<+:h':=(dq.of (A:=λk=>k=g) uU rfl).pre W.pre λk e=>e▸W.lg;exact⟨hp,uU.get _ _ (cy W.xQ hg rfl) W.xQ,⟨tp,uU.get _ _ (cy t1 hg rfl) t1,uU.get _ _ (cy t2 hg rfl) t2,t3,t4⟩,uU.get _ _ (cy W.fJ hg rfl) W.fJ,K.keep _ _ _ _ W.inv hp λk o ho e=>uU.get _ _ (λq=>W.ng (q▸ho)) e,W.nw,W.np,W.ng,W.nf,W.lp,W.lf,W.lg⟩
theorem OM(K:Sink h₀ (k+5) b)(g7:h₀<+:h)(mP:h₀[sl]?=aa (.list ((ar m).map λi=> .int (i:Nat))))(S:j5 h₀ s m w ht V)(F:dI h₀ f m w ht p0 kk)(Sc:gu h₀ sc m kd pt)(cj:1<=kd/\kd<=7){st:K.σ}(xS:K.sz st<=1000){v:PV}
  (mO:h[wr]?=aa (.inst 2 [(6,.ref sl),(1,.ref s),(7,.ref pr),(8,.ref K.sk)])) (mM:h[pr]?=aa (.inst 0 [(1,.ref s),(2,.int kd),(3,.int mid),(4,v)])) (hg:h[g]?=aa (.gen 25 [aa (.ref f),aa (.ref sc),ae,ae,ae,ae,ae,ae] ae)) {O:Nat->Prop} (hI:K.inv st O h)
  (nw: ¬ O wr) (np: ¬ O pr) (ng: ¬ O g) (lp:h₀.length<=pr) (lg:h₀.length<=g) (hw:0<w/\w<=1000) (hh:ht<=1000) (hN:N=w*ht) (pq:N<1000) (hB:I=(B:Nat)/\B=w\/I=0/\B=N) (fK:0<B) (jJ:0<N) (hdiv:N=N/B*B)
  (uN: ∀ i p,i<N->p<m->K.ok p (aG (fH (V p (i/w) (i%w)) (fG (V p) kd mid (decide (i/B*B/w=i/w)) (i%w) (i/w))))) (jd: ∀ i p,i<N->p<m->aG (fH (V p (i/w) (i%w)) (fG (V p) kd mid (decide (i/B*B/w=i/w)) (i%w) (i/w)))<=16)
  (q: ∀ h' fl O',h₀<+:h'->h'[fl]?=aa (.list ((K.outs (fw V kd mid m w B (N/B)) st).2.map PV.bytes))->K.inv (K.outs (fw V kd mid m w B (N/B)) st).1 O' h'->Q (.ref fl) h'):
  Wh ((run T (k+7) b).call 7 [.ref g,.int I,.ref wr]) h Q:=by
 have hm:=F.most;obtain⟨S1,eS⟩: ∃ f:Nat->Nat->K.σ,∀ j c,f j c=K.codes (fu V kd mid m w B j c) (K.outs (fw V kd mid m w B j) st).1:=⟨_,λzy zy=>rfl⟩;obtain⟨O1,eO⟩: ∃ f:Nat->List (List UInt8),∀ j,f j=(K.outs (fw V kd mid m w B j) st).2:=⟨_,λzy=>rfl⟩;have ON:S1 0 0=st:=eS 0 0;have hO0:O1 0=[]:=eO 0;have OO: ∀ j,(O1 j).length=j:=λj=>by rw[eO,OL];simp[fw]
 have Gr: ∀ j,S1 (j+1) 0=(K.fin (S1 j B)).1:=λj=>by rw[eS,eS,OJ,K.Gi];rfl
 have OP: ∀ j,O1 (j+1)=O1 j++[(K.fin (S1 j B)).2]:=λj=>by rw[eO,eO,eS,OJ,K.Gi]
 have Gs: ∀ j c,S1 j (c+1)=K.codes (ec V kd mid m w (j*B/w) (j*B+c)) (S1 j c):=λj c=>by rw[eS,eS,Bi,K.OF]
 replace q: ∀ h' fl O',h₀<+:h'->h'[fl]?=aa (.list ((O1 (N/B)).map PV.bytes))->K.inv (S1 (N/B) 0) O' h'->Q (.ref fl) h':=λh' fl O' a b c=>q h' fl O' a (by rw[<- eO];exact b) (by rw[eS] at c;exact c);clear eS eO;refine bc (c7 _ _ _ _ _ _) ?_;nofun;refine OB (aJ mO) (aJ mM) ?_;nofun;have su:=bh mM;have hlw:=bh mO;have hlg:=bh hg;have xT:=g7.length_le;have Gu:(h++[aB.list []]).length=h.length+1:=bb;have OQ:=K.lt _ _ _ hI;have Bm: ∀ (z:Nat) (o:aB),z≠pr->h[z]?=aa o->(((h++[aB.list []])++[aB.dict []]).set pr (.inst 0 [(1,.ref s),(2,.int kd),(3,.int mid),(4,.ref (h++[aB.list []]).length)]))[z]?=aa o:=λz o n e=>bj (aJ (aJ e)) (eI n);have W0:WI K wr sl s pr g h.length m kd mid st O [] [] (((h++[aB.list []])++[aB.dict []]).set pr (.inst 0 [(1,.ref s),(2,.int kd),(3,.int mid),(4,.ref (h++[aB.list []]).length)])):=by have uV:h₀<+:((h++[aB.list []])++[aB.dict []]).set pr (.inst 0 [(1,.ref s),(2,.int kd),(3,.int mid),(4,.ref (h++[aB.list []]).length)]):=eX (pre_app (pre_app g7)) lp;refine⟨uV,Bm _ _ (cy mO mM rfl) mO,⟨_,bF (aJ (aJ mM)),bj aM ((az [.t J0 J1,.e J2 (.a J1 Y1)] (.no (.e J0 J2))) su Gu),by exact(aQ [.l J0 J1,.t J1 J2,.e J3 (.a J2 Y1)] (.l J0 J3)) lp su Gu,λe=>by have:=OQ _ e;exact(au [.e J0 (.a J1 Y1),.t J0 J1] .ff) Gu this⟩,bj (aJ aM) (cq su),K.keep _ _ _ _ hI uV λz o ho e=>Bm _ _ (λq=>np (q▸ho)) e,nw,np,ng,λe=>by have:=OQ _ e;exact(aw [.t J0 J0] .ff) this,lp,xT,lg⟩
 refine Zr N (λi n7=>EK λ(h':PH) (O':Nat->Prop) (j c:Nat) (es:List (Int×PV)) (e5 e6 e7 e8 e9:Option PV)=>ue (i=j*B+c) (c<=B) ((c=0->i=0)) (n7=⟨h',[aa (.ref g),aa (.int I),aa (.ref wr),aa (.ref h.length),aa (.int (c:Nat)),e5,e6,e7,e8,e9]⟩) (WI K wr sl s pr g h.length m kd mid (S1 j c) O' es (O1 j) h') (uQ es m (if c=0 then 0 else m) (j*B/w)) (GenAt h' g f sc w N i) (K.sz (S1 j c)<=1000+128*i)) (Bm _ _ (cy hg mM rfl) hg) ?_ ?_ ?_
 .refine⟨_,O,0,0,[],_,_,_,_,_,by exact aw [] (.e Y0 (.a (.m 0 J0) Y0)),by exact cz _,λzy=>rfl,rfl,by rw[ON,hO0];exact W0,⟨by exact cz _,λp hp=>by rfl⟩,.inl ⟨rfl,Bm _ _ (cy hg mM rfl) hg⟩,by rw[ON];exact(aw [.l J0 (.n 1000)] (.l J0 (.n 1000))) xS⟩
 .rintro i _ KC hK hi ⟨h',O',j,c,es,e5,e6,e7,e8,e9,cc,sv,xU,rfl,W,qL,hG,cH⟩
  obtain⟨gb,gc,lI⟩: ∃ gb gc,h'[g]?=aa (.gen 25 gb gc):=by rcases hG with⟨_,e⟩|⟨_,_,e⟩ <;> exact⟨_,_,e⟩
  have bf:=K.lt _ _ _ W.inv;refine Z0 rfl (F.mono W.pre) (Sc.mono W.pre) hw hh hN hG hi λh2 u K2 hu Gl lF Gv=>?_;have lF:h'.length<=u:=lF;have K2:Kp g h' h2:=K2;obtain⟨gb2,gc2,xV⟩: ∃ gb gc,h2[g]?=aa (.gen 25 gb gc):=by rcases Gv with⟨_,e⟩|⟨_,_,e⟩ <;> exact⟨_,_,e⟩
  have W2:=W.kp lI K2;have uP:=W2.xQ;have uW:=W2.fJ;obtain⟨tp2,t1,t2,t3,t4⟩:=id W2.Gk;have Gw: ∀ Gx:Nat->Prop,(∀ z,Gx z->z<h'.length)-> ¬ Gx u:=λGx hz e=>by have:=hz _ e;exact ic ‹_› this
  have Bj:u≠h.length:=by have:=bh W.fJ;exact dK (dj this ‹_›)
  have Bn:(j*B+c)/B=if c=B then j+1 else j:=by
   split
   .rename_i e;subst e;rw[show j*c+c=(j+1)*c by rw[fN],zQ _ fK]
   .rw[dt,zU fK,oM (dH sv ‹_›)];rfl
  by_cases kA:c=B
  .obtain⟨hIB,Gy⟩:I=(B:Nat)/\B=w:=by
    rcases hB with e|⟨_,e⟩
    .exact e
    .exfalso;have:j*B>=0:=cz _;exact(dn [.e J0 J1,.t J2 J0,.e J2 (.a J3 J4),.e J4 J5,.e J5 J0] .ff) hN hi cc kA e
   nofun;refine OC K W2.pre uP W2.inv ((aQ [.e J0 J1,.t J0 (.n 1000),.t J2 J0,.l J3 (.a (.n 1000) (.m 128 J2))] (.l J3 (.n 200000))) hN pq hi cH) λh3 xO a1 a2 a3=>?_;have n2: ∀ z,z<h2.length-> ¬ O' z-> ¬ xO z:=λz hz hn e=>by rcases a3 _ e with e|e;exact hn e;exact ic e hz
   have Gz:=a2.get _ _ W2.nf uW;have GA:=a2.get _ _ W2.nw uP;have uY:=a2.get _ _ W2.np t1;have Bo:=a2.get _ _ W2.ng xV;have hz:((O1 j).map PV.bytes).length<1000000:=by rw[aX,OO];have:j<=j*B:=KZ _ fK;exact(ku [.an (.t Y0 J0) (.l J0 (.n 1000)),.e J1 J2,.t J1 (.n 1000),.t J3 J1,.e J3 (.a J4 J5),.e J5 J6,.e J6 J0,.l J7 J4] (.t J7 (.n 1000000))) hw hN pq hi cc kA Gy this
   have OS:h.length≠wr:=dK hlw;have GB:h.length≠pr:=dK su;have ngf:h.length≠g:=dK hlg;nofun;refine OB (bj GA OS) (bj uY GB) ?_;have aiX:=a2.len;have sx:=a2.pre W2.pre (K.low _ _ _ W2.inv);have aao:=K.lt _ _ _ a1;generalize hL:aB.list ((O1 j).map PV.bytes++[.bytes (K.fin (S1 j c)).2])=L;have GC:(h3.set h.length L).length=h3.length:=oF;have Bp: ∀ (z:Nat) (o:aB),z≠pr->z≠h.length->h3[z]?=aa o->((h3.set h.length L++[aB.dict []]).set pr (.inst 0 [(1,.ref s),(2,.int kd),(3,.int mid),(4,.ref (h3.set h.length L).length)]))[z]?=aa o:=λz o e1 e2 e=>bj (aJ (bj e (eI e2))) (eI e1);have OT:h₀<+:(h3.set h.length L++[aB.dict []]).set pr (.inst 0 [(1,.ref s),(2,.int kd),(3,.int mid),(4,.ref (h3.set h.length L).length)]):=eX (pre_app (eX sx xT)) lp;have qM:(O1 j)++[(K.fin (S1 j c)).2]=O1 (j+1):=by rw[OP,kA]
   rw[show(K.fin (S1 j c)).1=S1 (j+1) 0 by rw[Gr,kA]] at a1;have OU:K.sz (S1 (j+1) 0)<=1000+128*i:=by rw[kA] at cH;rw[Gr];exact cG (K.F8 _) cH
   have aap:K.sz (S1 (j+1) 0)<=149000:=(aQ [.e J0 J1,.t J0 (.n 1000),.t J2 J0,.l J3 (.a (.n 1000) (.m 128 J2))] (.l J3 (.n 149000))) hN pq hi OU;have W4:WI K wr sl s pr g h.length m kd mid (S1 (j+1) 0) xO [] (O1 (j+1)) ((h3.set h.length L++[aB.dict []]).set pr (.inst 0 [(1,.ref s),(2,.int kd),(3,.int mid),(4,.ref (h3.set h.length L).length)])):=by have j7:=bh uY;refine⟨OT,Bp _ _ (cy GA uY rfl) (eI OS) GA,⟨_,bF (aJ (bj uY GB)),bj aM ((az [.e J0 J1,.t J2 J1] (.no (.e J2 J0))) GC j7),by have:=sx.length_le;exact(aQ [.l J0 J1,.e J2 J3,.t J1 J3] (.l J0 J2)) lp GC j7,λe=>by have:=aao _ e;exact(au [.e J0 J1,.t J0 J1] .ff) GC this⟩,bj (aJ ((bF Gz).trans ?_)) (eI GB),K.keep _ _ _ _ a1 OT λz o ho e=>Bp _ _ (λq=>n2 _ (bh t1) W2.np (q▸ho)) (λq=>n2 _ (bh uW) W2.nf (q▸ho)) e,n2 _ (bh uP) W2.nw,n2 _ (bh t1) W2.np,n2 _ (bh xV) W2.ng,n2 _ (bh uW) W2.nf,lp,xT,lg⟩;rw[<- hL,<- qM,b8];rfl
   have OV:=a2.get _ _ (Gw _ bf) hu;have hu4:=Bp _ _ (cy OV uY rfl) Bj OV;have xW:=Bp _ _ (cy Bo uY rfl) (eI ngf) Bo;have Bq:i=(j+1)*B:=by rw[fN];exact(bU [.e J0 (.a J1 J2),.e J2 J3,.e J3 J4] (.e J0 (.a J1 J3))) cc kA Gy
   have sA:i/B=j+1:=by rw[Bq,zQ _ fK]
   have eu:(j+1)*B/w=i/w:=by rw[Bq]
   nofun;refine OI K mP S cj hm aap W4 hu4 (λe=>by rcases a3 _ e with e|e;exact Gw _ bf e;have:=bh hu;exact ic e this) Gl Bj xW hw.1 (hN▸hi) (nr eu) (.inr ⟨rfl,eu⟩) ⟨by exact cz _,λp hp=>by rfl⟩ (λp hp=>by have:=uN i p hi hp;rw[sA] at this;exact this) (λp hp=>by have:=jd i p hi hp;rw[sA] at this;exact this) λh5 O5 qN f6 f7 f8 f9 W5 hO5 xX sC=>?_;nofun;refine hK (.inl rfl) ⟨h5,O5,j+1,1,qN,_,_,_,_,_,by exact(aQ [.e J0 (.a J1 J2),.e J0 J3] (.e (.a J0 Y1) (.a J3 Y1))) cc Bq,by exact(au [.an (.t Y0 J0) (.l J0 (.n 1000)),.e J1 J0] (.l Y1 J1)) hw Gy,λe=>by exact(aw [.e Y1 Y0] (.e (.a J0 Y1) Y0)) e,rfl,?_,xX,Gv.congr (sC.trans xV.symm),?_⟩
   all_goals rw[show S1 (j+1) 1=K.codes (ec V kd mid m w ((j+1)*B/w) i) (S1 (j+1) 0) by have:=Gs (j+1) 0;rw[show(j+1)*B+0=i from Bq.symm] at this;exact this]
   .exact W5
   .have:=Gj K (y0:=(j+1)*B/w) (λp hp=>by have:=jd i p hi hp;rw[sA] at this;exact this) hm (S1 (j+1) 0) m
    rw[nj (by simp[ec])] at this;exact(az [.l J0 (.a (.n 1000) (.m 128 J1)),.l J2 (.a J0 (.n 128))] (.l J2 (.a (.n 1000) (.m 128 (.a J1 Y1))))) OU this
  .rw[if_neg kA] at Bn
   have sA:i/B=j:=by rw[cc];exact Bn
   have aiY: ¬ (0<I/\(c:Int)=I):=(o7 [.o (.an (.E Q0 (.c J0)) (.e J0 J1)) (.an (.E Q0 (.n 0)) (.e J0 J2)),.l J3 J0,.no (.e J3 J0)] (.no (.an (.T (.n 0) Q0) (.E (.c J3) Q0)))) hB sv kA;have eu:j*B/w<=i/w:=Nat.div_le_div_right ((az [.e J0 (.a J1 J2)] (.l J1 J0)) cc);have uK: ¬ O' u:=Gw _ bf;have lH:(if c=0 then 0 else m)=m\/(if c=0 then 0 else m)=0/\j*B/w=i/w:=by
    by_cases h0:c=0
    .right;rw[if_pos h0];exact⟨rfl,by rw[cc,h0];rfl⟩
    .left;rw[if_neg h0]
   have aaq:K.sz (S1 j (c+1))<=1000+128*(i+1):=by rw[Gs,<- cc];have:=Gj K (y0:=j*B/w) (λp hp=>by have:=jd i p hi hp;rw[sA] at this;exact this) hm (S1 j c) m;rw[nj (by simp[ec])] at this;exact(az [.l J0 (.a (.n 1000) (.m 128 J1)),.l J2 (.a J0 (.n 128))] (.l J2 (.a (.n 1000) (.m 128 (.a J1 Y1))))) cH this
   have fin: ∀ {R:aY->aj->Prop} {e6 e7 e8 e9:Option PV},(∀ h5 O5 qN f6 f7 f8 f9,WI K wr sl s pr g h.length m kd mid (S1 j (c+1)) O5 qN (O1 j) h5->uQ qN m m (j*B/w)->GenAt h5 g f sc w N (i+1)->R .next ⟨h5,[aa (.ref g),aa (.int I),aa (.ref wr),aa (.ref h.length),aa (.int (c:Nat)),aa (.ref u),f6,f7,f8,f9]⟩)->
     mC (.many [6,7,8,9]) (ah (bZ (bx br (af 2) 15 [(af 6),(af 7),(af 8),(af 9)])) ao) (run T (k+6) b) R (.ref u) ⟨h2,[aa (.ref g),aa (.int I),aa (.ref wr),aa (.ref h.length),aa (.int (c:Nat)),aa (.ref u),e6,e7,e8,e9]⟩:=by
    intro R e6 e7 e8 e9 hq;refine OI K mP S cj hm ((aQ [.e J0 J1,.t J0 (.n 1000),.t J2 J0,.l J3 (.a (.n 1000) (.m 128 J2))] (.l J3 (.n 149000))) hN pq hi cH) W2 hu uK Gl Bj xV hw.1 (hN▸hi) eu lH qL (λp hp=>by have:=uN i p hi hp;rw[sA] at this;exact this) (λp hp=>by have:=jd i p hi hp;rw[sA] at this;exact this) λh5 O5 qN f6 f7 f8 f9 W5 hO5 xX sC=>?_;refine hq h5 O5 qN f6 f7 f8 f9 ?_ xX (Gv.congr (sC.trans xV.symm));rw[Gs,<- cc];exact W5
   nofun;refine fF (λc1=>?_) λc1=>?_
   all_goals (nofun)
   all_goals refine fin λh5 O5 qN f6 f7 f8 f9 W5 xX hG5=>?_
   all_goals (nofun)
   all_goals exact hK (.inl rfl) ⟨h5,O5,j,c+1,qN,_,_,_,_,_,by exact(az [.e J0 (.a J1 J2)] (.e (.a J0 Y1) (.a J1 (.a J2 Y1)))) cc,by exact(au [.l J0 J1,.no (.e J0 J1)] (.l (.a J0 Y1) J1)) sv kA,λe=>by exact(au [.e (.a J0 Y1) Y0] (.e (.a J1 Y1) Y0)) e,rfl,W5,xX,hG5,aaq⟩
 .rintro _ KC ⟨h',O',j,c,es,e5,e6,e7,e8,e9,cc,sv,xU,rfl,W,qL,hG,cH⟩
  have hjc:c=B/\N/B=j+1:=by
   by_cases kA:c=B
   .refine⟨kA,?_⟩
    rw[cc,kA,show j*B+B=(j+1)*B by rw[fN],zQ _ fK]
   .exfalso
    have h1:N/B=j:=by rw[cc,dt,zU fK,oM (dH sv kA)];rfl
    rw[h1] at hdiv;have:=xU ((aQ [.e J0 J1,.e J0 J2,.e J0 (.a J2 J3)] (.e J3 Y0)) hN hdiv cc);exact(au [.e J0 J1,.t Y0 J0,.e J0 Y0] .ff) hN jJ this
  refine Z1 jJ hG λh2 K2=>?_;obtain⟨gb,gc,lI⟩: ∃ gb gc,h'[g]?=aa (.gen 25 gb gc):=by rcases hG with⟨_,e⟩|⟨_,_,e⟩ <;> exact⟨_,_,e⟩
  have W2:=W.kp lI K2;have uP:=W2.xQ;have uW:=W2.fJ;obtain⟨rfl,OW⟩:=hjc;rw[OW,Gr,OP] at q;have hz:((O1 j).map PV.bytes).length<1000000:=by rw[aX,OO];have:j<=j*c:=KZ _ fK;exact(dn [.e J0 J1,.t J0 (.n 1000),.t Y0 J2,.e J0 (.a J3 J2),.e J4 (.a J5 Y1),.l J5 J3] (.t J5 (.n 1000000))) hN pq fK cc OW this
  nofun;refine OC K W2.pre uP W2.inv ((az [.e J0 J1,.t J0 (.n 1000),.l J2 (.a (.n 1000) (.m 128 J0))] (.l J2 (.n 200000))) hN pq cH) λh3 xO a1 a2 a3=>?_;have Gz:=a2.get _ _ W2.nf uW;have sx:=a2.pre W2.pre (K.low _ _ _ W2.inv);nofun;have nf3: ¬ xO h.length:=λe=>by rcases a3 _ e with e|e;exact W2.nf e;have:=bh uW;exact ic e this
  refine q _ _ _ (eX sx xT) ((bF Gz).trans ?_) (K.keep _ _ _ _ a1 (eX sx xT) λz o ho e=>bj e (λq=>nf3 (q▸ho)));rw[b8];rfl
end
theorem aar(x y:Nat):Aq (x:Int) (y:Int)=((x ||| y:Nat):Int):=by
 have h: ∀ z:Nat,decide (0<=mh (z:Int))=ak:=λz=>by unfold mh;rw[decide_eq_false_iff_not];exact aw [] (.no (.L (.n 0) (.s (.g (.c J0)) (.n 1))))
 have g: ∀ z:Nat,mh (mh (z:Int))=z:=λz=>by unfold mh;exact aw [] (.E (.s (.g (.s (.g (.c J0)) (.n 1))) (.n 1)) (.c J0))
 show mh (rP (mh x) (mh y))=_;have:rP (mh (x:Int)) (mh (y:Int))=mh ((x ||| y:Nat):Int):=by unfold rP;rw[h x,h y];dsimp only;rw[g,g,bJ,bJ]
 rw[this,g]
theorem aas(x y:Nat):rP (x:Int) (y:Int)=((x &&& y:Nat):Int):=by rfl
theorem aat(hv:v<2^s):(x*2^s) ||| v=x*2^s+v:=by rw[<- Nat.shiftLeft_eq,Nat.shiftLeft_add_eq_or_of_lt hv]
theorem aau:x &&& (2^s-1)=x%2^s:=Nat.and_two_pow_sub_one_eq_mod x s
noncomputable def bz (v:Nat):Nat->List Bool:=oO [] λs r=>decide (v/2^s%2=1)::r
theorem gv(v:Nat)(s):(bz v s).length=s:=oO rfl (λzy=>congrArg (·+1)) s
theorem aav{t:Nat}(h:t<=s):bz (a*2^s+v) t=bz v t:=by
 induction t with
 |zero=>rfl
 |succ t ih=>show decide _::bz _ t=decide _::bz _ t;rw[ih (tJ h)];congr 2;obtain⟨d,rfl⟩: ∃ d,s=t+1+d:=⟨s-(t+1),by exact(az [.l (.a J0 Y1) J1,pB J2 J1 (.a J0 Y1)] (.e J1 (.a (.a J0 Y1) J2))) h (uB _ _)⟩;rw[show a*2^(t+1+d)+v=v+2^t*(2*(a*2^d)) by rw[wu,lZ,dt (2^t*2) (2^d),<- wo,dt (a*2^d),wq,wo (2^t) 2]];rw[Nat.add_mul_div_left _ _ (lY t),Nat.add_mul_mod_self_left]
theorem GD(hv:v<2^s)(t:Nat):bz (a*2^s+v) (t+s)=bz a t++bz v s:=by
 induction t with
 |zero=>rw[DO,aav (aS s)];rfl
 |succ t ih=>rw[show t+1+s=(t+s)+1 by exact au [] (.e (.a (.a J0 Y1) J1) (.a (.a J0 J1) Y1))];show decide _::bz _ (t+s)=decide _::(bz a t++bz v s);rw[ih];congr 2;rw[show t+s=s+t by exact au [] (.e (.a J0 J1) (.a J1 J0)),wu,<- K6,wq,Nat.add_mul_div_right _ _ (lY s),oM hv,DO]
noncomputable def cC (l:List UInt8):List Bool:=l.flatMap λx=>bz x.toNat 8
structure BW (h:PH) (bw fl:Nat) (full:List UInt8) (rest size:Nat):Prop where
 obj:h[bw]?=aa (.inst 7 [(28,.ref fl),(29,.int (rest:Nat)),(30,.int (size:Nat))])
 arr:h[fl]?=aa (.cb full)
theorem xY{n:Nat}(h:n<256):qu (n:Int)=ag:=by unfold qu;rw[rq,decide_eq_true_eq,decide_eq_true_eq];exact(aw [.t J0 (.n 256)] (.an (.L (.n 0) (.c J0)) (.T (.c J0) (.n 256)))) h
theorem qO{n:Nat}(h:n<=1000000):eC (n:Int)=ag:=by unfold eC;rw[rq,decide_eq_true_eq,decide_eq_true_eq];exact(aw [.l J0 (.n 1000000)] (.an (.L (.n 0) (.c J0)) (.L (.c J0) (.n 1000000)))) h
section
variable{k:Nat}{h:PH}{bw fl rest size v s:Nat}{full:List UInt8}{Q:PV->PH->Prop}
theorem GF(W:BW h bw fl full rest size)(hv:v<2^s)(hs:s<=16)(hr:rest<2^size)(hz:size<8)(hf:full.length<900000)
  (q: ∀ h' ew dB dY,BW h' bw fl ew dB dY->dY<8->dB<2^dY->cC ew++bz dB dY=cC full++bz rest size++bz v s->dq (λk=>k=bw\/k=fl) h h'->Q .none h'):Wh ((run T (k+1) ag).call 69 [.ref bw,.int (v:Nat),.int (s:Nat)]) h Q:=by
 refine bc (WH _ _ _ _ _ _) ?_;obtain⟨w1,w2⟩:=W;have g1:(eC (s:Int)&&bT 1)=ag:=by rw[qO ((aw [.l J0 (.n 16)] (.l J0 (.n 1000000))) hs)];rfl
 have dN:(v:Int)<1*2^(s:Int).toNat:=by rw[bJ,vZ];exact_mod_cast hv
 nofun;have g2:(eC (s:Int)&&bT (rest:Int))=ag:=by rw[qO ((aw [.l J0 (.n 16)] (.l J0 (.n 1000000))) hs)];have:rest<256:=dj hr (cG (zP (by decide) (fY hz)) (by decide));unfold bT;rw[Dd,decide_eq_true_eq];exact(au [.t J0 (.n 256),pA J1 (.c J0)] (.t J1 (.n 18446744073709551616))) this (uA _)
 nofun;have OX:Aq ((rest:Int)*2^s) (v:Int)=((rest*2^s+v:Nat):Int):=by rw[show((rest:Int)*2^s)=((rest*2^s:Nat):Int) by rw[JP,lU];rfl,aar,aat hv]
 simp only[jO,bJ,OX];have aaw:(size:Int)+(s:Int)=((size+s:Nat):Int):=au [] (.E (.a (.c J0) (.c J1)) (.c (.a J0 J1)));rw[aaw];have hR:rest*2^s+v<2^(size+s):=by rw[wu];have:(rest+1)*2^s<=2^size*2^s:=lX _ hr;rw[fN] at this;exact(o7 [.t J0 J1,.E Q0 (.c (.a J2 J0)),.l (.a J2 J1) J3] (.t (.a J2 J0) J3)) hv OX this
 have d8:bw≠fl:=cy w1 w2 rfl;refine xI (λm st=>ub λh' ew dB dY=>ue (st=⟨h',[aa (.ref bw),aa (.int (v:Nat)),aa (.int (s:Nat)),ae]⟩) (BW h' bw fl ew dB dY) (dB<2^dY) (cC ew++bz dB dY=cC full++bz rest size++bz v s) (dq (λk=>k=bw\/k=fl) h h') (m=dY) (dY<=24) (ew.length+dY<=full.length+24)) (m:=size+s) ⟨_,full,_,_,rfl,⟨bF w1,bj w2 d8⟩,hR,by rw[wq size s,wq s size,GD hv size,eH],⟨by simp,λz o n e=>bj e (λq=>n (.inl q.symm))⟩,rfl,by exact(au [.l J0 (.n 16),.t J1 (.n 8)] (.l (.a J1 J0) (.n 24))) hs hz,by exact(az [.l J0 (.n 16),.t J1 (.n 8)] (.l (.a J2 (.a J1 J0)) (.a J2 (.n 24)))) hs hz⟩ ?_;rintro m _ KC hC ⟨h',ew,dB,dY,rfl,⟨b1,b2⟩,jf,OY,hK,rfl,eB,j8⟩;nofun;refine se (λe=>?_) λe=>?_
 rotate_left
 .nofun
  exact q h' ew dB m ⟨b1,b2⟩ ((aw [.no (.L (.n 8) (.c J0))] (.t J0 (.n 8))) e) jf OY hK
 .have cH:8<=m:=(aw [.L (.n 8) (.c J0)] (.l (.n 8) J0)) e
  obtain⟨t,rfl⟩: ∃ t,m=t+8:=⟨m-8,by exact(au [.L (.n 8) (.c J0),pB J1 J0 (.n 8)] (.e J0 (.a J1 (.n 8)))) e (uB _ _)⟩;have g3:eC (t:Int)=ag:=qO ((aw [.l (.a J0 (.n 8)) (.n 24)] (.l J0 (.n 1000000))) eB);have g4:(eC (t:Int)&&bT 1)=ag:=by rw[g3];rfl
  have ht:((t+8:Nat):Int)-8=(t:Nat):=aw [] (.E (.s (.c (.a J0 (.n 8))) (.n 8)) (.c J0));nofun;rw[ht];nofun;have OZ:dB/2^t<256:=by rw[K7 (lY t)];have:=jf;rw[wu] at this;omega
  have hfd:(dB:Int).fdiv (2^(t:Int).toNat)=((dB/2^t:Nat):Int):=by rw[bJ,zt _ (Di (Int.pow_pos (by decide))),JN,lU];rfl
  rw[hfd];refine sf (bj b2 d8) (xY OZ) ((az [.t J0 (.n 900000),.l (.a J1 (.a J2 (.n 8))) (.a J0 (.n 24))] (.t J1 (.n 1000000))) hf j8) ?_;nofun;have hand:rP (dB:Int) (2^t-1)=((dB%2^t:Nat):Int):=by rw[show((2:Int)^t-1)=((2^t-1:Nat):Int) by have:=lY t;rw[JQ this,lU];rfl,aas,aau]
  rw[bJ,bJ,vZ,hand];refine hC (.inl rfl) (m':=t) (aw [] (.t J0 (.a J0 (.n 8)))) ⟨_,_,_,_,rfl,⟨bF (bj (bF b1) (eI d8)),bj (bF (bj b2 d8)) d8⟩,la _ (lY t),?_,?_,rfl,by exact(aw [.l (.a J0 (.n 8)) (.n 24)] (.l J0 (.n 24))) eB,by simp;exact(az [.l (.a J0 (.a J1 (.n 8))) (.a J2 (.n 24))] (.l (.a (.a J0 Y1) J1) (.a J2 (.n 24)))) j8⟩
  .rw[<- OY]
   have e1:bz dB (t+8)=bz (dB/2^t) 8++bz (dB%2^t) t:=by rw[wq,<- GD (la _ (lY t)) 8,dt,oN]
   unfold cC;rw[e1,jM,eH];congr 1;simp[ua OZ]
  .exact⟨by have:=hK.len;simpa using this,λz o n e=>bj (bj (bj (hK.get z o n e) (λq=>n (.inl q.symm))) (λq=>n (.inr q.symm))) (λq=>n (.inl q.symm))⟩
end
section
variable{k:Nat}{h:PH}{bw fl rest size:Nat}{full:List UInt8}{Q:PV->PH->Prop}
theorem aax(hs:h[bw]?=aa (.inst 7 []))(q:Q .none (h.set bw (.inst 7 [(28,.ref h.length),(29,.int 0),(30,.int 0)])++[aB.cb []])):Wh ((run T (k+1) ag).call 68 [.ref bw]) h Q:=by refine bc (WG _ _ _ _) ?_;nofun;have hl:=bh hs;refine FC (bF (aJ hs)) rfl ?_;nofun;refine FC (bF (bF (aJ hs))) rfl ?_;nofun;rw[jO,jO,JV _ _ (bh hs)];exact q
theorem aay(W:BW h bw fl full rest size)(hf:full.length<100000)(q:Q (.bytes full) h):Wh ((run T (k+1) ag).call 71 [.ref bw]) h Q:=by obtain⟨w1,w2⟩:=W;refine bc (WK _ _ _ _) ?_;nofun;refine A1 w2 ((aw [.t J0 (.n 100000)] (.l J0 (.n 1000000))) hf) ?_;nofun
end
noncomputable def fT (l:List Bool):List Bool:=l++cX ((8-l.length%8)%8) ag
theorem GG(a s:Nat)(b:Bool):bz (2*a+b.toNat) (s+1)=bz a s++[b]:=by have h:=GD (a:=a) (v:=b.toNat) (s:=1) (by cases b <;> decide) s;rw[show a*2^1+b.toNat=2*a+b.toNat by exact au [] (.e (.a (.w J0 2) J1) (.a (.m 2 J0) J1))] at h;rw[h];cases b <;> rfl
theorem O0: ∀ n,bz (2^n-1) n=cX n ag
 |0=>rfl
 |n+1=>by have h:=GG (2^n-1) n ag;have:=lY n;rw[show 2*(2^n-1)+true.toNat=2^(n+1)-1 by rw[lZ];simp only[Bool.toNat_true];exact(az [.t Y0 J0,pB J1 J0 Y1,pB J2 (.w J0 2) Y1] (.e (.a (.m 2 J1) Y1) J2)) this (uB _ _) (uB _ _)] at h;rw[h,O0 n,List.replicate_succ']
theorem mQ: ∀ l:List UInt8,(cC l).length=8*l.length
 |[]=>rfl
 |x::r=>by show(bz x.toNat 8++cC r).length=_;rw[bb,gv,mQ r,fW];exact aw [] (.e (.a (.n 8) (.m 8 J0)) (.m 8 (.a J0 Y1)))
noncomputable def kC (l:List Bool):Nat:=l.foldl (λa b=>2*a+b.toNat) 0
theorem GH(l:List Bool)(b:Bool):kC (l++[b])=2*kC l+b.toNat:=by unfold kC;rw[Dt];rfl
theorem snoc_ind{α:Type}{P:List α->Prop}(h0:P [])(h1: ∀ l a,P l->P (l++[a]))(l:List α):P l:=by
 have:P l.reverse.reverse:=by
  induction l.reverse with
  |nil=>exact h0
  |cons a r ih=>rw[wc];exact h1 _ _ ih
 rw[List.reverse_reverse] at this;exact this
theorem aaz(l:List Bool):bz (kC l) l.length=l:=by refine snoc_ind (P:=λl=>bz (kC l) l.length=l) rfl (λl b ih=>?_) l;rw[bb,GH];show bz (2*kC l+b.toNat) (l.length+1)=_;rw[GG,ih]
theorem O4: ∀ (s v:Nat),v<2^s->kC (bz v s)=v
 |0,v,h=>by have:v=0:=(aw [.t J0 Y1] (.e J0 Y0)) h;subst this;rfl
 |s+1,v,h=>by
  have e:=GG (v/2) s (decide (v%2=1));have h2:(decide (v%2=1)).toNat=v%2:=by rcases DD v with h|h <;> rw[h] <;> rfl
  rw[h2,oN] at e;rw[e,GH,O4 s (v/2) (by rw[lZ] at h;exact(az [.t J0 (.w J1 2),pD 2 J2 J0] (.t J2 J1)) h (uD _ 2)),h2,oN]
noncomputable def uZ:Nat->List Bool->List UInt8:=oO (λzy=>[]) λzy ih l=>bY (kC (l.take 8))::ih (l.drop 8)
noncomputable def mR (l:List Bool):List UInt8:=uZ (l.length/8) l
theorem aaA(l:List UInt8):uZ l.length (cC l)=l:=by
 induction l with
 |nil=>rfl
 |cons x r ih=>have e:cC (x::r)=bz x.toNat 8++cC r:=rfl;show bY (kC ((cC (x::r)).take 8))::uZ r.length ((cC (x::r)).drop 8)=_;rw[e,tx (by rw[gv];exact aS _),List.drop_append_of_le_length (by rw[gv];exact aS _),nj (by rw[gv];exact aS _),v8 (by rw[gv];exact aS _),oH,ih,O4 8 _ x.toNat_lt,Mk]
theorem aaB(l:List UInt8):mR (cC l)=l:=by unfold mR;rw[mQ,zO _ (by decide)];exact aaA l
theorem O6: ∀ (n:Nat) (l:List Bool),l.length=8*n->cC (uZ n l)=l
 |0,l,h=>by have:l=[]:=rt.mp ((aw [.e J0 Y0] (.e J0 Y0)) h);subst this;rfl
 |n+1,l,h=>by
  have e8:(l.take 8).length=8:=by rw[gT];exact(az [.e J0 (.m 8 (.a J1 Y1)),pM J2 (.n 8) J0] (.e J2 (.n 8))) h (uM _ _)
  have hv:kC (l.take 8)<256:=by
   have: ∀ l:List Bool,kC l<2^l.length:=λl=>by refine snoc_ind (P:=λl=>kC l<2^l.length) (by decide) (λl b ih=>?_) l;rw[GH,bb];show _<2^(l.length+1);rw[lZ];have:b.toNat<=1:=Bool.toNat_le b;exact(az [.t J0 J1,.l J2 Y1] (.t (.a (.m 2 J0) J2) (.w J1 2))) ih this
   have:=this (l.take 8);rw[e8] at this;exact this
  show bz (bY (kC (l.take 8))).toNat 8++cC (uZ n (l.drop 8))=l;have e:=aaz (l.take 8);rw[e8] at e;rw[ua hv,e,O6 n (l.drop 8) (by rw[Ky];exact(az [.e J0 (.m 8 (.a J1 Y1)),pB J2 J0 (.n 8)] (.e J2 (.m 8 J1))) h (uB _ _)),oC]
theorem aaC(l:List Bool):(fT l).length%8=0:=by unfold fT;rw[bb,tB];exact(ku [pR 8 J4 J5 J1,pB J3 (.n 8) J4,pR 8 J2 J6 J3,pR 8 J0 J7 (.a J1 J2)] (.e J0 Y0)) (uR _ 8) (uB _ _) (uR _ 8) (uR _ 8)
theorem aaD(h:l.length%8=0):cC (mR l)=l:=O6 _ _ ((az [.e J0 Y0,pR 8 J0 J2 J1] (.e J1 (.m 8 J2))) h (uR _ 8))
section
variable{k:Nat}{h:PH}{bw fl rest size:Nat}{full:List UInt8}{Q:PV->PH->Prop}
theorem aaE(W:BW h bw fl full rest size)(hr:rest<2^size)(hz:size<8)(hf:full.length<900000)
  (q: ∀ h' ew,BW h' bw fl ew 0 0->cC ew=fT (cC full++bz rest size)->dq (λk=>k=bw\/k=fl) h h'->Q .none h'):Wh ((run T (k+2) ag).call 70 [.ref bw]) h Q:=by
 obtain⟨w1,w2⟩:=id W;refine bc (WJ _ _ _ _) ?_;have hL:(cC full++bz rest size).length%8=size:=by rw[bb,mQ,gv];exact(aQ [.t J0 (.n 8),pR 8 J1 J3 (.a (.m 8 J2) J0)] (.e J1 J0)) hz (uR _ 8)
 nofun;refine fF (λc=>?_) λc=>?_
 .have g0:eC (8-(size:Int))=ag:=by rw[show 8-(size:Int)=((8-size:Nat):Int) from(au [.t J0 (.n 8),pB J1 (.n 8) J0] (.E (.s (.n 8) (.c J0)) (.c J1))) hz (uB _ _)];exact qO ((au [.T (.n 0) (.c J0),pB J1 (.n 8) J0] (.l J1 (.n 1000000))) c (uB _ _))
  have g1:(eC (8-(size:Int))&&bT 1)=ag:=by rw[g0];rfl
  nofun;have e1:(1:Int)*2^(8-(size:Int)).toNat-1=((2^(8-size)-1:Nat):Int):=by have:=lY (8-size);rw[vZ,show(8-(size:Int)).toNat=8-size from(az [.t J0 (.n 8),pT J1 (.s (.n 8) (.c J0)),pB J2 (.n 8) J0] (.e J1 J2)) hz (uT _) (uB _ _),JQ this,lU];rfl
  have e2:8-(size:Int)=((8-size:Nat):Int):=(au [.t J0 (.n 8),pB J1 (.n 8) J0] (.E (.s (.n 8) (.c J0)) (.c J1))) hz (uB _ _);rw[e1,e2];have:=lY (8-size);refine GF W ((au [.t Y0 J0,pB J1 J0 Y1] (.t J1 J0)) this (uB _ _)) ((au [.T (.n 0) (.c J0),.E (.s (.n 8) (.c J0)) (.c J1),pB J1 (.n 8) J0] (.l J1 (.n 16))) c e2 (uB _ _)) hr hz hf λh' ew dB dY W' fc jf hb K=>?_;have hlen:=congrArg wi hb;rw[bb,bb,bb,mQ,mQ,gv,gv,gv] at hlen;obtain rfl:dY=0:=(bU [.E (.s (.n 8) (.c J0)) (.c J1),.t J2 (.n 8),.e (.a (.m 8 J3) J2) (.a (.a (.m 8 J4) J0) J1),pB J1 (.n 8) J0] (.e J2 Y0)) e2 fc hlen (uB _ _);obtain rfl:dB=0:=(aw [.t J0 Y1] (.e J0 Y0)) jf;nofun;refine q _ _ W' ?_ K;have e3:cC ew++bz 0 0=cC ew:=jr _;rw[<- e3,hb,O0];unfold fT;rw[hL,show(8-size)%8=8-size from(aQ [.T (.n 0) (.c J0),.E (.s (.n 8) (.c J0)) (.c J1),pB J1 (.n 8) J0,pR 8 J2 J3 J1] (.e J2 J1)) c e2 (uB _ _) (uR _ 8)]
 .obtain rfl:size=0:=(aw [.no (.T (.n 0) (.c J0))] (.e J0 Y0)) c
  obtain rfl:rest=0:=(aw [.t J0 Y1] (.e J0 Y0)) hr;nofun;refine q _ _ W ?_ (dq.refl _ _);unfold fT;rw[hL];simp[show bz 0 0=[] from rfl]
theorem O7(q: ∀ h',h'=h++[.inst 7 [(28,.ref (h.length+1)),(29,.int 0),(30,.int 0)],.cb []]->Q (.ref h.length) h'):Wh ((run T (k+2) ag).call 92 []) h Q:=by refine j3 Zj (aax aM (q _ ?_));rw[rx _ _ (aS _)];simp
end
inductive lJ (h:PH) (t:Nat) (c:Nat->Nat) (sy:List Int):Prop
 |mk (r:Nat) (cd:Nat) (s1:h[t]?=aa (.inst 6 [(25,.tup ((ar 16).map λi=> .int (c i:Nat))),(26,.tup (sy.map PV.int)),(5,.ref r),(27,.ref cd)])) (s2:h[cd]?=aa (.dict (KD PV.int ((jZ c sy).map λe=>(e.1,.tup [.int (e.2.1:Nat),.int (e.2.2:Nat)]))))) (s3:t<cd):lJ h t c sy
inductive pv (h:PH) (tb m:Nat) (C:Nat->Nat->Nat) (SY:Nat->List Int):Prop
 |mk (U:Nat->Nat) (s1:h[tb]?=aa (.dict (KD KP ((ar m).map λp:Nat=>(((0:Int),(p:Int)),.ref (U p)))))) (s2: ∀ p,p<m->lJ h (U p) (C p) (SY p)):pv h tb m C SY
theorem lJ.mono{h h':PH}{t:Nat}{c:Nat->Nat}{sy:List Int}(H:lJ h t c sy)(p:h<+:h'):lJ h' t c sy:=by obtain⟨r,cd,a,b,c⟩:=H;exact⟨r,cd,aI p a,aI p b,c⟩
theorem pv.mono{h h':PH}{tb m:Nat}{C:Nat->Nat->Nat}{SY:Nat->List Int}(H:pv h tb m C SY)(p:h<+:h'):pv h' tb m C SY:=by obtain⟨U,a,b⟩:=H;exact⟨U,aI p a,λi hi=>(b i hi).mono p⟩
theorem Br{α β γ:Type}{_:BEq α}[LawfulBEq α](f:β->γ)(a:α): ∀ l:List (α×β),(l.map λe=>(e.1,f e.2)).lookup a=(l.lookup a).map f
 |[]=>rfl
 |(x,y)::r=>by
  rw[gG,lW,lW];induction a==x using dD with
  |true=>rfl
  |false=>exact Br f a r
noncomputable def pw (c:Nat->Nat) (sy:List Int) (s:Int):List Bool:=match(jZ c sy).lookup s with|some x=>bz x.1 x.2|none=>[]
theorem O8(c:Nat->Nat)(sy:List Int)(s:Int):(pw c sy s).length<=16:=by
 unfold pw;cases e:(jZ c sy).lookup s with
 |none=>exact cz _
 |some x=>obtain⟨k,t,hk,e⟩:=AF (uo e);dsimp only;rw[gv,show x=(s,x).2 from rfl,e];show k+1<=16;rcases hk with h|h <;> (first|exact(az [.an (.t J0 (.n 16)) (.t J1 J2)] (.l (.a J0 Y1) (.n 16))) h|exact(au [.an (.e J0 (.n 16)) (.t J1 Y0)] (.l (.a J0 Y1) (.n 16))) h)
theorem O9{m p:Nat}{f:Nat->PV}(hp:p<m): @lW (Int×Int) PV instBEqOfDecidableEq ((0:Int),(p:Int)) ((ar m).map λp:Nat=>(((0:Int),(p:Int)),f p))=aa (f p):=by refine mr ?_ (bX.mpr ⟨p,by simpa using hp,rfl⟩);rw[cV];refine Du.mpr (zJ.imp ?_);intro a b gV e;simp only[oz,tL] at e;omega
section
variable{k t m tb p s:Nat}{b:Bool}{c:Nat->Nat}{sy:List Int}{C:Nat->Nat->Nat}{SY:Nat->List Int}{h:PH}{Q:PV->PH->Prop}
theorem aaF{s:Int}{cd L:Nat}(H:lJ h t c sy)(T':ek c sy)(hs:(s,cd,L)∈jZ c sy)(q:Q (.tup [.int (cd:Nat),.int (L:Nat)]) h):Wh ((run T (k+1) b).call 67 [.ref t,.int s]) h Q:=by obtain⟨r,d,a1,a2,-⟩:=H;refine bc (WD _ _ _ _ _) ?_;have hk:keysOk (.int s) (KD PV.int ((jZ c sy).map λe=>(e.1,.tup [.int (e.2.1:Nat),.int (e.2.2:Nat)])))=ag:=eZ dA s _;nofun;rw[jH dA s,Br (λx:Nat×Nat=>PV.tup [.int (x.1:Nat),.int (x.2:Nat)]),T'.look hs];nofun;exact q
theorem aaG(hT:pv h tb m C SY)(hO: ∀ p,p<m->ek (C p) (SY p))(hp:p<m)(hs:(s:Int)∈SY p)(cU:h[sk]?=aa (.inst 8 [(31,.ref tb),(32,.ref bw)]))(W:BW h bw fl full rest size)(hr:rest<2^size)(hz:size<8)(hf:full.length<900000)
  (q: ∀ h' ew dB dY,BW h' bw fl ew dB dY->dY<8->dB<2^dY->cC ew++bz dB dY=cC full++bz rest size++pw (C p) (SY p) s->dq (λk=>k=bw\/k=fl) h h'->Q .none h'):
  Wh ((run T (k+2) ag).call 73 [.ref sk,.tup [.int 0,.int (p:Nat)],.int (s:Nat)]) h Q:=by
 obtain⟨U,a1,a2⟩:=hT;obtain⟨cd,L,hm⟩:=(hO p hp).code hs;obtain⟨r,d,b1,b2,-⟩:=(a2 p hp);obtain⟨l1,l2,l3,-⟩:=(hO p hp).mem hm;have w1:=W.obj;refine bc (WM _ _ _ _ _ _) ?_;nofun;refine pf a1 (eZ iA ((0:Int),(p:Int)) _) ((jH iA ((0:Int),(p:Int)) _).trans (O9 (f:=λp=>PV.ref (U p)) hp)) ?_;nofun;refine aaF (a2 p hp) (hO p hp) hm ?_;nofun;refine GF W l3 l2 hr hz hf λh' ew dB dY W' fc jf hb K=>?_;nofun;refine q _ _ _ _ W' fc jf ?_ K;rw[hb];unfold pw;rw[(hO p hp).look hm]
theorem aaH(h0:0<=v)(hv:v<2^s)(hs:s<=16)(cU:h[sk]?=aa (.inst 8 [(31,.ref tb),(32,.ref bw)]))(W:BW h bw fl full rest size)(hr:rest<2^size)(hz:size<8)(hf:full.length<900000)
  (q: ∀ h' ew dB dY,BW h' bw fl ew dB dY->dY<8->dB<2^dY->cC ew++bz dB dY=cC full++bz rest size++bz v.toNat s->dq (λk=>k=bw\/k=fl) h h'->Q .none h'):
  Wh ((run T (k+2) ag).call 74 [.ref sk,.int v,.int (s:Nat)]) h Q:=by
 have w1:=W.obj;obtain⟨n,rfl⟩: ∃ n:Nat,v=n:=⟨v.toNat,by exact(cM [.L (.n 0) Q0,pT J0 Q0] (.E Q0 (.c J0))) h0 (uT _)⟩;have dN:n<2^s:=by exact_mod_cast hv
 refine bc (WN _ _ _ _ _ _) ?_;nofun;refine GF W dN hs hr hz hf λh' ew dB dY W' fc jf hb K=>?_;nofun;exact q _ _ _ _ W' fc jf hb K
theorem aaI(cU:h[sk]?=aa (.inst 8 [(31,.ref tb),(32,.ref bw)]))(W:BW h bw fl full rest size)(hr:rest<2^size)(hz:size<8)(hf:full.length<90000)
  (q: ∀ h' xZ fJ,h.length<=xZ->h.length<=fJ->h'[sk]?=aa (.inst 8 [(31,.ref tb),(32,.ref xZ)])->BW h' xZ fJ [] 0 0->dq (λk=>k=sk\/k=bw\/k=fl) h h'->Q (.bytes (mR (fT (cC full++bz rest size)))) h'):
  Wh ((run T (k+3) ag).call 75 [.ref sk]) h Q:=by
 have w1:=W.obj;refine bc (WO _ _ _ _) ?_;nofun;refine aaE W hr hz ((aw [.t J0 (.n 90000)] (.t J0 (.n 900000))) hf) λh1 ew W1 hb K1=>?_;have hl:=congrArg wi hb;unfold fT at hl;rw[bb,bb,tB,mQ,mQ,gv] at hl;have Pa:=K1.get _ _ (by rintro(e|e);exact cy cU w1 rfl e;exact cy cU W.arr rfl e) cU;have w2:=W1.obj;nofun;refine aay (k:=k+1) W1 ((ku [.t J0 (.n 8),.t J1 (.n 90000),.e (.m 8 J2) (.a (.a (.m 8 J1) J0) J3),pR 8 J5 J6 (.a (.m 8 J1) J0),pB J4 (.n 8) J5,pR 8 J3 J7 J4] (.t J2 (.n 100000))) hz hf hl (uR _ 8) (uB _ _) (uR _ 8)) ?_;nofun;refine O7 λh2 e2=>?_;have pre:h1<+:h2:=e2▸bH _ _;have aaJ:=aI pre Pa;have bf:=bh Pa;have n1:h2[h1.length]?=aa (.inst 7 [(28,.ref (h1.length+1)),(29,.int 0),(30,.int 0)]):=e2▸sg;have n2:h2[h1.length+1]?=aa (.cb []):=e2▸FK;have dX:=K1.len;have eY:=pre.length_le;nofun;rw[show ew=mR (fT (cC full++bz rest size)) by rw[<- hb,aaB]];refine q _ h1.length (h1.length+1) dX (nq dX) (bF aaJ) ⟨bj n1 (cq bf),bj n2 ((au [.t J0 J1] (.no (.e J0 (.a J1 Y1)))) bf)⟩ ⟨by simp;exact cG dX eY,λz o n e=>bj (aI pre (K1.get _ _ (λe=>n (.inr e)) e)) λe=>n (.inl e.symm)⟩
end
noncomputable def n9 (h₀:PH) (k sk tb m:Nat) (C:Nat->Nat->Nat) (SY:Nat->List Int) (hT:pv h₀ tb m C SY) (hO: ∀ p,p<m->ek (C p) (SY p)) (cU:h₀.length<=sk):Sink h₀ (k+3) ag where
 σ:=List Bool
 sk:=sk
 c:=8
 iS:=73
 iB:=74
 iF:=75
 inv st O h:=nG λbw fl full rest size=>ue (h[sk]?=aa (.inst 8 [(31,.ref tb),(32,.ref bw)])) (BW h bw fl full rest size) (size<8) (rest<2^size) (cC full++bz rest size=st) (O=(λz=>z=sk\/z=bw\/z=fl)) (h₀.length<=bw) (h₀.length<=fl)
 sym p s st:=st++pw (C p) (SY p) s
 bits v s st:=st++bz v.toNat s
 fin st:=([],mR (fT st))
 ok p s:=p<m/\(s:Int)∈SY p
 mS:=rfl
 mB:=rfl
 mF:=rfl
 at':=λst O h zz=>by obtain⟨bw,fl,full,rest,size,i1,i2,i3,i4,i5,i6,i7,i8⟩:=zz;exact⟨_,i1⟩
 low:=λst O h zz z hz=>by obtain⟨bw,fl,full,rest,size,i1,i2,i3,i4,i5,i6,i7,i8⟩:=zz;subst i6;rcases hz with rfl|rfl|rfl <;> assumption
 lt:=λst O h zz z hz=>by
  obtain⟨bw,fl,full,rest,size,i1,i2,i3,i4,i5,i6,i7,i8⟩:=zz;subst i6;rcases hz with rfl|rfl|rfl
  .exact bh i1
  .exact bh i2.obj
  .exact bh i2.arr
 keep:=λst O h h' zz hp hk=>by obtain⟨bw,fl,full,rest,size,i1,i2,i3,i4,i5,i6,i7,i8⟩:=zz;subst i6;exact⟨bw,fl,full,rest,size,hk _ _ (.inl rfl) i1,⟨hk _ _ (.inr (.inl rfl)) i2.obj,hk _ _ (.inr (.inr rfl)) i2.arr⟩,i3,i4,i5,rfl,i7,i8⟩
 sz st:=st.length
 Be p s st:=by rw[bb];have:=O8 (C p) (SY p) s;exact(au [.l J0 (.n 16)] (.l (.a J1 J0) (.a J1 (.n 16)))) this
 F7 v s st hs:=by rw[bb,gv];exact(au [.l J0 (.n 16)] (.l (.a J1 J0) (.a J1 (.n 16)))) hs
 F8 st:=cz _
 F9:=λst O h p s zz hz hp ⟨mT,hs⟩ Q q=>by obtain⟨bw,fl,full,rest,size,i1,i2,i3,i4,i5,i6,i7,i8⟩:=zz;subst i6;subst i5;rw[bb,mQ] at hz;exact aaG (hT.mono hp) hO mT hs i1 i2 i4 i3 ((au [.l (.a (.m 8 J0) J1) (.n 200000)] (.t J0 (.n 900000))) hz) λh' ew dB dY W' fc jf hb K=>q h' _ ⟨bw,fl,ew,dB,dY,K.get _ _ (by rintro(e|e);exact cy i1 i2.obj rfl e;exact cy i1 i2.arr rfl e) i1,W',fc,jf,hb,rfl,i7,i8⟩ (K.mono λz zy e=> .inr e) λz e=> .inl e
 Ga:=λst O h v s zz hz hp h0 hv hs Q q=>by obtain⟨bw,fl,full,rest,size,i1,i2,i3,i4,i5,i6,i7,i8⟩:=zz;subst i6;subst i5;rw[bb,mQ] at hz;exact aaH h0 hv hs i1 i2 i4 i3 ((au [.l (.a (.m 8 J0) J1) (.n 200000)] (.t J0 (.n 900000))) hz) λh' ew dB dY W' fc jf hb K=>q h' _ ⟨bw,fl,ew,dB,dY,K.get _ _ (by rintro(e|e);exact cy i1 i2.obj rfl e;exact cy i1 i2.arr rfl e) i1,W',fc,jf,hb,rfl,i7,i8⟩ (K.mono λz zy e=> .inr e) λz e=> .inl e
 Gb:=λst O h zz hz hp Q q=>by
  obtain⟨bw,fl,full,rest,size,i1,i2,i3,i4,i5,i6,i7,i8⟩:=zz;subst i6;subst i5;rw[bb,mQ] at hz;have hl:=hp.length_le;exact aaI i1 i2 i4 i3 ((au [.l (.a (.m 8 J0) J1) (.n 200000)] (.t J0 (.n 90000))) hz) λh' xZ fJ l1 l2 a1 a2 a3=>q h' _ ⟨xZ,fJ,[],0,0,a1,a2,by decide,by decide,rfl,rfl,by exact cG hl l1,by exact cG hl l2⟩ a3 λz e=>by
   rcases e with rfl|rfl|rfl
   .exact .inl (.inl rfl)
   .exact .inr l1
   .exact .inr l2
structure lK (E:List (Int×PV)) (P:Int->Prop):Prop where
 nd:(E.map (·.1)).Nodup
 val: ∀ e∈E,∃ c:Nat,0<c/\e.2= .int c
 iff: ∀ s,s∈E.map (·.1)↔P s
theorem GI(l:List (Int×PV))(a:Int)(v:PV):(eE l a v).map (·.1)=if a∈l.map (·.1) then l.map (·.1) else l.map (·.1)++[a]:=by
 have e:l.any (·.1==a)=decide (a∈l.map (·.1)):=by
  rw[kX,tE,decide_eq_true_eq];constructor
  .rintro⟨x,hx,h⟩;exact bX.mpr ⟨x,hx,by simpa using h⟩
  .intro h;obtain⟨x,hx,h⟩:=bX.mp h;exact⟨x,hx,by simpa using h⟩
 unfold eE;rw[e];by_cases h:a∈l.map (·.1)
 .rw[if_pos h,if_pos (decide_eq_true h),cV]
  refine gF λx hx=>?_;simp only[oz]
  split <;> rfl
 .rw[if_neg h,if_neg (by simpa using h),b8];rfl
theorem aaK{l:List (Int×PV)}{a:Int}{v:PV}{e:Int×PV}(h:e∈eE l a v):e∈l\/e.2=v:=by
 unfold eE at h
 split at h
 .obtain⟨x,hx,rfl⟩:=bX.mp h
  split
  .exact .inr rfl
  .exact .inl hx
 .rcases fX.mp h with h|h
  .exact .inl h
  .rw[gQ.mp h];exact .inr rfl
theorem lK.get(C:lK E P)(s:Int): ∃ c:Nat,(E.lookup s).getD (.int 0)= .int c:=by
 cases e:E.lookup s with
 |none=>exact⟨0,rfl⟩
 |some v=>obtain⟨c,_,hc⟩:=C.val _ (uo e);exact⟨c,hc⟩
theorem lK.put{E:List (Int×PV)}{P:Int->Prop}(C:lK E P)(s:Int)(c:Nat):lK (eE E s (.int ((c+1:Nat):Int))) (λx=>P x\/x=s):=by
 refine⟨?_,λe he=>?_,λx=>?_⟩
 .rw[GI]
  split
  .exact C.nd
  .rename_i h
   rw[tC];exact⟨C.nd,by simp,λa ha b hb e=>by simp at hb;subst hb;subst e;exact h ha⟩
 .rcases aaK he with h|h
  .exact C.val e h
  .exact⟨c+1,by exact zW _,h⟩
 .rw[GI]
  have:=C.iff x
  split
  .rename_i h
   constructor
   .exactλh=> .inl (this.mp h)
   .rintro(h'|rfl);exact this.mpr h';exact h
  .rw[fX,this,gQ]
noncomputable def iD (ks:List (Nat×Nat)):List ((Int×Int)×PV):=ks.map λe=>(((0:Int),(e.1:Int)),.ref e.2)
theorem Bs(p:Nat): ∀ ks:List (Nat×Nat),(@lW (Int×Int) PV instBEqOfDecidableEq ((0:Int),(p:Int)) (iD ks))=(ks.lookup p).map PV.ref
 |[]=>rfl
 |(a,u)::r=>by
  show(@lW (Int×Int) PV instBEqOfDecidableEq _ ((((0:Int),(a:Int)),PV.ref u)::iD r))=_;show(match @BEq.beq (Int×Int) instBEqOfDecidableEq ((0:Int),(p:Int)) ((0:Int),(a:Int)) with|true=>aa (PV.ref u)|false=> @lW (Int×Int) PV instBEqOfDecidableEq ((0:Int),(p:Int)) (iD r))=(match p==a with|true=>aa u|false=>r.lookup p).map PV.ref;have:(@BEq.beq (Int×Int) instBEqOfDecidableEq ((0:Int),(p:Int)) ((0:Int),(a:Int)))=(p==a):=by rw[kX];simp;omega
  rw[this];induction p==a using dD with
  |true=>rfl
  |false=>exact Bs p r
theorem ks_any(p:Nat)(ks:List (Nat×Nat)):(iD ks).any (λe=> @BEq.beq (Int×Int) instBEqOfDecidableEq e.1 ((0:Int),(p:Int)))=(ks.lookup p).isSome:=by rw[uL,Bs];cases ks.lookup p <;> rfl
structure px (sk cd:Nat) (ks:List (Nat×Nat)) (E:Nat->List (Int×PV)) (st:List (Nat×Nat)) (h:PH):Prop where
 obj:h[sk]?=aa (.inst 9 [(25,.ref cd)])
 lL:h[cd]?=aa (.dict (KD KP (iD ks)))
 qP: ∀ e∈ks,h[e.2]?=aa (.dict (KD PV.int (E e.1)))
 x8: ∀ e∈ks,∀ e'∈ks,e.2=e'.2->e=e'
 u0: ∀ e∈ks,e.2≠cd
 nd:(ks.map (·.1)).Nodup
 key: ∀ p,p∈ks.map (·.1)↔ ∃ s,(p,s)∈st
 cnt: ∀ p,lK (E p) (λx=> ∃ s:Nat,x=s/\(p,s)∈st)
 len:ks.length<=st.length
 u3: ∀ p,(E p).length<=st.length
def qQ(sk cd:Nat)(ks:List (Nat×Nat)):Nat->Prop:=λz=>z=sk\/z=cd\/ ∃ e∈ks,z=e.2
theorem px.keep(I:px sk cd ks E st h)(g: ∀ (k:Nat) o,qQ sk cd ks k->h[k]?=aa o->h'[k]?=aa o):px sk cd ks E st h':=⟨g _ _ (.inl rfl) I.obj,g _ _ (.inr (.inl rfl)) I.lL,λe he=>g _ _ (.inr (.inr ⟨e,he,rfl⟩)) (I.qP e he),I.x8,I.u0,I.nd,I.key,I.cnt,I.len,I.u3⟩
theorem aaL{p u:Nat}{ks:List (Nat×Nat)}(h:ks.lookup p=aa u):(p,u)∈ks:=uo h
theorem Pb{E:Nat->List (Int×PV)}{p q:Nat}{x:List (Int×PV)}:(λz=>if z=p then x else E z) q=if q=p then x else E q:=rfl
section
variable{k sk cd p s:Nat}{b:Bool}{ks st:List (Nat×Nat)}{E:Nat->List (Int×PV)}{h:PH}{Q:PV->PH->Prop}
theorem aaM(I:px sk cd ks E st h)(hz:st.length<900000)
  (q: ∀ h' g6 E',px sk cd g6 E' (st++[(p,s)]) h'->dq (qQ sk cd ks) h h'->(∀ z,qQ sk cd g6 z->qQ sk cd ks z\/h.length<=z)->Q .none h'):
  Wh ((run T (k+1) b).call 77 [.ref sk,.tup [.int 0,.int (p:Nat)],.int (s:Nat)]) h Q:=by
 have i1:=I.obj;have i2:=I.lL;have dX:=I.len;refine bc (WR _ _ _ _ _ _) ?_;nofun;have hk:=eZ iA ((0:Int),(p:Int)) (iD ks);have x9:(KD KP (iD ks)).length<1000000:=by unfold KD iD;simp;exact(au [.t J0 (.n 900000),.l J1 J0] (.t J1 (.n 1000000))) hz dX
 have oa:=(jH iA ((0:Int),(p:Int)) (iD ks)).trans (Bs p ks);have Bt: ∀ (E:List (Int×PV)),keysOk (.int (s:Int)) (KD PV.int E)=ag:=λE=>eZ dA _ E;have Pc: ∀ p',(∃ s',(p',s')∈st++[(p,s)])↔(∃ s',(p',s')∈st)\/p'=p:=λp'=>by
  constructor
  .rintro⟨s',hs⟩
   rcases fX.mp hs with hs|hs
   .exact .inl ⟨s',hs⟩
   .rw[gQ] at hs;cases hs;exact .inr rfl
  .rintro(⟨s',hs⟩|rfl)
   .exact⟨s',Dq _ hs⟩
   .exact⟨s,by simp⟩
 have Pd: ∀ (c:Nat) p',lK ((λz=>if z=p then eE (E p) s (.int ((c+1:Nat):Int)) else E z) p') (λx=> ∃ s':Nat,x=s'/\(p',s')∈st++[(p,s)]):=λc p'=>by
  have hc:=I.cnt p';rw[Pb];by_cases e:p'=p
  .subst e
   rw[if_pos rfl];have:=hc.put (s:Int) c;refine⟨this.nd,this.val,λx=>(this.iff x).trans ?_⟩;constructor
   .rintro(⟨s',rfl,h⟩|rfl)
    .exact⟨s',rfl,Dq _ h⟩
    .exact⟨s,rfl,by simp⟩
   .rintro⟨s',rfl,h⟩
    rcases fX.mp h with h|h
    .exact .inl ⟨s',rfl,h⟩
    .rw[gQ] at h;cases h;exact .inr rfl
  .rw[if_neg e]
   refine⟨hc.nd,hc.val,λx=>(hc.iff x).trans ?_⟩;constructor
   .rintro⟨s',rfl,h⟩;exact⟨s',rfl,Dq _ h⟩
   .rintro⟨s',rfl,h⟩
    rcases fX.mp h with h|h
    .exact⟨s',rfl,h⟩
    .rw[gQ] at h;cases h;exact absurd rfl e
 have u3: ∀ (c:Nat) p',((λz=>if z=p then eE (E p) s (.int ((c+1:Nat):Int)) else E z) p').length<=(st++[(p,s)]).length:=λc p'=>by
  rw[Pb,bb];have h1:=I.u3 p'
  split
  .rename_i e;subst e
   have:=F5 (s:Int) (.int ((c+1:Nat):Int)) (E p');show _<=st.length+1;exact(az [.l J0 J1,.l J2 (.a J0 Y1)] (.l J2 (.a J1 Y1))) h1 this
  .exact(az [.l J0 J1] (.l J0 (.a J1 J2))) h1
 obtain⟨c,hc⟩:=(I.cnt p).get (s:Int);have sD:(c:Int)+1=((c+1:Nat):Int):=aw [] (.E (.a (.c J0) (.n 1)) (.c (.a J0 Y1)));cases hu:ks.lookup p with
 |some u=>
  rw[hu] at oa;have hm:=aaL hu;have i3:=I.qP _ hm;dsimp only at i3;refine Y8 (aJ i2) hk x9 oa ?_;nofun;refine FI (aJ i3) (Bt _) ?_;rw[jH dA (s:Int),hc];nofun;refine nZ (aJ i3) (Bt _) (by have:=I.u3 p;unfold KD;rw[aX];exact(au [.t J0 (.n 900000),.l J1 J0] (.t J1 (.n 1000000))) hz this) ?_;rw[pn dA,sD];nofun;have aaN:u≠sk:=cy i3 i1 rfl;have aaO:=I.u0 _ hm;refine q _ ks (λz=>if z=p then eE (E p) s (.int ((c+1:Nat):Int)) else E z) ⟨bj (aJ i1) aaN,bj (aJ i2) aaO,λe he=>?_,I.x8,I.u0,I.nd,λp'=>?_,Pd c,by rw[bb];exact(az [.l J0 J1] (.l J0 (.a J1 J2))) dX,u3 c⟩ ⟨by simp,λz o n e=>bj (aJ e) λe=>n (.inr (.inr ⟨_,hm,e.symm⟩))⟩ λz e=> .inl e
  .have i4:=I.qP e he
   by_cases e0:e=(p,u)
   .subst e0
    refine(bF (aJ i4)).trans ?_;dsimp only;rw[if_pos rfl]
   .have n1:e.1≠p:=λh=>by
     have h2:ks.lookup e.1=aa e.2:=mr I.nd he;rw[h,hu] at h2;cases h2;exact e0 (by rw[<- h])
    rw[if_neg n1];exact bj (aJ i4) λh=>e0 (I.x8 _ he _ hm h.symm)
  .rw[Pc,<- I.key]
   constructor
   .exactλh=> .inl h
   .rintro(h|rfl)
    .exact h
    .exact bX.mpr ⟨_,hm,rfl⟩
 |none=>
  rw[hu] at oa;have GJ:p∉ks.map (·.1):=λh=>by obtain⟨e,he,rfl⟩:=bX.mp h;rw[mr I.nd he] at hu;cases hu
  have hE:E p=[]:=by
   have h1: ∀ s,s∉(E p).map (·.1):=λs hs=>by obtain⟨s',-,hs⟩:=((I.cnt p).iff s).mp hs;exact GJ ((I.key p).mpr ⟨s',hs⟩)
   cases hE:E p with
   |nil=>rfl
   |cons x r=>exact absurd (by rw[hE];exact kZ) (h1 x.1)
  have xU:(.int (c:Int):PV)= .int 0:=by rw[<- hc,hE];rfl
  refine Y9 (aJ i2) hk x9 oa ?_;have aaP:eE (iD ks) ((0:Int),(p:Int)) (.ref h.length)=iD (ks++[(p,h.length)]):=by unfold eE;rw[ks_any,hu];unfold iD;rw[b8];rfl
  rw[show dput (KD KP (iD ks)) (.tup [.int 0,.int (p:Nat)]) (.ref h.length)=KD KP (iD (ks++[(p,h.length)])) from(pn iA ((0:Int),(p:Int)) _ _).trans (by rw[aaP])];have bf:=bh i2;have aaQ:=bh i1;have i3:((h++[aB.dict []]).set cd (.dict (KD KP (iD (ks++[(p,h.length)])))))[h.length]?=aa (.dict (KD PV.int [])):=bj aM (cq bf);nofun;refine FI i3 (Bt _) ?_;rw[jH dA (s:Int),show(([]:List (Int×PV)).lookup (s:Int)).getD (.int 0)= .int (c:Int) from xU.symm];nofun;refine nZ i3 (Bt _) (by decide) ?_;rw[pn dA,sD,<- hE];nofun;have lo: ∀ e∈ks,e.2<h.length:=λe he=>bh (I.qP e he);refine q _ (ks++[(p,h.length)]) (λz=>if z=p then eE (E p) s (.int ((c+1:Nat):Int)) else E z) ⟨bj (bj (aJ i1) (cy i2 i1 rfl)) (dK aaQ),bj (bF (aJ i2)) (dK bf),λe he=>?_,?_,?_,?_,λp'=>?_,Pd c,by simp;exact dX,u3 c⟩ ⟨by simp,λz o n e=>bj (bj (aJ e) λe=>n (.inr (.inl e.symm))) (by have:=bh e;exact dK this)⟩ λz e=>?_
  .rcases fX.mp he with he|he
   .have i4:=I.qP e he
    have:=lo e he;have n1:e.1≠p:=λh=>GJ (h▸bX.mpr ⟨_,he,rfl⟩);rw[if_neg n1];exact bj (bj (aJ i4) (eI (I.u0 e he))) (dK this)
   .rw[gQ] at he;subst he
    refine(bF i3).trans ?_;dsimp only;rw[if_pos rfl]
  .intro e he e' j9 heq
   rcases fX.mp he with he|he <;> rcases fX.mp j9 with j9|j9
   .exact I.x8 e he e' j9 heq
   .rw[gQ] at j9;subst j9;have:=lo e he;dsimp only at heq;exact((au [.e J0 J1,.t J0 J1] .ff) heq this).elim
   .rw[gQ] at he;subst he;have:=lo e' j9;dsimp only at heq;exact((au [.e J0 J1,.t J1 J0] .ff) heq this).elim
   .rw[gQ] at he j9;rw[he,j9]
  .intro e he
   rcases fX.mp he with he|he
   .exact I.u0 e he
   .rw[gQ] at he;subst he;dsimp only;exact dK bf
  .rw[b8,tC]
   exact⟨I.nd,by simp,λa ha b hb e=>by simp at hb;subst hb;subst e;exact GJ ha⟩
  .rw[Pc,<- I.key,b8,fX];simp
  .rcases e with e|e|⟨e,he,rfl⟩
   .exact .inl (.inl e)
   .exact .inl (.inr (.inl e))
   .rcases fX.mp he with he|he
    .exact .inl (.inr (.inr ⟨e,he,rfl⟩))
    .rw[gQ] at he;subst he;exact .inr (aS _)
theorem aaR(q:Q .none h):Wh ((run T (k+1) b).call 78 [x,y,z]) h Q:=by refine bc (WT _ _ _ _ _ _) ?_;nofun
theorem aaS(q:Q (.bytes []) h):Wh ((run T (k+1) b).call 79 [x]) h Q:=by refine bc (WU _ _ _ _) ?_;nofun
end
noncomputable def oe (h₀:PH) (k sk:Nat) (cU:h₀.length<=sk):Sink h₀ (k+1) ag where
 σ:=List (Nat×Nat)
 sk:=sk
 c:=9
 iS:=77
 iB:=78
 iF:=79
 inv st O h:=jW λcd ks E=>jz (px sk cd ks E st h) (O=qQ sk cd ks) (∀ z,O z->h₀.length<=z)
 sym p s st:=st++[(p,s)]
 bits v s st:=st
 fin st:=(st,[])
 ok p s:=True
 mS:=rfl
 mB:=rfl
 mF:=rfl
 at':=λst O h zz=>by obtain⟨cd,ks,E,I,e,l⟩:=zz;exact⟨_,I.obj⟩
 low:=λst O h zz=>by obtain⟨cd,ks,E,I,e,l⟩:=zz;exact l
 lt:=λst O h zz z hz=>by
  obtain⟨cd,ks,E,I,e,l⟩:=zz;subst e;rcases hz with rfl|rfl|⟨e,he,rfl⟩
  .exact bh I.obj
  .exact bh I.lL
  .exact bh (I.qP e he)
 keep:=λst O h h' zz hp hk=>by obtain⟨cd,ks,E,I,e,l⟩:=zz;subst e;exact⟨cd,ks,E,I.keep hk,rfl,l⟩
 sz st:=st.length
 Be p s st:=by rw[bb];simp
 F7 v s st hs:=aw [] (.l J0 (.a J0 (.n 16)))
 F8 st:=aS _
 F9:=λst O h p s zz hz hp zy Q q=>by
  obtain⟨cd,ks,E,I,e,l⟩:=zz;subst e;refine aaM I ((aw [.l J0 (.n 200000)] (.t J0 (.n 900000))) hz) λh' g6 E' I' K' O'=>q h' _ ⟨cd,g6,E',I',rfl,λz hz=>?_⟩ K' O';rcases O' z hz with e|e
  .exact l z e
  .have:=hp.length_le;exact cG this e
 Ga:=λst O h v s zz hz hp zy zy zy Q q=>by obtain⟨cd,ks,E,I,e,l⟩:=zz;exact aaR (q h O ⟨cd,ks,E,I,e,l⟩ (dq.refl _ _) λz e=> .inl e)
 Gb:=λst O h zz hz hp Q q=>by obtain⟨cd,ks,E,I,e,l⟩:=zz;exact aaS (q h O ⟨cd,ks,E,I,e,l⟩ (dq.refl _ _) λz e=> .inl e)
theorem Pe(s t:Int): -32767<=fH s t/\fH s t<=32768:=by
 unfold fH;have h1:=rr (s-t) (b:=65536) (by decide);have h2:=zu (s-t) (b:=65536) (by decide)
 split <;> (first|exact(bL 0 4 [] [_,_,_,_] [rW 65536 Q0 Q3 (.s Q1 Q2),.T (.n 32768) Q0] (.an (.L (.n (-32767)) (.s Q0 (.n 65536))) (.L (.s Q0 (.n 65536)) (.n 32768)))) (uF _ 65536) ‹_› |exact(bL 0 4 [] [_,_,_,_] [.L (.n 0) Q0,rW 65536 Q0 Q3 (.s Q1 Q2),.no (.T (.n 32768) Q0)] (.an (.L (.n (-32767)) Q0) (.L Q0 (.n 32768)))) h1 (uF _ 65536) ‹_›)
theorem Pg(h:v.natAbs<2^n):aG v<=n:=by
 unfold aG
 split
 .exact cz _
 .rename_i h0
  exact Lb ((Nat.log2_lt h0).mpr h)
theorem GK(s t:Int):aG (fH s t)<=16:=by have:=Pe s t;exact Pg (show _<65536 from(cM [.an (.L (.n (-32767)) Q0) (.L Q0 (.n 32768)),pA J0 Q0] (.t J0 (.n 65536))) this (uA _))
theorem Ph(h₀:PH)(k sk:Nat)(cU:h₀.length<=sk): ∀ (l:List (Nat×Int)) (st:List (Nat×Nat)),(oe h₀ k sk cU).codes l st=(st++l.map λe=>(e.1,aG e.2):List (Nat×Nat))
 |[],st=>(jr st).symm
 |e::r,st=>by
  have h1:(oe h₀ k sk cU).codes (e::r) st=(oe h₀ k sk cU).codes r (st++[(e.1,aG e.2)]:List (Nat×Nat)):=by
   show(oe h₀ k sk cU).codes r ((oe h₀ k sk cU).code e st)=_;congr 1;unfold Sink.code;dsimp only
   split <;> rfl
  rw[h1,Ph h₀ k sk cU r,eH];rfl
theorem Pj(h₀:PH)(k sk:Nat)(cU:h₀.length<=sk): ∀ (l:List (List (Nat×Int))) (st:List (Nat×Nat)),((oe h₀ k sk cU).outs l st).1=(st++l.flatten.map λe=>(e.1,aG e.2):List (Nat×Nat))
 |[],st=>(jr st).symm
 |e::r,st=>by have h1:((oe h₀ k sk cU).outs (e::r) st).1=((oe h₀ k sk cU).outs r ((oe h₀ k sk cU).codes e st)).1:=rfl;refine h1.trans ((Pj h₀ k sk cU r _).trans ?_);refine(congrArg (λx:List (Nat×Nat)=>x++r.flatten.map λe=>(e.1,aG e.2)) (Ph h₀ k sk cU e st)).trans ?_;rw[eH,<- b8,List.flatten_cons]
section
variable{k f m w ht B N sc s:Nat}{b:Bool}{kd I p0 pt:Int}{kk:PV}{V:Nat->Nat->Nat->Int}{h:PH}{Q:PV->PH->Prop}
theorem aaT(hs:h[s]?=aa (.inst 9 []))(q:Q .none ((h++[aB.dict []]).set s (.inst 9 [(25,.ref h.length)]))):Wh ((run T (k+1) b).call 76 [.ref s]) h Q:=by refine bc (WQ _ _ _ _) ?_;nofun
theorem aaU(q: ∀ h',h'=h++[.inst 9 [(25,.ref (h.length+1))],.dict []]->Q (.ref h.length) h'):Wh ((run T (k+2) b).call 94 []) h Q:=by refine j3 Zl (aaT aM (q _ ?_));rw[eH,rx _ _ (aS _)];simp
theorem Pk(F:dI h f m w ht p0 kk)(Sc:gu h sc m kd pt)(hp:0<=p0-pt-1/\p0-pt-1<=1000)(q: ∀ h',h'=h++[.inst 0 [(1,.ref s),(2,.int kd),(3,.int (2^(p0-pt-1).toNat)),(4,.ref (h.length+1))],.dict []]->Q (.ref h.length) h'):Wh ((run T (k+3) b).call 29 [.ref f,.ref sc,.ref s]) h Q:=by obtain⟨pl,dc,ac,s1,s2,s3,s4⟩:=id Sc;obtain⟨hm,cO,cl,C,f1,f2,f3⟩:=id F;refine bc (VY _ _ _ _ _ _) ?_;nofun;refine Zw hp ?_;nofun;refine j3 Zc (aac aM ?_);nofun;refine q _ ?_;rw[rx _ _ (aS _)];simp
theorem Pn(q: ∀ h',h'=h++[.inst 2 [(6,x1),(1,x2),(7,x3),(8,x4)]]->Q (.ref h.length) h'):Wh ((run T (k+2) b).call 87 [x1,x2,x3,x4]) h Q:=by refine j3 Ze (aag aM (q _ ?_));rw[rx _ _ (aS _)];simp
structure pC (I:Int) (w ht B N:Nat):Prop where
 N':N=w*ht
 w':0<w/\w<=1000
 h':0<ht/\ht<=1000
 N1:N<1000
 B':I=(B:Nat)/\B=w\/I=0/\B=N
theorem pC.pos(H:pC I w ht B N):0<N/\0<B/\N=N/B*B:=by
 have h0:0<N:=by rw[H.N'];exact Nat.mul_pos H.w'.1 H.h'.1
 rcases H.B' with⟨_,e⟩|⟨_,e⟩
 .subst e
  refine⟨h0,H.w'.1,?_⟩;rw[H.N',zO _ H.w'.1,dt]
 .subst e
  refine⟨h0,h0,?_⟩;rw[DQ h0,Nat.one_mul]
theorem aaV(F:dI h f m w ht p0 kk)(Sc:gu h sc m kd pt)(S:j5 h s m w ht V)(cj:1<=kd/\kd<=7)(hp:0<=p0-pt-1/\p0-pt-1<=1000)(H:pC I w ht B N)
  (q: ∀ h' sk cd ks E,h<+:h'->(∀ z,qQ sk cd ks z->h.length<=z)->px sk cd ks E ((fw V kd (2^(p0-pt-1).toNat) m w B (N/B)).flatten.map λe=>(e.1,aG e.2)) h'->Q (.ref cd) h'):
  Wh ((run T (k+8) ag).call 30 [.ref f,.ref sc,.ref s,.int I]) h Q:=by
 obtain⟨pl,dc,ac,s1,s2,s3,s4⟩:=id Sc;obtain⟨jJ,fK,hdiv⟩:=H.pos;refine bc (VZ _ _ _ _ _ _ _) ?_;nofun;refine aaU λh1 e1=>?_;have p1:h<+:h1:=e1▸bH _ _;have s1':=aI p1 s1;nofun;refine Pk (F.mono p1) (Sc.mono p1) hp λh2 e2=>?_;have p2:h1<+:h2:=e2▸bH _ _;nofun;refine Pn λh3 e3=>?_;have p3:h2<+:h3:=e3▸bH _ _;nofun;refine Ov ?_;nofun;have l1:h1.length=h.length+2:=by rw[e1];exact bb
 have l2:h2.length=h1.length+2:=e2▸bb;have l3:h3.length=h2.length+1:=e3▸bb;have g1:h1[h.length]?=aa (.inst 9 [(25,.ref (h.length+1))]):=e1▸sg;have g2:h1[h.length+1]?=aa (.dict []):=e1▸FK;have g3:h2[h1.length]?=aa (.inst 0 [(1,.ref s),(2,.int kd),(3,.int (2^(p0-pt-1).toNat)),(4,.ref (h1.length+1))]):=e2▸sg;have g4:h3[h2.length]?=aa (.inst 2 [(6,.ref dc),(1,.ref s),(7,.ref h1.length),(8,.ref h.length)]):=e3▸sg;have cU:h.length<=h.length:=aS _;have I0:px h.length (h.length+1) [] (λzy=>[]) [] (h3++[aB.gen 25 [aa (.ref f),aa (.ref sc),ae,ae,ae,ae,ae,ae] ae]):=⟨aJ (aI p3 (aI p2 g1)),aJ (aI p3 (aI p2 g2)),by simp,by decide,by simp,by simp,by simp,λp=>⟨by simp,by simp,by simp⟩,by exact cz _,by simp⟩;refine OM (oe h (k+4) h.length cU) (pre_app ((p1.trans p2).trans p3)) s3 S F Sc cj (st:=([]:List (Nat×Nat))) (by show 0<=1000;exact bL 0 0 [] [] [] (.l Y0 (.n 1000))) (aJ g4) (aJ (aI p3 g3)) aM (O:=qQ h.length (h.length+1) []) ⟨_,_,_,I0,rfl,λz hz=>by rcases hz with rfl|rfl|⟨e,he,_⟩;exact aS _;exact km _;simp at he⟩ ?_ ?_ ?_ ((au [.e J0 (.a J1 Y2)] (.l J1 J0)) l1) ((aQ [.e J0 (.a J1 Y2),.e J2 (.a J0 Y2),.e J3 (.a J2 Y1)] (.l J1 J3)) l1 l2 l3) H.w' H.h'.2 H.N' H.N1 H.B' fK jJ hdiv (λzy zy zy zy=>trivial) (λzy zy zy zy=>GK _ _) λh5 fl O5 p5 zy Po=>?_
 .rintro(e|e|⟨e,he,_⟩)
  .exact(az [.e J0 (.a J1 Y2),.e J2 (.a J0 Y2),.e J2 J1] .ff) l1 l2 e
  .exact(az [.e J0 (.a J1 Y2),.e J2 (.a J0 Y2),.e J2 (.a J1 Y1)] .ff) l1 l2 e
  .simp at he
 .rintro(e|e|⟨e,he,_⟩)
  .exact(au [.e J0 (.a J1 Y2),.e J0 J1] .ff) l1 e
  .exact(au [.e J0 (.a J1 Y2),.e J0 (.a J1 Y1)] .ff) l1 e
  .simp at he
 .rintro(e|e|⟨e,he,_⟩)
  .exact(aQ [.e J0 (.a J1 Y2),.e J2 (.a J0 Y2),.e J3 (.a J2 Y1),.e J3 J1] .ff) l1 l2 l3 e
  .exact(aQ [.e J0 (.a J1 Y2),.e J2 (.a J0 Y2),.e J3 (.a J2 Y1),.e J3 (.a J1 Y1)] .ff) l1 l2 l3 e
  .simp at he
 obtain⟨cd,ks,E,I5,rfl,l5⟩:=Po;rw[Pj] at I5;have o5:=I5.obj;have o6:h5[h.length]?=aa (.inst 9 [(25,.ref cd)]):=o5;nofun;exact q _ _ _ _ _ p5 l5 I5
end
noncomputable def bO (l:List UInt8):List UInt8:=l.flatMap λx=>if x=255 then [255,0] else [x]
noncomputable def cn (outs:List (List UInt8)) (n:Nat):List UInt8:=(ar n).flatMap λi=>(if 0<i then [255,bY (208+(i-1)%8)] else [])++bO (outs.getD i [])
theorem Bu: ∀ l:List UInt8,(bO l).length<=2*l.length
 |[]=>aS _
 |x::r=>by
  have e:bO (x::r)=(if x=255 then [255,0] else [x])++bO r:=rfl;have:=Bu r;rw[e,bb,fW]
  split
  .show 2+_<=_;exact(au [.l J0 (.m 2 J1)] (.l (.a Y2 J0) (.m 2 (.a J1 Y1)))) this
  .show 1+_<=_;exact(au [.l J0 (.m 2 J1)] (.l (.a Y1 J0) (.m 2 (.a J1 Y1)))) this
theorem Bv(a b:List UInt8):bO (a++b)=bO a++bO b:=jM
theorem ya(outs:List (List UInt8))(n:Nat):cn outs (n+1)=cn outs n++((if 0<n then [255,bY (208+(n-1)%8)] else [])++bO (outs.getD n [])):=by unfold cn;rw[dZ,jM];simp
theorem GL: ∀ {k:Nat},n<=k->(cn outs n).length<=(cn outs k).length
 |0,h=>by rw[Nat.le_zero.mp h];exact aS _
 |k+1,h=>by
  rcases jt k n with e|e
  .rw[show n=k+1 from(au [.l J0 (.a J1 Y1),.t J1 J0] (.e J0 (.a J1 Y1))) h e];exact aS _
  .have:=GL (outs:=outs) e
   rw[ya,bb];exact(az [.l J0 J1] (.l J0 (.a J1 J2))) this
theorem GN(hz: ∀ l∈outs,l.length<=z): ∀ n,(cn outs n).length<=n*(2*z+2)
 |0=>cz _
 |n+1=>by
  have h1:=GN hz n;have h2:(outs.getD n []).length<=z:=by
   rw[eP];cases e:outs[n]? with
   |none=>exact cz _
   |some l=>exact hz l (kY e)
  have h3:=Bu (outs.getD n []);rw[ya,bb,bb,fN]
  split
  .show _+(2+_)<=_;exact(bU [.l J0 J1,.l J2 J3,.l J4 (.m 2 J2)] (.l (.a J0 (.a Y2 J4)) (.a J1 (.a (.m 2 J3) Y2)))) h1 h2 h3
  .show _+(0+_)<=_;exact(dn [.l J0 J1,.l J2 J3,.l J4 (.m 2 J2),.no (.t Y0 J5)] (.l (.a J0 (.a Y0 J4)) (.a J1 (.a (.m 2 J3) Y2)))) h1 h2 h3 ‹_›
section
variable{k tb sk:Nat}{h:PH}{Q:PV->PH->Prop}
theorem aaW(hl:l.length<=40000)(q: ∀ h',h<+:h'->Q (.bytes (bO l)) h'):Wh ((run T (k+1) ag).call 26 [.bytes l]) h Q:=by
 refine bc (VV _ _ _ _) ?_;nofun;refine Zp (λi st=>iR λ(h':PH) (e2:Option PV)=>jz (st=⟨h',[aa (.bytes l),aa (.ref h.length),e2,ae,ae]⟩) (h<+:h') (h'[h.length]?=aa (.cb (bO (l.take i))))) ⟨_,_,rfl,pre_app fg,aM⟩ ?_ ?_
 .rintro i x _ KC hK hx ⟨h',e2,rfl,p,a⟩
  have hi:=(dF.mp hx).1;have hlen:=Bu (l.take i);rw[gT] at hlen;have ht:l.take (i+1)=l.take i++[x]:=by rw[Ko,hx];rfl
  have hb:bY ((x.toNat:Int)).toNat=x:=by rw[bJ,Mk]
  have hs:bO (l.take (i+1))=bO (l.take i)++if x=255 then [255,0] else [x]:=by rw[ht,Bv];simp[bO]
  nofun;refine sf a (xY x.toNat_lt) ((aQ [.l J0 (.n 40000),.t J1 J0,.l J2 (.m 2 J3),pM J3 J1 J0] (.t J2 (.n 1000000))) hl hi hlen (uM _ _)) ?_;rw[hb];nofun;refine fF (λc=>?_) λc=>?_
  .have pE:x=255:=Ml.mp (by show x.toNat=255;exact(aw [.E (.c J0) (.n 255)] (.e J0 (.n 255))) c)
   have a2:=bF (o:= .cb (bO (l.take i)++[x])) a;nofun;refine sf a2 rfl (by rw[bb];show _+1<_;exact(aQ [.l J0 (.n 40000),.t J1 J0,.l J2 (.m 2 J3),pM J3 J1 J0] (.t (.a J2 Y1) (.n 1000000))) hl hi hlen (uM _ _)) ?_;nofun;refine hK (.inl rfl) ⟨_,_,rfl,eX (eX p (aS _)) (aS _),(bF a2).trans ?_⟩;rw[hs,if_pos pE,pE,eH];rfl
  .have pE: ¬ x=255:=λe=>c (by rw[e];rfl)
   nofun;refine hK (.inl rfl) ⟨_,_,rfl,eX p (aS _),(bF a).trans ?_⟩;rw[hs,if_neg pE]
 .rintro _ ⟨h',e2,rfl,p,a⟩
  rw[gR] at a;have hlen:=Bu l;nofun;refine A1 a ((au [.l J0 (.n 40000),.l J1 (.m 2 J0)] (.l J1 (.n 1000000))) hl hlen) ?_;nofun;exact q _ p
theorem aaX(hf:h[fl]?=aa (.list (outs.map PV.bytes)))(hn:outs.length<=1000)(hz: ∀ l∈outs,l.length<=40000)(hj:(cn outs outs.length).length<=900000)(q: ∀ h',h<+:h'->Q (.bytes (cn outs outs.length)) h'):Wh ((run T (k+2) ag).call 27 [.ref fl]) h Q:=by
 refine bc (VW _ _ _ _) ?_;have gl:d7 0 ((outs.map PV.bytes).length:Int) 1=ag:=by rw[aX];exact gK ((aw [.l J0 (.n 1000)] (.an (.L (.n 0) (.c J0)) (.L (.c J0) (.n 1000000)))) hn)
 nofun;refine iw (n:=outs.length) (λi st=>iR λ(h':PH) (e2:Option PV)=>jz (st=⟨h',[aa (.ref fl),aa (.ref h.length),e2,ae,ae,ae,ae,ae,ae]⟩) (h<+:h') (h'[h.length]?=aa (.cb (cn outs i)))) (by simp) ⟨_,_,rfl,pre_app fg,aM⟩ ?_ ?_
 .rintro i _ KC hK hi ⟨h',e2,rfl,p,a⟩
  obtain⟨x,hx⟩: ∃ x,outs[i]?=aa x:=⟨_,eQ hi⟩;have hxl:=hz x (kY hx);have GO:outs.getD i []=x:=by rw[eP,hx];rfl
  have hJ:=ya outs i;rw[GO] at hJ;have qR:=GL (outs:=outs) (show i+1<=outs.length from hi);have Pp:(cn outs i).length<=(cn outs (i+1)).length:=GL (km i);dsimp only[Fw,fE,AZ,AY];refine NN (λst=>iR λ(h1:PH) (acc:List UInt8)=>jX (st=⟨h1,[aa (.ref fl),aa (.ref h.length),aa (.int (i:Nat)),ae,ae,ae,ae,ae,ae]⟩) (h<+:h1) (h1[h.length]?=aa (.cb acc)) (acc++bO x=cn outs (i+1))) (λK' hC=>?_) ?_
  .nofun
   refine fF (λc=>?_) λc=>?_
   .have hm:((i:Int)-1).fmod 8=((i-1)%8:Nat):=by rw[tw _ (by decide)];exact(U7 [.T (.n 0) (.c J0),rW 8 Q0 Q1 (.s (.c J0) (.n 1)),pB J2 J0 Y1,pR 8 J1 J3 J2] (.E Q0 (.c J1))) c (ur _ 8) (uB _ _) (uR _ 8)
    have g8:((8:Int) != 0&&bT 8)=ag:=rfl;nofun;refine sf a rfl ((az [.l J0 (.n 900000),.l J1 J0,.l J2 J1] (.t J2 (.n 1000000))) hj qR Pp) ?_;have a2:=bF (o:= .cb (cn outs i++[255])) a;nofun;rw[hm];have hi8:(i-1)%8<8:=la _ (by decide);have sD:(208:Int)+((i-1)%8:Nat)=((208+(i-1)%8:Nat):Int):=(aQ [pB J1 J2 Y1,pR 8 J0 J3 J1] (.E (.a (.n 208) (.c J0)) (.c (.a (.n 208) J0)))) (uB _ _) (uR _ 8);rw[sD];refine sf a2 (xY ((o7 [.E Q0 (.c J0),pB J1 J2 Y1,pR 8 J0 J3 J1] (.t (.a (.n 208) J0) (.n 256))) hm (uB _ _) (uR _ 8))) (by rw[bb];show _+1<_;exact(az [.l J0 (.n 900000),.l J1 J0,.l J2 J1] (.t (.a J2 Y1) (.n 1000000))) hj qR Pp) ?_;nofun;refine hC ⟨_,_,rfl,eX (eX p (aS _)) (aS _),bF a2,?_⟩;rw[hJ,if_pos ((aw [.T (.n 0) (.c J0)] (.t Y0 J0)) c),bJ,eH,eH];rfl
   .nofun
    refine hC ⟨_,_,rfl,p,a,?_⟩;rw[hJ,if_neg ((aw [.no (.T (.n 0) (.c J0))] (.no (.t Y0 J0))) c)];rfl
  .rintro _ ⟨h1,acc,rfl,p1,a1,e1⟩
   nofun;refine bS (v:= .bytes x) (aI p1 hf) (cR _) (by rw[bJ,dG,hx];rfl) ?_;nofun;refine aaW hxl λh2 p2=>?_;have a2:=aI p2 a1;have hlen:acc.length+(bO x).length<=900000:=by rw[<- bb,e1];exact(au [.l J0 (.n 900000),.l J1 J0] (.l J1 (.n 900000))) hj qR
   nofun;refine N5 a2 ((au [.l (.a J0 J1) (.n 900000)] (.t (.a J0 J1) (.n 1000000))) hlen) ?_;rw[e1];nofun;exact hK (.inl rfl) ⟨_,_,rfl,eX (p1.trans p2) (aS _),bF a2⟩
 .rintro _ ⟨h',e2,rfl,p,a⟩
  nofun;refine A1 a ((aw [.l J0 (.n 900000)] (.l J0 (.n 1000000))) hj) ?_;nofun;exact q _ p
end
noncomputable def gM (C:Nat->Nat->Nat) (SY:Nat->List Int) (e:Nat×Int):List Bool:=pw (C e.1) (SY e.1) (aG e.2)++if 0<aG e.2/\aG e.2<16 then bz (jI e.2 (aG e.2)).toNat (aG e.2) else []
theorem aaY(C:Nat->Nat->Nat)(SY:Nat->List Int)(e:Nat×Int):(gM C SY e).length<=32:=by
 have:=O8 (C e.1) (SY e.1) (aG e.2);unfold gM;rw[bb]
 split
 .rw[gv];exact(au [.l J0 (.n 16),.an (.t Y0 J1) (.t J1 (.n 16))] (.l (.a J0 J1) (.n 32))) this ‹_›
 .show _+0<=_;exact(aw [.l J0 (.n 16)] (.l (.a J0 Y0) (.n 32))) this
theorem Pq(C:Nat->Nat->Nat)(SY:Nat->List Int): ∀ l:List (Nat×Int),(l.flatMap (gM C SY)).length<=32*l.length
 |[]=>aS _
 |e::r=>by have h1:=aaY C SY e;have h2:=Pq C SY r;rw[zI,bb,fW];exact(az [.l J0 (.n 32),.l J1 (.m 32 J2)] (.l (.a J0 J1) (.m 32 (.a J2 Y1)))) h1 h2
theorem aaZ(n:Nat): ∀ l:List Bool,(uZ n l).length=n:=oO (λzy=>rfl) (λzy ih l=>congrArg (·+1) (ih (l.drop 8))) n
noncomputable def kD (C:Nat->Nat->Nat) (SY:Nat->List Int) (l:List (Nat×Int)):List UInt8:=mR (fT (l.flatMap (gM C SY)))
theorem Pr(C:Nat->Nat->Nat)(SY:Nat->List Int)(l:List (Nat×Int)):(kD C SY l).length<=4*l.length+1:=by have h:=Pq C SY l;unfold kD mR;rw[aaZ];unfold fT;rw[bb,tB];exact(ku [.l J0 (.m 32 J1),pR 8 J5 J6 J0,pB J4 (.n 8) J5,pR 8 J3 J7 J4,pD 8 J2 (.a J0 J3)] (.l J2 (.a (.m 4 J1) Y1))) h (uR _ 8) (uB _ _) (uR _ 8) (uD _ 8)
section
variable{h₀:PH}{k sk tb m:Nat}{C:Nat->Nat->Nat}{SY:Nat->List Int}{hT:pv h₀ tb m C SY}{hO: ∀ p,p<m->ek (C p) (SY p)}{cU:h₀.length<=sk}
theorem aa0(e:Nat×Int)(st:List Bool):(n9 h₀ k sk tb m C SY hT hO cU).code e st=(st++gM C SY e:List Bool):=by
 unfold Sink.code gM;dsimp only;by_cases h:0<aG e.2/\aG e.2<16
 .rw[if_pos h,if_pos h];exact eH _ _ _
 .rw[if_neg h,if_neg h,jr];rfl
theorem Pt: ∀ (l:List (Nat×Int)) (st:List Bool),(n9 h₀ k sk tb m C SY hT hO cU).codes l st=(st++l.flatMap (gM C SY):List Bool)
 |[],st=>(jr st).symm
 |e::r,st=>by have h1:(n9 h₀ k sk tb m C SY hT hO cU).codes (e::r) st=(n9 h₀ k sk tb m C SY hT hO cU).codes r ((n9 h₀ k sk tb m C SY hT hO cU).code e st):=rfl;refine h1.trans ((Pt r _).trans ?_);refine(congrArg (λx:List Bool=>x++r.flatMap (gM C SY)) (aa0 e st)).trans ?_;rw[eH,zI]
theorem Pu: ∀ (l:List (List (Nat×Int))),((n9 h₀ k sk tb m C SY hT hO cU).outs l ([]:List Bool)).2=l.map (kD C SY)
 |[]=>rfl
 |e::r=>by have h1:((n9 h₀ k sk tb m C SY hT hO cU).outs (e::r) ([]:List Bool)).2=mR (fT ((n9 h₀ k sk tb m C SY hT hO cU).codes e ([]:List Bool)))::((n9 h₀ k sk tb m C SY hT hO cU).outs r ([]:List Bool)).2:=rfl;rw[h1,Pu r];refine(congrArg (λx:List Bool=>mR (fT x)::r.map (kD C SY)) (Pt e ([]:List Bool))).trans ?_;rw[oH];rfl
end
theorem GP: ∀ c,(fu V kd mid m w B j c).length=c*m
 |0=>by simp[OK]
 |c+1=>by rw[Bi,bb,GP c,fN];simp[ec]
section
variable{k f m w ht B N sc s tb:Nat}{b:Bool}{kd I p0 pt:Int}{kk:PV}{V:Nat->Nat->Nat->Int}{h:PH}{Q:PV->PH->Prop}{C:Nat->Nat->Nat}{SY:Nat->List Int}
theorem aa1(q: ∀ h',h'=h++[.inst 8 [(31,.ref tb),(32,.ref (h.length+1))],.inst 7 [(28,.ref (h.length+2)),(29,.int 0),(30,.int 0)],.cb []]->Q (.ref h.length) h'):Wh ((run T (k+4) ag).call 93 [.ref tb]) h Q:=by
 refine j3 Zk ?_;refine bc (WL _ _ _ _ _) ?_;nofun;refine O7 λh2 e2=>?_;have l1:((h++[aB.inst 8 []]).set h.length (.inst 8 [(31,.ref tb)])).length=h.length+1:=by simp
 have g:h2[h.length]?=aa (.inst 8 [(31,.ref tb)]):=by rw[e2];exact aI (bH _ _) (bF aM)
 nofun;refine q _ ?_;rw[e2,l1];apply rz;intro i;rcases DJ i h.length with hi|hi|hi
 .rw[nk (by exact(az [.e J0 (.a J1 Y1),.t J2 J1] (.no (.e J1 J2))) l1 hi),jL (by simp;exact(az [.e J0 (.a J1 Y1),.t J2 J1] (.t J2 (.a J1 Y1))) l1 hi),nk (by exact(az [.e J0 (.a J1 Y1),.t J2 J1] (.no (.e J1 J2))) l1 hi),jL hi,jL hi]
 .subst hi;rw[qd (by simp)];simp
 .rw[nk (by exact(az [.e J0 (.a J1 Y1),.t J1 J2] (.no (.e J1 J2))) l1 hi),oA (by rw[l1];exact(az [.e J0 (.a J1 Y1),.t J1 J2] (.l (.a J1 Y1) J2)) l1 hi),oA (by exact(az [.e J0 (.a J1 Y1),.t J1 J2] (.l J1 J2)) l1 hi),l1]
  obtain⟨d,rfl⟩: ∃ d,i=h.length+1+d:=⟨i-h.length-1,by exact(bU [.e J0 (.a J1 Y1),.t J1 J2,pB J4 J2 J1,pB J3 J4 Y1] (.e J2 (.a (.a J1 Y1) J3))) l1 hi (uB _ _) (uB _ _)⟩;rw[show h.length+1+d-(h.length+1)=d from(az [pB J0 (.a (.a J1 Y1) J2) (.a J1 Y1)] (.e J0 J2)) (uB _ _),show h.length+1+d-h.length=d+1 from(az [pB J0 (.a (.a J1 Y1) J2) J1] (.e J0 (.a J2 Y1))) (uB _ _)];rfl
theorem aa2(F:dI h f m w ht p0 kk)(Sc:gu h sc m kd pt)(cj:1<=kd/\kd<=7)(fq:0<=pt/\pt<p0)(q:Q .none h):Wh ((run T (k+1) b).call 28 [.ref f,.ref sc]) h Q:=by obtain⟨pl,dc,ac,s1,s2,s3,s4⟩:=id Sc;obtain⟨hm,cO,cl,C,f1,f2,f3⟩:=id F;refine bc (VX _ _ _ _ _) ?_;nofun
theorem aa3(F:dI h f m w ht p0 kk)(Sc:gu h sc m kd pt)(S:j5 h s m w ht V)(cj:1<=kd/\kd<=7)(fq:0<=pt/\pt<p0/\p0<=1000)(H:pC I w ht B N)(hT:pv h tb m C SY)(hO: ∀ p,p<m->ek (C p) (SY p))
  (hS: ∀ i p,i<N->p<m->(aG (fH (V p (i/w) (i%w)) (fG (V p) kd (2^(p0-pt-1).toNat) (decide (i/B*B/w=i/w)) (i%w) (i/w))):Int)∈SY p)
  (q: ∀ h',h<+:h'->Q (.bytes (cn ((fw V kd (2^(p0-pt-1).toNat) m w B (N/B)).map (kD C SY)) (N/B))) h'):
  Wh ((run T (k+8) ag).call 32 [.ref f,.ref sc,.ref s,.int I,.ref tb]) h Q:=by
 obtain⟨pl,dc,ac,s1,s2,s3,s4⟩:=id Sc;obtain⟨jJ,fK,hdiv⟩:=H.pos;have cO:=F.most;refine bc (V1 _ _ _ _ _ _ _ _) ?_;nofun;refine aa2 F Sc cj ⟨fq.1,fq.2.1⟩ ?_;nofun;refine Ou F Sc λh1 p1=>?_;nofun;refine Zx (a:=(w:Int)) (by have:=H.w';exact(aw [.an (.t Y0 J0) (.l J0 (.n 1000))] (.an (.T (.n 0) (.c J0)) (.L (.c J0) (.n 1000)))) this) (by rcases H.B' with⟨e,e'⟩|⟨e,e'⟩;right;rw[e,e'];left;exact e) ?_;nofun;refine Pk (F.mono p1) (Sc.mono p1) ((mj [.an (.L (.n 0) Q0) (.an (.T Q0 Q1) (.L Q1 (.n 1000)))] (.an (.L (.n 0) (.s (.s Q1 Q0) (.n 1))) (.L (.s (.s Q1 Q0) (.n 1)) (.n 1000)))) fq) λh2 e2=>?_;have p2:h1<+:h2:=e2▸bH _ _;have s1':=aI p2 (aI p1 s1);nofun;refine aa1 λh3 e3=>?_;have p3:h2<+:h3:=e3▸bH _ _;nofun;refine Pn λh4 e4=>?_;have p4:h3<+:h4:=e4▸bH _ _;nofun;refine Ov ?_;nofun;have l0:=p1.length_le;have l2:h2.length=h1.length+2:=e2▸bb;have l3:h3.length=h2.length+3:=e3▸bb;have l4:h4.length=h3.length+1:=e4▸bb;have g1:h2[h1.length]?=aa (.inst 0 [(1,.ref s),(2,.int kd),(3,.int (2^(p0-pt-1).toNat)),(4,.ref (h1.length+1))]):=e2▸sg;have g2:h3[h2.length]?=aa (.inst 8 [(31,.ref tb),(32,.ref (h2.length+1))]):=e3▸sg;have g3:h3[h2.length+1]?=aa (.inst 7 [(28,.ref (h2.length+2)),(29,.int 0),(30,.int 0)]):=e3▸FK;have g4:h3[h2.length+2]?=aa (.cb []):=e3▸at2;have g5:h4[h3.length]?=aa (.inst 2 [(6,.ref dc),(1,.ref s),(7,.ref h1.length),(8,.ref h2.length)]):=e4▸sg;have cU:h.length<=h2.length:=(az [.l J0 J1,.e J2 (.a J1 Y2)] (.l J0 J2)) l0 l2;refine OM (n9 h (k+2) h2.length tb m C SY hT hO cU) (pre_app (((p1.trans p2).trans p3).trans p4)) s3 S F Sc cj (st:=([]:List Bool)) (by show 0<=1000;exact bL 0 0 [] [] [] (.l Y0 (.n 1000))) (aJ g5) (aJ (aI p4 (aI p3 g1))) aM (O:=λz=>z=h2.length\/z=h2.length+1\/z=h2.length+2) ⟨h2.length+1,h2.length+2,[],0,0,aJ (aI p4 g2),⟨aJ (aI p4 g3),aJ (aI p4 g4)⟩,by decide,by decide,rfl,rfl,by exact(az [.l J0 J1,.e J2 (.a J1 Y2)] (.l J0 (.a J2 Y1))) l0 l2,by exact(az [.l J0 J1,.e J2 (.a J1 Y2)] (.l J0 (.a J2 Y2))) l0 l2⟩ ((az [.e J0 (.a J1 Y2),.e J2 (.a J0 (.n 3))] (.no (.o (.e J2 J0) (.o (.e J2 (.a J0 Y1)) (.e J2 (.a J0 Y2)))))) l2 l3) ((au [.e J0 (.a J1 Y2)] (.no (.o (.e J1 J0) (.o (.e J1 (.a J0 Y1)) (.e J1 (.a J0 Y2)))))) l2) ((aQ [.e J0 (.a J1 Y2),.e J2 (.a J0 (.n 3)),.e J3 (.a J2 Y1)] (.no (.o (.e J3 J0) (.o (.e J3 (.a J0 Y1)) (.e J3 (.a J0 Y2)))))) l2 l3 l4) (l0) ((bU [.l J0 J1,.e J2 (.a J1 Y2),.e J3 (.a J2 (.n 3)),.e J4 (.a J3 Y1)] (.l J0 J4)) l0 l2 l3 l4) H.w' H.h'.2 H.N' H.N1 H.B' fK jJ hdiv (λi p hi hp=>⟨hp,hS i p hi hp⟩) (λzy zy zy zy=>GK _ _) λh5 fl O5 p5 yb Po=>?_;rw[Pu] at yb;have qS:(fw V kd (2^(p0-pt-1).toNat) m w B (N/B)).length=N/B:=(aX _).trans fV;have Bw:N/B<=N:=Lg _ _;have pq:=H.N1;have hBN:B<=N:=by
  have h1:1*B<=N/B*B:=lX _ (by
   rcases rB (N/B) with e|e
   .rw[e] at hdiv;exact(az [.t Y0 J0,.e J0 (.m 0 J1)] (.l Y1 J2)) jJ hdiv
   .exact e)
  exact(az [.e J0 J1,.l (.m 1 J2) J1] (.l J2 J0)) hdiv h1
 have qM: ∀ l∈(fw V kd (2^(p0-pt-1).toNat) m w B (N/B)).map (kD C SY),l.length<=16*B+1:=λl hl=>by obtain⟨e,he,rfl⟩:=bX.mp hl;unfold fw at he;obtain⟨j,-,rfl⟩:=bX.mp he;have h1:=Pr C SY (fu V kd (2^(p0-pt-1).toNat) m w B j B);rw[GP] at h1;have h2:B*m<=B*4:=wm _ cO;exact(az [.l J0 (.a (.m 4 J1) Y1),.l J1 (.w J2 4)] (.l J0 (.a (.m 16 J2) Y1))) h1 h2
 have Pw:=GN qM (N/B);have hmul:N/B*(2*(16*B+1)+2)<=36*N:=by have h2:2*(16*B+1)+2<=36*B:=(aw [.t Y0 J0] (.l (.a (.m 2 (.a (.m 16 J0) Y1)) Y2) (.m 36 J0))) fK;have h3:=wm (N/B) h2;rw[Lc,<- hdiv] at h3;omega
 have yc:((fw V kd (2^(p0-pt-1).toNat) m w B (N/B)).map (kD C SY)).length=N/B:=by rw[aX,qS]
 nofun;refine aaX yb (by rw[yc];exact(au [.l J0 J1,.t J1 (.n 1000)] (.l J0 (.n 1000))) Bw pq) (λl hl=>by have:=qM l hl;exact(az [.t J0 (.n 1000),.l J1 J0,.l J2 (.a (.m 16 J1) Y1)] (.l J2 (.n 40000))) pq hBN this) (by rw[yc];omega) λh6 p6=>?_;rw[yc];nofun;exact q _ (p5.trans p6)
end
noncomputable def pF (c:Nat->Nat) (sy:List Int) (p:Nat):List UInt8:=bY p::(((ar 16).map λi=>bY (c i))++sy.map λs=>bY s.toNat)
noncomputable def bV (C:Nat->Nat->Nat) (SY:Nat->List Int) (m:Nat):List UInt8:=(ar m).flatMap λp=>pF (C p) (SY p) p
theorem yd(C:Nat->Nat->Nat)(SY:Nat->List Int)(m:Nat):bV C SY (m+1)=bV C SY m++pF (C m) (SY m) m:=by unfold bV;rw[dZ,jM];simp
theorem Bx(c:Nat->Nat)(sy:List Int)(p:Nat):(pF c sy p).length=17+sy.length:=by unfold pF;simp;exact aw [] (.e (.a (.a (.n 16) J0) Y1) (.a (.n 17) J0))
theorem GQ(c:Nat->Nat): ∀ n,((ar n).map λi=>((c i:Nat):Int)).sum=(bM c n:Nat)
 |0=>rfl
 |n+1=>by rw[dZ,b8,wh,GQ c n];show _+((c n:Int)+0)=((bM c n+c n:Nat):Int);exact au [] (.E (.a (.c J0) (.a (.c J1) (.n 0))) (.c (.a J0 J1)))
theorem Px(c:Nat->Nat)(h:i<n):c i<=bM c n:=cG (k9 _ _) (EU c (show i+1<=n from h))
theorem By(h: ∀ s∈l,0<=s/\s<256):r4 l=aa (l.map λs=>bY s.toNat):=by unfold r4;rw[if_pos];rw[dS];intro s hs;have:=h s hs;unfold qu;rw[decide_eq_true this.1,decide_eq_true this.2];rfl
section
variable{k m out p:Nat}{h:PH}{Q:PV->PH->Prop}{C:Nat->Nat->Nat}{SY:Nat->List Int}
theorem aa4(ho:h[out]?=aa (.cb bs))(hp:p<4)(hb:bs.length<900000)(q:Q .none (h.set out (.cb (bs++[bY p])))):Wh ((run T (k+1) ag).call 33 [.ref out,.int 0,.int 1,.int (p:Nat)]) h Q:=by refine bc (V3 _ _ _ _ _ _ _) ?_;nofun;rw[show(0:Int)*16+(p:Int)=((p:Nat):Int) by exact aw [] (.E (.a (.m 0 (.n 16)) (.c J0)) (.c J0))];refine sf ho (xY ((aw [.t J0 (.n 4)] (.t J0 (.n 256))) hp)) ((aw [.t J0 (.n 900000)] (.t J0 (.n 1000000))) hb) ?_;nofun;exact q
noncomputable def qT (C:Nat->Nat->Nat) (SY:Nat->List Int) (p:Nat):PV:= .tup [.int 0,.int (p:Nat),.tup ((ar 16).map λi=> .int (C p i:Nat)),.tup ((SY p).map PV.int)]
theorem aa5(ht:h[tb]?=aa (.list ((ar m).map (qT C SY))))(hm:m<=4)(hO: ∀ p,p<m->ek (C p) (SY p))(q: ∀ h',h<+:h'->Q (.bytes (bV C SY m)) h'):Wh ((run T (k+2) ag).call 34 [.ref tb]) h Q:=by
 refine bc (V4 _ _ _ _) ?_;nofun;refine sh (xs:=(ar m).map (qT C SY)) (λi st=>Aw λ(h':PH) (e2 e3 e4 e5 e6:Option PV)=>jX (st=⟨h',[aa (.ref tb),aa (.ref h.length),e2,e3,e4,e5,e6,ae,ae,ae,ae,ae,ae,ae,ae]⟩) (h<+:h') (h'[h.length]?=aa (.cb (bV C SY i))) ((bV C SY i).length<=34*i)) (aJ ht) ⟨_,_,_,_,_,_,rfl,pre_app fg,aM,cz _⟩ (λi st zz=>by obtain⟨h',e2,e3,e4,e5,e6,e,p,_⟩:=zz;rw[e];exact aI p ht) ?_ ?_
 .rintro i x _ KC hK hx ⟨h',e2,e3,e4,e5,e6,rfl,p,a,al⟩
  have hi:i<m:=by simpa using(dF.mp hx).1
  rw[b0 hi] at hx;obtain rfl:=bD hx;have O:=hO i hi;have mU:=O.len;unfold qT;nofun;refine aa4 a ((au [.l J0 (.n 4),.t J1 J0] (.t J1 (.n 4))) hm hi) ((az [.l J0 (.n 4),.l J1 (.m 34 J2),.t J2 J0] (.t J1 (.n 900000))) hm al hi) ?_;have a2:=bF (o:= .cb (bV C SY i++[bY i])) a;have p2:h<+:h'.set h.length (.cb (bV C SY i++[bY i])):=eX p (aS _);have hc: ∀ j,j<16->C i j<=17:=λj hj=>by have:=Px (C i) hj;rw[O.sum] at this;exact(au [.l J0 (.n 17),.l J1 J0] (.l J1 (.n 17))) mU this
  generalize h'.set h.length (.cb (bV C SY i++[bY i]))=h2 at *
  have GS:((((ar 16).map λj=>PV.int (C i j:Nat)).length:Nat):Int)=16:=by rfl
  have mP:((((SY i).map PV.int).length:Nat):Int)=((SY i).length:Nat):=by simp
  nofun;have Bz:intsOf ((ar 16).map λj=>PV.int (C i j:Nat))=aa ((ar 16).map λj=>((C i j:Nat):Int)):=Ba;refine NY Bz ?_;rw[GQ,O.sum];nofun;refine N8 (λj st=>iR λ(h3:PH) (e6:Option PV)=>jz (st=⟨h3,[aa (.ref tb),aa (.ref h.length),aa (.int 0),aa (.int (i:Nat)),aa (.tup ((ar 16).map λj=> .int (C i j:Nat))),aa (.tup ((SY i).map PV.int)),e6,ae,ae,ae,ae,ae,ae,ae,ae]⟩) (h<+:h3) (h3[h.length]?=aa (.cb (bV C SY i++[bY i]++(ar j).map λj=>bY (C i j))))) ⟨_,_,rfl,p2,a2.trans (by simp)⟩ ?_ ?_
  .rintro j x _ KC hK hx ⟨h3,e6,rfl,p3,a3⟩
   have hj:j<16:=by simpa using(dF.mp hx).1
   rw[b0 hj] at hx;obtain rfl:=bD hx;have:=hc j hj;nofun;refine sf a3 (xY ((aw [.l J0 (.n 17)] (.t J0 (.n 256))) this)) (by simp;exact(aQ [.l J0 (.n 4),.l J1 (.m 34 J2),.t J2 J0,.t J3 (.n 16)] (.t (.a J1 (.a J3 Y1)) (.n 1000000))) hm al hi hj) ?_;nofun;refine hK (.inl rfl) ⟨_,_,rfl,eX p3 (aS _),(bF a3).trans ?_⟩;rw[dZ,b8,<- eH,bJ];rfl
  .rintro _ ⟨h3,e6,rfl,p3,a3⟩
   rw[aX,fV] at a3;nofun;refine YW (ints_map (SY i)) (By λs hs=>by have:=O.rg s hs;exact(cY [.an (.L (.n 0) Q0) (.L Q0 (.n 16))] (.an (.L (.n 0) Q0) (.T Q0 (.n 256)))) this) (by simp;exact(aw [.l J0 (.n 17)] (.l J0 (.n 1000000))) mU) ?_;nofun;refine N5 a3 (by simp;exact(aQ [.l J0 (.n 4),.l J1 (.m 34 J2),.t J2 J0,.l J3 (.n 17)] (.t (.a (.a J1 (.n 17)) J3) (.n 1000000))) hm al hi mU) ?_;nofun;have e1:bV C SY i++[bY i]++((ar 16).map λj=>bY (C i j))++((SY i).map λs=>bY s.toNat)=bV C SY (i+1):=by rw[yd];unfold pF;simp
   refine hK (.inl rfl) ⟨_,_,_,_,_,_,rfl,eX p3 (aS _),(bF a3).trans (by rw[e1]),?_⟩;rw[yd,bb,Bx];exact(az [.l J0 (.m 34 J1),.l J2 (.n 17)] (.l (.a J0 (.a (.n 17) J2)) (.m 34 (.a J1 Y1)))) al mU
 .rintro _ ⟨h',e2,e3,e4,e5,e6,rfl,p,a,al⟩
  rw[aX,fV] at a al;nofun;refine A1 a ((au [.l J0 (.n 4),.l J1 (.m 34 J0)] (.l J1 (.n 1000000))) hm al) ?_;nofun;exact q _ p
end
inductive sE (h:PH) (hd m:Nat) (kd pt:Int):Prop
 |mk (id dc ac:Nat) (s1:h[hd]?=aa (.inst 5 [(18,.ref id),(19,.ref dc),(20,.ref ac),(21,.int kd),(22,.int 0),(23,.int 0),(24,.int pt)])) (s2:h[id]?=aa (.list ((ar m).map λi=> .int ((i+1:Nat):Int)))) (s3:h[dc]?=aa (.list ((ar m).map λi=> .int (i:Nat)))) (s4:h[ac]?=aa (.list (cX m (.int 0)))):sE h hd m kd pt
theorem sE.mono{h h':PH}{hd m:Nat}{kd pt:Int}(H:sE h hd m kd pt)(p:h<+:h'):sE h' hd m kd pt:=by obtain⟨a,b,c,x,y,z,w⟩:=H;exact⟨a,b,c,aI p x,aI p y,aI p z,aI p w⟩
noncomputable def yf (m:Nat) (kd pt:Int):List UInt8:=bY m::((ar m).flatMap λi=>[bY (i+1),bY (i*16)])++[bY kd.toNat,0,bY pt.toNat]
theorem GU{f g:Nat->UInt8}: ∀ n,((ar n).flatMap λi=>[f i,g i]).length=2*n
 |0=>rfl
 |n+1=>by rw[dZ,jM,bb,GU n];simp;exact aw [] (.e (.a (.m 2 J0) Y2) (.m 2 (.a J0 Y1)))
section
variable{k f m w ht sc hd:Nat}{b:Bool}{kd p0 pt:Int}{kk:PV}{h:PH}{Q:PV->PH->Prop}
theorem aa6(F:dI h f m w ht p0 kk)(Sc:gu h sc m kd pt)(q: ∀ h' hd,h<+:h'->sE h' hd m kd pt->Q (.ref hd) h'):Wh ((run T (k+3) b).call 13 [.ref sc,.ref f]) h Q:=by
 obtain⟨pl,dc,ac,s1,s2,s3,s4⟩:=id Sc;obtain⟨hm,cO,cl,C,f1,f2,f3⟩:=id F;refine bc (VH _ _ _ _ _) ?_;nofun;refine lC (xs:=(ar m).map λi=> .int (i:Nat)) (λj st acc=> ∃ e,jz (st=⟨h,[ae,e,aa (.ref f)]⟩) (acc.length=j) (∀ x,x<j->acc[x]?=aa (.int ((x+1:Nat):Int)))) s2 ⟨_,rfl,rfl,λx hx=>absurd hx (dm _)⟩ (λi st acc zz=>by obtain⟨e,h1,_⟩:=zz;rw[h1];exact s2) ?_ ?_
 .rintro j x _ acc KC XC hK hX hx ⟨e,rfl,h1,h2⟩
  have hj:j<m:=by simpa using(dF.mp hx).1
  rw[b0 hj] at hx;obtain rfl:=bD hx;have xM:=f3 j hj;nofun;refine bS f2 (cR _) (b0 (by simpa using hj)) ?_;rw[bJ];nofun;refine hK ⟨_,rfl,by simp[h1],λx hx=>?_⟩;rw[ph h1 hx];split
  .exact h2 x (by assumption)
  .have:x=j:=(au [.t J0 (.a J1 Y1),.no (.t J0 J1)] (.e J0 J1)) hx ‹_›
   subst this;rfl
 .rintro _ acc ⟨e,rfl,h1,h2⟩
  rw[aX,fV] at h1 h2;refine dW ((au [.l J0 (.n 4),.e J1 J0] (.l J1 (.n 1000000))) cO h1) ?_;dsimp only;have ea:=mJ h1 h2;nofun;refine A0 (aJ s3) (by simp;exact(aw [.l J0 (.n 4)] (.l J0 (.n 1000000))) cO) ?_;nofun;refine A0 (aJ (aJ s4)) (by simp;exact(aw [.l J0 (.n 4)] (.l J0 (.n 1000000))) cO) ?_;nofun;refine j3 Zh (ZT aM ?_);nofun;rw[Bb];refine q _ _ ((((bH _ _).trans (bH _ _)).trans (bH _ _)).trans (bH _ _)) ⟨h.length,(h++[aB.list acc]).length,((h++[aB.list acc])++[aB.list ((ar m).map λi=> .int (i:Nat))]).length,aM,ea▸aJ (aJ (aJ aM)),aJ (aJ aM),aJ aM⟩
theorem aa7{id:Nat}(hi:h[id]?=aa (.list ((ar m).map λi=> .int ((i+1:Nat):Int))))(hm:m<=4)(q: ∀ h',h<+:h'->Q (.bool ag) h'):Wh ((run T (k+1) b).call 10 [.ref id]) h Q:=by
 refine bc (VE _ _ _ _) ?_;have g:d7 0 (((ar m).map λi=>PV.int ((i+1:Nat):Int)).length:Int) 1=ag:=by simp;exact gK ((aw [.l J0 (.n 4)] (.an (.L (.n 0) (.c J0)) (.L (.c J0) (.n 1000000)))) hm)
 nofun;refine iw (n:=m) (λi st=>iR λ(h':PH) (e1:Option PV)=>st=⟨h',[aa (.ref id),e1,ae,ae]⟩/\h<+:h') (by simp) ⟨_,_,rfl,fg⟩ ?_ ?_
 .rintro i _ KC hK dC ⟨h',e1,rfl,p⟩
  have yg:=aI p hi;nofun;refine bS yg (cR _) (b0 (by simpa using dC)) ?_;rw[bJ];nofun;have hs:sliceOf ((ar m).map λi=>PV.int ((i+1:Nat):Int)) ae (aa (i:Int))=(ar i).map λi=>PV.int ((i+1:Nat):Int):=by unfold sliceOf;simp only[wy,DU,tG];unfold mw;rw[if_pos (cR _),aX,fV,bJ,rE (fY dC),<- KR,List.take_range,rE (fY dC)]
  refine NS yg (by rw[hs];simp;exact(au [.l J0 (.n 4),.t J1 J0] (.l J1 (.n 1000000))) hm dC) ?_;rw[hs];nofun;refine NU aM Ba ?_;have hn:((ar i).map λi=>((i+1:Nat):Int)).contains ((i+1:Nat):Int)=ak:=by rw[zl];intro e;rw[Dp] at e;obtain⟨j,hj,e⟩:=bX.mp e;rw[fh] at hj;exact(au [.t J0 J1,.E (.c (.a J0 Y1)) (.c (.a J1 Y1))] .ff) hj e
  rw[hn];nofun;exact hK (.inl rfl) ⟨_,_,rfl,p.trans (bH _ _)⟩
 .rintro _ ⟨h',e1,rfl,p⟩
  nofun;exact q _ p
theorem aa8(H:sE h hd m kd pt)(hm:0<m/\m<=4)(cj:1<=kd/\kd<=7)(fq:0<=pt/\pt<=15)(q: ∀ h',h<+:h'->Q .none h'):Wh ((run T (k+2) b).call 11 [.ref hd]) h Q:=by
 obtain⟨id,dc,ac,s1,s2,s3,s4⟩:=id H;refine bc (VF _ _ _ _) ?_;have wt: ∀ {m:PV} {c:Bool} {h:PH} {R:PV->PH->Prop},c=ag->R .none h->Wh ((run T (k+1) b).call 9 [.bool c,m]) h R:=fun{m c h R} e q=>by subst e;exact Zy q
 have hl:(((ar m).map λi=>PV.int ((i+1:Nat):Int)).length:Int)=m:=by simp
 have eY:(((ar m).map λi=>PV.int (i:Nat)).length:Int)=m:=by simp
 have kE:((cX m (PV.int 0)).length:Int)=m:=by simp
 nofun;refine wt (decide_eq_true ((au [.an (.t Y0 J0) (.l J0 (.n 4)),.E (.c J1) (.c J0)] (.L (.c J1) (.n 4))) hm hl)) ?_;nofun;refine wt (decide_eq_true ((az [.E (.c J0) (.c J1),.E (.c J2) (.c J1)] (.E (.c J2) (.c J0))) hl kE)) ?_;nofun;refine aa7 (k:=k) s2 hm.2 λh1 p1=>?_;nofun;refine wt rfl ?_;have t1:=aI p1 s1;have t2:=aI p1 s2;have t3:=aI p1 s3;have t4:=aI p1 s4;nofun;refine sh (λi st=> ∃ (e2:Option PV),st=⟨h1,[aa (.ref hd),aa (.int ((ar m).map λi=>PV.int ((i+1:Nat):Int)).length),e2,ae,ae,ae,ae,ae,ae,ae,ae,ae]⟩) t2 ⟨_,rfl⟩ (λi st zz=>by obtain⟨e2,e⟩:=zz;rw[e];exact t2) ?_ ?_
 .rintro i x _ KC hK hx ⟨e2,rfl⟩
  have hi:i<m:=by simpa using(dF.mp hx).1
  rw[b0 hi] at hx;obtain rfl:=bD hx;nofun;refine wt (decide_eq_true ((au [.an (.t Y0 J0) (.l J0 (.n 4)),.t J1 J0] (.L (.c (.a J1 Y1)) (.n 255))) hm hi)) ?_;nofun;exact hK (.inl rfl) ⟨_,rfl⟩
 rintro _ ⟨e2,rfl⟩;nofun;refine A0 t3 (by simp;exact(aw [.an (.t Y0 J0) (.l J0 (.n 4))] (.l J0 (.n 1000000))) hm) ?_;nofun;refine A0 (aJ t4) (by simp;exact(aw [.an (.t Y0 J0) (.l J0 (.n 4))] (.l J0 (.n 1000000))) hm) ?_;refine xG (aJ aM) aM (by simp;exact(aw [.an (.t Y0 J0) (.l J0 (.n 4))] (.l (.a J0 J0) (.n 1000000))) hm) ?_;nofun;generalize hh:h1++[aB.list ((ar m).map λi=>PV.int (i:Nat))]++[aB.list (cX m (.int 0))]=h2;have p2:h1<+:h2:=hh▸(bH _ _).trans (bH _ _);have u1:=aI p2 t1;refine sh (xs:=(ar m).map (λi=>PV.int (i:Nat))++cX m (.int 0)) (λi st=>iR λ(e2 e3:Option PV)=>st=⟨h2++[aB.list ((ar m).map (λi=>PV.int (i:Nat))++cX m (.int 0))],[aa (.ref hd),aa (.int ((ar m).map λi=>PV.int ((i+1:Nat):Int)).length),e2,e3,ae,ae,ae,ae,ae,ae,ae,ae]⟩) aM ⟨_,_,rfl⟩ (λi st zz=>by obtain⟨e2,e3,e⟩:=zz;rw[e];exact aM) ?_ ?_
 .rintro i x _ KC hK hx ⟨e2,e3,rfl⟩
  obtain⟨v,rfl,h0,h3⟩: ∃ v:Int,x= .int v/\0<=v/\v<=3:=by
   have hx:=kY hx;rcases fX.mp hx with hx|hx
   .obtain⟨j,hj,rfl⟩:=bX.mp hx
    rw[fh] at hj;exact⟨_,rfl,by exact cR _,by exact(au [.an (.t Y0 J0) (.l J0 (.n 4)),.t J1 J0] (.L (.c J1) (.n 3))) hm hj⟩
   .rw[Kj] at hx;exact⟨0,hx.2,by decide,by decide⟩
  nofun;refine wt (decide_eq_true ((cY [.L Q0 (.n 3)] (.L Q0 (.n 3))) h3)) ?_;nofun;exact hK (.inl rfl) ⟨_,_,rfl⟩
 rintro _ ⟨e2,e3,rfl⟩;nofun;refine wt (decide_eq_true (bL 0 0 [] [] [] (.L (.n 0) (.n 63)))) ?_;nofun;refine wt (decide_eq_true ((cY [.an (.L (.n 0) Q0) (.L Q0 (.n 15))] (.L Q0 (.n 15))) fq)) ?_;nofun;exact q _ ((p1.trans p2).trans (bH _ _))
theorem aa9(H:sE h hd m kd pt)(hm:0<m/\m<=4)(cj:1<=kd/\kd<=7)(fq:0<=pt/\pt<=15)(q: ∀ h',h<+:h'->Q (.bytes (yf m kd pt)) h'):Wh ((run T (k+3) b).call 12 [.ref hd]) h Q:=by
 refine bc (VG _ _ _ _) ?_;nofun;refine aa8 H hm cj fq λh1 p1=>?_;obtain⟨id,dc,ac,s1,s2,s3,s4⟩:=(H.mono p1);nofun;have hl:(((ar m).map λi=>PV.int ((i+1:Nat):Int)).length:Int)=(m:Nat):=by simp
 rw[hl];refine FH (is:=[(m:Int)]) aM rfl (By λs hs=>by simp at hs;exact(cM [.an (.t Y0 J0) (.l J0 (.n 4)),.E Q0 (.c J0)] (.an (.L (.n 0) Q0) (.T Q0 (.n 256)))) hm hs) (by simp) ?_;have g:d7 0 (m:Int) 1=ag:=gK ((aw [.an (.t Y0 J0) (.l J0 (.n 4))] (.an (.L (.n 0) (.c J0)) (.L (.c J0) (.n 1000000)))) hm);nofun;rw[hl];nofun;refine iw (n:=m) (λi st=>iR λ(h':PH) (e2:Option PV)=>st=⟨h',[aa (.ref hd),aa (.bytes (bY m::(ar i).flatMap λi=>[bY (i+1),bY (i*16)])),e2,ae,ae,ae,ae]⟩/\h1<+:h') rfl ⟨_,_,rfl,bH _ _⟩ ?_ ?_
 .rintro i _ KC hK hi ⟨h',e2,rfl,p⟩
  have t1:=aI p s1;nofun;refine bS (aI p s2) (cR _) (b0 (by simpa using hi)) ?_;rw[bJ];nofun;refine bS (aI p s3) (cR _) (b0 (by simpa using hi)) ?_;rw[bJ];nofun;refine bS (aI p s4) (cR _) (v:= .int 0) (by rw[bJ,zD,if_pos hi]) ?_;nofun;have GV:(i:Int)*16+0=((i*16:Nat):Int):=aw [] (.E (.a (.w (.c J0) 16) (.n 0)) (.c (.w J0 16)));rw[GV];refine FH (is:=[((i+1:Nat):Int),((i*16:Nat):Int)]) aM rfl (By λs hs=>by simp at hs;exact(lx [.an (.t Y0 J0) (.l J0 (.n 4)),.t J1 J0,.o (.E Q0 (.a (.c J1) (.n 1))) (.E Q0 (.w (.c J1) 16))] (.an (.L (.n 0) Q0) (.T Q0 (.n 256)))) hm hi hs) (by simp) ?_;refine NQ (by rw[bb,fW,GU];show _+2<=_;exact(au [.an (.t Y0 J0) (.l J0 (.n 4)),.t J1 J0] (.l (.a (.a (.m 2 J1) Y1) Y2) (.n 1000000))) hm hi) ?_;nofun;rw[show(bY m::((ar i).flatMap λi=>[bY (i+1),bY (i*16)]))++[((i+1:Nat):Int),((i*16:Nat):Int)].map (λs=>bY s.toNat)=bY m::((ar (i+1)).flatMap λi=>[bY (i+1),bY (i*16)]) by rw[dZ,jM];rfl];exact hK (.inl rfl) ⟨_,_,rfl,p.trans (bH _ _)⟩
 .rintro _ ⟨h',e2,rfl,p⟩
  have t1:=aI p s1;nofun;have GV:(0:Int)*16+pt=pt:=cY [] (.E (.a (.m 0 (.n 16)) Q0) Q0);rw[GV];refine FH (is:=[kd,0,pt]) aM rfl (By λs hs=>by simp at hs;exact(My [.an (.L (.n 1) Q0) (.L Q0 (.n 7)),.an (.L (.n 0) Q1) (.L Q1 (.n 15)),.o (.E Q2 Q0) (.o (.E Q2 (.n 0)) (.E Q2 Q1))] (.an (.L (.n 0) Q2) (.T Q2 (.n 256)))) cj fq hs) (by simp) ?_;refine NQ (by rw[bb,fW,GU];show _+3<=_;exact(aw [.an (.t Y0 J0) (.l J0 (.n 4))] (.l (.a (.a (.m 2 J0) Y1) (.n 3)) (.n 1000000))) hm) ?_;nofun;exact q _ ((p1.trans p).trans (bH _ _))
end
def Py(h:PH)(f:Nat)(v:PV)(x:List Int):Prop:=iR λ(w:Int) (r:Nat)=>jz (v= .tup [.int w,.ref r]) (h[r]?=aa (.list (x.map PV.int))) (r≠f)
structure cP (h:PH) (f:Nat) (l:List PV) (X:List (List Int)):Prop where
 len:l.length=X.length
 at': ∀ (i:Nat) v x,l[i]?=aa v->X[i]?=aa x->Py h f v x
theorem cP.mono(I:cP h f l X)(g: ∀ (k:Nat) o,k≠f->h[k]?=aa o->h'[k]?=aa o):cP h' f l X:=⟨I.len,λi v x a b=>by obtain⟨w,r,e,hr,n⟩:=I.at' i v x a b;exact⟨w,r,e,g _ _ n hr,n⟩⟩
theorem cP.pre{h h':PH}{f:Nat}{l:List PV}{X:List (List Int)}(I:cP h f l X)(p:h<+:h'):cP h' f l X:=I.mono λzy zy zy e=>aI p e
theorem cP.any(I:cP h f l X)(hg:h.length<=g):cP h g l X:=⟨I.len,λi v x a b=>by obtain⟨w,r,e,hr,n⟩:=I.at' i v x a b;exact⟨w,r,e,hr,by have:=bh hr;exact cq (dj this hg)⟩⟩
theorem cP.nil:cP h f [] []:=⟨rfl,λi v x a zy=>by simp at a⟩
theorem cP.snoc(I:cP h f l X)(hv:Py h f v x):cP h f (l++[v]) (X++[x]):=by
 refine⟨by simp[I.len],λi v' x' a b=>?_⟩;rcases jt i l.length with hi|hi
 .rw[jL hi] at a
  rw[jL (by rw[<- I.len];exact hi)] at b;exact I.at' i _ _ a b
 .have dC:=(dF.mp a).1
  rw[bb] at dC;have:i=l.length:=by simp at dC;exact(au [.l J0 J1,.t J1 (.a J0 Y1)] (.e J1 J0)) hi dC
  subst this;rw[tA] at a;rw[I.len,tA] at b;cases a;cases b;exact hv
theorem cP.get(I:cP h f l X)(hi:i<X.length): ∃ (w:Int) (r:Nat),l[i]?=aa (.tup [.int w,.ref r])/\X[i]?=aa X[i]/\h[r]?=aa (.list (X[i].map PV.int))/\r≠f:=by have h1:l[i]?=aa (l[i]'(by rw[I.len];exact hi)):=eQ _;have h2:X[i]?=aa X[i]:=eQ _;obtain⟨w,r,e,hr,n⟩:=I.at' i _ _ h1 h2;exact⟨w,r,by rw[h1,e],h2,hr,n⟩
theorem take_snoc{α:Type}{l:List α}{i:Nat}{x:α}(h:l[i]?=aa x):l.take (i+1)=l.take i++[x]:=by rw[Ko,h];rfl
section
variable{k rc rp:Nat}{b:Bool}{h:PH}{Q:PV->PH->Prop}{lc lp:List PV}{X P:List (List Int)}
theorem aba(hc:h[rc]?=aa (.list lc))(hp:h[rp]?=aa (.list lp))(Ic:cP h h.length lc X)(Ip:cP h h.length lp P)(hX:X.length<=1000)(hP:P.length<=1000)
  (q: ∀ h' z lz Z,h<+:h'->h'[z]?=aa (.list lz)->cP h' h'.length lz Z->Il X P Z->Q (.ref z) h'):Wh ((run T (k+1) b).call 16 [.ref rc,.ref rp]) h Q:=by
 refine bc (mI _ _ _ _ _) ?_;have fM:=Ic.len;have su:=Ip.len;nofun;refine xI (λn st=>nG λ(h':PH) (a t:Nat) (lz:List PV) (Z:List (List Int))=>ue (st=⟨h',[aa (.ref rc),aa (.ref rp),aa (.ref h.length),aa (.int (a:Nat)),aa (.int (t:Nat)),ae]⟩) (h<+:h') (h'[h.length]?=aa (.list lz)) (cP h h.length lz Z) (Il (X.take a) (P.take t) Z) (a<=X.length) (t<=P.length) (n=X.length+P.length-(a+t))) (m:=X.length+P.length) ⟨_,0,0,[],[],rfl,pre_app fg,aM,.nil,.nil,by exact cz _,by exact cz _,by exact(az [pB J2 (.a J0 J1) Y0] (.e (.a J0 J1) J2)) (uB _ _)⟩ ?_;rintro n _ KC hK ⟨h',a,t,lz,Z,rfl,p,z1,z2,z3,ha,ht,rfl⟩;have c':=aI p hc;have p':=aI p hp;have hZ:=z3.len;rw[gT,gT] at hZ;have x9:=z2.len;refine NO (λv:Bool=>(v=ag->a<X.length\/t<P.length)/\(v=ak->a=X.length/\t=P.length)) (λK' hv=>?_) λv hv=>?_
 .nofun
  refine fF (λe=>?_) λe=>?_
  all_goals (nofun)
  .exact hv ⟨λzy=> .inl ((az [.e J0 J1,.l J2 J1,.T (.c J2) (.c J0)] (.t J2 J1)) fM ha e),(by first|exact nB|exact nT)⟩
  .refine fF (λe2=>?_) λe2=>?_
   all_goals (nofun)
   .exact hv ⟨λzy=> .inr ((az [.e J0 J1,.l J2 J1,.T (.c J2) (.c J0)] (.t J2 J1)) su ht e2),(by first|exact nB|exact nT)⟩
   .exact hv ⟨(by first|exact nB|exact nT),λzy=>by exact(dn [.e J0 J1,.e J2 J3,.l J4 J1,.l J5 J3,.no (.T (.c J4) (.c J0)),.no (.T (.c J5) (.c J2))] (.an (.e J4 J1) (.e J5 J3))) fM su ha ht e e2⟩
 refine YH (λe=>?_) λe=>?_
 rotate_left
 .obtain⟨e1,e2⟩:=hv.2 e
  rw[e1,e2,gR,gR] at z3;nofun;exact q _ _ _ _ p z1 ((z2.pre p).any (aS _)) z3
 have hv:=hv.1 e;clear e;dsimp only[ah,bq];refine NO (λv:Bool=>(v=ag->a<X.length)/\(v=ak->t<P.length)) (λK' dN=>?_) λv dN=>?_
 .rcases jt a X.length with ca|ca <;> rcases jt t P.length with ct|ct
  .obtain⟨w,r,g1,g2,g3,g4⟩:=Ic.get ca
   obtain⟨w',r',GW,g2',BA,g4'⟩:=Ip.get ct;nofun;refine bS c' (cR _) (by rw[bJ];exact g1) ?_;nofun;refine bS p' (cR _) (by rw[bJ];exact GW) ?_;nofun;refine fF (λzy=>?_) λzy=>?_
   all_goals (nofun)
   all_goals exact dN ⟨λzy=>ca,λzy=>ct⟩
  .nofun
   exact dN ⟨λzy=>ca,(by first|exact nB|exact nT)⟩
  .nofun
   exact dN ⟨(by first|exact nB|exact nT),λzy=>ct⟩
  .exact((aQ [.l J0 J1,.l J2 J3,.o (.t J0 J1) (.t J2 J3),.l J1 J0,.l J3 J2] .ff) ha ht hv ca ct).elim
 induction v using dD with
 |true=>have ca:=dN.1 rfl;obtain⟨w,r,g1,g2,g3,g4⟩:=Ic.get ca;nofun;refine bS c' (cR _) (by rw[bJ];exact g1) ?_;nofun;exact hK (.inl rfl) (by clear dN;exact(dn [.l J0 J1,.l J2 J3,.t J0 J1,pB J4 (.a J1 J3) (.a (.a J0 Y1) J2),pB J5 (.a J1 J3) (.a J0 J2)] (.t J4 J5)) ha ht ca (uB _ _) (uB _ _)) ⟨_,a+1,t,_,_,rfl,eX p (aS _),bF z1,z2.snoc ⟨w,r,rfl,g3,g4⟩,by rw[take_snoc g2];exact .l _ z3,ca,ht,rfl⟩
 |false=>have ct:=dN.2 rfl;obtain⟨w,r,g1,g2,g3,g4⟩:=Ip.get ct;nofun;refine bS p' (cR _) (by rw[bJ];exact g1) ?_;nofun;exact hK (.inl rfl) (by clear dN;exact(dn [.l J0 J1,.t J2 J3,pB J4 (.a J1 J3) (.a J0 (.a J2 Y1)),pB J5 (.a J1 J3) (.a J0 J2)] (.t J4 J5)) ha ct (uB _ _) (uB _ _)) ⟨_,a,t+1,_,_,rfl,eX p (aS _),bF z1,z2.snoc ⟨w,r,rfl,g3,g4⟩,by rw[take_snoc g2];exact .r _ z3,ha,ct,rfl⟩
theorem abb{n:Nat}:jB 0 ((n:Int)-1) 2=(ar (n/2)).map λj:Nat=>PV.int ((2*j:Nat):Int):=by unfold jB;rw[if_pos (by decide)];have:(((n:Int)-1-0+2-1)/2).toNat=n/2:=(rX [pd 2 Q0 (.s (.a (.s (.s (.c J1) (.n 1)) (.n 0)) (.n 2)) (.n 1)),pT J0 Q0,pD 2 J2 J1] (.e J0 J2)) (ud _ 2) (uT _) (uD _ 2);rw[this];exact gF λj zy=>by congr 1;exact aw [] (.E (.a (.n 0) (.w (.c J0) 2)) (.c (.m 2 J0)))
theorem abc(X:List (List Int))(j:Nat)(h:2*j+1<X.length):(pk X)[j]?=aa (X[2*j]++X[2*j+1]):=by
 revert j;refine ET (P:=λX=> ∀ j (h:2*j+1<X.length),(pk X)[j]?=aa (X[2*j]++X[2*j+1])) (λzy h=>absurd h (dm _)) (λzy zy h=>absurd (DF h) (dm _)) (λx y r ih j h=>?_) X;induction j using ju with
 |zero=>rfl
 |succ j=>have:=ih j (by simp at h;exact(au [.t (.m 2 (.a J0 Y1)) (.a J1 Y1)] (.t (.a (.m 2 J0) Y1) J1)) h);show(pk r)[j]?=_;rw[this];rfl
theorem abd(hc:h[rc]?=aa (.list lc))(Ic:cP h h.length lc X)(hX:X.length<=1000)(hs:X.flatten.length<=100000)
  (q: ∀ h' z lz,h<+:h'->h'[z]?=aa (.list lz)->cP h' h'.length lz (pk X)->Q (.ref z) h'):Wh ((run T (k+1) b).call 17 [.ref rc]) h Q:=by
 refine bc (VK _ _ _ _) ?_;have fM:=Ic.len;nofun;have iV:((lc.length:Nat):Int)-1=(X.length:Int)-1:=by rw[fM]
 rw[iV];refine FE (by unfold d7;simp;exact(au [.l J0 (.n 1000),pA J1 (.s (.c J0) (.n 1))] (.l J1 (.n 1000000))) hX (uA _)) ?_;nofun;refine uE (x:=λj=>PV.int ((2*j:Nat):Int)) (N:=X.length/2) (Inv:=λi st=>nG λ(h':PH) (e2 e3 e4:Option PV) (lz:List PV)=>jX (st=⟨h',[aa (.ref rc),aa (.ref h.length),e2,e3,e4,ae,ae]⟩) (h<+:h') (h'[h.length]?=aa (.list lz)) (cP h' h.length lz ((pk X).take i))) (λi=>by rw[abb];exact A3 i) ⟨_,_,_,_,[],rfl,pre_app fg,aM,.nil⟩ ?_ ?_
 .rintro i _ KC hK hi ⟨h',e2,e3,e4,lz,rfl,p,z1,z2⟩
  have c':=aI p hc;obtain⟨w,r,g1,g2,g3,g4⟩:=Ic.get (i:=2*i) ((az [.t J0 J1,pD 2 J1 J2] (.t (.m 2 J0) J2)) hi (uD _ 2));obtain⟨w',r',GW,g2',BA,g4'⟩:=Ic.get (i:=2*i+1) ((az [.t J0 J1,pD 2 J1 J2] (.t (.a (.m 2 J0) Y1) J2)) hi (uD _ 2));have hlen: ∀ (j:Nat) (hj:j<X.length),(X[j]).length<=100000:=λj hj=>by have:=(List.sublist_flatten_of_mem (Kz hj)).length_le;exact(aQ [.l J0 (.n 100000),.t J1 J2,.l J3 J0] (.l J3 (.n 100000))) hs hj this
  nofun;refine bS c' (aw [] (.L (.n 0) (.c (.m 2 J0)))) (by rw[bJ];exact g1) ?_;nofun;refine bS c' (aw [] (.L (.n 0) (.a (.c (.m 2 J0)) (.n 1)))) (by rw[show(((2*i:Nat):Int)+1).toNat=2*i+1 from(au [pT J0 (.a (.c (.m 2 J1)) (.n 1))] (.e J0 (.a (.m 2 J1) Y1))) (uT _)];exact GW) ?_;nofun;have x9:=z2.len;rw[gT,um] at x9;have h1:=hlen (2*i) ((az [.t J0 J1,pD 2 J1 J2] (.t (.m 2 J0) J2)) hi (uD _ 2));have h2:=hlen (2*i+1) ((az [.t J0 J1,pD 2 J1 J2] (.t (.a (.m 2 J0) Y1) J2)) hi (uD _ 2));refine xG (aI p g3) (aI p BA) (by simp;exact(bU [.t J0 J1,.l J3 (.n 100000),.l J4 (.n 100000),pD 2 J1 J2] (.l (.a J3 J4) (.n 1000000))) hi h1 h2 (uD _ 2)) ?_;have bf:=bh z1;nofun;refine hK (.inl rfl) ⟨_,_,_,_,_,rfl,eX (pre_app p) (aS _),bF (aJ z1),?_⟩;rw[take_snoc (abc X i ((az [.t J0 J1,pD 2 J1 J2] (.t (.a (.m 2 J0) Y1) J2)) hi (uD _ 2)))];refine(z2.mono (f:=h.length) λz o n e=>bj (aJ e) (eI n)).snoc ⟨_,_,rfl,?_,by exact dK bf⟩;rw[b8];exact bj aM (cq bf)
 .rintro _ ⟨h',e2,e3,e4,lz,rfl,p,z1,z2⟩
  rw[nj (by rw[um];exact aS _)] at z2;nofun;refine q _ _ _ p z1 ⟨z2.len,λi v x u v'=>?_⟩;obtain⟨w,r,e,hr,_⟩:=z2.at' i v x u v';exact⟨w,r,e,hr,by have:=bh hr;exact cq this⟩
end
noncomputable def GX {α:Type} (le:α->α->Bool) (x:α):List α->List α:=oJ [x] λy r ih=>if le x y then x::y::r else y::ih
noncomputable def yh {α:Type} (le:α->α->Bool):List α->List α:=oJ [] λx zy ih=>GX le x ih
theorem abe{α:Type}{P:α->Prop}{b:Bool}{x y:α}(hx:P x)(hy:P y):P (if b then x else y):=by cases b <;> assumption
theorem abf{α:Type}(le:α->α->Bool)(x:α)(l:List α):(GX le x l).Perm (x::l):=oJ (.refl _) (λy r ih=>abe (P:=λz:List α=>z.Perm (x::y::r)) (.refl _) ((ih.cons y).trans (.swap x y r))) l
theorem BB{α:Type}(le:α->α->Bool)(l:List α):(yh le l).Perm l:=oJ (.refl _) (λx r ih=>(abf le x (yh le r)).trans (ih.cons x)) l
theorem ins_map{α:Type}(f:α->PV)(x:α)(l:List α):nP (f x) (l.map f)=(GX (λa b=>nM (f a) (f b)) x l).map f:=by
 induction l with
 |nil=>rfl
 |cons y r ih=>show(if nM (f x) (f y) then f x::f y::r.map f else f y::nP (f x) (r.map f))=tH f (if nM (f x) (f y) then _ else _);rw[ih];cases nM (f x) (f y) <;> rfl
theorem sort_map{α:Type}(f:α->PV)(l:List α):lA (l.map f)=(yh (λa b=>nM (f a) (f b)) l).map f:=by
 induction l with
 |nil=>rfl
 |cons x r ih=>exact(congrArg (nP (f x)) ih).trans (ins_map f x _)
theorem BC{α:Type}{f:α->PV}{l:List α}(hf: ∀ x∈l,keyKind (f x)=3)(hl:l.length<64):sortable (l.map f)=ag:=by unfold sortable;rw[aX,decide_eq_true hl,Dd,Dc];right;rw[dS];intro x hx;obtain⟨y,hy,rfl⟩:=bX.mp hx;rw[hf y hy];rfl
theorem GY{E:List (Int×PV)}{i:Nat}{x v:PV}(h:(KD PV.int E)[i]?=aa (x,v)): ∃ s,x= .int s/\E[i]?=aa (s,v):=by unfold KD at h;rw[dG,ee] at h;obtain⟨⟨s,v'⟩,h1,h2⟩:=h;cases h2;exact⟨s,rfl,h1⟩
noncomputable def sF (v:PV):Int:=match v with| .int i=>i|_=>0
theorem lK.pos{E:List (Int×PV)}{P:Int->Prop}(C:lK E P){e:Int×PV}(h:e∈E):e.2= .int (sF e.2)/\0<sF e.2:=by obtain⟨c,hc,e⟩:=C.val _ h;rw[e];exact⟨rfl,by show(0:Int)<(c:Int);exact(aw [.t Y0 J0] (.T (.n 0) (.c J0))) hc⟩
section
variable{k fr:Nat}{b:Bool}{h:PH}{Q:PV->PH->Prop}{E:List (Int×PV)}{P:Int->Prop}
theorem abg(hf:h[fr]?=aa (.dict (KD PV.int E)))(C:lK E P)(hE:E.length<64)
  (q: ∀ h' z lz (S:List Int),Kp fr h h'->h'[z]?=aa (.list lz)->cP h' h'.length lz (S.map λs=>[s])->S.Perm (E.map (·.1))->Q (.ref z) h'):Wh ((run T (k+1) b).call 18 [.ref fr]) h Q:=by
 refine bc (VL _ _ _ _) ?_;have bf:=bh hf;have BD:(h.set fr (.dy (KD PV.int E)))[fr]?=aa (.dy (KD PV.int E)):=bF hf;nofun;refine Ob (λi st acc=> ∃ e1,st=⟨h.set fr (.dy (KD PV.int E)),[ae,e1,aa (.ref fr)]⟩/\acc=(E.take i).map λe=> .tup [.int (sF e.2),.int (-e.1)]) (.inl hf) ⟨_,rfl,rfl⟩ ?_ ?_
 .rintro i x v _ acc KC XC hK hX hx ⟨e1,rfl,rfl⟩
  obtain⟨s,rfl,he⟩:=GY hx;have hm:=kY he;obtain⟨hv,GZ⟩:=C.pos hm;dsimp only at hv GZ;have d9:dU (KD PV.int E) (.int s)=aa (.int (sF v)):=(jH dA s E).trans (by rw[mr C.nd hm,hv];rfl);nofun;refine xH BD (eZ dA s E) d9 ?_;nofun;refine xH BD (eZ dA s E) d9 ?_;nofun;refine hK ⟨_,rfl,?_⟩;rw[take_snoc he,b8];rfl
 .rintro _ acc ⟨e1,rfl,rfl⟩
  rw[show(KD PV.int E).length=E.length by unfold KD;exact aX _,gR];refine dW (by simp;exact(aw [.t J0 (.n 64)] (.l J0 (.n 1000000))) hE) ?_;dsimp only;nofun;refine NX aM (BC (λzy zy=>rfl) hE) ?_ ?_
  rotate_left
  .rw[sort_map];rw[aX,(BB _ E).length_eq];exact(aw [.t J0 (.n 64)] (.l J0 (.n 1000000))) hE
  rw[sort_map];generalize u4:yh _ E=E2;have hp:E2.Perm E:=u4▸BB _ E;generalize hh:(h.set fr (.dy (KD PV.int E)))++[aB.list (E.map λe=>PV.tup [.int (sF e.2),.int (-e.1)])]=h1;have K1:Kp fr h h1:=hh▸(Kp.refl fr h).set.app;nofun;have eY:=hp.length_eq;generalize hr:aB.list (E2.map λe=>PV.tup [.int (sF e.2),.int (-e.1)])=rows;have K2:Kp fr h (h1++[rows]):=K1.app;generalize hh2:h1++[rows]=h2 at K2;have lD:h2[h1.length]?=aa (.list (E2.map λe=>PV.tup [.int (sF e.2),.int (-e.1)])):=by rw[<- hh2,hr];exact aM
  refine lC (λi st acc=>jW λ(h':PH) (e1 e2:Option PV)=>jz (st=⟨h',[ae,e1,e2]⟩) (h2<+:h') (∀ g,h'.length<=g->cP h' g acc ((E2.take i).map λe=>[e.1]))) lD ⟨_,_,_,rfl,fg,λzy zy=> .nil⟩ (λi st acc zz=>by obtain⟨h',e1,e2,e,p,_⟩:=zz;rw[e];exact aI p lD) ?_ ?_
  .rintro i x _ acc KC XC hK hX hx ⟨h',e1,e2,rfl,p,I⟩
   rw[dG,ee] at hx;obtain⟨e,he,rfl⟩:=hx;nofun;refine hK ⟨_,_,_,rfl,pre_app p,λg hg=>?_⟩;rw[take_snoc he,b8];have lI:h'.length<g:=by simp at hg;exact(au [.l (.a J0 Y1) J1] (.t J0 J1)) hg
   refine((I g (fY lI)).mono λz o n e=>aJ e).snoc ⟨_,_,rfl,?_,by exact cq lI⟩;rw[Int.neg_neg];exact aM
  .rintro _ acc ⟨h',e1,e2,rfl,p,I⟩
   rw[aX,gR] at I;have sG:=(I h'.length (aS _)).len;rw[aX] at sG;refine dW ((az [.t J0 (.n 64),.e J1 J0,.e J2 J1] (.l J2 (.n 1000000))) hE eY sG) ?_;dsimp only;nofun;have I2:=I (h'.length+1) (km _);rw[show(E2.map λe=>[e.1])=(E2.map (·.1)).map λs=>[s] by rw[cV];rfl] at I2;refine q _ _ _ (E2.map (·.1)) (K2.trans (Kp.pre (pre_app p))) aM ?_ (hp.map _);rw[show(h'++[aB.list acc]).length=h'.length+1 by exact bb];exact I2.pre (bH _ _)
end
theorem abh(i:Il c p z):z.flatten.length=c.flatten.length+p.flatten.length:=by
 induction i with
 |nil=>rfl
 |l x _ ih=>simp[qe,ih];exact az [] (.e (.a (.a J0 J1) J2) (.a (.a J0 J2) J1))
 |r x _ ih=>simp[qe,ih];exact az [] (.e (.a (.a J0 J1) J2) (.a J0 (.a J1 J2)))
theorem abi(X:List (List Int)):(pk X).flatten.length<=X.flatten.length:=by have h:=MA (pk X).length X (aS _);rw[gR] at h;rw[h];have e:=congrArg (λl:List (List Int)=>l.flatten.length) (oC (2*(pk X).length) X);simp only[qe,bb] at e;exact(az [.e (.a J0 J1) J2] (.l J0 J2)) e
theorem Pz(R:nK c t z):z.flatten.length<=(t+1)*c.flatten.length/\z.length<=2*c.length:=by
 induction R with
 |z=>exact⟨by exact aw [] (.l J0 (.m 1 J0)),by exact aw [] (.l J0 (.m 2 J0))⟩
 | @s t y z R I ih=>have h1:=abh I;have h2:=abi y;have h3:=I.len;rw[um] at h3;refine⟨?_,by exact(dn [.an (.l J0 J1) (.l J2 (.m 2 J3)),.e J4 (.a J3 J5),pD 2 J5 J2] (.l J4 (.m 2 J3))) ih h3 (uD _ 2)⟩;rw[fN];exact(kq [.an (.l J0 J1) (.l J2 (.m 2 J3)),.e J4 (.a J5 J6),.l J6 J0] (.l J4 (.a J1 J5))) ih h1 h2
structure qU (E:List (Int×PV)) (l:List Int):Prop where
 nd:(E.map (·.1)).Nodup
 len:E.length<=l.length
 look: ∀ s,E.lookup s=if l.count s=0 then ae else aa (.int (l.count s:Nat))
theorem qU.get(H:qU E l)(s:Int):(E.lookup s).getD (.int 0)= .int (l.count s:Nat):=by
 rw[H.look]
 split
 .rename_i h;rw[h];rfl
 .rfl
theorem qU.put(H:qU E l)(s:Int):qU (eE E s (.int ((l.count s+1:Nat):Int))) (l++[s]):=by
 refine⟨?_,?_,λx=>?_⟩
 .rw[GI]
  split
  .exact H.nd
  .rename_i h
   rw[tC];exact⟨H.nd,by simp,λa ha b hb e=>by simp at hb;subst hb;subst e;exact h ha⟩
 .have:=F5 s (.int ((l.count s+1:Nat):Int)) E
  have:=H.len;rw[bb];show _<=_+1;exact(az [.l J0 J1,.l J2 (.a J0 Y1)] (.l J2 (.a J1 Y1))) this ‹_›
 .rw[F4,Ds,H.look]
  by_cases h:x=s
  .subst h
   rw[if_pos rfl,if_neg (by simp)];simp
  .rw[if_neg h]
   have:[s].count x=0:=by rw[List.count_eq_zero];simp;exact h
   rw[this,DP]
structure G1 (E:List (Int×PV)) (S:List Int) (L:Int->Nat):Prop where
 nd:(E.map (·.1)).Nodup
 val: ∀ e∈E,e.2= .int (L e.1:Nat)/\1<=L e.1/\L e.1<=16
 iff: ∀ s,s∈E.map (·.1)↔s∈S
 ks:((E.map (·.1)).map λs=>2^(16-L s)).sum<2^16
 perm:(E.map (·.1)).Perm S
theorem abj(nd:((-1)::S).Nodup)(h0:1<=S.length/\S.length<=17)(R:nK (((-1)::S).map λs=>[s]) 15 z)(H:qU E (z.take (2*S.length)).flatten):
  E.lookup (-1)=aa (.int ((z.take (2*S.length)).flatten.count (-1):Nat))/\G1 (E.filter λe=> !(e.1== -1)) S λs=>(z.take (2*S.length)).flatten.count s:=by
 obtain⟨k1,k2,k3⟩:=Ve nd h0 R;generalize (z.take (2*S.length)).flatten=l at *
 have hm:=k1 (-1) (kZ);refine⟨by rw[H.look,if_neg ((aw [.an (.l Y1 J0) (.l J0 (.n 16))] (.no (.e J0 Y0))) hm)],?_⟩;have G3:((E.filter λe=> !(e.1== -1)).map (·.1)).Nodup:=H.nd.sublist ((JY).map _);have key: ∀ s,s∈(E.filter λe=> !(e.1== -1)).map (·.1)↔s∈S:=λs=>by
  constructor
  .intro h
   obtain⟨e,he,rfl⟩:=bX.mp h;obtain⟨he,d8⟩:=tF.mp he;have d9:=H.look e.1;rw[mr H.nd (show(e.1,e.2)∈E from he)] at d9;by_cases hc:l.count e.1=0
   .rw[if_pos hc] at d9;cases d9
   .have:e.1∈(-1)::S:=by
     refine oy λh=>hc (k2 _ h)
    rcases gH.mp this with h|h
    .rw[h] at d8;cases d8
    .exact h
  .intro h
   have h1:=k1 s (zF _ h);have d9:=H.look s;rw[if_neg ((aw [.an (.l Y1 J0) (.l J0 (.n 16))] (.no (.e J0 Y0))) h1)] at d9;refine bX.mpr ⟨(s,_),tF.mpr ⟨uo d9,?_⟩,rfl⟩;have:s≠ -1:=λe=>by subst e;rw[lV] at nd;exact nd.1 h
   simpa using this
 have ndS:S.Nodup:=(lV.mp nd).2;have pm:((E.filter λe=> !(e.1== -1)).map (·.1)).Perm S:=(JS G3 ndS).mpr key;refine⟨G3,λe he=>?_,key,?_,pm⟩
 .have hS:=(key e.1).mp (bX.mpr ⟨e,he,rfl⟩)
  have h1:=k1 e.1 (zF _ hS);have d9:=H.look e.1;rw[mr H.nd (show(e.1,e.2)∈E from(tF.mp he).1),if_neg ((aw [.an (.l Y1 J0) (.l J0 (.n 16))] (.no (.e J0 Y0))) h1)] at d9;exact⟨by injection d9,h1⟩
 .rw[(pm.map λs=>2^(16-l.count s)).sum_nat];exact k3
theorem cP.app(I:cP h f l X)(J:cP h f l' X'):cP h f (l++l') (X++X'):=by
 refine⟨by simp[I.len,J.len],λi v x a b=>?_⟩;have hl:=I.len;rcases jt i l.length with hi|hi
 .rw[jL hi] at a
  rw[jL ((az [.e J0 J1,.t J2 J0] (.t J2 J1)) hl hi)] at b;exact I.at' i _ _ a b
 .rw[oA hi] at a
  rw[oA ((az [.e J0 J1,.l J0 J2] (.l J1 J2)) hl hi),<- hl] at b;exact J.at' _ _ _ a b
theorem cP.take(I:cP h f l X)(n:Nat):cP h f (l.take n) (X.take n):=by
 refine⟨by simp[I.len],λi v x a b=>?_⟩;rw[List.getElem?_take] at a b
 split at a
 .rename_i hi;rw[if_pos hi] at b;exact I.at' i _ _ a b
 .cases a
theorem abk(ha:h[a]?=aa (.list [.tup [.int 0,.ref r]]))(hr:h[r]?=aa (.list [.int s]))(hz:h[z]?=aa (.list lz))(I:cP h h.length lz X)(hl:lz.length<1000)
  (q: ∀ h2 zc lc,h<+:h2->h2[zc]?=aa (.list lc)->cP h2 h2.length lc ([s]::X)->R (.ref zc) h2):jb .Add (.ref a) (.ref z) h R:=by
 refine xG ha hz (by simp;exact(aw [.t J0 (.n 1000)] (.l J0 (.n 999999))) hl) ?_;refine q _ _ _ (bH _ _) aM ?_;have bf:=bh hr;have hn:(h++[aB.list ([PV.tup [.int 0,.ref r]]++lz)]).length=h.length+1:=bb;refine cP.app (X:=[[s]]) ?_ ((I.pre (bH _ _)).any (g:=_) ?_)
 .exact cP.nil.snoc ⟨0,r,rfl,aJ hr,by exact(az [.t J0 J1,.e J2 (.a J1 Y1)] (.no (.e J0 J2))) bf hn⟩
 .exact aS _
section
variable{k fr:Nat}{b:Bool}{h:PH}{Q:PV->PH->Prop}{E:List (Int×PV)}{P:Int->Prop}
theorem abl(hf:h[fr]?=aa (.dict (KD PV.int E)))(C:lK E P)(hE:1<=E.length/\E.length<=17)(hn1: -1∉E.map (·.1))
  (q: ∀ h' z E' L,Kp fr h h'->h.length<=z->h'[z]?=aa (.dict (KD PV.int E'))->G1 E' (E.map (·.1)) L->Q (.ref z) h'):Wh ((run T (k+2) b).call 19 [.ref fr,.int 16]) h Q:=by
 refine bc (VM _ _ _ _ _) ?_;nofun;refine abg hf C ((aw [.an (.l Y1 J0) (.l J0 (.n 17))] (.t J0 (.n 64))) hE) λh1 z1 lz1 S K1 a1 I1 hp=>?_;have g9:=hp.length_eq;rw[aX] at g9;have BE:=I1.len;rw[aX] at BE;have nd:((-1)::S).Nodup:=lV.mpr ⟨λh=>hn1 (hp.mem_iff.mp h),hp.nodup_iff.mpr C.nd⟩;nofun;refine YT (aJ a1) aM (by show lz1.length≠0;exact(az [.an (.l Y1 J0) (.l J0 (.n 17)),.e J1 J0,.e J2 J1] (.no (.e J2 Y0))) hE g9 BE) ?_;nofun;refine abk (s:= -1) (X:=S.map λs=>[s]) aM (aJ aM) (aJ (aJ (aJ a1))) ((((I1.pre (bH _ _)).pre (bH _ _)).pre (bH _ _)).any (aS _)) ((az [.an (.l Y1 J0) (.l J0 (.n 17)),.e J1 J0,.e J2 J1] (.t J2 (.n 1000))) hE g9 BE) λh2 zc lc p2 c2 I2=>?_;have K2:Kp fr h h2:=K1.trans (Kp.pre ((((bH _ _).trans (bH _ _)).trans (bH _ _)).trans p2));have I2:cP h2 h2.length lc (((-1)::S).map λs=>[s]):=I2;have fM:=I2.len;rw[aX,fW] at fM;have yb:((((-1)::S).map λs=>[s]):List (List Int)).flatten.length=lc.length:=by rw[MB,fW];exact(au [.e J0 (.a J1 Y1)] (.e (.a J1 Y1) J0)) fM
 have yi:((((-1)::S).map λs=>[s]):List (List Int)).length=lc.length:=by rw[aX,fW];exact(au [.e J0 (.a J1 Y1)] (.e (.a J1 Y1) J0)) fM
 have hpw:(2:Int)^(16:Int).toNat=65536:=rfl;nofun;refine iw (n:=15) (λi st=>nG λ(h':PH) (e4:Option PV) (zr:Nat) (lr:List PV) (Z:List (List Int))=>nH (st=⟨h',[aa (.ref fr),aa (.int 16),aa (.ref zc),aa (.ref zr),e4,ae,ae,ae,ae,ae,ae,ae,ae,ae,ae,ae]⟩) (h2<+:h') (h'[zr]?=aa (.list lr)) (cP h' h'.length lr Z) (nK (((-1)::S).map λs=>[s]) i Z)) rfl ⟨_,_,_,_,_,rfl,fg,c2,I2,.z⟩ ?_ ?_
 .rintro i _ KC hK hi ⟨h',e4,zr,lr,Z,rfl,p,r1,r2,r3⟩
  obtain⟨f1,f2⟩:=Pz r3;rw[yb] at f1;rw[yi] at f2;have f3:(i+1)*lc.length<=16*18:=DK ((aw [.t J0 (.n 15)] (.l (.a J0 Y1) (.n 16))) hi) ((az [.an (.l Y1 J0) (.l J0 (.n 17)),.e J1 J0,.e J2 (.a J1 Y1)] (.l J2 (.n 18))) hE g9 fM);have f4:=um Z;nofun;refine abd r1 r2 ((aQ [.an (.l Y1 J0) (.l J0 (.n 17)),.e J1 J0,.e J2 (.a J1 Y1),.l J3 (.m 2 J2)] (.l J3 (.n 1000))) hE g9 fM f2) ((bU [.e J0 J1,.e J2 (.a J0 Y1),.l J3 J4,.l J4 (.n 288)] (.l J3 (.n 100000))) g9 fM f1 f3) λh3 zp lp p3 b1 b2=>?_;nofun;refine aba (aI (p.trans p3) c2) b1 ((I2.pre (p.trans p3)).any (aS _)) b2 ((aQ [.an (.l Y1 J0) (.l J0 (.n 17)),.e J1 J0,.e J2 (.a J1 Y1),.e J3 J2] (.l J3 (.n 1000))) hE g9 fM yi) ((dn [.an (.l Y1 J0) (.l J0 (.n 17)),.e J1 J0,.e J2 (.a J1 Y1),.l J3 (.m 2 J2),.e J4 J5,pD 2 J5 J3] (.l J4 (.n 1000))) hE g9 fM f2 f4 (uD _ 2)) λh4 zz lz Z' p4 d1 d2 d3=>?_;nofun;exact hK (.inl rfl) ⟨_,_,_,_,_,rfl,(p.trans p3).trans p4,d1,d2,.s r3 d3⟩
 rintro _ ⟨h',e4,zr,lr,Z,rfl,p,r1,r2,r3⟩;have g2:((bT 2||bT (lc.length:Int)))=ag:=rfl;nofun;have sH:=r2.len;obtain⟨f1,f2⟩:=Pz r3;rw[yb] at f1;rw[yi] at f2;have yj:=MD (by rw[yi];exact(az [.an (.l Y1 J0) (.l J0 (.n 17)),.e J1 J0,.e J2 (.a J1 Y1)] (.an (.l Y2 J2) (.l J2 (.n 18)))) hE g9 fM) r3;rw[yi] at yj;have mP:sliceOf lr ae (aa (2*(lc.length:Int)-2))=lr.take (2*S.length):=by unfold sliceOf;simp only[wy,DU,tG];unfold mw;rw[if_pos ((az [.e J0 J1,.e J2 (.a J0 Y1)] (.L (.n 0) (.s (.m 2 (.c J2)) (.n 2)))) g9 fM),show(2*(lc.length:Int)-2).toNat=2*S.length from(aQ [.an (.l Y1 J0) (.l J0 (.n 17)),.e J1 J0,.e J2 (.a J1 Y1),pT J3 (.s (.m 2 (.c J2)) (.n 2))] (.e J3 (.m 2 J1))) hE g9 fM (uT _),rE ((dn [.e J0 J1,.e J2 (.a J0 Y1),.e J3 J4,.l J5 J4,pB J5 (.m 2 J2) Y2] (.l (.m 2 J0) J3)) g9 fM sH yj (uB _ _))]
 refine NS (aJ r1) (by rw[mP,gT];exact(bU [.an (.l Y1 J0) (.l J0 (.n 17)),.e J1 J0,.e J2 J3,pM J4 (.m 2 J1) J2] (.l J4 (.n 1000000))) hE g9 sH (uM _ _)) ?_;rw[mP];have I3:cP (h'++[aB.dict []]) h'.length (lr.take (2*S.length)) (Z.take (2*S.length)):=(r2.pre (bH _ _)).take _;have hd:(h'++[aB.dict []])[h'.length]?=aa (.dict []):=aM;generalize sI:h'++[aB.dict []]=h3 at *
 have p3:h'<+:h3:=sI▸bH _ _;have kE:h3.length=h'.length+1:=by rw[<- sI];exact bb
 have PB:(Z.take (2*S.length)).length=2*S.length:=by rw[gT];exact(dn [.e J0 J1,.e J2 (.a J0 Y1),.l J3 J4,pB J3 (.m 2 J2) Y2,pM J5 (.m 2 J0) J4] (.e J5 (.m 2 J0))) g9 fM yj (uB _ _) (uM _ _)
 generalize PC:Z.take (2*S.length)=Z2 at *
 have FV:Z2.flatten.length<=16*18:=by have e:=congrArg (λl:List (List Int)=>l.flatten.length) (oC (2*S.length) Z);simp only[qe,bb] at e;rw[PC] at e;have:(15+1)*lc.length<=16*18:=DK (bL 0 0 [] [] [] (.l (.n 16) (.n 16))) ((az [.an (.l Y1 J0) (.l J0 (.n 17)),.e J1 J0,.e J2 (.a J1 Y1)] (.l J2 (.n 18))) hE g9 fM);exact(dn [.an (.l Y1 J0) (.l J0 (.n 17)),.e J1 J0,.e J2 (.a J1 Y1),.l J3 (.m 16 J2),.e (.a J4 J5) J3] (.l J4 (.n 288))) hE g9 fM f1 e
 have abm: ∀ n,(Z2.take n).flatten.length<=16*18:=λn=>by have e:=congrArg (λl:List (List Int)=>l.flatten.length) (oC n Z2);simp only[qe,bb] at e;exact(az [.l J0 (.n 288),.e (.a J1 J2) J0] (.l J1 (.n 288))) FV e
 refine sh (λi st=>nG λ(h4:PH) (e6 e7 e8:Option PV) (E2:List (Int×PV))=>jX (st=⟨h4,[aa (.ref fr),aa (.int 16),aa (.ref zc),aa (.ref zr),e4,aa (.ref h'.length),e6,e7,e8,ae,ae,ae,ae,ae,ae,ae]⟩) (Kp h'.length (h3++[aB.list (lr.take (2*S.length))]) h4) (h4[h'.length]?=aa (.dict (KD PV.int E2))) (qU E2 (Z2.take i).flatten)) (aM) ?_ ?_ ?_ ?_
 .exact⟨_,_,_,_,[],rfl,Kp.refl _ _,aJ hd,⟨by simp,by exact cz _,λs=>by rfl⟩⟩
 .rintro i _ ⟨h4,e6,e7,e8,E2,rfl,K4,_⟩
  exact K4.get _ _ ((au [.e J0 (.a J1 Y1)] (.no (.e J0 J1))) kE) aM
 .rintro i x _ KC hK hx ⟨h4,e6,e7,e8,E2,rfl,K4,d4,s4⟩
  have hi:i<Z2.length:=by have:=(dF.mp hx).1;rw[gT] at this;exact(AB [.e J0 J1,.e J2 (.a J0 Y1),.e J3 J4,.l J5 J4,.e J6 (.m 2 J0),.t J7 J8,pB J5 (.m 2 J2) Y2,pM J8 (.m 2 J0) J3] (.t J7 J6)) g9 fM sH yj PB this (uB _ _) (uM _ _)
  obtain⟨w,r,g1,g2,g3,g4⟩:=I3.get hi;rw[hx] at g1;obtain rfl:=bD g1;have BA:=K4.get _ _ g4 (aJ g3);have hT:(Z2.take (i+1)).flatten=(Z2.take i).flatten++Z2[i]:=by rw[take_snoc g2,qe];simp
  have PD:=abm (i+1);rw[hT,bb] at PD;nofun;refine sh (λj st=>jW λ(h5:PH) (e8:Option PV) (E2:List (Int×PV))=>jX (st=⟨h5,[aa (.ref fr),aa (.int 16),aa (.ref zc),aa (.ref zr),e4,aa (.ref h'.length),aa (.int w),aa (.ref r),e8,ae,ae,ae,ae,ae,ae,ae]⟩) (Kp h'.length (h3++[aB.list (lr.take (2*S.length))]) h5) (h5[h'.length]?=aa (.dict (KD PV.int E2))) (qU E2 ((Z2.take i).flatten++Z2[i].take j))) BA ⟨_,_,_,rfl,K4,d4,by rw[zM,jr];exact s4⟩ ?_ ?_ ?_
  .rintro j _ ⟨h5,e8,E2,rfl,K5,_⟩
   exact K5.get _ _ g4 (aJ g3)
  .rintro j x _ KC hK hx ⟨h5,e8,E2,rfl,K5,d5,s5⟩
   rw[dG,ee] at hx;obtain⟨s,hs,rfl⟩:=hx;have u4:=s5.len;rw[bb,gT] at u4;nofun;refine FI d5 (eZ dA s E2) ?_;rw[jH dA s,s5.get];nofun;refine nZ d5 (eZ dA s E2) (by unfold KD;rw[aX];exact(kq [.t J0 J1,.l (.a J2 J3) (.n 288),.l J4 (.a J2 J5),pM J5 J6 J3] (.t J4 (.n 1000000))) hi PD u4 (uM _ _)) ?_;rw[pn dA s];nofun;refine hK (.inl rfl) ⟨_,_,_,rfl,K5.set,bF d5,?_⟩;rw[take_snoc hs,<- eH];exact s5.put s
  .rintro _ ⟨h5,e8,E2,rfl,K5,d5,s5⟩
   rw[aX,gR,<- hT] at s5;nofun;exact hK (.inl rfl) ⟨_,_,_,_,_,rfl,K5,d5,s5⟩
 .rintro _ ⟨h4,e6,e7,e8,E2,rfl,K4,d4,s4⟩
  rw[nj (by rw[gT];exact(ku [.e J0 J1,.e J2 (.a J0 Y1),.e J3 J4,.l J5 J4,.e J6 (.m 2 J0),pB J5 (.m 2 J2) Y2,pM J7 (.m 2 J0) J3] (.l J6 J7)) g9 fM sH yj PB (uB _ _) (uM _ _)),<- PC] at s4;obtain⟨hm,cH⟩:=abj nd ((au [.an (.l Y1 J0) (.l J0 (.n 17)),.e J1 J0] (.an (.l Y1 J1) (.l J1 (.n 17)))) hE g9) r3 s4;nofun;refine Za d4 (eZ dA (-1) E2) ((jH dA (-1) E2).trans hm) ?_;rw[aab dA (-1)];nofun;have K3:Kp fr h h3:=K2.trans (Kp.pre (p.trans p3));have hle:=K3.len;have hf0:=bh hf;have BF:h.length<=h'.length:=by have:=K2.len;have:=p.length_le;exact(aQ [.e J0 (.a J1 Y1),.l J2 J0,.l J3 J1,.l J2 J3] (.l J2 J1)) kE hle this ‹_›
  refine q _ _ _ _ ⟨?_,λz o n e=>?_⟩ BF (bF d4) ⟨cH.nd,cH.val,λs=>(cH.iff s).trans hp.mem_iff,cH.ks,cH.perm.trans hp⟩
  .have:=K4.len;simp at this ⊢;exact(aQ [.e J0 (.a J1 Y1),.l J2 J1,.l (.a J0 Y1) J3] (.l J2 J3)) kE BF this
  .have hz:=bh e
   exact bj (K4.get _ _ ((aQ [.e J0 (.a J1 Y1),.l J2 J0,.l J2 J1,.t J3 J2] (.no (.e J3 J1))) kE hle BF hz) (aJ (K3.get _ _ n e))) ((aQ [.e J0 (.a J1 Y1),.l J2 J0,.l J2 J1,.t J3 J2] (.no (.e J1 J3))) kE hle BF hz)
end
theorem abn(h:cl.length=n):cl.map (λx:Nat=>PV.int (x:Int))=(ar n).map λi=>PV.int ((fD cl i:Nat):Int):=by refine mJ (by simpa using h) λj hj=>?_;rw[dG,eQ ((az [.e J0 J1,.t J2 J1] (.t J2 J0)) h hj)];unfold fD;rw[eP,eQ ((az [.e J0 J1,.t J2 J1] (.t J2 J0)) h hj)];rfl
theorem abo(n k):bM (fD (cX n 0)) k=0:=by
 induction k with
 |zero=>rfl
 |succ k ih=>show bM _ k+fD _ k=0;rw[ih];unfold fD;rw[eP,zD];split <;> rfl
theorem abp(n k):jY (fD (cX n 0)) k=0:=by
 induction k with
 |zero=>rfl
 |succ k ih=>show jY _ k+fD _ k*_=0;rw[ih];unfold fD;rw[eP,zD];split <;> simp
noncomputable def ez (c:Nat->Nat):PV:= .tup ((ar 16).map λi=> .int (c i:Nat))
section
variable{k z fr:Nat}{b:Bool}{h:PH}{Q:PV->PH->Prop}{E:List (Int×PV)}{S:List Int}{L:Int->Nat}{P:Int->Prop}
theorem abq(hz:h[z]?=aa (.dict (KD PV.int E)))(Z:G1 E S L)(hE:E.length<=17)(hr: ∀ s∈S,0<=s/\s<=16)
  (q: ∀ h' c sy,Kp z h h'->ek c sy->(∀ s,s∈sy↔s∈S)->Q (.tup [ez c,.tup (sy.map PV.int)]) h'):Wh ((run T (k+1) b).call 20 [.ref z]) h Q:=by
 refine bc (VN _ _ _ _) ?_;have bf:=bh hz;have lk: ∀ {i:Nat} {e:Int×PV},E[i]?=aa e->dU (KD PV.int E) (.int e.1)=aa (.int (L e.1:Nat))/\1<=L e.1/\L e.1<=16:=λhe=>by have hm:=kY he;obtain⟨v1,v2⟩:=Z.val _ hm;exact⟨(jH dA _ E).trans (by rw[mr Z.nd hm,v1]),v2⟩
 nofun;refine Fy aM (by decide) (by decide) ?_;have abr:cX (16:Int).toNat (PV.int 0)=(cX 16 0).map λx:Nat=>PV.int (x:Int):=rfl;rw[abr];generalize hh:h++[aB.list [PV.int 0]]=h1;have p1:h<+:h1:=hh▸bH _ _;have dX:h1.length=h.length+1:=by rw[<- hh];exact bb
 have z1:(h1++[aB.list ((cX 16 0).map λx:Nat=>PV.int (x:Int))])[z]?=aa (.dict (KD PV.int E)):=aJ (aI p1 hz);have K0:Kp z h ((h1++[aB.list ((cX 16 0).map λx:Nat=>PV.int (x:Int))]).set z (.dy (KD PV.int E))):=(Kp.pre (p1.trans (bH _ _))).set;have f0:=bF (o:= .dy (KD PV.int E)) z1;have c0:((h1++[aB.list ((cX 16 0).map λx:Nat=>PV.int (x:Int))]).set z (.dy (KD PV.int E)))[h1.length]?=aa (.list ((cX 16 0).map λx:Nat=>PV.int (x:Int))):=bj aM ((az [.t J0 J1,.e J2 (.a J1 Y1)] (.no (.e J0 J2))) bf dX);nofun;refine Zq (λi st=>jW λ(h':PH) (e2:Option PV) (cl:List Nat)=>xb (st=⟨h',[aa (.ref z),aa (.ref h1.length),e2,ae,ae,ae,ae]⟩) (Kp z h h') (h'[z]?=aa (.dy (KD PV.int E))) (h'[h1.length]?=aa (.list (cl.map λx:Nat=>PV.int (x:Int)))) (cl.length=16) (bM (fD cl) 16=i) (jY (fD cl) 16=((E.take i).map λe=>2^(16-L e.1)).sum)) z1 ?_ ?_ ?_
 .exact⟨_,_,cX 16 0,rfl,K0,f0,c0,rfl,abo _ _,by rw[abp];rfl⟩
 .rintro i x v _ KC hK hx ⟨h',e2,cl,rfl,K,f,c,l1,l2,l3⟩
  obtain⟨s,rfl,he⟩:=GY hx;obtain⟨d1,d2,d3⟩:=lk he;dsimp only at d1 d2 d3;have hj:((L s:Nat):Int)-1=((L s-1:Nat):Int):=(au [.l Y1 J0,pB J1 J0 Y1] (.E (.s (.c J0) (.n 1)) (.c J1))) d2 (uB _ _);obtain⟨x,mK⟩: ∃ x,cl[L s-1]?=aa x:=⟨_,eQ ((az [.e J0 (.n 16),.l J1 (.n 16),.E (.s (.c J1) (.n 1)) (.c J2),pB J2 J1 Y1] (.t J2 J0)) l1 d3 hj (uB _ _))⟩;have hxd:cl.getD (L s-1) 0=x:=by rw[eP,mK];rfl
  nofun;refine xH f (eZ dA s E) d1 ?_;nofun;rw[hj];refine bS c ((au [.l Y1 J0,.E (.s (.c J0) (.n 1)) (.c J1),pB J1 J0 Y1] (.L (.n 0) (.c J1))) d2 hj (uB _ _)) (by rw[bJ,dG,mK];rfl) ?_;nofun;refine xH f (eZ dA s E) d1 ?_;nofun;rw[hj];refine NT c ((au [.l Y1 J0,.E (.s (.c J0) (.n 1)) (.c J1),pB J1 J0 Y1] (.L (.n 0) (.c J1))) d2 hj (uB _ _)) (by rw[aX];exact(az [.e J0 (.n 16),.l J1 (.n 16),.E (.s (.c J1) (.n 1)) (.c J2),pB J2 J1 Y1] (.T (.c J2) (.c J0))) l1 d3 hj (uB _ _)) ?_;nofun;have d8:h1.length≠z:=(az [.t J0 J1,.e J2 (.a J1 Y1)] (.no (.e J2 J0))) bf dX;refine hK (.inl rfl) ⟨_,_,cl.set (L s-1) (cl.getD (L s-1) 0+1),rfl,K.A8 ((au [.e J0 (.a J1 Y1)] (.l J1 J0)) dX),bj f d8,(bF c).trans ?_,by simpa using l1,?_,?_⟩
  .rw[List.map_set,hxd,bJ];rfl
  .rw[Vl ((az [.e J0 (.n 16),.l J1 (.n 16),.E (.s (.c J1) (.n 1)) (.c J2),pB J2 J1 Y1] (.t J2 J0)) l1 d3 hj (uB _ _)),l2,if_pos ((au [.l J0 (.n 16),.E (.s (.c J0) (.n 1)) (.c J1),pB J1 J0 Y1] (.t J1 (.n 16))) d3 hj (uB _ _))]
  .rw[Vm ((az [.e J0 (.n 16),.l J1 (.n 16),.E (.s (.c J1) (.n 1)) (.c J2),pB J2 J1 Y1] (.t J2 J0)) l1 d3 hj (uB _ _)),l3,if_pos ((au [.l J0 (.n 16),.E (.s (.c J0) (.n 1)) (.c J1),pB J1 J0 Y1] (.t J1 (.n 16))) d3 hj (uB _ _)),take_snoc he,b8,wh]
   show _+_=_+(2^(16-L s)+0);rw[show 15-(L s-1)=16-L s from(aQ [.l J0 (.n 16),.E (.s (.c J0) (.n 1)) (.c J1),pB J1 J0 Y1,pB J2 (.n 15) J1,pB J3 (.n 16) J0] (.e J2 J3)) d3 hj (uB _ _) (uB _ _) (uB _ _)];rfl
 rintro _ ⟨h',e2,cl,rfl,K,f,c,l1,l2,l3⟩;rw[show(KD PV.int E).length=E.length by unfold KD;exact aX _] at l2 l3;rw[gR] at l3;nofun;have ka:h'.set z (.dy (KD PV.int E))=h':=by
  refine rz λi=>?_;rw[wb];by_cases e:z=i
  .subst e;rw[if_pos rfl,if_pos (bh f),f]
  .rw[if_neg e]
 refine Ob (λi st acc=> ∃ e1,st=⟨h',[ae,e1,aa (.ref z)]⟩/\acc=(E.take i).map λe=> .tup [.int (L e.1:Nat),.int e.1]) (.inr f) ⟨_,by rw[ka];rfl,rfl⟩ ?_ ?_
 .rintro i x v _ acc KC XC hK hX hx ⟨e1,rfl,rfl⟩
  obtain⟨s,rfl,he⟩:=GY hx;obtain⟨d1,d2,d3⟩:=lk he;dsimp only at d1 d2 d3;nofun;refine xH f (eZ dA s E) d1 ?_;nofun;refine hK ⟨_,rfl,?_⟩;rw[take_snoc he,b8];rfl
 .rintro _ acc ⟨e1,rfl,rfl⟩
  rw[show(KD PV.int E).length=E.length by unfold KD;exact aX _,gR];refine dW (by simp;exact(aw [.l J0 (.n 17)] (.l J0 (.n 1000000))) hE) ?_;dsimp only;nofun;refine NX aM (BC (λzy zy=>rfl) ((aw [.l J0 (.n 17)] (.t J0 (.n 64))) hE)) ?_ ?_
  rotate_left
  .rw[sort_map];rw[aX,(BB _ E).length_eq];exact(aw [.l J0 (.n 17)] (.l J0 (.n 1000000))) hE
  rw[sort_map];generalize u4:yh _ E=E2;have hp:E2.Perm E:=u4▸BB _ E;have eY:=hp.length_eq;nofun;refine NZ (aJ (aJ c)) (by rw[aX];exact(aw [.e J0 (.n 16)] (.l J0 (.n 1000000))) l1) ?_;nofun;generalize hrw:aB.list (E2.map λe=>PV.tup [.int (L e.1:Nat),.int e.1])=rows;generalize sI:h'++[aB.list (E.map λe=>PV.tup [.int (L e.1:Nat),.int e.1])]=h3;have K3:Kp z h (h3++[rows]):=(sI▸K.app:Kp z h h3).app;have lD:(h3++[rows])[h3.length]?=aa (.list (E2.map λe=>PV.tup [.int (L e.1:Nat),.int e.1])):=by rw[<- hrw];exact aM
  refine lC (λi st acc=>iR λ(e1 e2:Option PV)=>st=⟨h3++[rows],[ae,e1,e2]⟩/\acc=(E2.take i).map λe=> .int e.1) lD ⟨_,_,rfl,rfl⟩ (λi st acc zz=>by obtain⟨e1,e2,e,_⟩:=zz;rw[e];exact lD) ?_ ?_
  .rintro i x _ acc KC XC hK hX hx ⟨e1,e2,rfl,rfl⟩
   rw[dG,ee] at hx;obtain⟨e,he,rfl⟩:=hx;nofun;refine hK ⟨_,_,rfl,?_⟩;rw[take_snoc he,b8];rfl
  .rintro _ acc ⟨e1,e2,rfl,rfl⟩
   have hlen:(E2.map λe=>PV.tup [.int (L e.1:Nat),.int e.1]).length=E2.length:=aX ..;rw[hlen,gR];refine dW (by simp;exact(au [.l J0 (.n 17),.e J1 J0] (.l J1 (.n 1000000))) hE eY) ?_;dsimp only;nofun;refine NZ aM (by simp;exact(au [.l J0 (.n 17),.e J1 J0] (.l J1 (.n 1000000))) hE eY) ?_;nofun;have hk:(E2.map (·.1)).Perm (E.map (·.1)):=hp.map _;have lM: ∀ s,s∈E2.map (·.1)↔s∈S:=λs=>hk.mem_iff.trans (Z.iff s);have hq:=q (h3++[rows]++[aB.list (E2.map λe=>PV.int e.1)]) (fD cl) (E2.map (·.1)) K3.app ⟨by rw[l2,aX,eY],hk.nodup_iff.mpr Z.nd,?_,λs hs=>hr s ((lM s).mp hs),by rw[aX];exact(au [.l J0 (.n 17),.e J1 J0] (.l J1 (.n 17))) hE eY⟩ lM
   .rw[cV] at hq
    unfold ez at hq;rw[<- abn l1] at hq;exact hq
   .have:=Z.ks
    rw[cV] at this;rw[l3];exact this
theorem abt(hf:h[fr]?=aa (.dict (KD PV.int E)))(C:lK E P)(hE:1<=E.length/\E.length<=17)(hr: ∀ s∈E.map (·.1),0<=s/\s<=16)
  (q: ∀ h' c sy,Kp fr h h'->ek c sy->(∀ s,s∈sy↔s∈E.map (·.1))->Q (.tup [ez c,.tup (sy.map PV.int)]) h'):Wh ((run T (k+3) b).call 21 [.ref fr]) h Q:=by
 refine bc (VO _ _ _ _) ?_;nofun;refine abl hf C hE (λh=>by have:=hr _ h;exact(bL 0 0 [] [] [.an (.L (.n 0) (.n (-1))) (.L (.n (-1)) (.n 16))] .ff) this) λh1 z E' L K1 hz a1 Z=>?_;have PF:=Z.perm.length_eq;rw[aX,aX] at PF;nofun;refine abq (k:=k+1) a1 Z ((au [.an (.l Y1 J0) (.l J0 (.n 17)),.e J1 J0] (.l J1 (.n 17))) hE PF) hr λh2 c sy K2 T' hm=>?_;nofun;exact q _ _ _ ⟨cG K1.len K2.len,λy o n e=>K2.get _ _ (by have:=bh e;exact cq (dj this hz)) (K1.get _ _ n e)⟩ T' hm
end
theorem foldl_min: ∀ (l:List Int) (a:Int),x<=a->(∀ y∈l,x<=y)->x<=l.foldl min a
 |[],a,h,_=>h
 |y::r,a,h,hl=>by rw[Dw];have:=hl y (kZ);exact foldl_min r _ (by omega) λz hz=>hl z (by simp[hz])
theorem PG{l:List Int}(nd:l.Nodup){i j:Nat}(hi:i<l.length)(hj:j<l.length)(e:l[i]=l[j]):i=j:=by
 rcases DJ i j with h|h|h
 .exact absurd e (Dm.mp nd i j hi hj h)
 .exact h
 .exact absurd e.symm (Dm.mp nd j i hj hi h)
theorem abu{c:Nat->Nat}{sy:List Int}{i j:Nat}(h:bM c i+j<sy.length)(nd:sy.Nodup):(sy.getD (bM c i+j) 0)∉(gg c sy i j).map (·.1):=by rw[AE i j ((az [.t (.a J0 J1) J2] (.l (.a J0 J1) J2)) h)];intro hm;rw[eP,eQ h] at hm;obtain⟨a,ha,e⟩:=JZ hm;rw[gT] at ha;rw[Kq] at e;have:=PG nd _ _ (show sy[a]=sy[bM c i+j] from e);exact(bU [.t (.a J0 J1) J2,.t J3 J4,.e J3 (.a J0 J1),pM J4 (.a J0 J1) J2] .ff) h ha this (uM _ _)
section
variable{k s:Nat}{b:Bool}{h:PH}{Q:PV->PH->Prop}{c:Nat->Nat}{sy:List Int}
theorem abv(O:ek c sy)(q: ∀ h',h<+:h'->Q .none h'):Wh ((run T (k+1) b).call 15 [ez c,.tup (sy.map PV.int)]) h Q:=by
 refine bc (VJ _ _ _ _ _) ?_;have mU:=O.len;have Bz:intsOf ((ar 16).map λj=>PV.int (c j:Nat))=aa ((ar 16).map λj=>((c j:Nat):Int)):=Ba;have GS:((((ar 16).map λj=>PV.int (c j:Nat)).length:Nat):Int)=16:=by rfl
 have mP:((((sy.map PV.int)).length:Nat):Int)=(sy.length:Nat):=by simp
 unfold ez;nofun;obtain⟨r,hr⟩: ∃ r:List Int,((ar 16).map λj=>((c j:Nat):Int))=((c 0:Nat):Int)::r:=⟨_,rfl⟩;have aiZ:0<=r.foldl min (c 0:Int):=foldl_min r _ (cR _) λy hy=>by
  have:y∈((ar 16).map λj=>((c j:Nat):Int)):=by rw[hr];exact zF _ hy
  obtain⟨j,_,rfl⟩:=bX.mp this;exact cR _
 refine YY (Bz.trans (by rw[hr])) ?_;nofun;refine NY Bz ?_;rw[GQ,O.sum];nofun;refine N8 (λi st=>iR λ(h':PH) (e3:Option PV)=>jz (st=⟨h',[aa (.tup ((ar 16).map λj=> .int (c j:Nat))),aa (.tup (sy.map PV.int)),aa (.ref h.length),e3,ae,ae,ae,ae,ae,ae,ae]⟩) (h<+:h') (h'[h.length]?=aa (.set ((sy.take i).map PV.int)))) ⟨_,_,rfl,pre_app fg,aM⟩ ?_ ?_
 .rintro i x _ KC hK hx ⟨h',e3,rfl,p,a⟩
  rw[dG,ee] at hx;obtain⟨s,hs,rfl⟩:=hx;have hi:=(dF.mp hs).1;have hn:(sy.take i).contains s=ak:=by rw[zl];intro e;rw[Dp] at e;obtain⟨j,hj,e⟩:=JZ e;rw[gT] at hj;rw[Kq,<- (dF.mp hs).2] at e;have:=PG O.nd _ _ e;exact(aQ [.t J0 J1,.t J2 J3,.e J2 J0,pM J3 J0 J1] .ff) hi hj this (uM _ _)
  nofun;refine YS a (ints_map _) ?_;rw[hn];nofun;refine Zb a (ints_map _) (by rw[aX,gT];exact(az [.l J0 (.n 17),.t J1 J0,pM J2 J1 J0] (.t J2 (.n 1000))) mU hi (uM _ _)) hn ?_;nofun;refine hK (.inl rfl) ⟨_,_,rfl,eX p (aS _),(bF a).trans ?_⟩;rw[take_snoc hs,b8];rfl
 .rintro _ ⟨h',e3,rfl,p,a⟩
  nofun;exact q _ p
noncomputable def u5 (c:Nat->Nat) (i:Nat):PV:= .tup [.int (cZ c i:Nat),.int (c i:Nat),.int (bM c i:Nat)]
theorem abw(O:ek c sy)(q: ∀ h' r,h<+:h'->h'[r]?=aa (.list ((ar 16).map (u5 c)))->Q (.ref r) h'):Wh ((run T (k+1) b).call 14 [ez c]) h Q:=by
 refine bc (VI _ _ _ _) ?_;unfold ez;have GS:((((ar 16).map λj=>PV.int (c j:Nat)).length:Nat):Int)=16:=by rfl
 nofun;rw[GS];refine FO (n:=16) (λi st=>jW λ(h':PH) (e4 e5:Option PV)=>jz (st=⟨h',[aa (.tup ((ar 16).map λj=> .int (c j:Nat))),aa (.ref h.length),aa (.int (cZ c i:Nat)),aa (.int (bM c i:Nat)),e4,e5,ae,ae,ae]⟩) (h<+:h') (h'[h.length]?=aa (.list ((ar i).map (u5 c))))) (by decide) ⟨_,_,_,rfl,pre_app fg,aM⟩ ?_ ?_
 .rintro i _ KC hK hi ⟨h',e4,e5,rfl,p,a⟩
  have yk:(1:Int)+(i:Nat)-1=(i:Nat):=aw [] (.E (.s (.a (.n 1) (.c J0)) (.n 1)) (.c J0));have bf:=MI O.ks hi;have hz:((ar i).map (u5 c)).length<1000000:=by simp;exact(aw [.t J0 (.n 16)] (.t J0 (.n 1000000))) hi
  nofun;rw[yk];refine Fz (cR _) (by rw[bJ];exact b0 hi) ?_;have g2:(eC (1+(i:Int))&&bT 2)=ag:=by rw[show 1+(i:Int)=((i+1:Nat):Int) by exact aw [] (.E (.a (.n 1) (.c J0)) (.c (.a J0 Y1))),qO ((aw [.t J0 (.n 16)] (.l (.a J0 Y1) (.n 1000000))) hi)];rfl
  have hpw:(2:Int)^(1+(i:Int)).toNat=((2^(i+1):Nat):Int):=by rw[show(1+(i:Int)).toNat=i+1 from(au [pT J0 (.a (.n 1) (.c J1))] (.e J0 (.a J1 Y1))) (uT _),lU];rfl
  have e1:((cZ c i:Nat):Int)+(c i:Nat)=((cZ c i+c i:Nat):Int):=au [] (.E (.a (.c J0) (.c J1)) (.c (.a J0 J1)));have e2:(((cZ c i+c i:Nat):Int))*2=((cZ c (i+1):Nat):Int):=by show _=(((cZ c i+c i)*2:Nat):Int);exact au [] (.E (.w (.c (.a J0 J1)) 2) (.c (.w (.a J0 J1) 2)))
  have e3:((bM c i:Nat):Int)+(c i:Nat)=((bM c (i+1):Nat):Int):=by show _=((bM c i+c i:Nat):Int);exact au [] (.E (.a (.c J0) (.c J1)) (.c (.a J0 J1)))
  nofun;rw[e1,e2,e3];refine hK (.inl rfl) ⟨_,_,_,rfl,eX p (aS _),(bF a).trans ?_⟩;rw[dZ,b8];rfl
 .rintro _ ⟨h',e4,e5,rfl,p,a⟩
  nofun;exact q _ _ p a
end
noncomputable def u6 (l:List (Int×Nat×Nat)):List (Int×PV):=l.map λe=>(e.1,.tup [.int (e.2.1:Nat),.int (e.2.2:Nat)])
theorem abx(l:List (Int×Nat×Nat)):(u6 l).map (·.1)=l.map (·.1):=by unfold u6;rw[cV];rfl
theorem PI{l:List (Int×PV)}{a:Int}{v:PV}(h:a∉l.map (·.1)):eE l a v=l++[(a,v)]:=by unfold eE;rw[if_neg];rw[tE];rintro⟨x,hx,e⟩;exact h (bX.mpr ⟨x,hx,by simpa using e⟩)
theorem PJ{c:Nat->Nat}{sy:List Int}{i j:Nat}(h:bM c i+j<=sy.length):(gg c sy i j).length=bM c i+j:=by have:=congrArg wi (AE i j h);rw[aX,gT] at this;exact(bU [.l (.a J0 J1) J2,.e J3 J4,pM J4 (.a J0 J1) J2] (.e J3 (.a J0 J1))) h this (uM _ _)
section
variable{k s:Nat}{b:Bool}{h:PH}{Q:PV->PH->Prop}{c:Nat->Nat}{sy:List Int}
theorem aby(hs:h[s]?=aa (.inst 6 []))(O:ek c sy)(q: ∀ h',Kp s h h'->lJ h' s c sy->Q .none h'):Wh ((run T (k+2) b).call 66 [.ref s,ez c,.tup (sy.map PV.int)]) h Q:=by
 refine bc (WC _ _ _ _ _ _) ?_;have mU:=O.len;have hsm:=O.sum;nofun;refine abv O λh1 p1=>?_;have s1:=aI p1 hs;have bf:=bh s1;unfold ez;nofun;generalize hc:PV.tup ((ar 16).map λi=>PV.int (c i:Nat))=ct;have yl:ez c=ct:=hc;rw[<- yl];refine abw O λh2 r p2 r2=>?_;have e0:((h1.set s (aB.inst 6 [(25,ez c)])).set s (aB.inst 6 [(25,ez c),(26,PV.tup (sy.map PV.int))]))[s]?=aa (aB.inst 6 [(25,ez c),(26,PV.tup (sy.map PV.int))]):=bF (bF s1);have s2:=aI p2 e0;have eY:=p2.length_le;simp only[oF] at eY;nofun;have rs:r≠s:=cy r2 s2 rfl;have sH:=bh r2;have s3:=bF (o:= .inst 6 [(25,ez c),(26,.tup (sy.map PV.int)),(5,.ref r)]) s2;have B0:=bF (o:= .inst 6 [(25,ez c),(26,.tup (sy.map PV.int)),(5,.ref r),(27,.ref h2.length)]) (aJ (o':= .dict []) s3);have R0:(oK (h2.set s (aB.inst 6 [(25,ez c),(26,PV.tup (sy.map PV.int)),(5,PV.ref r)])++[aB.dict []]) s (aB.inst 6 [(25,ez c),(26,PV.tup (sy.map PV.int)),(5,PV.ref r),(27,PV.ref h2.length)]))[r]?=_:=bj (aJ (bj r2 (eI rs))) (eI rs);have D0:(oK (h2.set s (aB.inst 6 [(25,ez c),(26,PV.tup (sy.map PV.int)),(5,PV.ref r)])++[aB.dict []]) s (aB.inst 6 [(25,ez c),(26,PV.tup (sy.map PV.int)),(5,PV.ref r),(27,PV.ref h2.length)]))[h2.length]?=aa (.dict []):=bj (by rw[oA (by simp)];simp) ((az [.t J0 J1,.l J1 J2] (.no (.e J0 J2))) bf eY);have K0:Kp s h1 (oK (h2.set s (aB.inst 6 [(25,ez c),(26,PV.tup (sy.map PV.int)),(5,PV.ref r)])++[aB.dict []]) s (aB.inst 6 [(25,ez c),(26,PV.tup (sy.map PV.int)),(5,PV.ref r),(27,PV.ref h2.length)])):=((((Kp.refl s h1).set.set).trans (Kp.pre p2)).set.app).set;rw[oF];generalize (oK (h2.set s (aB.inst 6 [(25,ez c),(26,PV.tup (sy.map PV.int)),(5,PV.ref r)])++[aB.dict []]) s (aB.inst 6 [(25,ez c),(26,PV.tup (sy.map PV.int)),(5,PV.ref r),(27,PV.ref h2.length)]))=H at *
 refine FO (n:=16) (λi st=>Aw λ(h':PH) (e3 e4 e5 e6 e7:Option PV)=>nH (st=⟨h',[aa (.ref s),aa (ez c),aa (.tup (sy.map PV.int)),e3,e4,e5,e6,e7,ae,ae,ae,ae,ae]⟩) (Kp s h1 h') (h'[s]?=aa (.inst 6 [(25,ez c),(26,.tup (sy.map PV.int)),(5,.ref r),(27,.ref h2.length)])) (h'[r]?=aa (.list ((ar 16).map (u5 c)))) (h'[h2.length]?=aa (.dict (KD PV.int (u6 (gg c sy i 0)))))) (by decide) ⟨H,_,_,_,_,_,rfl,K0,B0,R0,D0⟩ ?_ ?_
 .rintro i _ KC hK hi ⟨h',e3,e4,e5,e6,e7,rfl,K,B,R,D⟩
  have yk:(1:Int)+(i:Nat)-1=(i:Nat):=aw [] (.E (.s (.a (.n 1) (.c J0)) (.n 1)) (.c J0));have j7:bM c (i+1)<=sy.length:=by rw[<- hsm];exact EU c hi
  have mV:bM c (i+1)=bM c i+c i:=rfl;nofun;rw[yk];refine bS R (cR _) (by rw[bJ];exact b0 hi) ?_;have gc:d7 0 ((c i:Nat):Int) 1=ag:=gK ((aQ [.l J0 (.n 17),.l J1 J0,.e J1 (.a J2 J3)] (.an (.L (.n 0) (.c J3)) (.L (.c J3) (.n 1000000)))) mU j7 mV);unfold u5;nofun;refine iw (n:=c i) (λj st=>iR λ(h':PH) (e7:Option PV)=>nH (st=⟨h',[aa (.ref s),aa (ez c),aa (.tup (sy.map PV.int)),aa (.int (1+(i:Nat))),aa (.int (cZ c i:Nat)),aa (.int (c i:Nat)),aa (.int (bM c i:Nat)),e7,ae,ae,ae,ae,ae]⟩) (Kp s h1 h') (h'[s]?=aa (.inst 6 [(25,ez c),(26,.tup (sy.map PV.int)),(5,.ref r),(27,.ref h2.length)])) (h'[r]?=aa (.list ((ar 16).map (u5 c)))) (h'[h2.length]?=aa (.dict (KD PV.int (u6 (gg c sy i j)))))) rfl ⟨_,_,rfl,K,B,R,D⟩ ?_ ?_
  .rintro j _ KC hK hj ⟨h',e7,rfl,K,B,R,D⟩
   have e1:((bM c i:Nat):Int)+(j:Nat)=((bM c i+j:Nat):Int):=au [] (.E (.a (.c J0) (.c J1)) (.c (.a J0 J1)));have e2:((cZ c i:Nat):Int)+(j:Nat)=((cZ c i+j:Nat):Int):=au [] (.E (.a (.c J0) (.c J1)) (.c (.a J0 J1)));have e3:(1:Int)+(i:Nat)=((i+1:Nat):Int):=aw [] (.E (.a (.n 1) (.c J0)) (.c (.a J0 Y1)));have hlen:bM c i+j<sy.length:=(bU [.l J0 J1,.e J0 (.a J2 J3),.t J4 J3] (.t (.a J2 J4) J1)) j7 mV hj;nofun;rw[e1];refine Fz (v:= .int (sy.getD (bM c i+j) 0)) ((aQ [.e J0 (.a J1 J2)] (.L (.n 0) (.c (.a J1 J3)))) mV) (by rw[bJ,dG,eP,eQ hlen];rfl) ?_;have iV:=PJ (c:=c) (sy:=sy) (i:=i) (j:=j) ((bU [.l J0 J1,.e J0 (.a J2 J3),.t J4 J3] (.l (.a J2 J4) J1)) j7 mV hj);refine nZ D (eZ dA _ _) (by unfold KD u6;rw[aX,aX];exact(dn [.l J0 (.n 17),.l J1 J0,.e J1 (.a J2 J3),.t J4 J3,.e J5 (.a J2 J4)] (.t J5 (.n 1000000))) mU j7 mV hj iV) ?_;rw[pn dA,PI (by rw[abx];exact abu hlen O.nd),e2];nofun;refine hK (.inl rfl) ⟨_,_,rfl,K.A8 (eY),bj B (by omega),bj R (dK sH),(bF D).trans ?_⟩;rw[e3,MJ];unfold u6;rw[b8];rfl
  .rintro _ ⟨h',e7,rfl,K,B,R,D⟩
   rw[<- EV] at D;nofun;exact hK (.inl rfl) ⟨_,_,_,_,_,_,rfl,K,B,R,D⟩
 .rintro _ ⟨h',e3,e4,e5,e6,e7,rfl,K,B,R,D⟩
  nofun;exact q _ ((Kp.pre p1).trans K) ⟨_,_,B,D,by exact dj bf eY⟩
theorem abz(O:ek c sy)(q: ∀ h',h<+:h'->lJ h' h.length c sy->Q (.ref h.length) h'):Wh ((run T (k+3) b).call 91 [ez c,.tup (sy.map PV.int)]) h Q:=by refine j3 Zi (aby aM O λh' K H=>(q h' ?_ H));exact pre_of (by have:=K.len;simp at this;exact(au [.l (.a J0 Y1) J1] (.l J0 J1)) this) λz o e=>K.get _ _ (by have:=bh e;exact cq this) (aJ e)
end
theorem PK: ∀ (n:Nat) (l:List Int),l.Nodup->(∀ x∈l,0<=x/\x<n)->l.length<=n
 |0,l,_,h=>by
  induction l using cw with
  |nil=>exact aS _
  |cons x r=>have:=h x (kZ);exact(cM [.an (.L (.n 0) Q0) (.T Q0 (.c Y0))] (.l J0 Y0)) this
 |n+1,l,nd,h=>by
  have h1:=PK n (l.filter λx=> !(x==(n:Int))) (nd.sublist JY) λx hx=>by
   obtain⟨hx,hn⟩:=tF.mp hx;have hb:=h x hx;have hc:x≠(n:Int):=by simpa using hn
   omega
  have h2:(l.filter λx=>x==(n:Int)).length<=1:=by
   rw[<- Dl];have:l.countP (λx=>x==(n:Int))=l.count (n:Int):=rfl;rw[this,nd.count]
   split <;> (first|exact bL 0 0 [] [] [] (.l Y1 Y1)|exact bL 0 0 [] [] [] (.l Y0 Y1))
  have h3:=List.length_eq_countP_add_countP (λx=>x==(n:Int)) (l:=l);rw[Dl,Dl] at h3;have h4:(l.filter λx=>decide ¬(x==(n:Int))=ag)=l.filter λx=> !(x==(n:Int)):=Km λx zy=>by cases x==(n:Int) <;> rfl
  rw[h4] at h3;exact(aQ [.l J0 J1,.l J2 Y1,.e J3 (.a J2 J0)] (.l J3 (.a J1 Y1))) h1 h2 h3
theorem PL{m:Nat}{l:List Nat}(hm:m=1\/m=2)(nd:l.Nodup)(h: ∀ p,p∈l↔p<m):lA (l.map λp:Nat=>KP ((0:Int),(p:Int)))=(ar m).map (λp:Nat=>KP ((0:Int),(p:Int)))/\l.length=m:=by
 have hp:l.Perm (ar m):=(JS nd zJ).mpr λp=>by rw[h,fh]
 have hl:=hp.length_eq;rw[fV] at hl;refine⟨?_,hl⟩;rcases hm with rfl|rfl
 .obtain⟨a,rfl⟩:=JU.mp hl
  have:=(h a).mp (kZ);have:a=0:=(aw [.t J0 Y1] (.e J0 Y0)) this;subst this;rfl
 .obtain⟨a,b,rfl⟩:=Mn hl
  have h1:=(h a).mp (kZ);have h2:=(h b).mp (by simp);rw[lV] at nd;have h3:a≠b:=λe=>nd.1 (by simp[e]);have:a=0/\b=1\/a=1/\b=0:=(au [.t J0 Y2,.t J1 Y2,.no (.e J0 J1)] (.o (.an (.e J0 Y0) (.e J1 Y1)) (.an (.e J0 Y1) (.e J1 Y0)))) h1 h2 h3;rcases this with⟨rfl,rfl⟩|⟨rfl,rfl⟩ <;> rfl
theorem PM{l:List ((Int×Int)×PV)}{a:Int×Int}{v:PV}(h:a∉l.map (·.1)):eE l a v=l++[(a,v)]:=by unfold eE;rw[if_neg];rw[tE];rintro⟨x,hx,e⟩;exact h (bX.mpr ⟨x,hx,by simpa using e⟩)
theorem lJ.keep(H:lJ h t c sy)(g: ∀ (z:Nat) o,t<=z->h[z]?=aa o->h'[z]?=aa o):lJ h' t c sy:=by obtain⟨r,cd,a,b,l⟩:=H;exact⟨r,cd,g _ _ (aS _) a,g _ _ (fY l) b,l⟩
noncomputable def og (m:Nat) (U:Nat->Nat):List ((Int×Int)×PV):=(ar m).map λp:Nat=>(((0:Int),(p:Int)),.ref (U p))
theorem abA:og (m+1) (λp=>if p=m then u else U p)=og m U++[(((0:Int),(m:Int)),.ref u)]:=by
 unfold og;rw[dZ,b8];congr 1
 .refine gF λp hp=>?_
  rw[fh] at hp;dsimp only;rw[if_neg (cq hp)]
 .simp
theorem abB{m:Nat}{U:Nat->Nat}:((0:Int),(m:Int))∉(og m U).map (·.1):=by intro h;unfold og at h;rw[cV] at h;obtain⟨p,hp,e⟩:=bX.mp h;rw[fh] at hp;simp only[oz,tL] at e;omega
section
variable{k sk cd m:Nat}{b:Bool}{ks st:List (Nat×Nat)}{E:Nat->List (Int×PV)}{h h₀:PH}{Q:PV->PH->Prop}
theorem abC(I:px sk cd ks E st h)(hm:m=1\/m=2)(iC: ∀ p s,(p,s)∈st->p<m/\s<=16)(qV: ∀ p,p<m-> ∃ s,(p,s)∈st)(g7:h₀<+:h)(jc: ∀ z,qQ sk cd ks z->h₀.length<=z)
  (q: ∀ h' tb C SY,h₀<+:h'->pv h' tb m C SY->(∀ p,p<m->ek (C p) (SY p))->(∀ p s,(p,s)∈st->(s:Int)∈SY p)->Q (.ref tb) h'):Wh ((run T (k+4) b).call 31 [.ref cd]) h Q:=by
 have qW: ∀ p,p∈ks.map (·.1)↔p<m:=λp=>(I.key p).trans ⟨λ⟨s,hs⟩=>(iC p s hs).1,qV p⟩;obtain⟨G4,A9⟩:=PL hm I.nd qW;have u7:(KD KP (iD ks)).map (·.1)=(ks.map (·.1)).map λp:Nat=>KP ((0:Int),(p:Int)):=by unfold KD iD;rw[cV,cV,cV];rfl
 rw[<- u7] at G4;rw[aX] at A9;refine bc (V0 _ _ _ _) ?_;have i2:=I.lL;nofun;refine FF (aJ i2) (by rw[u7,cV];exact BC (λzy zy=>rfl) ((au [.o (.e J0 Y1) (.e J0 Y2),.e J1 J0] (.t J1 (.n 64))) hm A9)) (by rw[G4];simp;exact(aw [.o (.e J0 Y1) (.e J0 Y2)] (.l J0 (.n 1000000))) hm) ?_;rw[G4];generalize hh:h++[aB.dict []]=h1;have p1:h<+:h1:=hh▸bH _ _;have dX:h1.length=h.length+1:=by rw[<- hh];exact bb
 have fd0:h1[h.length]?=aa (.dict []):=by rw[<- hh];exact aM
 have fM:=bh i2;have pG: ∀ e∈ks,e.2<h.length:=λe he=>bh (I.qP e he);refine sh (xs:=(ar m).map λp:Nat=>KP ((0:Int),(p:Int))) (λi n7=>xa λ(h':PH) (e2 e3 e4:Option PV) (U:Nat->Nat) (C:Nat->Nat->Nat) (SY:Nat->List Int)=>xb (n7=⟨h',[aa (.ref cd),aa (.ref h.length),e2,e3,e4,ae,ae,ae]⟩) (dq (λz=> ∃ e∈ks,z=e.2) h h') (h.length+2<=h'.length) (h'[h.length+1]?=aa (.list ((ar m).map λp:Nat=>KP ((0:Int),(p:Int))))) (h'[h.length]?=aa (.dict (KD KP (og i U)))) ((∀ p,p<i->lJ h' (U p) (C p) (SY p)/\h.length+2<=U p/\ek (C p) (SY p)/\ ∀ s,s∈SY p↔s∈(E p).map (·.1))) (∀ e∈ks,i<=e.1->h'[e.2]?=aa (.dict (KD PV.int (E e.1))))) aM ?_ ?_ ?_ ?_
 .refine⟨_,_,_,_,λzy=>0,λzy zy=>0,λzy=>[],rfl,⟨by simp;exact(au [.e J0 (.a J1 Y1)] (.l J1 (.a J0 Y1))) dX,λz o n e=>aJ (aI p1 e)⟩,by simp;exact(au [.e J0 (.a J1 Y1)] (.l (.a J1 Y1) J0)) dX,?_,aJ fd0,λp hp=>absurd hp (dm _),λe he zy=>aJ (aI p1 (I.qP e he))⟩
  rw[<- dX];exact aM
 .rintro i _ ⟨h',e2,e3,e4,U,C,SY,rfl,K,l,a1,a2,a3,a4⟩
  rw[dX];exact a1
 .rintro i x _ KC hK hx ⟨h',e2,e3,e4,U,C,SY,rfl,K,l,a1,a2,a3,a4⟩
  have hi:i<m:=by simpa using(dF.mp hx).1
  rw[b0 hi] at hx;obtain rfl:=bD hx;obtain⟨⟨p,u⟩,lM,PN⟩:=bX.mp ((qW i).mpr hi);dsimp only at PN;subst PN;have abD:ks.lookup p=aa u:=mr I.nd lM;have hu:=a4 _ lM (aS _);dsimp only at hu;have lF:=pG _ lM;dsimp only at lF;have abE:=K.get _ _ (λ⟨e,he,h'⟩=>I.u0 e he h'.symm) i2;have C0:=I.cnt p;have hr: ∀ s∈(E p).map (·.1),0<=s/\s<=16:=λs hs=>by obtain⟨s',rfl,eB⟩:=(C0.iff s).mp hs;have:=iC p s' eB;exact(az [.an (.t J0 J1) (.l J2 (.n 16))] (.an (.L (.n 0) (.c J2)) (.L (.c J2) (.n 16)))) this
  have hlen:1<=(E p).length/\(E p).length<=17:=by
   refine⟨?_,?_⟩
   .obtain⟨s,hs⟩:=qV p hi
    have:=(C0.iff (s:Int)).mpr ⟨s,rfl,hs⟩;have:=List.length_pos_of_mem this;rw[aX] at this;exact this
   .have:=PK 17 _ C0.nd λx hx=>by have:=hr x hx;exact(cY [.an (.L (.n 0) Q0) (.L Q0 (.n 16))] (.an (.L (.n 0) Q0) (.T Q0 (.c (.n 17))))) this
    rw[aX] at this;exact this
  unfold KP;nofun;refine pf abE (eZ iA ((0:Int),(p:Int)) _) ((jH iA ((0:Int),(p:Int)) (iD ks)).trans ((Bs p ks).trans (by rw[abD];rfl))) ?_;nofun;refine abt hu C0 hlen hr λh2 c sy K2 T' hsy=>?_;nofun;refine abz (k:=k) T' λh3 p3 H3=>?_;have l2:=K2.len;have g3: ∀ (z:Nat) o,z≠u->h'[z]?=aa o->h3[z]?=aa o:=λz o n e=>aI p3 (K2.get _ _ n e);have PO:=g3 _ _ (dK lF) a2;have ht:(KD KP (og p U)).length<1000000:=by unfold KD og;rw[aX,aX,fV];exact(au [.o (.e J0 Y1) (.e J0 Y2),.t J1 J0] (.t J1 (.n 1000000))) hm hi
  nofun;refine nZ PO (eZ iA ((0:Int),(p:Int)) _) ht ?_;rw[show dput (KD KP (og p U)) (.tup [.int 0,.int (p:Nat)]) (.ref h2.length)=KD KP (og (p+1) λz=>if z=p then h2.length else U z) from(pn iA ((0:Int),(p:Int)) _ _).trans (by rw[PM abB,abA])];nofun;have l3:=p3.length_le;refine hK (.inl rfl) ⟨_,_,_,_,(λz=>if z=p then h2.length else U z),(λz=>if z=p then c else C z),(λz=>if z=p then sy else SY z),rfl,⟨?_,λz o n e=>?_⟩,?_,?_,bF PO,λy hy=>?_,λe he BG=>?_⟩
  .have:=K.len;simp;exact(aQ [.l (.a J0 Y2) J1,.l J1 J2,.l J2 J3] (.l J0 J3)) l l2 l3
  .have hz:=bh e
   exact bj (g3 _ _ (λq=>n ⟨_,lM,q⟩) (K.get _ _ n e)) (dK hz)
  .simp;exact(aQ [.l (.a J0 Y2) J1,.l J1 J2,.l J2 J3] (.l (.a J0 Y2) J3)) l l2 l3
  .exact bj (g3 _ _ ((au [.t J0 J1] (.no (.e (.a J1 Y1) J0))) lF) a1) (aw [] (.no (.e J0 (.a J0 Y1))))
  .by_cases hyp:y=p
   .subst hyp
    simp only[if_pos];refine⟨H3.keep λz o hz e=>bj e ((aQ [.l (.a J0 Y2) J1,.l J1 J2,.l J2 J3] (.no (.e J0 J3))) l l2 hz),by exact(az [.l (.a J0 Y2) J1,.l J1 J2] (.l (.a J0 Y2) J2)) l l2,T',hsy⟩
   .simp only[if_neg hyp]
    obtain⟨b1,b2,b3,b4⟩:=a3 y (dH (d0 hy) hyp);exact⟨b1.keep λz o hz e=>bj (g3 _ _ ((aQ [.t J0 J1,.l (.a J1 Y2) J2,.l J2 J3] (.no (.e J3 J0))) lF b2 hz) e) ((az [.l (.a J0 Y2) J1,.l J1 J2] (.no (.e J0 J2))) b2 hz),b2,b3,b4⟩
  .have he2:=pG e he
   have d8:e.2≠u:=λq=>by have:=I.x8 e he _ lM q;rw[this] at BG;dsimp only at BG;exact(aw [.l (.a J0 Y1) J0] .ff) BG
   exact bj (g3 _ _ d8 (a4 e he ((au [.l (.a J0 Y1) J1] (.l J0 J1)) BG))) (dK he2)
 .rintro _ ⟨h',e2,e3,e4,U,C,SY,rfl,K,l,a1,a2,a3,a4⟩
  rw[aX,fV] at a2 a3;nofun;refine q _ _ C SY (K.pre g7 λz ⟨e,he,hz⟩=>jc z (.inr (.inr ⟨e,he,hz⟩))) ⟨U,a2,λp hp=>(a3 p hp).1⟩ (λp hp=>(a3 p hp).2.2.1) λp s hs=>?_;exact((a3 p (iC p s hs).1).2.2.2 _).mpr (((I.cnt p).iff _).mpr ⟨s,rfl,hs⟩)
end
noncomputable def dE (V:Nat->Nat->Nat->Int) (kd mid:Int) (w B p i:Nat):Int:=fH (V p (i/w) (i%w)) (fG (V p) kd mid (decide (i/B*B/w=i/w)) (i%w) (i/w))
theorem PQ(hB:0<B)(hd:N=N/B*B)(hi:i<N)(hp:p<m):(p,dE V kd mid w B p i)∈(fw V kd mid m w B (N/B)).flatten:=by
 have hj:i/B<N/B:=(K7 hB).mpr (by rw[<- hd];exact hi);refine KG.mpr ⟨fu V kd mid m w B (i/B) B,bX.mpr ⟨i/B,by simpa using hj,rfl⟩,?_⟩;unfold fu;refine we.mpr ⟨i%B,by simpa using la _ hB,?_⟩;have e:i/B*B+i%B=i:=by rw[dt];exact oN i B
 rw[e];exact bX.mpr ⟨p,by simpa using hp,rfl⟩
theorem abF(h:e∈(fw V kd mid m w B J).flatten):e.1<m/\aG e.2<=16:=by obtain⟨l,hl,he⟩:=KG.mp h;obtain⟨j,_,rfl⟩:=bX.mp hl;unfold fu at he;obtain⟨q,_,he⟩:=we.mp he;obtain⟨p,hp,rfl⟩:=bX.mp he;exact⟨by simpa using hp,GK _ _⟩
section
variable{k f m w ht B N sc s:Nat}{kd I p0 pt:Int}{kk:PV}{V:Nat->Nat->Nat->Int}{h:PH}{Q:PV->PH->Prop}
theorem abG(q: ∀ h',h'=h++[.inst 10 [(33,x),(34,y),(35,.bytes [])]]->Q (.ref h.length) h'):Wh ((run T (k+2) b).call 95 [x,y]) h Q:=by refine j3 N7 (ZV aM (q _ ?_));rw[rx _ _ (aS _)];simp
theorem abH(q: ∀ h',h'=h++[.inst 10 [(33,x),(34,y),(35,z)]]->Q (.ref h.length) h'):Wh ((run T (k+2) b).call 95 [x,y,z]) h Q:=by refine j3 N7 (ZU aM (q _ ?_));rw[rx _ _ (aS _)];simp
theorem abI(F:dI h f m w ht p0 kk)(Sc:gu h sc m kd pt)(S:j5 h s m w ht V)(hm:m=1\/m=2)(cj:1<=kd/\kd<=7)(fq:0<=pt/\pt<=15/\pt<p0/\p0<=1000)(H:pC I w ht B N)
  (q: ∀ h' l a b C SY,h<+:h'->h'[l]?=aa (.list [.ref a,.ref b])->(∀ p,p<m->ek (C p) (SY p))->(∀ i p,i<N->p<m->(aG (dE V kd (2^(p0-pt-1).toNat) w B p i):Int)∈SY p)->h'[a]?=aa (.inst 10 [(33,.int 196),(34,.bytes (bV C SY m)),(35,.bytes [])])-> h'[b]?=aa (.inst 10 [(33,.int 218),(34,.bytes (yf m kd pt)),(35,.bytes (cn ((fw V kd (2^(p0-pt-1).toNat) m w B (N/B)).map (kD C SY)) (N/B)))])->Q (.ref l) h'):
  Wh ((run T (k+9) ag).call 35 [.ref f,.ref sc,.ref s,.int I]) h Q:=by
 obtain⟨jJ,fK,hdiv⟩:=H.pos;refine bc (V5 _ _ _ _ _ _ _) ?_;nofun;refine aaV F Sc S cj ((mj [.an (.L (.n 0) Q0) (.an (.L Q0 (.n 15)) (.an (.T Q0 Q1) (.L Q1 (.n 1000))))] (.an (.L (.n 0) (.s (.s Q1 Q0) (.n 1))) (.L (.s (.s Q1 Q0) (.n 1)) (.n 1000)))) fq) H λh1 sk cd ks E p1 l1 I1=>?_;nofun;refine abC (k:=k+4) I1 hm (λp s hs=>?_) (λp hp=>?_) p1 l1 λh2 tb C SY p2 T2 O2 M2=>?_
 .obtain⟨e,he,heq⟩:=bX.mp hs
  cases heq;exact abF he
 .exact⟨_,bX.mpr ⟨_,PQ fK hdiv jJ hp,rfl⟩⟩
 have hS: ∀ i p,i<N->p<m->(aG (dE V kd (2^(p0-pt-1).toNat) w B p i):Int)∈SY p:=λi p hi hp=>M2 p _ (bX.mpr ⟨_,PQ fK hdiv hi hp,rfl⟩);obtain⟨U,u1,u2⟩:=id T2;have cU:=(PL (l:=ar m) hm zJ λp=>fh).1;have u7:(KD KP ((ar m).map λp:Nat=>(((0:Int),(p:Int)),PV.ref (U p)))).map (·.1)=(ar m).map λp:Nat=>KP ((0:Int),(p:Int)):=by unfold KD;rw[cV,cV];rfl
 have cO:m<=4:=(aw [.o (.e J0 Y1) (.e J0 Y2)] (.l J0 (.n 4))) hm;nofun;refine FF u1 (by rw[u7];exact BC (λzy zy=>rfl) (by simp;exact(aw [.l J0 (.n 4)] (.t J0 (.n 64))) cO)) (by rw[u7,cU];simp;exact(aw [.l J0 (.n 4)] (.l J0 (.n 1000000))) cO) ?_;rw[u7,cU];refine lC (xs:=(ar m).map λp:Nat=>KP ((0:Int),(p:Int))) (λi st acc=> ∃ e1,st=⟨h2++[aB.list ((ar m).map λp:Nat=>KP ((0:Int),(p:Int)))],[ae,e1,aa (.ref tb)]⟩/\acc=(ar i).map (qT C SY)) aM ⟨_,rfl,rfl⟩ (λi st acc zz=>by obtain⟨e1,e,_⟩:=zz;rw[e];exact aM) ?_ ?_
 .rintro i x _ acc KC XC hK hX hx ⟨e1,rfl,rfl⟩
  have hi:i<m:=by simpa using(dF.mp hx).1
  rw[b0 hi] at hx;obtain rfl:=bD hx;obtain⟨r,PR,g1,g2,-⟩:=(u2 i hi);have d9:=(jH iA ((0:Int),(i:Int)) _).trans (O9 (f:=λp=>PV.ref (U p)) hi);have Bc:=aJ (o':= .list ((ar m).map λp:Nat=>KP ((0:Int),(p:Int)))) u1;unfold KP;nofun;refine pf Bc (eZ iA ((0:Int),(i:Int)) _) d9 ?_;nofun;refine pf Bc (eZ iA ((0:Int),(i:Int)) _) d9 ?_;nofun;have hrs:(ar (i+1)).map (qT C SY)=(ar i).map (qT C SY)++[qT C SY i]:=by rw[dZ,b8];rfl
  exact hK ⟨_,rfl,hrs.symm⟩
 rintro _ acc ⟨e1,rfl,rfl⟩;have sJ:((ar m).map λp:Nat=>KP ((0:Int),(p:Int))).length=m:=(aX _).trans fV;rw[sJ];refine dW (by simp;exact(aw [.l J0 (.n 4)] (.l J0 (.n 1000000))) cO) ?_;dsimp only;generalize sI:h2++[aB.list ((ar m).map λp:Nat=>KP ((0:Int),(p:Int)))]=h3;have p3:h2<+:h3++[aB.list ((ar m).map (qT C SY))]:=pre_app (sI▸bH _ _);have BH:=p2.trans p3;nofun;refine aa3 (F.mono BH) (Sc.mono BH) (S.mono BH) cj ((mj [.an (.L (.n 0) Q0) (.an (.L Q0 (.n 15)) (.an (.T Q0 Q1) (.L Q1 (.n 1000))))] (.an (.L (.n 0) Q0) (.an (.T Q0 Q1) (.L Q1 (.n 1000))))) fq) H (T2.mono p3) O2 hS λh4 p4=>?_;nofun;refine aa5 (aI p4 aM) cO O2 λh5 p5=>?_;nofun;refine abG λh6 e6=>?_;have p6:h5<+:h6:=e6▸bH _ _;have G5:=((BH.trans p4).trans p5).trans p6;nofun;refine aa6 (F.mono G5) (Sc.mono G5) λh7 hd p7 H7=>?_;nofun;refine aa9 H7 ((aw [.o (.e J0 Y1) (.e J0 Y2),.l J0 (.n 4)] (.an (.t Y0 J0) (.l J0 (.n 4)))) hm cO) cj ((mj [.an (.L (.n 0) Q0) (.an (.L Q0 (.n 15)) (.an (.T Q0 Q1) (.L Q1 (.n 1000))))] (.an (.L (.n 0) Q0) (.L Q0 (.n 15)))) fq) λh8 p8=>?_;nofun;refine abH λh9 e9=>?_;have p9:h8<+:h9:=e9▸bH _ _;nofun;refine q _ _ _ _ C SY (pre_app ((((G5.trans p7).trans p8)).trans p9)) aM O2 hS (aJ (aI p9 (aI p8 (aI p7 (by rw[e6];exact aM))))) (aJ (by rw[e9];exact aM))
end
noncomputable def jg (l:List ((Int×Int)×Int)):List ((Int×Int)×PV):=l.map λe=>(e.1,.int e.2)
noncomputable def kF (m:Nat) (R:Nat->Nat):List (Int×PV):=(ar m).map λp:Nat=>((p:Int),.ref (R p))
theorem abJ:kF (m+1) (λp=>if p=m then u else U p)=kF m U++[((m:Int),.ref u)]:=by
 unfold kF;rw[dZ,b8];congr 1
 .refine gF λp hp=>?_
  rw[fh] at hp;dsimp only;rw[if_neg (cq hp)]
 .simp
theorem abK{m:Nat}{U:Nat->Nat}:(m:Int)∉(kF m U).map (·.1):=by intro h;unfold kF at h;rw[cV] at h;obtain⟨p,hp,e⟩:=bX.mp h;rw[fh] at hp;simp only[oz] at e;exact(au [.t J0 J1,.E (.c J0) (.c J1)] .ff) hp e
inductive u9 (h:PH) (cd m:Nat) (C:Nat->Nat->Nat) (SY:Nat->List Int):Prop
 |mk (R:Nat->Nat) (s1:h[cd]?=aa (.dict (KD PV.int (kF m R)))) (s2: ∀ p,p<m->h[R p]?=aa (.dict (KD KP (jg (ly (C p) (SY p)))))):u9 h cd m C SY
theorem u9.mono(A:u9 h cd m C SY)(g: ∀ (k:Nat) es,h[k]?=aa (.dict es)->h'[k]?=aa (.dict es)):u9 h' cd m C SY:=by obtain⟨R,a,b⟩:=A;exact⟨R,g _ _ a,λp hp=>g _ _ (b p hp)⟩
theorem PU: ∀ {m:Nat},p<m-> ∃ rest,bV C SY m=bV C SY p++(pF (C p) (SY p) p++rest)
 |m+1,h=>by
  rw[yd];by_cases e:p=m
  .subst e;exact⟨[],by rw[jr]⟩
  .obtain⟨r,hr⟩:=PU (C:=C) (SY:=SY) (show p<m by exact dH (d0 h) e)
   exact⟨r++pF (C m) (SY m) m,by rw[hr];simp⟩
theorem G6: ∀ {m:Nat},(∀ p,p<m->(SY p).length<=17)->(bV C SY m).length<=34*m
 |0,_=>cz _
 |m+1,h=>by have h1:=G6 (C:=C) (SY:=SY) (m:=m) λp hp=>h p (rC hp);have h2:=h m (k8 _);rw[yd,bb,Bx];exact(az [.l J0 (.m 34 J1),.l J2 (.n 17)] (.l (.a J0 (.a (.n 17) J2)) (.m 34 (.a J1 Y1)))) h1 h2
theorem BI{α:Type}{a b:List α}{i:Nat}:(a++b)[a.length+i]?=b[i]?:=by rw[oA (rD _ _)];congr 1;exact(az [pB J0 (.a J1 J2) J1] (.e J0 J2)) (uB _ _)
theorem abL{α:Type}{x:α}{l:List α}{i:Nat}:(x::l)[i+1]?=l[i]?:=rfl
section
variable{k m:Nat}{b:Bool}{h:PH}{Q:PV->PH->Prop}{C:Nat->Nat->Nat}{SY:Nat->List Int}
theorem abM(hm:m<=4)(hO: ∀ p,p<m->ek (C p) (SY p))(q: ∀ h' cd,h<+:h'->h.length<=cd->u9 h' cd m C SY->Q (.ref cd) h'):Wh ((run T (k+1) b).call 40 [.bytes (bV C SY m)]) h Q:=by
 refine bc (Wa _ _ _ _) ?_;have jh:=G6 (C:=C) (SY:=SY) (m:=m) λp hp=>(hO p hp).len;nofun;refine xI (λn st=>Mm λ(h':PH) (p:Nat) (R:Nat->Nat) (e3 e4 e5 e6 e7 e8:Option PV)=>uc (st=⟨h',[aa (.bytes (bV C SY m)),aa (.ref h.length),aa (.int ((bV C SY p).length:Nat)),e3,e4,e5,e6,e7,e8,ae,ae]⟩) (p<=m) (n=m-p) (h<+:h') (h'[h.length]?=aa (.dict (KD PV.int (kF p R)))) (∀ j,j<p->R j≠h.length/\h'[R j]?=aa (.dict (KD KP (jg (ly (C j) (SY j))))))) (m:=m) ⟨_,0,λzy=>0,_,_,_,_,_,_,rfl,cz _,rfl,pre_app fg,aM,λj hj=>absurd hj (dm _)⟩ ?_;rintro n _ KC hK ⟨h',p,R,e3,e4,e5,e6,e7,e8,rfl,hp,rfl,pre,fd,tabs⟩;rcases jt p m with mT|mT
 .obtain⟨rest,hD⟩:=PU (C:=C) (SY:=SY) mT
  have O:=hO p mT;have mU:=O.len;have hlen:(bV C SY m).length=(bV C SY p).length+(17+(SY p).length+rest.length):=by rw[hD,bb,bb,Bx]
  have j7:(bV C SY p).length<=34*p:=G6 λj hj=>(hO j ((az [.t J0 J1,.t J2 J0] (.t J2 J1)) mT hj)).len;have hc: ∀ j,j<16->C p j<=17:=λj hj=>by have:=Px (C p) hj;rw[O.sum] at this;exact(au [.l J0 (.n 17),.l J1 J0] (.l J1 (.n 17))) mU this
  have g0:(bV C SY m)[(bV C SY p).length]?=aa (bY p):=by rw[hD];exact BI (i:=0)
  have t0:(bY p).toNat=p:=ua (show p<256 from(au [.l J0 (.n 4),.t J1 J0] (.t J1 (.n 256))) hm mT);have gS: ∀ j,j<(SY p).length->(bV C SY m)[(bV C SY p).length+(17+j)]?=aa (bY ((SY p).getD j 0).toNat):=λj hj=>by rw[hD,BI];unfold pF;rw[show 17+j=(16+j)+1 by exact aw [] (.e (.a (.n 17) J0) (.a (.a (.n 16) J0) Y1)),wg,abL,eH,oA (by simp)];simp only[aX,fV];rw[show 16+j-16=j from(au [pB J0 (.a (.n 16) J1) (.n 16)] (.e J0 J1)) (uB _ _),jL (by simpa using hj),dG,eP,eQ hj];rfl
  have tS: ∀ j,j<(SY p).length->((bY ((SY p).getD j 0).toNat).toNat:Int)=(SY p).getD j 0:=λj hj=>by
   have sL:(SY p).getD j 0∈SY p:=by rw[eP,eQ hj];exact Kz hj
   have:=O.rg _ sL;rw[ua (show((SY p).getD j 0).toNat<256 from(cM [.an (.L (.n 0) Q0) (.L Q0 (.n 16)),pT J0 Q0] (.t J0 (.n 256))) this (uT _))];exact(cM [.an (.L (.n 0) Q0) (.L Q0 (.n 16)),pT J0 Q0] (.E (.c J0) Q0)) this (uT _)
  have hs:sliceOf (bV C SY m) (aa (((bV C SY p).length:Nat)+1)) (aa (((bV C SY p).length:Nat)+17))=(ar 16).map λi=>bY (C p i):=by unfold sliceOf;simp only[wy,DU];unfold mw;rw[if_pos ((aQ [.e J0 (.a J1 (.a (.a (.n 17) J2) J3))] (.L (.n 0) (.a (.c J1) (.n 1)))) hlen),if_pos ((aQ [.e J0 (.a J1 (.a (.a (.n 17) J2) J3))] (.L (.n 0) (.a (.c J1) (.n 17)))) hlen),show(((bV C SY p).length:Int)+17).toNat=(bV C SY p).length+17 from(bU [.e J0 (.a J1 (.a (.a (.n 17) J2) J3)),pT J4 (.a (.c J1) (.n 17))] (.e J4 (.a J1 (.n 17)))) hlen (uT _),show(((bV C SY p).length:Int)+1).toNat=(bV C SY p).length+1 from(bU [.e J0 (.a J1 (.a (.a (.n 17) J2) J3)),pT J4 (.a (.c J1) (.n 1))] (.e J4 (.a J1 Y1))) hlen (uT _),rE ((aQ [.e J0 (.a J1 (.a (.a (.n 17) J2) J3))] (.l (.a J1 Y1) J0)) hlen),rE ((aQ [.e J0 (.a J1 (.a (.a (.n 17) J2) J3))] (.l (.a J1 (.n 17)) J0)) hlen),hD,List.take_append,List.drop_append];rw[nj (by exact aw [] (.l J0 (.a J0 (.n 17)))),v8 (by exact km _),oH];rw[show(bV C SY p).length+17-(bV C SY p).length=17 from(au [pB J0 (.a J1 (.n 17)) J1] (.e J0 (.n 17))) (uB _ _),show(bV C SY p).length+1-(bV C SY p).length=1 from(au [pB J0 (.a J1 Y1) J1] (.e J0 Y1)) (uB _ _)];unfold pF;rw[wg,List.take_succ_cons,List.drop_succ_cons,tG,eH,tx (by simp),nj (by simp)]
  nofun;refine se (λzy=>?_) λe=>by exact((aQ [.e J0 (.a J1 (.a (.a (.n 17) J2) J3)),.no (.T (.c J1) (.c J0))] .ff) hlen e).elim
  nofun;refine nY ((aQ [.e J0 (.a J1 (.a (.a (.n 17) J2) J3))] (.L (.n 0) (.c J1))) hlen) (by rw[bJ];exact g0) ?_;rw[t0];nofun;refine YQ (by rw[hs];simp) ?_;rw[hs];nofun;have e17:(((bV C SY p).length:Nat):Int)+17=(((bV C SY p).length+17:Nat):Int):=aw [] (.E (.a (.c J0) (.n 17)) (.c (.a J0 (.n 17))));rw[e17];refine FO (n:=16) (λi st=>jW λ(h2:PH) (e7 e8:Option PV)=>jz (st=⟨h2,[aa (.bytes (bV C SY m)),aa (.ref h.length),aa (.int ((bV C SY p).length:Nat)),aa (.bytes ((ar 16).map λi=>bY (C p i))),aa (.int (((bV C SY p).length+17+bM (C p) i:Nat):Int)),aa (.ref h'.length),aa (.int (cZ (C p) i:Nat)),e7,e8,ae,ae]⟩) (Kp h'.length (h'++[aB.dict []]) h2) (h2[h'.length]?=aa (.dict (KD KP (jg (iT (C p) (SY p) i 0)))))) (by decide) ⟨_,_,_,rfl,Kp.refl _ _,aM⟩ ?_ ?_
  .rintro i _ KC hK hi ⟨h2,e7,e8,rfl,K,D⟩
   have yk:(1:Int)+(i:Nat)-1=(i:Nat):=aw [] (.E (.s (.a (.n 1) (.c J0)) (.n 1)) (.c J0));have G7:=hc i hi;have tc:(bY (C p i)).toNat=C p i:=ua (show C p i<256 from(aw [.l J0 (.n 17)] (.t J0 (.n 256))) G7);have G8:bM (C p) (i+1)<=(SY p).length:=by rw[<- O.sum];exact EU (C p) hi
   have mV:bM (C p) (i+1)=bM (C p) i+C p i:=rfl;nofun;rw[yk];refine nY (cR _) (by rw[bJ];exact b0 hi) ?_;rw[tc];have gc:d7 0 ((C p i:Nat):Int) 1=ag:=gK ((aw [.l J0 (.n 17)] (.an (.L (.n 0) (.c J0)) (.L (.c J0) (.n 1000000)))) G7);nofun;refine iw (n:=C p i) (λj st=>iR λ(h2:PH) (e8:Option PV)=>jz (st=⟨h2,[aa (.bytes (bV C SY m)),aa (.ref h.length),aa (.int ((bV C SY p).length:Nat)),aa (.bytes ((ar 16).map λi=>bY (C p i))),aa (.int (((bV C SY p).length+(17+(bM (C p) i+j)):Nat):Int)),aa (.ref h'.length),aa (.int ((cZ (C p) i+j:Nat):Int)),aa (.int (1+(i:Nat))),e8,ae,ae]⟩) (Kp h'.length (h'++[aB.dict []]) h2) (h2[h'.length]?=aa (.dict (KD KP (jg (iT (C p) (SY p) i j)))))) rfl ⟨_,_,by rw[show(bV C SY p).length+17+bM (C p) i=(bV C SY p).length+(17+(bM (C p) i+0)) by exact au [] (.e (.a (.a J0 (.n 17)) J1) (.a J0 (.a (.n 17) (.a J1 Y0))))];rfl,K,D⟩ ?_ ?_
   .rintro j _ KC hK hj ⟨h2,e8,rfl,K,D⟩
    have PW:bM (C p) i+j<(SY p).length:=(bU [.l J0 J1,.e J0 (.a J2 J3),.t J4 J3] (.t (.a J2 J4) J1)) G8 mV hj;have iV:=PJ (c:=C p) (sy:=SY p) (i:=i) (j:=j) ((bU [.l J0 J1,.e J0 (.a J2 J3),.t J4 J3] (.l (.a J2 J4) J1)) G8 mV hj);have e3:(1:Int)+(i:Nat)=((i+1:Nat):Int):=aw [] (.E (.a (.n 1) (.c J0)) (.c (.a J0 Y1)));nofun;refine nY ((ku [.e J0 (.a J1 (.a (.a (.n 17) J2) J3)),.l J4 (.n 17),.e J5 (.a J6 J4)] (.L (.n 0) (.c (.a J1 (.a (.n 17) (.a J6 J7)))))) hlen G7 mV) (by rw[bJ];exact gS _ PW) ?_;rw[tS _ PW];nofun;refine nZ D (eZ iA ((1:Int)+(i:Nat),((cZ (C p) i+j:Nat):Int)) _) (by unfold KD jg iT;rw[aX,aX,aX];exact(uk [.l J0 (.n 4),.l J1 (.m 34 J0),.e J1 (.a J2 (.a (.a (.n 17) J3) J4)),.l J5 J3,.e J5 (.a J6 J7),.t J8 J7,.e J9 (.a J6 J8)] (.t J9 (.n 1000000))) hm jh hlen G8 mV hj iV) ?_;rw[show dput (KD KP (jg (iT (C p) (SY p) i j))) (.tup [.int (1+(i:Nat)),.int ((cZ (C p) i+j:Nat):Int)]) (.int ((SY p).getD (bM (C p) i+j) 0))=KD KP (jg (iT (C p) (SY p) i (j+1))) from(pn iA ((1:Int)+(i:Nat),((cZ (C p) i+j:Nat):Int)) _ _).trans (by rw[e3,PM (by unfold jg;rw[cV];exact MM),MK];unfold jg;rw[b8];rfl)];nofun;rw[show(((bV C SY p).length+(17+(bM (C p) i+j)):Nat):Int)+1=(((bV C SY p).length+(17+(bM (C p) i+(j+1))):Nat):Int) by exact az [] (.E (.a (.c (.a J0 (.a (.n 17) (.a J1 J2)))) (.n 1)) (.c (.a J0 (.a (.n 17) (.a J1 (.a J2 Y1)))))),show((cZ (C p) i+j:Nat):Int)+1=((cZ (C p) i+(j+1):Nat):Int) by exact au [] (.E (.a (.c (.a J0 J1)) (.n 1)) (.c (.a J0 (.a J1 Y1))))];exact hK (.inl rfl) ⟨_,_,rfl,K.set,bF D⟩
   .rintro _ ⟨h2,e8,rfl,K,D⟩
    rw[<- ML] at D;have g2:(bT 2||bT ((cZ (C p) i+C p i:Nat):Int))=ag:=rfl;nofun;rw[show(2:Int)*((cZ (C p) i+C p i:Nat):Int)=((cZ (C p) (i+1):Nat):Int) by show _=(((cZ (C p) i+C p i)*2:Nat):Int);exact au [] (.E (.m 2 (.c (.a J0 J1))) (.c (.w (.a J0 J1) 2))),show(bV C SY p).length+(17+(bM (C p) i+C p i))=(bV C SY p).length+17+bM (C p) (i+1) from(aQ [.e J0 (.a J1 J2)] (.e (.a J3 (.a (.n 17) (.a J1 J2))) (.a (.a J3 (.n 17)) J0))) mV];exact hK (.inl rfl) ⟨_,_,_,rfl,K,D⟩
  .rintro _ ⟨h2,e7,e8,rfl,K,D⟩
   have bf:=bh fd;have PX:=K.get _ _ (cq bf) (aJ fd);nofun;refine nY ((aQ [.e J0 (.a J1 (.a (.a (.n 17) J2) J3))] (.L (.n 0) (.c J1))) hlen) (by rw[bJ];exact g0) ?_;rw[t0];refine nZ PX (eZ dA (p:Int) _) (by unfold KD kF;simp;exact(au [.l J0 (.n 4),.t J1 J0] (.t J1 (.n 1000000))) hm mT) ?_;rw[pn dA (p:Int),PI abK,<- abJ];nofun;rw[show(bV C SY p).length+17+bM (C p) 16=(bV C SY (p+1)).length by rw[yd,bb,Bx,O.sum];exact au [] (.e (.a (.a J0 (.n 17)) J1) (.a J0 (.a (.n 17) J1)))];refine hK (.inl rfl) (m':=m-(p+1)) ((aQ [.l J0 J1,.t J0 J1,pB J2 J1 (.a J0 Y1),pB J3 J1 J0] (.t J2 J3)) hp mT (uB _ _) (uB _ _)) ⟨_,p+1,(λz=>if z=p then h'.length else R z),_,_,_,_,_,_,rfl,mT,rfl,?_,bF PX,λj hj=>?_⟩
   .have hl:=pre.length_le
    exact eX (pre_of (by have:=K.len;simp at this;exact(az [.t J0 J1,.l (.a J1 Y1) J2] (.l J0 J2)) bf this) λz o e=>K.get _ _ (by have:=bh e;exact(az [.t J0 J1,.t J2 J0] (.no (.e J2 J1))) bf this) (aJ (aI pre e))) (aS _)
   .by_cases G9:j=p
    .subst G9
     simp only[if_pos];exact⟨by exact dK bf,bj D (cq bf)⟩
    .simp only[if_neg G9]
     obtain⟨t1,t2⟩:=tabs j (dH (d0 hj) G9);have:=bh t2;exact⟨t1,bj (K.get _ _ (cq this) (aJ t2)) (eI t1)⟩
 .obtain rfl:p=m:=zV hp mT
  nofun;refine se (λe=>by exact((aw [.T (.c J0) (.c J0)] .ff) e).elim) λzy=>?_;nofun;exact q _ _ pre (aS _) ⟨R,fd,λj hj=>(tabs j hj).2⟩
end
noncomputable def bI (b:Bool):PV:= .int (if b then 1 else 0)
theorem PY(v s k:Nat)(h:k<s):(bz v s)[k]?=aa (decide (v/2^(s-1-k)%2=1)):=by
 induction s generalizing k with
 |zero=>exact absurd h (dm _)
 |succ s ih=>
  induction k using ju with
  |zero=>rfl
  |succ k=>
  show(bz v s)[k]?=_;rw[ih k ((au [.t (.a J0 Y1) (.a J1 Y1)] (.t J0 J1)) h),show s+1-1-(k+1)=s-1-k from(dn [pB J1 (.a J2 Y1) Y1,pB J0 J1 (.a J3 Y1),pB J5 J2 Y1,pB J4 J5 J3] (.e J0 J4)) (uB _ _) (uB _ _) (uB _ _) (uB _ _)]
structure pH (h:PH) (fl n:Nat) (R:Nat->Nat) (B:Nat->List Bool):Prop where
 fJ:h[fl]?=aa (.list ((ar n).map λj=> .ref (R j)))
 at': ∀ j,j<n->h[R j]?=aa (.list ((B j).map bI))
 inj: ∀ i j,i<n->j<n->R i=R j->i=j
 mW: ∀ j,j<n->R j≠fl
noncomputable def gN (n:Nat):List UInt8:=if 0<n then [255,bY (208+(n-1)%8)] else []
theorem PZ: ∀ {J:Nat},n<J-> ∃ rest,cn outs J=cn outs n++gN n++(bO (outs.getD n [])++rest)/\(n+1=J/\rest=[]\/n+1<J/\ ∃ r',rest=255::bY (208+n%8)::r')
 |J+1,h=>by
  rw[ya];by_cases e:n=J
  .subst e
   exact⟨[],by rw[jr,eH];rfl,.inl ⟨rfl,rfl⟩⟩
  .obtain⟨r,hr,hc⟩:=PZ (outs:=outs) (show n<J by exact dH (d0 h) e)
   refine⟨r++((if 0<J then [255,bY (208+(J-1)%8)] else [])++bO (outs.getD J [])),by rw[hr];simp only[eH],.inr ⟨by exact(au [.t J0 (.a J1 Y1),.no (.e J0 J1)] (.t (.a J0 Y1) (.a J1 Y1))) h e,?_⟩⟩;rcases hc with⟨e1,e2⟩|⟨e1,r',e2⟩
   .subst e2
    rw[if_pos ((au [.e (.a J0 Y1) J1] (.t Y0 J1)) e1),show J-1=n from(az [.e (.a J0 Y1) J1,pB J2 J1 Y1] (.e J2 J0)) e1 (uB _ _)];exact⟨_,rfl⟩
   .rw[e2];exact⟨_,rfl⟩
section
variable{k:Nat}{b:Bool}{h:PH}{Q:PV->PH->Prop}{outs:List (List UInt8)}
theorem P0(ha:h[a]?=aa (.list (xs++[v])))(q:Q v h):mz (.ref a) (.int (-1)) h Q:=⟨_,ha,xs.length,by unfold idxOf;rw[if_neg (by decide),if_pos (by simp;exact aw [] (.L (.n 0) (.a (.n (-1)) (.a (.c J0) (.n 1))))),show(-1+((xs++[v]).length:Int)).toNat=xs.length by simp;exact(au [pT J0 (.a (.n (-1)) (.a (.c J1) (.n 1)))] (.e J0 J1)) (uT _)],_,tA,q⟩
theorem P1{x:Nat}{l:List (Option PV)}{O:ax}{Q:PV->aj->Prop}(h4:eV l 4=aa (.int (x:Nat)))(q:Q (.ref h.length) ⟨h++[.list ((bz x 8).map bI)],l⟩):
  mE [ae,ae,aa 4] (.one 1) (bP []) (ay .Mod (ay .FloorDiv (af 2) (ay .Pow (ai (.int 2)) (ay .Sub (ai (.int 7)) (af 1)))) (ai (.int 2))) O Q (.dw 0 8 1) ⟨h,l⟩:=by
 refine qG (n:=8) (λi st acc=> ∃ e1,st=⟨h,[ae,e1,aa (.int (x:Nat))]⟩/\acc=((bz x 8).take i).map bI) rfl ⟨ae,by unfold iq;simp only[tH,wx,h4],rfl⟩ ?_ ?_
 .rintro i _ acc KC XC hK hX hi ⟨e1,rfl,rfl⟩
  have e7:(7:Int)-(i:Nat)=((7-i:Nat):Int):=(au [.t J0 (.n 8),pB J1 (.n 7) J0] (.E (.s (.n 7) (.c J0)) (.c J1))) hi (uB _ _);have g1:(eC (7-(i:Int))&&bT 2)=ag:=by rw[e7,qO ((au [.E (.s (.n 7) (.c J0)) (.c J1),pB J1 (.n 7) J0] (.l J1 (.n 1000000))) e7 (uB _ _))];rfl
  have hp:(2:Int)^(7-(i:Int)).toNat=((2^(7-i):Nat):Int):=by rw[e7,bJ,lU];rfl
  have h0:=lY (7-i);have h1:2^(7-i)<=2^7:=zP (by decide) ((au [.E (.s (.n 7) (.c J0)) (.c J1),pB J1 (.n 7) J0] (.l J1 (.n 7))) e7 (uB _ _));have g2:((2:Int)^(7-(i:Int)).toNat != 0&&bT ((2:Int)^(7-(i:Int)).toNat))=ag:=by rw[hp];unfold bT;rw[rq,bne_iff_ne,decide_eq_true_eq];exact(lx [.E Q0 (.c J0),.t Y0 J0,.l J0 (.n 128),pA J1 (.c J0)] (.an (.no (.E (.c J0) (.n 0))) (.t J1 (.n 18446744073709551616)))) hp h0 h1 (uA _)
  nofun;refine hK ⟨_,rfl,?_⟩;rw[take_snoc (PY x 8 i hi),b8];congr 1;rw[hp,zt _ ((cM [.E Q0 (.c J0),.t Y0 J0] (.L (.n 0) (.c J0))) hp h0),tw _ (by decide),<- JN];show [PV.int (((x/2^(7-i):Nat):Int)%2)]=[bI (decide (x/2^(7-i)%2=1))];generalize x/2^(7-i)=y;rcases DD y with h|h
  .rw[show((y:Int)%2)=0 by omega,h];rfl
  .rw[show((y:Int)%2)=1 by omega,h];rfl
 .rintro _ acc ⟨e1,rfl,rfl⟩
  rw[nj (by rw[gv];exact aS _)];exact dW (by rw[aX,gv];decide) q
theorem abN(hJ:0<outs.length)(Ha:outs.length<=1000)(hl:(cn outs outs.length).length<50000)
  (q: ∀ h' fl R,h<+:h'->h.length<=fl->(∀ j,j<outs.length->h.length<=R j)->pH h' fl outs.length R (λj=>cC (outs.getD j []))->Q (.ref fl) h'):Wh ((run T (k+1) b).call 41 [.bytes (cn outs outs.length)]) h Q:=by
 refine bc (Wb _ _ _ _) ?_;have dX:(h++[aB.list []]).length=h.length+1:=bb;nofun;rw[dX];refine xI (λz st=>nG λ(h':PH) (n i:Nat) (R:Nat->Nat) (e4:Option PV)=>xb (st=⟨h',[aa (.bytes (cn outs outs.length)),aa (.ref (h.length+1)),aa (.int (((cn outs n).length+(gN n).length+(bO ((outs.getD n []).take i)).length:Nat):Int)),aa (.int (n:Nat)),e4,ae,ae]⟩) (n<outs.length) (i<=(outs.getD n []).length) (h<+:h') ((∀ j,j<n+1->h.length<=R j)) (pH h' (h.length+1) (n+1) R (λj=>if j=n then cC ((outs.getD n []).take i) else cC (outs.getD j []))) (z+(cn outs n).length+(gN n).length+(bO ((outs.getD n []).take i)).length=(cn outs outs.length).length)) (m:=(cn outs outs.length).length) ?_ ?_
 .refine⟨_,0,0,λzy=>h.length,_,rfl,hJ,cz _,pre_app (pre_app fg),λj zy=>aS _,⟨?_,λj hj=>?_,λi j hi hj zy=>by exact(au [.t J0 Y1,.t J1 Y1] (.e J0 J1)) hi hj,λj hj=>by exact aw [] (.no (.e J0 (.a J0 Y1)))⟩,rfl⟩
  .rw[show h.length+1=(h++[aB.list []]).length by simp];exact aM
  .obtain rfl:j=0:=(aw [.t J0 Y1] (.e J0 Y0)) hj
   exact aJ aM
 rintro z _ KC hK ⟨h',n,i,R,e4,rfl,hn,hi,pre,hR,L,hz⟩;obtain⟨rest,hD,abO⟩:=PZ (outs:=outs) hn;have hF:=L.fJ;have ym:=L.at' n (k8 n);rw[if_pos rfl] at ym;have P4:(ar (n+1)).map (λj=>PV.ref (R j))=(ar n).map (λj=>PV.ref (R j))++[.ref (R n)]:=by rw[dZ,b8];rfl
 have jh:=congrArg wi hD;simp only[bb] at jh;have xK:=bh ym;have Hb:=bh hF;rcases jt i (outs.getD n []).length with bf|Hc
 .obtain⟨x,hx⟩: ∃ x,(outs.getD n [])[i]?=aa x:=⟨_,eQ bf⟩
  have hsp:(outs.getD n [])=(outs.getD n []).take i++([x]++(outs.getD n []).drop (i+1)):=by rw[<- eH,<- take_snoc hx,oC]
  have iC:bO (outs.getD n [])=bO ((outs.getD n []).take i)++(bO [x]++bO ((outs.getD n []).drop (i+1))):=by rw[<- Bv,<- Bv,<- hsp]
  have Hd:bO ((outs.getD n []).take (i+1))=bO ((outs.getD n []).take i)++bO [x]:=by rw[take_snoc hx,Bv]
  have hb1:cC ((outs.getD n []).take (i+1))=cC ((outs.getD n []).take i)++bz x.toNat 8:=by rw[take_snoc hx];unfold cC;rw[jM];rfl
  rw[iC] at hD jh;simp only[bb] at jh;have He:cn outs outs.length=(cn outs n++gN n++bO ((outs.getD n []).take i))++(bO [x]++(bO ((outs.getD n []).drop (i+1))++rest)):=by rw[hD];simp only[eH]
  have gD: ∀ t,(cn outs outs.length)[(cn outs n).length+(gN n).length+(bO ((outs.getD n []).take i)).length+t]?=(bO [x]++(bO ((outs.getD n []).drop (i+1))++rest))[t]?:=λt=>by have e:=BI (a:=cn outs n++gN n++bO ((outs.getD n []).take i)) (b:=bO [x]++(bO ((outs.getD n []).drop (i+1))++rest)) (i:=t);rw[bb,bb] at e;rw[He];exact e
  have qS:(cC ((outs.getD n []).take i)).length<=400000:=by
   rw[mQ,gT];have n6: ∀ l:List UInt8,l.length<=(bO l).length:=λl=>by
    induction l with
    |nil=>exact aS _
    |cons y r ih=>
     have e:bO (y::r)=(if y=255 then [255,0] else [y])++bO r:=rfl;rw[e,bb,fW]
     split
     .show _<=2+_;exact(au [.l J0 J1] (.l (.a J0 Y1) (.a Y2 J1))) ih
     .show _<=1+_;exact(au [.l J0 J1] (.l (.a J0 Y1) (.a Y1 J1))) ih
   have:=n6 (outs.getD n []);rw[iC] at this;simp only[bb] at this;exact(bL 11 0 [_,_,_,_,_,_,_,_,_,_,_] [] [.t J0 (.n 50000),.l J1 J2,.e (.a (.a (.a J3 J4) J5) J6) J0,.t J1 J2,.e J0 (.a (.a J4 J5) (.a (.a J6 (.a J7 J8)) J9)),.l J2 (.a J6 (.a J7 J8)),pM Mx J1 J2] (.l (.m 8 Mx) (.n 400000))) hl hi hz bf jh this (uM _ _)
  have fin: ∀ {w:Int},((bO [x]).length:Int)=w->(((cn outs n).length+(gN n).length+(bO ((outs.getD n []).take i)).length:Nat):Int)+w=(((cn outs n).length+(gN n).length+(bO ((outs.getD n []).take (i+1))).length:Nat):Int):=λe=>by rw[Hd,bb,<- e];exact aQ [] (.E (.a (.c (.a (.a J0 J1) J2)) (.c J3)) (.c (.a (.a J0 J1) (.a J2 J3))))
  have upd:pH ((h'++[aB.list ((bz x.toNat 8).map bI)]).set (R n) (.list ((cC ((outs.getD n []).take i)).map bI++(bz x.toNat 8).map bI))) (h.length+1) (n+1) R (λj=>if j=n then cC ((outs.getD n []).take (i+1)) else cC (outs.getD j [])):=by
   refine⟨bj (aJ hF) (L.mW n (k8 n)),λj hj=>?_,L.inj,L.mW⟩;by_cases ji:j=n
   .subst ji
    rw[if_pos rfl,hb1,b8];exact bF (aJ ym)
   .have iW:=L.at' j hj
    rw[if_neg ji] at iW ⊢;exact bj (aJ iW) λe=>ji (L.inj j n hj (k8 n) e.symm)
  have P5:h<+:(h'++[aB.list ((bz x.toNat 8).map bI)]).set (R n) (.list ((cC ((outs.getD n []).take i)).map bI++(bz x.toNat 8).map bI)):=eX (pre_app pre) (hR n (k8 n));by_cases pE:x=255
  .have j4:bO [x]=[x,0]:=by rw[pE];rfl
   have yn:=gD 0;have P6:=gD 1;rw[j4] at yn P6;have hw:=fin (w:=2) (by rw[j4];rfl);have e1:(x.toNat:Int)=255:=by rw[pE];rfl
   have z0:((UInt8.toNat 0:Nat):Int)=0:=rfl;have sM:(bO [x]).length=2:=by rw[j4];rfl
   have FY:(bO ((outs.getD n []).take (i+1))).length=(bO ((outs.getD n []).take i)).length+2:=by rw[Hd,bb,sM]
   nofun;refine se (λzy=>?_) λe=>by exact((ku [.e (.a (.a (.a J0 J1) J2) J3) J4,.e J4 (.a (.a J1 J2) (.a (.a J3 (.a J5 J6)) J7)),.e J5 Y2,.no (.T (.c (.a (.a J1 J2) J3)) (.c J4))] .ff) hz jh sM e).elim
   nofun;refine nY ((bU [.e (.a (.a (.a J0 J1) J2) J3) J4] (.L (.n 0) (.c (.a (.a J1 J2) J3)))) hz) (by rw[bJ];exact yn) ?_;nofun;refine nY ((bU [.e (.a (.a (.a J0 J1) J2) J3) J4] (.L (.n 0) (.a (.c (.a (.a J1 J2) J3)) (.n 1)))) hz) (by rw[show((((cn outs n).length+(gN n).length+(bO ((outs.getD n []).take i)).length:Nat):Int)+1).toNat=(cn outs n).length+(gN n).length+(bO ((outs.getD n []).take i)).length+1 from(dn [.e (.a (.a (.a J0 J1) J2) J3) J4,pT J5 (.a (.c (.a (.a J1 J2) J3)) (.n 1))] (.e J5 (.a (.a (.a J1 J2) J3) Y1))) hz (uT _)];exact P6) ?_;nofun;refine P0 (P4▸hF) ?_;nofun;refine P1 (by rfl) ?_;nofun;refine N4 (aJ ym) aM (dK xK) (by rw[aX,aX,gv];exact(aw [.l J0 (.n 400000)] (.t (.a J0 (.n 8)) (.n 1000000))) qS) ?_;nofun;rw[hw];exact hK (.inl rfl) (m':=z-2) ((AB [.e (.a (.a (.a J0 J1) J2) J3) J4,.e J4 (.a (.a J1 J2) (.a (.a J3 (.a J5 J6)) J7)),.e J5 Y2,pB J8 J0 Y2,.T (.c (.a (.a J1 J2) J3)) (.c J4)] (.t J8 J0)) hz jh sM (uB _ _) ‹_›) ⟨_,n,i+1,R,_,rfl,hn,bf,P5,hR,upd,by exact(uk [.e (.a (.a (.a J0 J1) J2) J3) J4,.e J4 (.a (.a J1 J2) (.a (.a J3 (.a J5 J6)) J7)),.E (.a (.c (.a (.a J1 J2) J3)) (.n 2)) (.c (.a (.a J1 J2) J8)),.e J5 Y2,pB J9 J0 Y2,.T (.c (.a (.a J1 J2) J3)) (.c J4)] (.e (.a (.a (.a J9 J1) J2) J8) J4)) hz jh hw sM (uB _ _) ‹_›⟩
  .have j4:bO [x]=[x]:=by show(if x=255 then [255,0] else [x])++[]=_;rw[if_neg pE];rfl
   have yn:=gD 0;rw[j4] at yn;have hw:=fin (w:=1) (by rw[j4];rfl);have e1: ¬ (x.toNat:Int)=255:=λe=>pE (Ml.mp (by show x.toNat=255;exact(aw [.E (.c J0) (.n 255)] (.e J0 (.n 255))) e));have sM:(bO [x]).length=1:=by rw[j4];rfl
   have FY:(bO ((outs.getD n []).take (i+1))).length=(bO ((outs.getD n []).take i)).length+1:=by rw[Hd,bb,sM]
   nofun;refine se (λzy=>?_) λe=>by exact((ku [.e (.a (.a (.a J0 J1) J2) J3) J4,.e J4 (.a (.a J1 J2) (.a (.a J3 (.a J5 J6)) J7)),.e J5 Y1,.no (.T (.c (.a (.a J1 J2) J3)) (.c J4))] .ff) hz jh sM e).elim
   nofun;refine nY ((bU [.e (.a (.a (.a J0 J1) J2) J3) J4] (.L (.n 0) (.c (.a (.a J1 J2) J3)))) hz) (by rw[bJ];exact yn) ?_;nofun;refine P0 (P4▸hF) ?_;nofun;refine P1 (by rfl) ?_;nofun;refine N4 (aJ ym) aM (dK xK) (by rw[aX,aX,gv];exact(aw [.l J0 (.n 400000)] (.t (.a J0 (.n 8)) (.n 1000000))) qS) ?_;nofun;rw[hw];exact hK (.inl rfl) (m':=z-1) ((dn [.e (.a (.a (.a J0 J1) J2) J3) J4,pB J5 J0 Y1,.T (.c (.a (.a J1 J2) J3)) (.c J4)] (.t J5 J0)) hz (uB _ _) ‹_›) ⟨_,n,i+1,R,_,rfl,hn,bf,P5,hR,upd,by exact(kq [.e (.a (.a (.a J0 J1) J2) J3) J4,.E (.a (.c (.a (.a J1 J2) J3)) (.n 1)) (.c (.a (.a J1 J2) J5)),pB J6 J0 Y1,.T (.c (.a (.a J1 J2) J3)) (.c J4)] (.e (.a (.a (.a J6 J1) J2) J5) J4)) hz hw (uB _ _) ‹_›⟩
 .obtain rfl:i=(outs.getD n []).length:=zV hi Hc
  rw[gR] at *
  rcases abO with⟨BJ,rfl⟩|⟨BJ,r',rfl⟩
  .have xS:z=0:=by simp only[Dx] at jh;exact(bU [.e (.a (.a (.a J0 J1) J2) J3) J4,.e J4 (.a (.a J1 J2) (.a J3 Y0))] (.e J0 Y0)) hz jh
   nofun;refine se (λe=>by exact((bU [.e (.a (.a (.a J0 J1) J2) J3) J4,.e J0 Y0,.T (.c (.a (.a J1 J2) J3)) (.c J4)] .ff) hz xS e).elim) λzy=>?_;nofun;rw[BJ] at L hR;refine q _ _ R pre (km _) hR ⟨L.fJ,λj hj=>?_,L.inj,L.mW⟩;have:=L.at' j hj;by_cases ji:j=n
   .subst ji;rw[if_pos rfl] at this;exact this
   .rw[if_neg ji] at this;exact this
  .have He:cn outs outs.length=(cn outs n++gN n++bO (outs.getD n []))++255::bY (208+n%8)::r':=by rw[hD];exact(eH _ _ _).symm
   have gD: ∀ t,(cn outs outs.length)[(cn outs n).length+(gN n).length+(bO (outs.getD n [])).length+t]?=(255::bY (208+n%8)::r')[t]?:=λt=>by have e:=BI (a:=cn outs n++gN n++bO (outs.getD n [])) (b:=255::bY (208+n%8)::r') (i:=t);rw[bb,bb] at e;rw[He];exact e
   have hn8:n%8<8:=la _ (by decide);have t8:(bY (208+n%8)).toNat=208+n%8:=ua (show 208+n%8<256 from(az [pR 8 J0 J2 J1] (.t (.a (.n 208) J0) (.n 256))) (uR _ 8));have e1:((UInt8.toNat 255:Nat):Int)=255:=rfl;have hm8:((n:Nat):Int).fmod 8=(n%8:Nat):=by rw[tw _ (by decide)];omega
   have hz9:((ar (n+1)).map λj=>PV.ref (R j)).length<1000000:=by simp;exact(au [.l J0 (.n 1000),.t (.a J1 Y1) J0] (.t (.a J1 Y1) (.n 1000000))) Ha BJ
   have g8:((8:Int) != 0&&bT 8)=ag:=rfl;simp only[fW] at jh;have BK:((((cn outs n).length+(gN n).length+(bO (outs.getD n [])).length:Nat):Int)+1).toNat=(cn outs n).length+(gN n).length+(bO (outs.getD n [])).length+1:=(dn [.e (.a (.a (.a J0 J1) J2) J3) J4,pT J5 (.a (.c (.a (.a J1 J2) J3)) (.n 1))] (.e J5 (.a (.a (.a J1 J2) J3) Y1))) hz (uT _);nofun;refine se (λzy=>?_) λe=>by exact((dn [.e (.a (.a (.a J0 J1) J2) J3) J4,.e J4 (.a (.a J1 J2) (.a J3 (.a (.a J5 Y1) Y1))),.no (.T (.c (.a (.a J1 J2) J3)) (.c J4))] .ff) hz jh e).elim
   nofun;refine nY ((bU [.e (.a (.a (.a J0 J1) J2) J3) J4] (.L (.n 0) (.c (.a (.a J1 J2) J3)))) hz) (by rw[bJ];exact gD 0) ?_;nofun;refine nY ((bU [.e (.a (.a (.a J0 J1) J2) J3) J4] (.L (.n 0) (.a (.c (.a (.a J1 J2) J3)) (.n 1)))) hz) (by rw[BK];exact gD 1) ?_;rw[t8];nofun;refine nY ((bU [.e (.a (.a (.a J0 J1) J2) J3) J4] (.L (.n 0) (.a (.c (.a (.a J1 J2) J3)) (.n 1)))) hz) (by rw[BK];exact gD 1) ?_;rw[t8];nofun;have hu: ∀ z,(λj=>if j=n+1 then h'.length else R j) z=if z=n+1 then h'.length else R z:=λzy=>rfl
   have P7:(gN (n+1)).length=2:=by unfold gN;rw[if_pos (zW _)];rfl
   have qR:cn outs (n+1)=cn outs n++gN n++bO (outs.getD n []):=by rw[ya,eH];rfl
   have dO:((((cn outs n).length+(gN n).length+(bO (outs.getD n [])).length:Nat):Int)+2)=(((cn outs (n+1)).length+(gN (n+1)).length+(bO ((outs.getD (n+1) []).take 0)).length:Nat):Int):=by rw[qR,P7,bb,bb];show _=((_+2+0:Nat):Int);exact az [] (.E (.a (.c (.a (.a J0 J1) J2)) (.n 2)) (.c (.a (.a (.a (.a J0 J1) J2) Y2) Y0)))
   rw[dO,show(n:Int)+1=((n+1:Nat):Int) by exact aw [] (.E (.a (.c J0) (.n 1)) (.c (.a J0 Y1)))];refine hK (.inr rfl) (m':=z-2) ((kq [.e (.a (.a (.a J0 J1) J2) J3) J4,.e J4 (.a (.a J1 J2) (.a J3 (.a (.a J5 Y1) Y1))),pB J6 J0 Y2,.T (.c (.a (.a J1 J2) J3)) (.c J4)] (.t J6 J0)) hz jh (uB _ _) ‹_›) ⟨_,n+1,0,λj=>if j=n+1 then h'.length else R j,_,rfl,BJ,cz _,eX (pre_app pre) (km _),λj hj=>?_,⟨(bF (aJ hF)).trans ?_,λj hj=>?_,λi j hi hj e=>?_,λj hj=>?_⟩,?_⟩
   .rw[hu];split
    .have:=pre.length_le;exact(au [.t (.a J0 Y1) J1] (.l J0 J1)) Hb
    .exact hR j ((au [.t J0 (.a (.a J1 Y1) Y1),.no (.e J0 (.a J1 Y1))] (.t J0 (.a J1 Y1))) hj ‹_›)
   .rw[dZ (n:=n+1),b8]
    congr 3
    .refine gF λj hj=>?_
     rw[fh] at hj;rw[if_neg ((au [.t J0 (.a J1 Y1)] (.no (.e J0 (.a J1 Y1)))) hj)]
    .simp
   .by_cases ji:j=n+1
    .subst ji;rw[if_pos rfl,if_pos rfl];exact bj aM ((au [.t (.a J0 Y1) J1] (.no (.e (.a J0 Y1) J1))) Hb)
    .rw[if_neg ji,if_neg ji]
     have iW:=L.at' j ((au [.t J0 (.a (.a J1 Y1) Y1),.no (.e J0 (.a J1 Y1))] (.t J0 (.a J1 Y1))) hj ji);have hnf:=L.mW j ((au [.t J0 (.a (.a J1 Y1) Y1),.no (.e J0 (.a J1 Y1))] (.t J0 (.a J1 Y1))) hj ji);have:(if j=n then cC (outs.getD n []) else cC (outs.getD j []))=cC (outs.getD j []):=by
      split
      .rename_i e;subst e;rfl
      .rfl
     rw[this] at iW;exact bj (aJ iW) (eI hnf)
   .have P8: ∀ j,j<n+1->R j<h'.length:=λj hj=>bh (L.at' j hj)
    by_cases h1:i=n+1 <;> by_cases h2:j=n+1
    .exact(az [.e J0 (.a J1 Y1),.e J2 (.a J1 Y1)] (.e J0 J2)) h1 h2
    .rw[if_pos h1,if_neg h2] at e;have:=P8 j ((au [.t J0 (.a (.a J1 Y1) Y1),.no (.e J0 (.a J1 Y1))] (.t J0 (.a J1 Y1))) hj h2);exact(aQ [.e J0 J1,.t J1 J0] (.e J2 J3)) e this
    .rw[if_neg h1,if_pos h2] at e;have:=P8 i ((au [.t J0 (.a (.a J1 Y1) Y1),.no (.e J0 (.a J1 Y1))] (.t J0 (.a J1 Y1))) hi h1);exact(aQ [.e J0 J1,.t J0 J1] (.e J2 J3)) e this
    .rw[if_neg h1,if_neg h2] at e;exact L.inj i j ((au [.t J0 (.a (.a J1 Y1) Y1),.no (.e J0 (.a J1 Y1))] (.t J0 (.a J1 Y1))) hi h1) ((au [.t J0 (.a (.a J1 Y1) Y1),.no (.e J0 (.a J1 Y1))] (.t J0 (.a J1 Y1))) hj h2) e
   .split
    .exact(au [.t (.a J0 Y1) J1] (.no (.e J1 (.a J0 Y1)))) Hb
    .exact L.mW j ((au [.t J0 (.a (.a J1 Y1) Y1),.no (.e J0 (.a J1 Y1))] (.t J0 (.a J1 Y1))) hj ‹_›)
   .rw[qR,P7,bb,bb];show _+_+2+0=_;exact(kq [.e (.a (.a (.a J0 J1) J2) J3) J4,.e J4 (.a (.a J1 J2) (.a J3 (.a (.a J5 Y1) Y1))),pB J6 J0 Y2,.T (.c (.a (.a J1 J2) J3)) (.c J4)] (.e (.a (.a (.a J6 (.a (.a J1 J2) J3)) Y2) Y0) J4)) hz jh (uB _ _) ‹_›
end
noncomputable def Hf (c:Nat->Nat) (sy:List Int) (d:Int):List Bool:=pw c sy (aG d)++if 0<aG d/\aG d<16 then bz (jI d (aG d)).toNat (aG d) else []
theorem P9(v s j:Nat)(h:j<s):v/2^(s-(j+1))=2*(v/2^(s-j))+v/2^(s-1-j)%2:=by
 have e1:s-(j+1)=s-1-j:=(bU [pB J0 J1 (.a J2 Y1),pB J4 J1 Y1,pB J3 J4 J2] (.e J0 J3)) (uB _ _) (uB _ _) (uB _ _);have e2:2^(s-j)=2^(s-1-j)*2:=by rw[<- lZ];congr 1;exact(bU [.t J0 J1,pB J2 J1 J0,pB J4 J1 Y1,pB J3 J4 J0] (.e J2 (.a J3 Y1))) h (uB _ _) (uB _ _) (uB _ _)
 rw[e1,e2,<- K6,oN]
theorem Qa(v:Nat):bI (decide (v%2=1))= .int ((v%2:Nat):Int):=by rcases DD v with h|h <;> rw[h] <;> rfl
theorem Qb(h:j<s):(bz v s).drop j=decide (v/2^(s-1-j)%2=1)::(bz v s).drop (j+1):=by
 have hl:j<(bz v s).length:=by rw[gv];exact h
 rw[JT hl];have:=PY v s j h;rw[eQ hl] at this;rw[bD this]
theorem Hg(h:d≠0):0<aG d/\2^(aG d-1)<=d.natAbs/\d.natAbs<2^aG d:=by
 have h0:d.natAbs≠0:=(cM [.no (.E Q0 (.n 0)),pA J0 Q0] (.no (.e J0 Y0))) h (uA _);have hc:aG d=d.natAbs.log2+1:=by unfold aG;rw[if_neg h0]
 rw[hc];exact⟨by exact zW _,by rw[Nat.add_sub_cancel];exact Nat.log2_self_le h0,Ld⟩
theorem ai0{κ:Type}[DecidableEq κ](a:κ)(l:List (κ×PV)):(l.any λe=>e.1==a)=(l.lookup a).isSome:=uL a l
section
variable{k bt va:Nat}{b:Bool}{h:PH}{Q:PV->PH->Prop}{c:Nat->Nat}{sy:List Int}
theorem Qc:(h.set k o).set k o'=h.set k o':=jO ..
theorem abP(O:ek c sy)(hd: -32767<=d/\d<=32768)(hs:(aG d:Int)∈sy)(hb:h[bt]?=aa (.list ((Hf c sy d++rest).map bI)))(hc:h[va]?=aa (.dict (KD KP (jg (ly c sy)))))
  (q:Q (.int d) (h.set bt (.list (rest.map bI)))):Wh ((run T (k+1) b).call 42 [.ref bt,.ref va]) h Q:=by
 obtain⟨cd,L,hm⟩:=O.code hs;obtain⟨l1,l2,l3,l4⟩:=O.mem hm;have abQ:pw c sy (aG d)=bz cd L:=by unfold pw;rw[O.look hm]
 generalize hX:(if 0<aG d/\aG d<16 then bz (jI d (aG d)).toNat (aG d) else [])=X;have hE:Hf c sy d=bz cd L++X:=by unfold Hf;rw[abQ,hX]
 rw[hE] at hb;have d8:va≠bt:=cy hc hb rfl;refine bc (Wc _ _ _ _ _) ?_;nofun;refine xI (λz st=>iR λ(h':PH) (j:Nat)=>jX (st=⟨h',[aa (.ref bt),aa (.ref va),aa (.int ((cd/2^(L-j):Nat):Int)),aa (.int (j:Nat)),ae,ae,ae,ae]⟩) (j<=L) (z=L-j) (h'=h.set bt (.list (((bz cd L).drop j++X++rest).map bI)))) (m:=L) ?_ ?_
 .refine⟨h,0,by rw[DM,oM l3];rfl,cz _,rfl,?_⟩
  rw[tG];refine(rz λi=>?_);rw[wb];by_cases e:bt=i
  .subst e;rw[if_pos rfl,if_pos (bh hb),hb]
  .rw[if_neg e]
 rintro z _ KC hK ⟨h',j,rfl,hj,rfl,rfl⟩;have Hh:(h.set bt (.list (((bz cd L).drop j++X++rest).map bI)))[bt]?=aa (.list (((bz cd L).drop j++X++rest).map bI)):=bF hb;have yl:(h.set bt (.list (((bz cd L).drop j++X++rest).map bI)))[va]?=aa (.dict (KD KP (jg (ly c sy)))):=bj hc (eI d8);have abR:((KD KP (jg (ly c sy))).any λe=>gX e.1 (.tup [.int (j:Nat),.int ((cd/2^(L-j):Nat):Int)]))=(@lW (Int×Int) Int instBEqOfDecidableEq ((j:Int),((cd/2^(L-j):Nat):Int)) (ly c sy)).isSome:=by refine(Bd iA ((j:Int),((cd/2^(L-j):Nat):Int)) _).trans ?_;rw[uL];unfold jg;rw[Br];cases(@lW (Int×Int) Int instBEqOfDecidableEq ((j:Int),((cd/2^(L-j):Nat):Int)) (ly c sy)) <;> rfl
 nofun;refine NV yl (eZ iA ((j:Int),((cd/2^(L-j):Nat):Int)) _) ?_;rw[abR];rcases jt j L with bf|Hc
 .rw[Vk (l4 · j bf)]
  have cH:(bz cd L).drop j++X++rest=decide (cd/2^(L-1-j)%2=1)::((bz cd L).drop (j+1)++X++rest):=by rw[Qb bf];rfl
  rw[cH,gG,Qa] at Hh ⊢;have g2:(bT 2||bT ((cd/2^(L-j):Nat):Int))=ag:=rfl;nofun;refine N3 Hh ?_;nofun;rw[Qc,show(2:Int)*((cd/2^(L-j):Nat):Int)+((cd/2^(L-1-j)%2:Nat):Int)=((cd/2^(L-(j+1)):Nat):Int) by rw[P9 cd L j bf];exact(aQ [pR 2 J1 J3 J2] (.E (.a (.m 2 (.c J0)) (.c J1)) (.c (.a (.m 2 J0) J1)))) (uR _ 2),show(j:Int)+1=((j+1:Nat):Int) by exact aw [] (.E (.a (.c J0) (.n 1)) (.c (.a J0 Y1)))];exact hK (.inl rfl) (m':=L-(j+1)) ((aQ [.l J0 J1,.t J0 J1,pB J2 J1 (.a J0 Y1),pB J3 J1 J0] (.t J2 J3)) hj bf (uB _ _) (uB _ _)) ⟨_,j+1,rfl,bf,rfl,rfl⟩
 .obtain rfl:j=L:=zV hj Hc
  rw[Nat.sub_self,Nat.pow_zero,Nat.div_one] at *
  rw[MN hm];have d9:dU (KD KP (jg (ly c sy))) (.tup [.int (j:Nat),.int (cd:Nat)])=aa (.int (aG d:Nat)):=by refine(jH iA ((j:Int),(cd:Int)) _).trans ?_;unfold jg;rw[Br,MN hm];rfl
  rw[v8 (by rw[gv];exact aS _),oH] at Hh ⊢;rw[v8 (by rw[gv];exact aS _),oH] at yl;nofun;refine pf yl (eZ iA ((j:Int),(cd:Int)) _) d9 ?_;nofun;have sD:d.natAbs<=32768:=(cM [.an (.L (.n (-32767)) Q0) (.L Q0 (.n 32768)),pA J0 Q0] (.l J0 (.n 32768))) hd (uA _);have jd:aG d<=16:=Pg (show _<65536 from(aw [.l J0 (.n 32768)] (.t J0 (.n 65536))) sD);refine fF (λmI=>?_) λmI=>?_
  .have hd2:d=32768:=by
    have h0:d≠0:=λe=>by rw[e] at mI;exact absurd mI (by decide)
    have:=(Hg h0).2.1;rw[show aG d=16 from(aw [.E (.c J0) (.n 16)] (.e J0 (.n 16))) mI] at this;have:32768<=d.natAbs:=this;exact(cM [.an (.L (.n (-32767)) Q0) (.L Q0 (.n 32768)),.l J0 (.n 32768),pA J0 Q0,.l (.n 32768) J0] (.E Q0 (.n 32768))) hd sD (uA _) ‹_›
   have Hi:X=[]:=by rw[<- hX,if_neg ((aw [.E (.c J0) (.n 16)] (.no (.an (.t Y0 J0) (.t J0 (.n 16))))) mI)]
   subst Hi;nofun;rw[hd2] at q;exact q
  .have abS:aG d<16:=(aw [.l J0 (.n 16),.no (.E (.c J0) (.n 16))] (.t J0 (.n 16))) jd mI
   have Hi:X=bz (jI d (aG d)).toNat (aG d):=by
    rw[<- hX];by_cases h0:0<aG d
    .rw[if_pos ⟨h0,abS⟩]
    .rw[if_neg (λh=>h0 h.1),show aG d=0 from(aw [.no (.t Y0 J0)] (.e J0 Y0)) h0];rfl
   have hV:(jI d (aG d)).toNat<2^aG d:=by
    by_cases h0:0<aG d
    .obtain⟨b1,b2⟩:=Gd h0
     have e2:((2^aG d:Nat):Int)=2^aG d:=by rw[lU];rfl
     have:((jI d (aG d)).toNat:Int)<((2^aG d:Nat):Int):=by rw[e2];exact(U5 [.L (.n 0) Q0,.T Q0 Q1,pT J0 Q0] (.T (.c J0) Q1)) b1 b2 (uT _)
     exact_mod_cast this
    .have hd0:d=0:=oy λh=>h0 (Hg h).1
     subst hd0;decide
   generalize hVe:(jI d (aG d)).toNat=V at *
   have gr:d7 0 ((aG d:Nat):Int) 1=ag:=gK ((aw [.l J0 (.n 16),.no (.E (.c J0) (.n 16))] (.an (.L (.n 0) (.c J0)) (.L (.c J0) (.n 1000000)))) jd mI);subst Hi;nofun;refine iw (n:=aG d) (λi st=> ∃ (e6:Option PV),st=⟨h.set bt (.list (((bz V (aG d)).drop i++rest).map bI)),[aa (.ref bt),aa (.ref va),aa (.int (cd:Nat)),aa (.int (j:Nat)),aa (.int (aG d:Nat)),aa (.int ((V/2^(aG d-i):Nat):Int)),e6,ae]⟩) rfl ⟨_,by rw[DM,oM hV];rfl⟩ ?_ ?_
   .rintro i _ KC hK hi ⟨e6,rfl⟩
    have xj:(h.set bt (.list (((bz V (aG d)).drop i++rest).map bI)))[bt]?=aa (.list (((bz V (aG d)).drop i++rest).map bI)):=bF hb;have cH:(bz V (aG d)).drop i++rest=decide (V/2^(aG d-1-i)%2=1)::((bz V (aG d)).drop (i+1)++rest):=by rw[Qb hi];rfl
    rw[cH,gG,Qa] at xj ⊢;have g2:(bT 2||bT ((V/2^(aG d-i):Nat):Int))=ag:=rfl;nofun;refine N3 xj ?_;nofun;rw[Qc,show(2:Int)*((V/2^(aG d-i):Nat):Int)+((V/2^(aG d-1-i)%2:Nat):Int)=((V/2^(aG d-(i+1)):Nat):Int) by rw[P9 V (aG d) i hi];exact(aQ [pR 2 J1 J3 J2] (.E (.a (.m 2 (.c J0)) (.c J1)) (.c (.a (.m 2 J0) J1)))) (uR _ 2)];exact hK (.inl rfl) ⟨_,rfl⟩
   .rintro _ ⟨e6,rfl⟩
    rw[v8 (by rw[gv];exact aS _),oH,Nat.sub_self,Nat.pow_zero,Nat.div_one];by_cases h0:d=0
    .subst h0
     have xU:((aG 0:Nat):Int)=0:=rfl;have hV0:V=0:=by have:V<1:=hV;exact(aw [.t J0 Y1] (.e J0 Y0)) this
     subst hV0;nofun;exact q
    .obtain⟨k1,k2,k3⟩:=Hg h0
     have BK:(2:Int)^((aG d:Int)-1).toNat=((2^(aG d-1):Nat):Int):=by rw[show((aG d:Int)-1).toNat=aG d-1 from(az [.t Y0 J0,pT J1 (.s (.c J0) (.n 1)),pB J2 J0 Y1] (.e J1 J2)) k1 (uT _) (uB _ _),lU];rfl
     have hp2:(2:Int)^(aG d:Int).toNat=((2^aG d:Nat):Int):=by rw[bJ,lU];rfl
     have sx:2^aG d=2*2^(aG d-1):=by rw[<- Nat.pow_succ'];congr 1;exact(au [.t Y0 J0,pB J1 J0 Y1] (.e J0 (.a J1 Y1))) k1 (uB _ _)
     have BL:(V:Int)=if d<0 then d+((2^aG d:Nat):Int)-1 else d:=by obtain⟨b1,b2⟩:=Gd k1;rw[<- hVe,vU b1];unfold jI;rw[lU];rfl
     have g3:(eC ((aG d:Int)-1)&&bT 2)=ag:=by rw[show(aG d:Int)-1=((aG d-1:Nat):Int) by exact(au [.t Y0 J0,pB J1 J0 Y1] (.E (.s (.c J0) (.n 1)) (.c J1))) k1 (uB _ _),qO (by exact(au [.l J0 (.n 16),.no (.E (.c J0) (.n 16)),.t Y0 J0,pB J1 J0 Y1] (.l J1 (.n 1000000))) jd mI k1 (uB _ _))];rfl
     have g4:(eC (aG d:Int)&&bT 2)=ag:=by rw[qO ((aw [.l J0 (.n 16),.no (.E (.c J0) (.n 16))] (.l J0 (.n 1000000))) jd mI)];rfl
     nofun;rw[BK];refine fF (λcv=>?_) λcv=>?_
     .have oh:(V:Int)=d:=by
       rw[BL] at cv ⊢
       split
       .rename_i yo;rw[if_pos yo] at cv;exact(rX [.l J0 J1,.e J2 (.m 2 J0),.L (.c J0) (.s (.a Q0 (.c J2)) (.n 1)),.T Q0 (.n 0),pA J1 Q0] (.E (.s (.a Q0 (.c J2)) (.n 1)) Q0)) k2 sx cv yo (uA _)
       .rfl
      rw[<- oh] at q;nofun
     .have oh:(V:Int)-((2^aG d:Nat):Int)+1=d:=by
       rw[BL] at cv ⊢
       split
       .exact cM [] (.E (.a (.s (.s (.a Q0 (.c J0)) (.n 1)) (.c J0)) (.n 1)) Q0)
       .rename_i yo;rw[if_neg yo] at cv;exact(rX [.l J0 J1,.no (.L (.c J0) Q0),.no (.T Q0 (.n 0)),pA J1 Q0] (.E (.a (.s Q0 (.c J2)) (.n 1)) Q0)) k2 cv yo (uA _)
      rw[<- hp2] at oh;rw[<- oh] at q;nofun
end
section
variable{k rw ht w x y:Nat}{b fi:Bool}{kd mid:Int}{R len:Nat->Nat}{V:Nat->Nat->Int}{h:PH}{Q:PV->PH->Prop}
theorem abT(h0:h[rw]?=aa (.list ((ar ht).map λy=> .ref (R y))))(h1: ∀ y,y<ht->h[R y]?=aa (.list ((ar (len y)).map λx=> .int (V y x))))(hy:y<ht)(hx:x<w)(hl:x<=len y)(eY:0<y->len (y-1)=w)(vb:fi=ak->0<y)(cj:1<=kd/\kd<=7)
  (q: ∀ h',h<+:h'->Q (.int (fG V kd mid fi x y)) h'):Wh ((run T (k+1) b).call 43 [.ref rw,.int (x:Nat),.int (y:Nat),.int kd,.bool fi,.int mid]) h Q:=by
 refine bc (Wd _ _ _ _ _ _ _ _ _) ?_;have gy:((ar ht).map λy=>PV.ref (R y))[(y:Int).toNat]?=aa (.ref (R y)):=by rw[bJ];exact b0 hy
 have g2:((2:Int) != 0&&bT 2)=ag:=rfl;nofun;induction fi using dD with
 |true=>
  nofun;rcases rB x with eF|eF
  .subst eF
   nofun;exact q _ fg
  .nofun
   refine bS h0 (cR _) gy ?_;nofun;refine bS (v:= .int (V y (x-1))) (h1 y hy) ((aw [.t Y0 J0] (.L (.n 0) (.s (.c J0) (.n 1)))) eF) (by rw[show((x:Int)-1).toNat=x-1 from(az [.t Y0 J0,pT J1 (.s (.c J0) (.n 1)),pB J2 J0 Y1] (.e J1 J2)) eF (uT _) (uB _ _)];exact b0 ((az [.l J0 J1,.t Y0 J0,pB J2 J0 Y1] (.t J2 J1)) hl eF (uB _ _))) ?_;nofun;have e:fG V kd mid ag x y=V y (x-1):=by unfold fG;rw[if_neg (dK eF)];rfl
   rw[e] at q;exact q _ fg
 |false=>
  have eu:=vb rfl;have kE:=eY eu;clear eY vb;have Hj:((ar ht).map λy=>PV.ref (R y))[((y:Int)-1).toNat]?=aa (.ref (R (y-1))):=by rw[show((y:Int)-1).toNat=y-1 from(az [pT J0 (.s (.c J1) (.n 1)),pB J2 J1 Y1] (.e J0 J2)) (uT _) (uB _ _)];exact b0 ((az [.t J0 J1,pB J2 J0 Y1] (.t J2 J1)) hy (uB _ _))
  nofun;rcases rB x with eF|eF
  .subst eF
   nofun;refine bS h0 ((aw [.t Y0 J0] (.L (.n 0) (.s (.c J0) (.n 1)))) eu) Hj ?_;nofun;refine bS (v:= .int (V (y-1) 0)) (h1 (y-1) ((az [.t J0 J1,pB J2 J0 Y1] (.t J2 J1)) hy (uB _ _))) (bL 0 0 [] [] [] (.L (.n 0) (.n 0))) (b0 (by show 0<_;exact(au [.e J0 J1,.t Y0 J1] (.t Y0 J0)) kE hx)) ?_;nofun;exact q _ fg
  .have e:fG V kd mid ak x y=FP kd (V y (x-1)) (V (y-1) x) (V (y-1) (x-1)):=by unfold fG;rw[if_neg (dK eF)];rfl
   rw[e] at q;nofun;refine bS h0 (cR _) gy ?_;nofun;refine bS (v:= .int (V y (x-1))) (h1 y hy) ((aw [.t Y0 J0] (.L (.n 0) (.s (.c J0) (.n 1)))) eF) (by rw[show((x:Int)-1).toNat=x-1 from(az [.t Y0 J0,pT J1 (.s (.c J0) (.n 1)),pB J2 J0 Y1] (.e J1 J2)) eF (uT _) (uB _ _)];exact b0 ((az [.l J0 J1,.t Y0 J0,pB J2 J0 Y1] (.t J2 J1)) hl eF (uB _ _))) ?_;nofun;refine bS h0 ((aw [.t Y0 J0] (.L (.n 0) (.s (.c J0) (.n 1)))) eu) Hj ?_;nofun;refine bS (v:= .int (V (y-1) x)) (h1 (y-1) ((az [.t J0 J1,pB J2 J0 Y1] (.t J2 J1)) hy (uB _ _))) ((aw [.t Y0 J0] (.L (.n 0) (.c J0))) eF) (by rw[bJ];exact b0 ((az [.t J0 J1,.e J2 J1] (.t J0 J2)) hx kE)) ?_;nofun;refine bS h0 ((aw [.t Y0 J0] (.L (.n 0) (.s (.c J0) (.n 1)))) eu) Hj ?_;nofun;refine bS (v:= .int (V (y-1) (x-1))) (h1 (y-1) ((az [.t J0 J1,pB J2 J0 Y1] (.t J2 J1)) hy (uB _ _))) ((aw [.t Y0 J0] (.L (.n 0) (.s (.c J0) (.n 1)))) eF) (by rw[show((x:Int)-1).toNat=x-1 from(az [.t Y0 J0,pT J1 (.s (.c J0) (.n 1)),pB J2 J0 Y1] (.e J1 J2)) eF (uT _) (uB _ _)];exact b0 ((aQ [.t J0 J1,.e J2 J1,.t Y0 J0,pB J3 J0 Y1] (.t J3 J2)) hx kE eF (uB _ _))) ?_;nofun;generalize V y (x-1)=l at *
   generalize V (y-1) x=t at *
   generalize V (y-1) (x-1)=c at *
   have hk:kd=1\/kd=2\/kd=3\/kd=4\/kd=5\/kd=6\/kd=7:=(cY [.an (.L (.n 1) Q0) (.L Q0 (.n 7))] (.o (.E Q0 (.n 1)) (.o (.E Q0 (.n 2)) (.o (.E Q0 (.n 3)) (.o (.E Q0 (.n 4)) (.o (.E Q0 (.n 5)) (.o (.E Q0 (.n 6)) (.E Q0 (.n 7))))))))) cj;rcases hk with rfl|rfl|rfl|rfl|rfl|rfl|rfl
   .nofun
    refine bS (v:= .int l) aM (by decide) rfl ?_;nofun;exact q _ (bH _ _)
   .nofun
    refine bS (v:= .int t) aM (by decide) rfl ?_;nofun;exact q _ (bH _ _)
   .nofun
    refine bS (v:= .int c) aM (by decide) rfl ?_;nofun;exact q _ (bH _ _)
   all_goals (nofun)
   all_goals exact q _ fg
end
theorem abU(hs:0<=s/\s<65536):(t+fH s t).fmod 65536=s:=by
 unfold fH;rw[tw _ (by decide),tw _ (by decide)]
 split <;> (first|exact(bL 0 6 [] [_,_,_,_,_,_] [.an (.L (.n 0) Q0) (.T Q0 (.n 65536)),rW 65536 Q3 Q4 (.s Q0 Q2),rW 65536 Q1 (.v 5) (.a Q2 (.s Q3 (.n 65536)))] (.E Q1 Q0)) hs (ur _ 65536) (ur _ 65536)|exact(bL 0 6 [] [_,_,_,_,_,_] [.an (.L (.n 0) Q0) (.T Q0 (.n 65536)),rW 65536 Q3 Q4 (.s Q0 Q2),rW 65536 Q1 (.v 5) (.a Q2 Q3)] (.E Q1 Q0)) hs (ur _ 65536) (ur _ 65536))
noncomputable def fU (i pc p:Nat):Nat:=i+if p<pc then 1 else 0
noncomputable def iE (V:Nat->Nat->Nat->Int) (kd mid:Int) (m w B i pc j:Nat):List (Nat×Int):=fu V kd mid m w B j (min B (i-j*B))++if j=i/B then(ec V kd mid m w (j*B/w) i).take pc else []
structure RD (V:Nat->Nat->Nat->Int) (kd mid:Int) (m w ht B J:Nat) (C:Nat->Nat->Nat) (SY:Nat->List Int) (h0:PH) (L:Nat->Nat) (pz:Nat) (Pl:Nat->Nat) (Rw:Nat->Nat->Nat) (i pc:Nat) (h:PH):Prop where
 vc:h[pz]?=aa (.list ((ar m).map λp=> .ref (Pl p)))
 vd: ∀ p,p<m->h[Pl p]?=aa (.list ((ar ht).map λy=> .ref (Rw p y)))
 ve: ∀ p y,p<m->y<ht->h[Rw p y]?=aa (.list ((ar (min w (fU i pc p-y*w))).map λx=> .int (V p y x)))
 lo: ∀ p y,p<m->y<ht->h0.length<=Rw p y/\Rw p y≠pz/\ ∀ p',p'<m->Rw p y≠Pl p'
 sN:h0.length<=pz/\ ∀ p,p<m->h0.length<=Pl p
 inj: ∀ p y p' y',p<m->y<ht->p'<m->y'<ht->Rw p y=Rw p' y'->p=p'/\y=y'
 kp:dq (λz=> ∃ j,j<J/\z=L j) h0 h
 vf: ∀ j,j<J->h[L j]?=aa (.list (((fT ((fu V kd mid m w B j B).flatMap (gM C SY))).drop ((iE V kd mid m w B i pc j).flatMap (gM C SY)).length).map bI))
section
variable{V:Nat->Nat->Nat->Int}{kd mid:Int}{m w ht B J:Nat}{C:Nat->Nat->Nat}{SY:Nat->List Int}{h0 h:PH}{L:Nat->Nat}{pz:Nat}{Pl:Nat->Nat}{Rw:Nat->Nat->Nat}{i pc:Nat}
theorem abV(hB:0<B)(hm:(ec V kd mid m w (j*B/w) i).length=m):iE V kd mid m w B i m j=iE V kd mid m w B (i+1) 0 j:=by
 have iG:=oN i B;have je:=la i hB;have hc:B*(i/B)=i/B*B:=dt _ _;unfold iE;rw[zM,show(if j=(i+1)/B then [] else([]:List (Nat×Int)))=[] by split <;> rfl,jr];by_cases e:j=i/B
 .rw[if_pos e,nj (nr hm)]
  have h1:i-j*B=i%B:=by rw[e];exact(kq [.e (.a J0 J1) J2,.e J3 J4,.e J6 J0,pB J5 J2 J6] (.e J5 J1)) iG e (dt _ _) (uB _ _)
  have h2:i+1-j*B=i%B+1:=by rw[e];exact(kq [.e (.a J0 J1) J2,.e J3 J4,.e J6 J0,pB J5 (.a J2 Y1) J6] (.e J5 (.a J1 Y1))) iG e (dt _ _) (uB _ _)
  rw[h1,h2,zT ((dn [.e (.a J0 J1) J2,.t J1 J3,.e J4 J5] (.l J1 J3)) iG je e),zT ((dn [.e (.a J0 J1) J2,.t J1 J3,.e J4 J5] (.l (.a J1 Y1) J3)) iG je e),Bi];congr 2;rw[e];exact(dn [.e (.a J0 J1) J2,.e J3 J4,.e J5 J0] (.e J2 (.a J5 J1))) iG e (dt _ _)
 .rw[if_neg e,jr]
  congr 1;rcases jt j (i/B) with h|h
  .have:(j+1)*B<=i/B*B:=lX _ h
   rw[fN] at this;exact(uk [.t Y0 J0,.e (.a J1 J2) J3,.l (.a J4 J0) J5,.e J5 J1,pB J7 J3 J4,pM J6 J0 J7,pB J9 (.a J3 Y1) J4,pM J8 J0 J9] (.e J6 J8)) hB iG this (dt _ _) (uB _ _) (uM _ _) (uB _ _) (uM _ _)
  .have:(i/B+1)*B<=j*B:=lX _ ((au [.no (.e J0 J1),.l J1 J0] (.l (.a J1 Y1) J0)) e h)
   rw[fN] at this;exact(uk [.t Y0 J0,.e (.a J1 J2) J3,.t J2 J0,.l (.a J4 J0) J5,.e J4 J1,pB J7 J3 J5,pM J6 J0 J7,pB J9 (.a J3 Y1) J5,pM J8 J0 J9] (.e J6 J8)) hB iG je this (dt _ _) (uB _ _) (uM _ _) (uB _ _) (uM _ _)
theorem RD.next(R:RD V kd mid m w ht B J C SY h0 L pz Pl Rw i m h)(hB:0<B):RD V kd mid m w ht B J C SY h0 L pz Pl Rw (i+1) 0 h:=by
 refine⟨R.vc,R.vd,λp y hp hy=>?_,R.lo,R.sN,R.inj,R.kp,λj hj=>?_⟩
 .have:=R.ve p y hp hy
  unfold fU at this ⊢;rw[if_pos hp] at this;rw[if_neg (aw [] (.no (.t J0 Y0)))];exact this
 .have:=R.vf j hj
  rw[abV hB ((aX _).trans fV)] at this;exact this
theorem abW(f:Nat×Int->List Bool)(hB:0<B)(hp:p<m): ∃ rest,fT ((fu V kd mid m w B (i/B) B).flatMap f)=(iE V kd mid m w B i p (i/B)).flatMap f++(f (p,dE V kd mid w B p i)++rest)/\
  (iE V kd mid m w B i (p+1) (i/B)).flatMap f=(iE V kd mid m w B i p (i/B)).flatMap f++f (p,dE V kd mid w B p i):=by
 have iG:=oN i B;have je:=la i hB;have hc:B*(i/B)=i/B*B:=dt _ _;have h1:i-i/B*B=i%B:=(bU [.e (.a J0 J1) J2,.e J4 J0,pB J3 J2 J4] (.e J3 J1)) iG (dt _ _) (uB _ _);have abX: ∀ c,c<=B-> ∃ r,fu V kd mid m w B (i/B) B=fu V kd mid m w B (i/B) c++r:=λc sv=>by obtain⟨d,rfl⟩: ∃ d,B=c+d:=⟨B-c,by exact(az [.l J0 J1,pB J2 J1 J0] (.e J1 (.a J0 J2))) sv (uB _ _)⟩;unfold fu;rw[List.range_add,jM];exact⟨_,rfl⟩
 obtain⟨r,hr⟩:=abX (i%B+1) je;have hi:i/B*B+i%B=i:=(aQ [.e (.a J0 J1) J2,.e J3 J0] (.e (.a J3 J1) J2)) iG (dt _ _);have hu:(ec V kd mid m w (i/B*B/w) i).take (p+1)=(ec V kd mid m w (i/B*B/w) i).take p++[(p,dE V kd mid w B p i)]:=OH hp;have hu2:ec V kd mid m w (i/B*B/w) i=(ec V kd mid m w (i/B*B/w) i).take p++[(p,dE V kd mid w B p i)]++(ec V kd mid m w (i/B*B/w) i).drop (p+1):=by rw[<- hu,oC]
 unfold iE;rw[if_pos rfl,if_pos rfl,h1,zT (fY je),hu,hr,Bi,hi];unfold fT;generalize hrp:cX _ ag=rp;refine⟨((ec V kd mid m w (i/B*B/w) i).drop (p+1)).flatMap f++r.flatMap f++rp,?_,?_⟩
 .conv=>lhs;rw[hu2]
  simp only[jM,eH,zI,KH,oH,jr]
 .simp only[jM,eH,zI,KH,oH,jr]
end
section
variable{V:Nat->Nat->Nat->Int}{kd mid:Int}{m w ht B J:Nat}{C:Nat->Nat->Nat}{SY:Nat->List Int}{h0 h:PH}{L:Nat->Nat}{pz:Nat}{Pl:Nat->Nat}{Rw:Nat->Nat->Nat}{i pc:Nat}
theorem RD.mono{h':PH}(R:RD V kd mid m w ht B J C SY h0 L pz Pl Rw i pc h)(p:h<+:h'):RD V kd mid m w ht B J C SY h0 L pz Pl Rw i pc h':=⟨aI p R.vc,λq hq=>aI p (R.vd q hq),λq y hq hy=>aI p (R.ve q y hq hy),R.lo,R.sN,R.inj,⟨cG R.kp.len p.length_le,λz o n e=>aI p (R.kp.get z o n e)⟩,λj hj=>aI p (R.vf j hj)⟩
theorem RD.step(R:RD V kd mid m w ht B J C SY h0 L pz Pl Rw i p h)(hB:0<B)(hp:p<m)(hw:0<w)(hi:i<w*ht)(hj:i/B<J)(hL: ∀ j,j<J->L j<h0.length)(abY: ∀ a b,a<J->b<J->L a=L b->a=b)
  (hr:fT ((fu V kd mid m w B (i/B) B).flatMap (gM C SY))=(iE V kd mid m w B i p (i/B)).flatMap (gM C SY)++(gM C SY (p,dE V kd mid w B p i)++rest)) (Hk:(iE V kd mid m w B i (p+1) (i/B)).flatMap (gM C SY)=(iE V kd mid m w B i p (i/B)).flatMap (gM C SY)++gM C SY (p,dE V kd mid w B p i)):
  RD V kd mid m w ht B J C SY h0 L pz Pl Rw i (p+1) ((h.set (L (i/B)) (.list (rest.map bI))).set (Rw p (i/w)) (.list ((ar (min w (fU i p p-i/w*w))).map (λx=> .int (V p (i/w) x))++[.int (V p (i/w) (i%w))]))):=by
 have hy:i/w<ht:=DH hi;have iG:=oN i w;have je:=la i hw;have hc:w*(i/w)=i/w*w:=dt _ _;have yq:=hL _ hj;obtain⟨lo1,sN,lo3⟩:=R.lo p (i/w) hp hy;have yr:=R.sN.1;have keep: ∀ (z:Nat) (o:aB),z≠L (i/B)->z≠Rw p (i/w)->h[z]?=aa o->((h.set (L (i/B)) (.list (rest.map bI))).set (Rw p (i/w)) (.list ((ar (min w (fU i p p-i/w*w))).map (λx=> .int (V p (i/w) x))++[.int (V p (i/w) (i%w))])))[z]?=aa o:=λz o n1 n2 e=>bj (bj e (eI n1)) (eI n2);refine⟨keep _ _ (dK (dj yq yr)) (eI sN) R.vc,λq hq=>keep _ _ (by have:=R.sN.2 q hq;exact dK (dj yq this)) (eI (lo3 q hq)) (R.vd q hq),λq y hq iz=>?_,R.lo,R.sN,R.inj,⟨?_,λz o n e=>?_⟩,λj iW=>?_⟩
 .have Qd:=R.ve q y hq iz
  have jc:=(R.lo q y hq iz).1;by_cases h1:q=p/\y=i/w
  .obtain⟨rfl,rfl⟩:=h1
   refine(bF (bj Qd ((az [.t J0 J1,.l J1 J2] (.no (.e J0 J2))) yq lo1))).trans ?_;have e1:min w (fU i q q-i/w*w)=i%w:=by unfold fU;rw[if_neg (iK _)];exact(kq [.e (.a J0 J1) J2,.t J1 J3,.e J6 J0,pB J5 (.a J2 Y0) J6,pM J4 J3 J5] (.e J4 J1)) iG je (dt _ _) (uB _ _) (uM _ _)
   have e2:min w (fU i (q+1) q-i/w*w)=i%w+1:=by unfold fU;rw[if_pos (k8 _)];exact(kq [.e (.a J0 J1) J2,.t J1 J3,.e J6 J0,pB J5 (.a J2 Y1) J6,pM J4 J3 J5] (.e J4 (.a J1 Y1))) iG je (dt _ _) (uB _ _) (uM _ _)
   rw[e1,e2,dZ,b8];rfl
  .have d8:Rw q y≠Rw p (i/w):=λe=>h1 (R.inj _ _ _ _ hq iz hp hy e)
   have e1:min w (fU i (p+1) q-y*w)=min w (fU i p q-y*w):=by
    unfold fU;by_cases Qe:q=p
    .subst Qe
     have ai1:y≠i/w:=λe=>h1 ⟨rfl,e⟩;rw[if_pos (k8 _),if_neg (iK _)];rcases jt y (i/w) with h|h
     .have:(y+1)*w<=i/w*w:=lX _ h
      rw[fN] at this;exact(uk [.t Y0 J0,.e (.a J1 J2) J3,.l (.a J4 J0) J5,.e J5 J1,pB J7 (.a J3 Y1) J4,pM J6 J0 J7,pB J9 (.a J3 Y0) J4,pM J8 J0 J9] (.e J6 J8)) hw iG this (dt _ _) (uB _ _) (uM _ _) (uB _ _) (uM _ _)
     .have:(i/w+1)*w<=y*w:=lX _ ((az [.no (.an (.e J0 J0) (.e J1 J2)),.l J2 J1] (.l (.a J2 Y1) J1)) h1 h)
      rw[fN] at this;exact(uk [.t Y0 J0,.e (.a J1 J2) J3,.t J2 J0,.l (.a J4 J0) J5,.e J4 J1,pB J7 (.a J3 Y1) J5,pM J6 J0 J7,pB J9 (.a J3 Y0) J5,pM J8 J0 J9] (.e J6 J8)) hw iG je this (dt _ _) (uB _ _) (uM _ _) (uB _ _) (uM _ _)
    .by_cases vg:q<p
     .rw[if_pos (rC vg),if_pos vg]
     .rw[if_neg ((au [.no (.e J0 J1),.no (.t J0 J1)] (.no (.t J0 (.a J1 Y1)))) Qe vg),if_neg vg]
   rw[e1];exact keep _ _ (dK (dj yq jc)) d8 Qd
 .have:=R.kp.len;simpa using this
 .have hz:=bh e
  exact keep _ _ (λq=>n ⟨_,hj,q⟩) (cq (dj hz lo1)) (R.kp.get z o n e)
 .have hLz:=hL _ iW
  by_cases h1:j=i/B
  .subst h1
   refine(bj (bF (R.vf _ hj)) (dK (dj yq lo1))).trans ?_;rw[hr,Hk,<- eH,Dy]
  .have d8:L j≠L (i/B):=λe=>h1 (abY _ _ iW hj e)
   have e1:iE V kd mid m w B i (p+1) j=iE V kd mid m w B i p j:=by unfold iE;rw[if_neg h1,if_neg h1]
   rw[e1];exact keep _ _ d8 (cq (dj hLz lo1)) (R.vf j iW)
structure RK (h0:PH) (fl kb J m:Nat) (L Rc:Nat->Nat) (C:Nat->Nat->Nat) (SY:Nat->List Int):Prop where
 fJ:h0[fl]?=aa (.list ((ar J).map λj=> .ref (L j)))
 PR:h0[kb]?=aa (.dict (KD PV.int (kF m Rc)))
 rc': ∀ p,p<m->h0[Rc p]?=aa (.dict (KD KP (jg (ly (C p) (SY p)))))
 lt: ∀ j,j<J-> ∃ l,h0[L j]?=aa (.list l)
 inj: ∀ a b,a<J->b<J->L a=L b->a=b
 mW: ∀ j,j<J->L j≠fl
theorem abZ(hp:p<m):(kF m R).lookup (p:Int)=aa (.ref (R p)):=by refine mr ?_ (bX.mpr ⟨p,by simpa using hp,rfl⟩);unfold kF;rw[cV];refine Du.mpr (zJ.imp ?_);intro a b gV e;simp only[oz] at e;exact(au [.no (.e J0 J1),.E (.c J0) (.c J1)] .ff) gV e
theorem ab0(R:RD V kd mid m w ht B J C SY h0 L pz Pl Rw i p h)(K:RK h0 fl kb J m L Rc C SY)(hB:0<B)(hp:p<m)(hw:0<w)(hi:i<w*ht)(hj:i/B<J)(BM:w<=1000)
  (hO:ek (C p) (SY p)) (hS:(aG (dE V kd mid w B p i):Int)∈SY p) (cj:1<=kd/\kd<=7) (vb:fi=decide (i/B*B/w=i/w)) (Hl:fi=ak->0<i/w) (hV:0<=V p (i/w) (i%w)/\V p (i/w) (i%w)<65536)
  (q: ∀ h' t,RD V kd mid m w ht B J C SY h0 L pz Pl Rw i (p+1) h'->Q .next ⟨h',[aa (.ref fl),aa (.ref kb),aa a2,aa (.int kd),aa (.int mid),aa (.int I),aa a6,aa a7,aa a8,aa (.int (p:Nat)),aa (.int ((i/w:Nat):Int)),aa (.ref pz),aa (.ref (L (i/B))),aa (.bool fi),aa (.int ((i%w:Nat):Int)),aa (.int t),ae,ae,ae]⟩):
  (ah (aT 15 (aU 43 [(aO (af 11) (af 9)),(af 14),(af 10),(af 3),(af 13),(af 4)]))<|
  ah (bZ (bx br (aO (aO (af 11) (af 9)) (af 10)) 0 [(ay .Mod (ay .Add (af 15) (aU 42 [(af 12),(aO (af 1) (af 9))])) (ai (.int 65536)))]))<|ao) (run T (k+1) b)
  ⟨h,[aa (.ref fl),aa (.ref kb),aa a2,aa (.int kd),aa (.int mid),aa (.int I),aa a6,aa a7,aa a8,aa (.int (p:Nat)),aa (.int ((i/w:Nat):Int)),aa (.ref pz),aa (.ref (L (i/B))),aa (.bool fi),aa (.int ((i%w:Nat):Int)),fx,ae,ae,ae]⟩ Q:=by
 have hy:i/w<ht:=DH hi;have iG:=oN i w;have je:=la i hw;have hc:w*(i/w)=i/w*w:=dt _ _;have hL: ∀ j,j<J->L j<h0.length:=λj hj=>by obtain⟨l,hl⟩:=K.lt j hj;exact bh hl
 have hlen:min w (fU i p p-i/w*w)=i%w:=by unfold fU;rw[if_neg (iK _)];exact(kq [.e (.a J0 J1) J2,.t J1 J3,.e J6 J0,pB J5 (.a J2 Y0) J6,pM J4 J3 J5] (.e J4 J1)) iG je (dt _ _) (uB _ _) (uM _ _)
 have g7: ∀ (z:Nat) es,h0[z]?=aa (.dict es)-> ∀ {h'},RD V kd mid m w ht B J C SY h0 L pz Pl Rw i p h'->h'[z]?=aa (.dict es):=λz es e h' R'=>R'.kp.get _ _ (λzz=>by obtain⟨j,hj,q⟩:=zz;obtain⟨l,hl⟩:=K.lt j hj;rw[<- q,e] at hl;cases hl) e;nofun;refine bS R.vc (cR _) (by rw[bJ];exact b0 hp) ?_;nofun;refine abT (len:=λy=>min w (fU i p p-y*w)) (V:=V p) (w:=w) (R.vd p hp) (λy hy=>R.ve p y hp hy) hy je (by show _<=min w (fU i p p-i/w*w);exact(dn [.e J0 J5,pB J2 J3 J4,pM J0 J1 J2] (.l J5 J0)) hlen (uB _ _) (uM _ _)) (λh0=>?_) Hl cj λh1 p1=>?_
 .show min w (fU i p p-(i/w-1)*w)=w
  have:(i/w-1)*w+w<=i:=by
   have h2:(i/w-1)*w+w=i/w*w:=by rw[<- fN];congr 1;exact K9 h0
   exact(dn [.e (.a J0 J1) J2,.e (.a J3 J4) J5,.e J5 J0] (.l (.a J3 J4) J2)) iG h2 (dt _ _)
  unfold fU;rw[if_neg (iK _)];exact(bU [.t Y0 J0,.l (.a J1 J0) J2,pB J4 (.a J2 Y0) J1,pM J3 J0 J4] (.e J3 J0)) hw this (uB _ _) (uM _ _)
 have R1:=R.mono p1;generalize hto:fG (V p) kd mid fi (i%w) (i/w)=told;have hd:dE V kd mid w B p i=fH (V p (i/w) (i%w)) told:=by unfold dE;rw[<- vb,hto]
 obtain⟨rest,Qf,Hk⟩:=abW (V:=V) (kd:=kd) (mid:=mid) (m:=m) (w:=w) (B:=B) (i:=i) (gM C SY) hB hp;have Qg:=R1.vf _ hj;rw[Qf,Dy] at Qg;nofun;refine bS R1.vc (cR _) (by rw[bJ];exact b0 hp) ?_;nofun;refine bS (R1.vd p hp) (cR _) (by rw[bJ];exact b0 hy) ?_;have lD:=R1.ve p (i/w) hp hy;nofun;have ab1:=g7 _ _ K.PR R1;refine pf ab1 (eZ dA (p:Int) _) ((jH dA (p:Int) _).trans (abZ hp)) ?_;nofun;refine abP (d:=dE V kd mid w B p i) (rest:=rest) hO (Pe _ _) hS Qg (g7 _ _ (K.rc' p hp) R1) ?_;have gm:((65536:Int) != 0&&bT 65536)=ag:=rfl;have sH:((ar (min w (fU i p p-i/w*w))).map λx=>PV.int (V p (i/w) x)).length<1000000:=by simp;exact(dn [.l J0 (.n 1000),.t J1 J0,.e J2 J1,pB J3 J4 J5,pM J2 J0 J3] (.t J2 (.n 1000000))) BM je hlen (uB _ _) (uM _ _)
 have hLR:L (i/B)≠Rw p (i/w):=by have:=hL _ hj;have:=(R1.lo p (i/w) hp hy).1;exact cq (dj ‹_› this)
 nofun;rw[hd,abU hV];exact q _ _ (R1.step hB hp hw hi hj hL K.inj Qf Hk)
end
noncomputable def aR (a ht p y:Nat):Nat:=a+p*(ht+1)+y
theorem Hm(h:p<p')(hy:y<=ht):aR a ht p y+(ht-y)<a+p'*(ht+1):=by unfold aR;have:(p+1)*(ht+1)<=p'*(ht+1):=lX _ h;rw[fN] at this;exact(dn [.l J0 J1,.l (.a J2 (.a J1 Y1)) J3,pB J5 J1 J0] (.t (.a (.a (.a J4 J2) J0) J5) (.a J4 J3))) hy this (uB _ _)
theorem Qh(hy:y<=ht)(iz:y'<=ht)(e:aR a ht p y=aR a ht p' y'):p=p'/\y=y':=by
 rcases DJ p p' with h|h|h
 .have:=Hm (a:=a) h hy;unfold aR at *;exact(AB [.e (.a (.a J0 J1) J2) (.a (.a J0 J3) J4),.t (.a (.a (.a J0 J1) J2) J5) (.a J0 J3),pB J5 J6 J2] (.an (.e J7 J8) (.e J2 J4))) e this (uB _ _)
 .subst h;unfold aR at e;exact(bU [.e (.a (.a J0 J1) J2) (.a (.a J0 J1) J3)] (.an (.e J4 J4) (.e J2 J3))) e
 .have:=Hm (a:=a) h iz;unfold aR at *;exact(AB [.e (.a (.a J0 J1) J2) (.a (.a J0 J3) J4),.t (.a (.a (.a J0 J3) J4) J5) (.a J0 J1),pB J5 J6 J4] (.an (.e J7 J8) (.e J2 J4))) e this (uB _ _)
section
variable{k m ht:Nat}{b:Bool}{O:ax}{h:PH}{Q:PV->aj->Prop}{l:List (Option PV)}
theorem ab2(hh:ht<=1000)(h3:eV l 3=aa (.int (ht:Nat)))(q: ∀ h',h<+:h'->h'.length=h.length+(ht+1)->h'[h.length+ht]?=aa (.list ((ar ht).map λy=> .ref (h.length+y)))->(∀ y,y<ht->h'[h.length+y]?=aa (.list []))->Q (.ref (h.length+ht)) ⟨h',l⟩):
  mE [ae,ae] (.one 1) (bP []) (cJ []) O Q (.dw 0 (ht:Nat) 1) ⟨h,l⟩:=by
 refine qG (n:=ht) (λi st acc=>iR λ(h':PH) (e1:Option PV)=>nH (st=⟨h',[ae,e1]⟩) (h<+:h') (h'.length=h.length+i) (acc=(ar i).map (λy=> .ref (h.length+y))) (∀ y,y<i->h'[h.length+y]?=aa (.list []))) rfl ⟨h,_,rfl,fg,rfl,rfl,λy hy=>absurd hy (dm _)⟩ ?_ ?_
 .rintro i _ acc KC XC hK hX hi ⟨h',e1,rfl,p,hl,rfl,hr⟩
  nofun;refine hK ⟨_,_,rfl,pre_app p,by simp;exact(az [.e J0 (.a J1 J2)] (.e (.a J0 Y1) (.a J1 (.a J2 Y1)))) hl,by rw[dZ,b8,hl];rfl,λy hy=>?_⟩;by_cases e:y=i
  .subst e;rw[<- hl];exact aM
  .exact aJ (hr y (dH (d0 hy) e))
 .rintro _ acc ⟨h',e1,rfl,p,hl,rfl,hr⟩
  refine dW (by simp;exact(aw [.l J0 (.n 1000)] (.l J0 (.n 1000000))) hh) ?_;dsimp only;rw[hl];exact q _ (pre_app p) (by simp;exact(az [.e J0 (.a J1 J2)] (.e (.a J0 Y1) (.a J1 (.a J2 Y1)))) hl) (by rw[<- hl];exact aM) λy hy=>aJ (hr y hy)
theorem ab3(hh:ht<=1000)(hm:m<=1000)(h8:eV l 8=aa (.int (ht:Nat)))(q: ∀ h',h<+:h'->h'[h.length+m*(ht+1)]?=aa (.list ((ar m).map λp=> .ref (aR h.length ht p ht)))->(∀ p,p<m->h'[aR h.length ht p ht]?=aa (.list ((ar ht).map λy=> .ref (aR h.length ht p y))))->(∀ p y,p<m->y<ht->h'[aR h.length ht p y]?=aa (.list []))->Q (.ref (h.length+m*(ht+1))) ⟨h',l⟩):
  mE [ae,ae,ae,aa 8] (.one 1) (bP []) (da (aN .range [(af 3)]) [ae,ae] (.one 1) (bP []) (cJ [])) O Q (.dw 0 (m:Nat) 1) ⟨h,l⟩:=by
 refine qG (n:=m) (λi st acc=>iR λ(h':PH) (e1:Option PV)=>uc (st=⟨h',[ae,e1,ae,aa (.int (ht:Nat))]⟩) (h<+:h') (h'.length=h.length+i*(ht+1)) (acc=(ar i).map (λp=> .ref (aR h.length ht p ht))) ((∀ p,p<i->h'[aR h.length ht p ht]?=aa (.list ((ar ht).map λy=> .ref (aR h.length ht p y))))) (∀ p y,p<i->y<ht->h'[aR h.length ht p y]?=aa (.list []))) rfl ⟨h,ae,by unfold iq;simp only[tH,wx,h8],fg,by simp,rfl,λp hp=>absurd hp (dm _),λp y hp=>absurd hp (dm _)⟩ ?_ ?_
 .rintro i _ acc KC XC hK hX hi ⟨h',e1,rfl,p,hl,rfl,h1,h2⟩
  have g:d7 0 (ht:Int) 1=ag:=gK ((aw [.l J0 (.n 1000)] (.an (.L (.n 0) (.c J0)) (.L (.c J0) (.n 1000000)))) hh);nofun;refine ab2 hh rfl λh3 p3 kE a1 a2=>?_;have e1: ∀ y,h'.length+y=aR h.length ht i y:=λy=>by unfold aR;rw[hl]
  rw[e1] at a1 ⊢;refine hK ⟨_,_,rfl,p.trans p3,by rw[kE,hl,fN];exact az [] (.e (.a (.a J0 J1) (.a J2 Y1)) (.a J0 (.a J1 (.a J2 Y1)))),by rw[dZ,b8];rfl,λq hq=>?_,λq y hq hy=>?_⟩
  .by_cases e:q=i
   .subst e
    simp only[e1] at a1;exact a1
   .exact aI p3 (h1 q (dH (d0 hq) e))
  .by_cases e:q=i
   .subst e;rw[<- e1];exact a2 y hy
   .exact aI p3 (h2 q y (dH (d0 hq) e) hy)
 .rintro _ acc ⟨h',e1,rfl,p,hl,rfl,h1,h2⟩
  refine dW (by simp;exact(aw [.l J0 (.n 1000)] (.l J0 (.n 1000000))) hm) ?_;dsimp only;rw[hl];exact q _ (pre_app p) (by rw[<- hl];exact aM) (λq hq=>aJ (h1 q hq)) λq y hq hy=>aJ (h2 q y hq hy)
end
section
variable{V:Nat->Nat->Nat->Int}{kd mid I:Int}{k m w ht B N:Nat}{b:Bool}{C:Nat->Nat->Nat}{SY:Nat->List Int}{h:PH}{L:Nat->Nat}{fl kb:Nat}{Q:PV->PH->Prop}
theorem ab4(H:pC I w ht B N)(hm:0<m/\m<=4)(cj:1<=kd/\kd<=7)(hO: ∀ p,p<m->ek (C p) (SY p))(hS: ∀ i p,i<N->p<m->(aG (dE V kd mid w B p i):Int)∈SY p)(hV: ∀ p y x,p<m->y<ht->x<w->0<=V p y x/\V p y x<65536)
  (A:u9 h kb m C SY) (Lt:pH h fl (N/B) L λj=>fT ((fu V kd mid m w B j B).flatMap (gM C SY)))
  (q: ∀ h' pz Pl Rw,RD V kd mid m w ht B (N/B) C SY h L pz Pl Rw N 0 h'->Q (.ref pz) h'):
  Wh ((run T (k+2) b).call 44 [.ref fl,.ref kb,.tup [.int (m:Nat),.int (w:Nat),.int (ht:Nat)],.int kd,.int mid,.int I]) h Q:=by
 obtain⟨jJ,fK,hdiv⟩:=H.pos;obtain⟨Rc,c1,c2⟩:=A;have K:RK h fl kb (N/B) m L Rc C SY:=⟨Lt.fJ,c1,c2,λj hj=>⟨_,Lt.at' j hj⟩,Lt.inj,Lt.mW⟩;obtain⟨qX,BM⟩:=H.w';obtain⟨hh0,Qi⟩:=H.h';have hN:=H.N';refine bc (We _ _ _ _ _ _ _ _ _) ?_;have gm:d7 0 (m:Int) 1=ag:=gK ((aw [.an (.t Y0 J0) (.l J0 (.n 4))] (.an (.L (.n 0) (.c J0)) (.L (.c J0) (.n 1000000)))) hm);have gw:d7 0 (w:Int) 1=ag:=gK ((aw [.t Y0 J0,.l J0 (.n 1000)] (.an (.L (.n 0) (.c J0)) (.L (.c J0) (.n 1000000)))) qX BM);have gh:d7 0 (ht:Int) 1=ag:=gK ((aw [.t Y0 J0,.l J0 (.n 1000)] (.an (.L (.n 0) (.c J0)) (.L (.c J0) (.n 1000000)))) hh0 Qi);nofun;refine ab3 (m:=m) (ht:=ht) Qi ((aw [.an (.t Y0 J0) (.l J0 (.n 4))] (.l J0 (.n 1000))) hm) rfl λh1 p1 a1 a2 a3=>?_;have dX:=p1.length_le;have pm0: ∀ p y,p<m->y<=ht->aR h.length ht p y<h.length+m*(ht+1):=λp y hp hy=>by have:=Hm (a:=h.length) hp hy;exact(dn [.t (.a J0 J1) (.a J4 J5),pB J1 J2 J3] (.t J0 (.a J4 J5))) this (uB _ _)
 have R0:RD V kd mid m w ht B (N/B) C SY h L (h.length+m*(ht+1)) (λp=>aR h.length ht p ht) (λp y=>aR h.length ht p y) 0 0 h1:=by
  refine⟨a1,a2,λp y hp hy=>?_,λp y hp hy=>⟨by unfold aR;exact az [] (.l J0 (.a (.a J0 J1) J2)),by have:=pm0 p y hp (fY hy);exact(az [.t J0 (.a J1 J2)] (.no (.e J0 (.a J1 J2)))) this,λp' gL e=>?_⟩,⟨by exact rD _ _,λp hp=>by unfold aR;exact az [] (.l J0 (.a (.a J0 J1) J2))⟩,λp y p' y' hp hy gL iz e=>Qh (fY hy) (fY iz) e,⟨dX,λz o n e=>aI p1 e⟩,λj hj=>?_⟩
  .rw[show min w (fU 0 0 p-y*w)=0 by unfold fU;rw[if_neg (aw [] (.no (.t J0 Y0)))];exact(aQ [.t Y0 J0,pB J2 Y0 J3,pM J1 J0 J2] (.e J1 Y0)) qX (uB _ _) (uM _ _)]
   exact a3 p y hp hy
  .have:=Qh (fY hy) (aw [] (.l J0 J0)) e;exact(aQ [.t J0 J1,.an (.e J2 J3) (.e J0 J1)] .ff) hy this
  .have hl:=Lt.at' j hj
   have e0:iE V kd mid m w B 0 0 j=[]:=by unfold iE;rw[Nat.zero_sub,Nat.min_zero,OK,zM];split <;> rfl
   rw[e0];exact aI p1 hl
 generalize (h.length+m*(ht+1))=pz at *
 generalize (λp=>aR h.length ht p ht)=Pl at *
 generalize (λp y=>aR h.length ht p y)=Rw at *
 nofun;refine iw (n:=ht) (λy st=>xa λ(h':PH) (f9 Hn Ho Hp jj fx:Option PV)=>st=⟨h',[aa (.ref fl),aa (.ref kb),aa (.tup [.int (m:Nat),.int (w:Nat),.int (ht:Nat)]),aa (.int kd),aa (.int mid),aa (.int I),aa (.int (m:Nat)),aa (.int (w:Nat)),aa (.int (ht:Nat)),f9,Hn,aa (.ref pz),Ho,Hp,jj,fx,ae,ae,ae]⟩/\RD V kd mid m w ht B (N/B) C SY h L pz Pl Rw (y*w) 0 h') rfl ⟨_,_,_,_,_,_,_,rfl,by rw[DN];exact R0⟩ ?_ ?_
 .rintro y _ KC hK hy ⟨h',f9,Hn,Ho,Hp,jj,fx,rfl,R⟩
  have BN:h'[fl]?=aa (.list ((ar (N/B)).map λj=> .ref (L j))):=R.kp.get _ _ (λ⟨j,hj,q⟩=>Lt.mW j hj q.symm) Lt.fJ;have BO:(y+1)*w<=N:=by rw[hN,dt w ht];exact lX _ hy
  rw[fN] at BO;obtain⟨j,fi,hj,Bn,vb,Hl,sq⟩: ∃ (j:Nat) (fi:Bool),j<N/B/\(∀ x,x<w->(y*w+x)/B=j)/\(fi=decide (j*B/w=y))/\(fi=ak->0<y)/\(I=(w:Nat)/\j=y/\fi=ag\/I=0/\j=0/\fi=decide (y=0)):=by
   rcases H.B' with⟨e1,e2⟩|⟨e1,e2⟩
   .subst e2
    refine⟨y,ag,?_,λx hx=>?_,?_,λe=>(nomatch e),.inl ⟨e1,rfl,rfl⟩⟩
    .rw[hN,zO _ qX];exact hy
    .rw[dt,zU qX,oM hx];rfl
    .rw[zQ _ qX];simp
   .subst e2
    refine⟨0,decide (y=0),?_,λx hx=>?_,?_,λe=>by have:=of_decide_eq_false e;omega,.inr ⟨e1,rfl,rfl⟩⟩
    .rw[DQ jJ];exact Nat.one_pos
    .exact oM ((aQ [.l (.a J0 J1) J2,.t J3 J1] (.t (.a J0 J3) J2)) BO hx)
    .rw[DN,Nat.zero_div]
     by_cases h:y=0
     .rw[decide_eq_true h,decide_eq_true h.symm]
     .rw[decide_eq_false h,decide_eq_false (eI h)]
  have rows: ∀ {R2:aY->aj->Prop},(∀ h' f9 jj fx,RD V kd mid m w ht B (N/B) C SY h L pz Pl Rw ((y+1)*w) 0 h'->R2 .next ⟨h',[aa (.ref fl),aa (.ref kb),aa (.tup [.int (m:Nat),.int (w:Nat),.int (ht:Nat)]),aa (.int kd),aa (.int mid),aa (.int I),aa (.int (m:Nat)),aa (.int (w:Nat)),aa (.int (ht:Nat)),f9,aa (.int (y:Nat)),aa (.ref pz),aa (.ref (L j)),aa (.bool fi),jj,fx,ae,ae,ae]⟩)->
    mC (.one 14) (ah (cN (aN .range [(af 6)]) (.one 9) (
     ah (aT 15 (aU 43 [(aO (af 11) (af 9)),(af 14),(af 10),(af 3),(af 13),(af 4)]))<|
     ah (bZ (bx br (aO (aO (af 11) (af 9)) (af 10)) 0 [(ay .Mod (ay .Add (af 15) (aU 42 [(af 12),(aO (af 1) (af 9))])) (ai (.int 65536)))]))<|ao))<|ao) (run T (k+1) b) R2 (.dw 0 (w:Nat) 1)
    ⟨h',[aa (.ref fl),aa (.ref kb),aa (.tup [.int (m:Nat),.int (w:Nat),.int (ht:Nat)]),aa (.int kd),aa (.int mid),aa (.int I),aa (.int (m:Nat)),aa (.int (w:Nat)),aa (.int (ht:Nat)),f9,aa (.int (y:Nat)),aa (.ref pz),aa (.ref (L j)),aa (.bool fi),jj,fx,ae,ae,ae]⟩:=by
   intro R2 hq;refine iw (n:=w) (λx st=>ub λ(h':PH) (f9 jj fx:Option PV)=>st=⟨h',[aa (.ref fl),aa (.ref kb),aa (.tup [.int (m:Nat),.int (w:Nat),.int (ht:Nat)]),aa (.int kd),aa (.int mid),aa (.int I),aa (.int (m:Nat)),aa (.int (w:Nat)),aa (.int (ht:Nat)),f9,aa (.int (y:Nat)),aa (.ref pz),aa (.ref (L j)),aa (.bool fi),jj,fx,ae,ae,ae]⟩/\RD V kd mid m w ht B (N/B) C SY h L pz Pl Rw (y*w+x) 0 h') rfl ⟨_,_,_,_,rfl,R⟩ ?_ ?_
   .rintro x _ KC hK hx ⟨h2,f9,jj,fx,rfl,R⟩
    have BP:(y*w+x)/w=y:=by rw[dt,zU qX,oM hx];rfl
    have Qj:(y*w+x)%w=x:=by rw[dt,Nat.mul_add_mod,Nat.mod_eq_of_lt hx]
    have Hq:=Bn x hx;nofun;refine iw (n:=m) (λp st=>jW λ(h':PH) (f9 fx:Option PV)=>st=⟨h',[aa (.ref fl),aa (.ref kb),aa (.tup [.int (m:Nat),.int (w:Nat),.int (ht:Nat)]),aa (.int kd),aa (.int mid),aa (.int I),aa (.int (m:Nat)),aa (.int (w:Nat)),aa (.int (ht:Nat)),f9,aa (.int (y:Nat)),aa (.ref pz),aa (.ref (L j)),aa (.bool fi),aa (.int (x:Nat)),fx,ae,ae,ae]⟩/\RD V kd mid m w ht B (N/B) C SY h L pz Pl Rw (y*w+x) p h') rfl ⟨_,_,_,rfl,R⟩ ?_ ?_
    .rintro p _ KC hK hp ⟨h3,f9,fx,rfl,R⟩
     have hbody:=λ(Q':aY->aj->Prop)=>ab0 (k:=k) (b:=b) (fi:=fi) (I:=I) (a2:= .tup [.int (m:Nat),.int (w:Nat),.int (ht:Nat)]) (a6:= .int (m:Nat)) (a7:= .int (w:Nat)) (a8:= .int (ht:Nat)) (fx:=fx) (Q:=Q') R K fK hp qX (by rw[<- hN];exact(aQ [.l (.a J0 J1) J2,.t J3 J1] (.t (.a J0 J3) J2)) BO hx) (by rw[Hq];exact hj) BM (hO p hp) (hS _ p ((aQ [.l (.a J0 J1) J2,.t J3 J1] (.t (.a J0 J3) J2)) BO hx) hp) cj (by rw[Hq,BP];exact vb) (by rw[BP];exact Hl) (by rw[BP,Qj];exact hV p y x hp hy hx);rw[BP,Qj,Hq] at hbody;dsimp only[Fw,fE,AZ,AY];refine hbody _ λh4 t R4=>?_;exact hK (.inl rfl) ⟨_,_,_,rfl,R4⟩
    .rintro _ ⟨h3,f9,fx,rfl,R⟩
     nofun;exact hK (.inl rfl) ⟨_,_,_,_,rfl,R.next fK⟩
   .rintro _ ⟨h2,f9,jj,fx,rfl,R⟩
    rw[<- fN] at R;exact hq _ _ _ _ R
  rcases sq with⟨e1,e2,e3⟩|⟨e1,e2,e3⟩
  .have hI:0<I:=(cM [.t Y0 J0,.E Q0 (.c J0)] (.T (.n 0) Q0)) qX e1
   have Hr:decide (0<I)=ag:=decide_eq_true hI;rcases rB y with eu|eu
   .nofun
    refine bS (v:= .ref (L j)) BN ((aw [.e J0 Y0] (.L (.n 0) (.c J0))) eu) (by rw[bJ,<- e2];exact b0 hj) ?_;nofun;rw[<- e3];refine rows λh2 f9 jj fx R2=>?_;nofun;exact hK (.inl rfl) ⟨_,_,_,_,_,_,_,rfl,R2⟩
   .nofun
    refine bS (v:= .ref (L j)) BN ((aw [.t Y0 J0] (.L (.n 0) (.c J0))) eu) (by rw[bJ,<- e2];exact b0 hj) ?_;nofun;rw[Hr,<- e3];refine rows λh2 f9 jj fx R2=>?_;nofun;exact hK (.inl rfl) ⟨_,_,_,_,_,_,_,rfl,R2⟩
  .have Hr:decide (0<I)=ak:=decide_eq_false ((cY [.E Q0 (.n 0)] (.no (.T (.n 0) Q0))) e1)
   rcases rB y with eu|eu
   .rw[decide_eq_true eu] at e3
    nofun;refine bS (v:= .ref (L j)) BN (by decide) (by rw[e2];exact b0 (show 0<N/B from(au [.t J0 J1,.e J0 Y0] (.t Y0 J1)) hj e2)) ?_;nofun;rw[<- e3];refine rows λh2 f9 jj fx R2=>?_;nofun;exact hK (.inl rfl) ⟨_,_,_,_,_,_,_,rfl,R2⟩
   .rw[decide_eq_false (show ¬ y=0 by exact dK eu)] at e3
    nofun;refine bS (v:= .ref (L j)) BN (by decide) (by rw[e2];exact b0 (show 0<N/B from(au [.t J0 J1,.e J0 Y0] (.t Y0 J1)) hj e2)) ?_;nofun;rw[Hr,<- e3];refine rows λh2 f9 jj fx R2=>?_;nofun;exact hK (.inl rfl) ⟨_,_,_,_,_,_,_,rfl,R2⟩
 .rintro _ ⟨h',f9,Hn,Ho,Hp,jj,fx,rfl,R⟩
  rw[dt ht w,<- hN] at R;nofun;exact q _ _ _ _ R
end
theorem ab5:mx h (n+1) (.int i) (.int i):=rfl
theorem BQ(ha:h[a]?=aa (.list xs))(hb:h[b]?=aa (.list ys))(hl:xs.length=ys.length)(he: ∀ (i:Nat) x y,xs[i]?=aa x->ys[i]?=aa y->mx h d x y):mx h (d+1) (.ref a) (.ref b):=⟨_,ha,_,hb,hl,he⟩
theorem BR{h:PH}{d a b:Nat}{l:List Int}(ha:h[a]?=aa (.list (l.map PV.int)))(hb:h[b]?=aa (.list (l.map PV.int))):mx h (d+2) (.ref a) (.ref b):=BQ ha hb rfl λi x y hx hy=>by rw[hx] at hy;obtain rfl:=bD hy;rw[dG,ee] at hx;obtain⟨v,_,rfl⟩:=hx;exact ab5
noncomputable def vh (m:Nat) (kd pt:Int):List Int:=((m:Int)::(ar m).flatMap λi=>[((i+1:Nat):Int),((16*i:Nat):Int)])++[kd,0,pt]
theorem ab6(hm:m=1\/m=2)(cj:1<=kd/\kd<=7)(fq:0<=pt/\pt<2):(yf m kd pt).map (λb=>PV.int b.toNat)=(vh m kd pt).map PV.int:=by have h1:kd=1\/kd=2\/kd=3\/kd=4\/kd=5\/kd=6\/kd=7:=(cY [.an (.L (.n 1) Q0) (.L Q0 (.n 7))] (.o (.E Q0 (.n 1)) (.o (.E Q0 (.n 2)) (.o (.E Q0 (.n 3)) (.o (.E Q0 (.n 4)) (.o (.E Q0 (.n 5)) (.o (.E Q0 (.n 6)) (.E Q0 (.n 7))))))))) cj;have h2:pt=0\/pt=1:=(cY [.an (.L (.n 0) Q0) (.T Q0 (.n 2))] (.o (.E Q0 (.n 0)) (.E Q0 (.n 1)))) fq;rcases hm with rfl|rfl <;> rcases h1 with rfl|rfl|rfl|rfl|rfl|rfl|rfl <;> rcases h2 with rfl|rfl <;> rfl
theorem ab7(H:pC I w ht B N)(hm:m<=4):(cn ((fw V kd mid m w B (N/B)).map (kD C SY)) (N/B)).length<=36*N:=by
 obtain⟨jJ,fK,hdiv⟩:=H.pos;have qM: ∀ l∈(fw V kd mid m w B (N/B)).map (kD C SY),l.length<=16*B+1:=λl hl=>by obtain⟨e,he,rfl⟩:=bX.mp hl;unfold fw at he;obtain⟨j,-,rfl⟩:=bX.mp he;have h1:=Pr C SY (fu V kd mid m w B j B);rw[GP] at h1;have h2:B*m<=B*4:=wm _ hm;exact(az [.l J0 (.a (.m 4 J1) Y1),.l J1 (.w J2 4)] (.l J0 (.a (.m 16 J2) Y1))) h1 h2
 have Pw:=GN qM (N/B);have h2:2*(16*B+1)+2<=36*B:=(aw [.t Y0 J0] (.l (.a (.m 2 (.a (.m 16 J0) Y1)) Y2) (.m 36 J0))) fK;have h3:=wm (N/B) h2;rw[Lc,<- hdiv] at h3;exact(aQ [.e J0 J1,.l J2 J3,.l J3 (.m 36 J0)] (.l J2 (.m 36 J0))) hdiv Pw h3
theorem sO{n i:Nat}{f:Nat->Nat}{x:PV}(h:((ar n).map λj=>PV.ref (f j))[i]?=aa x):i<n/\x= .ref (f i):=by
 have hi:i<n:=by simpa using(dF.mp h).1
 rw[b0 hi] at h;obtain rfl:=bD h;exact⟨hi,rfl⟩
section
variable{O:ax}{h:PH}{l:List (Option PV)}{Q:PV->aj->Prop}{m w ht:Nat}{b:Bool}{pt:Int}
theorem ab8{a:Nat}{f:Nat->Int}(ha:h[a]?=aa (.list ((ar w).map λx=> .int (f x))))(hw:w<=1000)(hp:pt=0\/pt=1)(h2:eV l 2=aa (.int pt))(q:Q (.ref h.length) ⟨h++[.list ((ar w).map λx=> .int ((f x).fdiv (2^pt.toNat)))],l⟩):
  mE [ae,ae,aa 2] (.one 1) (bP []) (ay .FloorDiv (af 1) (ay .Pow (ai (.int 2)) (af 2))) O Q (.ref a) ⟨h,l⟩:=by
 have g1:(eC pt&&bT 2)=ag:=by rcases hp with rfl|rfl <;> rfl
 have g2:((2:Int)^pt.toNat != 0&&bT ((2:Int)^pt.toNat))=ag:=by rcases hp with rfl|rfl <;> rfl
 refine lC (λi st acc=> ∃ e1,st=⟨h,[ae,e1,aa (.int pt)]⟩/\acc=(ar i).map λx=> .int ((f x).fdiv (2^pt.toNat))) ha ⟨ae,by unfold iq;simp only[tH,wx,h2],rfl⟩ (λi st acc zz=>by obtain⟨e1,e,_⟩:=zz;rw[e];exact ha) ?_ ?_
 .rintro i x _ acc KC XC hK hX hx ⟨e1,rfl,rfl⟩
  have hi:i<w:=by simpa using(dF.mp hx).1
  rw[b0 hi] at hx;obtain rfl:=bD hx;nofun;exact hK ⟨_,rfl,by rw[dZ,b8];rfl⟩
 .rintro _ acc ⟨e1,rfl,rfl⟩
  have sJ:((ar w).map λx=>PV.int (f x)).length=w:=(aX _).trans fV;rw[sJ];exact dW (by simp;exact(aw [.l J0 (.n 1000)] (.l J0 (.n 1000000))) hw) q
theorem ab9(G:jG h r ht w V)(hw:w<=1000)(hh:ht<=1000)(hp:pt=0\/pt=1)(h2:eV l 2=aa (.int pt))(q: ∀ h' a,h<+:h'->jG h' a ht w (λy x=>(V y x).fdiv (2^pt.toNat))->Q (.ref a) ⟨h',l⟩):
  mE [ae,ae,aa 2] (.one 1) (bP []) (da (af 1) [ae,ae,aa 2] (.one 1) (bP []) (ay .FloorDiv (af 1) (ay .Pow (ai (.int 2)) (af 2)))) O Q (.ref r) ⟨h,l⟩:=by
 obtain⟨R,r1,r2⟩:=G;refine lC (λi st acc=>jW λ(h':PH) (e1:Option PV) (R2:Nat->Nat)=>jX (st=⟨h',[ae,e1,aa (.int pt)]⟩) (h<+:h') (acc=(ar i).map (λy=> .ref (R2 y))) (∀ y,y<i->h'[R2 y]?=aa (.list ((ar w).map λx=> .int ((V y x).fdiv (2^pt.toNat)))))) r1 ⟨h,ae,λzy=>0,by unfold iq;simp only[tH,wx,h2],fg,rfl,λy hy=>absurd hy (dm _)⟩ (λi st acc zz=>by obtain⟨h',e1,R2,e,p,_⟩:=zz;rw[e];exact aI p r1) ?_ ?_
 .rintro i x _ acc KC XC hK hX hx ⟨h',e1,R2,rfl,p,rfl,hr⟩
  obtain⟨hi,rfl⟩:=sO hx;nofun;refine ab8 (aI p (r2 i hi)) hw hp rfl ?_;refine hK ⟨_,_,(λz=>if z=i then h'.length else R2 z),rfl,pre_app p,?_,λy hy=>?_⟩
  .rw[dZ,b8]
   congr 1
   .refine gF λq hq=>?_
    rw[fh] at hq;dsimp only;rw[if_neg (cq hq)]
   .simp
  .by_cases e:y=i
   .subst e;simp only[if_pos];exact aM
   .simp only[if_neg e];exact aJ (hr y (dH (d0 hy) e))
 .rintro _ acc ⟨h',e1,R2,rfl,p,rfl,hr⟩
  have sJ:((ar ht).map λy=>PV.ref (R y)).length=ht:=(aX _).trans fV;rw[sJ] at hr ⊢;exact dW (by simp;exact(aw [.l J0 (.n 1000)] (.l J0 (.n 1000000))) hh) (q _ _ (pre_app p) ⟨R2,aM,λy hy=>aJ (hr y hy)⟩)
theorem aca(A:qK h pl m w ht V)(hm:m<=1000)(hw:w<=1000)(hh:ht<=1000)(hp:pt=0\/pt=1)(h7:eV l 7=aa (.int pt))(q: ∀ h' a (U:Nat->Nat),h<+:h'->h'[a]?=aa (.list ((ar m).map λp=> .ref (U p)))->(∀ p,p<m->jG h' (U p) ht w (λy x=>(V p y x).fdiv (2^pt.toNat)))->Q (.ref a) ⟨h',l⟩):
  mE [ae,ae,aa 7] (.one 1) (bP []) (da (aH aA (af 1) 5) [ae,ae,aa 2] (.one 1) (bP []) (da (af 1) [ae,ae,aa 2] (.one 1) (bP []) (ay .FloorDiv (af 1) (ay .Pow (ai (.int 2)) (af 2))))) O Q (.ref pl) ⟨h,l⟩:=by
 obtain⟨U0,a1,a2⟩:=A;refine lC (λi st acc=>jW λ(h':PH) (e1:Option PV) (U:Nat->Nat)=>jX (st=⟨h',[ae,e1,aa (.int pt)]⟩) (h<+:h') (acc=(ar i).map (λp=> .ref (U p))) (∀ p,p<i->jG h' (U p) ht w (λy x=>(V p y x).fdiv (2^pt.toNat)))) a1 ⟨h,ae,λzy=>0,by unfold iq;simp only[tH,wx,h7],fg,rfl,λy hy=>absurd hy (dm _)⟩ (λi st acc zz=>by obtain⟨h',e1,R2,e,p,_⟩:=zz;rw[e];exact aI p a1) ?_ ?_
 .rintro i x _ acc KC XC hK hX hx ⟨h',e1,U,rfl,p,rfl,hr⟩
  obtain⟨hi,rfl⟩:=sO hx;obtain⟨r,b1,b2⟩:=a2 i hi;have b1':=aI p b1;nofun;refine ab9 (b2.mono λz lst e=>aI p e) hw hh hp rfl λh2 a p2 G2=>?_;refine hK ⟨_,_,(λz=>if z=i then a else U z),rfl,p.trans p2,?_,λy hy=>?_⟩
  .rw[dZ,b8]
   congr 1
   .refine gF λq hq=>?_
    rw[fh] at hq;dsimp only;rw[if_neg (cq hq)]
   .simp
  .by_cases e:y=i
   .subst e;simp only[if_pos];exact G2
   .simp only[if_neg e];exact(hr y (dH (d0 hy) e)).mono λz lst e=>aI p2 e
 .rintro _ acc ⟨h',e1,U,rfl,p,rfl,hr⟩
  have sJ:((ar m).map λp=>PV.ref (U0 p)).length=m:=(aX _).trans fV;rw[sJ] at hr ⊢;exact dW (by simp;exact(aw [.l J0 (.n 1000)] (.l J0 (.n 1000000))) hm) (q _ _ U (pre_app p) aM λy hy=>(hr y hy).mono λz lst e=>aJ e)
theorem acb{fl J:Nat}{L:Nat->Nat}{n:Nat->Nat}{caps:List (Option Nat)}(hf:h[fl]?=aa (.list ((ar J).map λj=> .ref (L j))))(hJ:J<=1000)(hL: ∀ j,j<J->h[L j]?=aa (.list ((cX (n j) ag).map bI))/\n j<8)(q:Q (.ref h.length) ⟨h++[.list []],l⟩):
  mE [ae,ae,ae] (.one 1) (bP [(fQ [(aK (ai (.int 0)) [(.In,(af 1))]),(aK (aN .len [(af 1)]) [(.Gt,(ai (.int 7)))])])]) (af 1) O Q (.ref fl) ⟨h,l⟩:=by
 refine lC (λi st acc=> ∃ e1,st=⟨h,[ae,e1,ae]⟩/\acc=[]) hf ⟨ae,rfl,rfl⟩ (λi st acc zz=>by obtain⟨e1,e,_⟩:=zz;rw[e];exact hf) ?_ ?_
 .rintro i x _ acc KC XC hK hX hx ⟨e1,rfl,rfl⟩
  obtain⟨hi,rfl⟩:=sO hx;obtain⟨l1,l2⟩:=hL i hi;have e:(cX (n i) ag).map bI=(cX (n i) (1:Int)).map PV.int:=by rw[Kk,Kk];rfl
  rw[e] at l1;have hl:(((cX (n i) (1:Int)).map PV.int).length:Int)=(n i:Nat):=by simp
  have hc:(cX (n i) (1:Int)).contains 0=ak:=by rw[zl];intro e;rw[Dp,Kj] at e;exact(aw [.an (.no (.e J0 Y0)) (.E (.n 0) (.n 1))] .ff) e
  nofun;refine NU l1 (ints_map _) ?_;rw[hc];nofun;exact hX ⟨_,rfl,rfl⟩
 .rintro _ acc ⟨e1,rfl,rfl⟩
  exact q
end
def Qk:RM aY:=
 ah (bq (aK (da (af 13) [ae,ae] (.one 1) (bP []) (aH aA (af 1) 33)) [(.NotEq,(cJ [(ai (.int 196)),(ai (.int 218))]))]) (
 ah (aZ (ai (.bool ak)))<|ao) (ao))<|
 ah (aT 14 (cJ [(af 2)]))<|
 ah (cN (aN .range [(af 2)]) (.one 9) (
 ah (aT 14 (ay .Add (af 14) (cJ [(ay .Add (af 9) (ai (.int 1))),(ay .Mult (ai (.int 16)) (af 9))])))<|ao))<|
 ah (bq (aK (aN .list [(aH aA (aO (af 13) (ai (.int 1))) 34)]) [(.NotEq,(ay .Add (af 14) (cJ [(af 6),(ai (.int 0)),(af 7)])))]) (
 ah (aZ (ai (.bool ak)))<|ao) (ao))<|
 ah (eD ag [.name 15,.name 16] (cA [(aU 40 [(aH aA (aO (af 13) (ai (.int 0))) 34)]),(aU 41 [(aH aA (aO (af 13) (ai (.int 1))) 35)])]))<|
 ah (bq (fQ [(aK (af 15) [(.Is,(ai .none))]),(aK (aN .sorted [(af 15)]) [(.NotEq,(aN .list [(aN .range [(af 2)])]))]),(aK (af 16) [(.Is,(ai .none))]),(aK (aN .len [(af 16)]) [(.NotEq,(bq (aK (af 8) [(.Gt,(ai (.int 0)))]) (af 4) (ai (.int 1))))])]) (
 ah (aZ (ai (.bool ak)))<|ao) (ao))<|
 ah (aT 17 (aU 44 [(af 16),(af 15),(cA [(af 2),(af 3),(af 4)]),(af 6),(ay .Pow (ai (.int 2)) (ay .Sub (ay .Sub (af 5) (af 7)) (ai (.int 1)))),(af 8)]))<|
 ah (aT 18 (da (af 10) [ae,ae,aa 7] (.one 1) (bP []) (da (aH aA (af 1) 5) [ae,ae,aa 2] (.one 1) (bP []) (da (af 1) [ae,ae,aa 2] (.one 1) (bP []) (ay .FloorDiv (af 1) (ay .Pow (ai (.int 2)) (af 2)))))))<|
 ah (aZ (qy (fo (aK (af 17) [(.Eq,(af 18))])) (fo (aK (da (af 16) [ae,ae,ae] (.one 1) (bP [(fQ [(aK (ai (.int 0)) [(.In,(af 1))]),(aK (aN .len [(af 1)]) [(.Gt,(ai (.int 7)))])])]) (af 1)) [(.Eq,(cJ []))]))))<|ao
theorem acd{m:Nat}(hm:m=1\/m=2)(R:Nat->Nat):lA ((KD PV.int (kF m R)).map (·.1))=(ar m).map (λp:Nat=>PV.int (p:Int))/\sortable ((KD PV.int (kF m R)).map (·.1))=ag:=by rcases hm with rfl|rfl <;> exact⟨rfl,rfl⟩
theorem pH.mono{h h':PH}{fl n:Nat}{R:Nat->Nat}{B:Nat->List Bool}(L:pH h fl n R B)(p:h<+:h'):pH h' fl n R B:=⟨aI p L.fJ,λj hj=>aI p (L.at' j hj),L.inj,L.mW⟩
theorem ace{k J:Nat}{b:Bool}{h:PH}{Q:PV->PH->Prop}{outs:List (List UInt8)}(hJe:outs.length=J)(hJ:0<J)(Ha:J<=1000)(hl:(cn outs J).length<50000)
  (q: ∀ h' fl R,h<+:h'->h.length<=fl->(∀ j,j<J->h.length<=R j)->pH h' fl J R (λj=>cC (outs.getD j []))->Q (.ref fl) h'):Wh ((run T (k+1) b).call 41 [.bytes (cn outs J)]) h Q:=by
 subst hJe;exact abN hJ Ha hl q
theorem acf(hj:j<J):cC (((fw V kd mid m w B J).map (kD C SY)).getD j [])=fT ((fu V kd mid m w B j B).flatMap (gM C SY)):=by unfold fw;rw[eP,dG,b0 hj];show cC (mR (fT _))=_;exact aaD (aaC _)
theorem RD.fin(R:RD V kd mid m w ht B J C SY h0 L pz Pl Rw N 0 h)(hN:N=w*ht)(hd:N=J*B):
  (∀ p y,p<m->y<ht->h[Rw p y]?=aa (.list ((ar w).map λx=> .int (V p y x))))/\ ∀ j,j<J-> ∃ n,n<8/\h[L j]?=aa (.list ((cX n ag).map bI)):=by
 refine⟨λp y hp hy=>?_,λj hj=>?_⟩
 .have:=R.ve p y hp hy
  have h1:(y+1)*w<=ht*w:=lX _ hy;rw[fN,dt ht w,<- hN] at h1;rw[show min w (fU N 0 p-y*w)=w by unfold fU;rw[if_neg (aw [] (.no (.t J0 Y0)))];exact(dn [.e J0 J1,.l (.a J2 J3) J0,pB J5 (.a J0 Y0) J2,pM J4 J3 J5] (.e J4 J3)) hN h1 (uB _ _) (uM _ _)] at this;exact this
 .have:=R.vf j hj
  have h1:(j+1)*B<=J*B:=lX _ hj;rw[fN,<- hd] at h1;have e:iE V kd mid m w B N 0 j=fu V kd mid m w B j B:=by
   unfold iE;rw[rE (by exact(bU [.e J0 J1,.l (.a J2 J3) J0,pB J4 J0 J2] (.l J3 J4)) hN h1 (uB _ _)),zM]
   split <;> exact jr _
  rw[e] at this;unfold fT at this;rw[Dy] at this;exact⟨_,la _ (by decide),this⟩
theorem acg[Decidable p](h1:p-> ∀ K:PV->aj->Prop,K v s->a O s K)(h2: ¬ p-> ∀ K:PV->aj->Prop,K v s->b O s K)(q:K v s):iU a b O K (decide p) s:=fF (λc=>h1 c _ q) λc=>h2 c _ q
section
variable{k m w ht B N l a b pz:Nat}{kd I p0 pt M:Int}{V:Nat->Nat->Nat->Int}{C:Nat->Nat->Nat}{SY:Nat->List Int}{h:PH}{v0 v1 v11 Ql:PV}{f9 jj fx Qm Qn Qo:Option PV}{r:List (Option PV)}
theorem ach(eU:U=λp y x=>(V p y x).fdiv (2^pt.toNat))(eM:md=2^(p0-pt-1).toNat)(hm:m=1\/m=2)(cj:1<=kd/\kd<=7)(fq:0<=pt/\pt<2)(uV:p0=2\/p0=8\/p0=16)(H:pC I w ht B N)(hN:N<=10)(hl:h[l]?=aa (.list [.ref a,.ref b]))(hO: ∀ p,p<m->ek (C p) (SY p))
  (hS: ∀ i p,i<N->p<m->(aG (dE U kd md w B p i):Int)∈SY p) (ha:h[a]?=aa (.inst 10 [(33,.int 196),(34,.bytes (bV C SY m)),(35,.bytes [])]))
  (hb:h[b]?=aa (.inst 10 [(33,.int 218),(34,.bytes (yf m kd pt)),(35,.bytes (cn ((fw U kd md m w B (N/B)).map (kD C SY)) (N/B)))]))
  (PA:qK h pz m w ht V) (hV: ∀ p y x,p<m->y<ht->x<w->0<=V p y x/\V p y x<=M) (hM:M<65536) (qf: ∀ h',Kf (.bool ag) h'):
  Qk (run T (k+11) ag) ⟨h,[aa v0,aa v1,aa (.int (m:Nat)),aa (.int (w:Nat)),aa (.int (ht:Nat)),aa (.int p0),aa (.int kd),aa (.int pt),aa (.int I),f9,aa (.ref pz),aa v11,aa Ql,aa (.ref l),jj,fx,Qm,Qn,Qo]++r⟩ (aW Kf):=by
 obtain⟨jJ,fK,hdiv⟩:=H.pos;have cO:0<m/\m<=4:=(aw [.o (.e J0 Y1) (.e J0 Y2)] (.an (.t Y0 J0) (.l J0 (.n 4)))) hm;have gm:d7 0 (m:Int) 1=ag:=gK ((aw [.an (.t Y0 J0) (.l J0 (.n 4))] (.an (.L (.n 0) (.c J0)) (.L (.c J0) (.n 1000000)))) cO);unfold Qk;dsimp only[wg,oH];nofun;refine lC (xs:=[.ref a,.ref b]) (λi st acc=> ∃ e1,st=⟨h,[ae,e1]⟩/\acc=([.int 196,.int 218]:List PV).take i) hl ⟨ae,rfl,rfl⟩ (λi st acc zz=>by obtain⟨e1,e,_⟩:=zz;rw[e];exact hl) ?_ ?_
 .rintro i x _ acc KC XC hK hX hx ⟨e1,rfl,rfl⟩
  have hi:i<2:=(dF.mp hx).1;have:i=0\/i=1:=(aw [.t J0 Y2] (.o (.e J0 Y0) (.e J0 Y1))) hi;rcases this with rfl|rfl
  .obtain rfl:=bD hx
   nofun;exact hK ⟨_,rfl,rfl⟩
  .obtain rfl:=bD hx
   nofun;exact hK ⟨_,rfl,rfl⟩
 rintro _ acc ⟨e1,rfl,rfl⟩;refine dW (by show 2<=1000000;decide) ?_;dsimp only;nofun;refine FD (BR (l:=[196,218]) (aJ aM) aM) ?_;nofun;generalize hg1:h++[aB.list (wk (wi [PV.ref a,.ref b]) [PV.int 196,.int 218])]++[aB.list [PV.int 196,.int 218]]=h1;have p1:h<+:h1:=hg1▸(bH _ _).trans (bH _ _);refine iw (n:=m) (λi st=>jW λ(h':PH) (e9:Option PV) (z:Nat)=>jz (st=⟨h',aa v0::aa v1::aa (.int (m:Nat))::aa (.int (w:Nat))::aa (.int (ht:Nat))::aa (.int p0)::aa (.int kd)::aa (.int pt)::aa (.int I)::e9::aa (.ref pz)::aa v11::aa Ql::aa (.ref l)::aa (.ref z)::fx::Qm::Qn::Qo::r⟩) (h1<+:h') (h'[z]?=aa (.list (((m:Int)::(ar i).flatMap λi=>[((i+1:Nat):Int),((16*i:Nat):Int)]).map PV.int)))) rfl ⟨_,_,_,rfl,bH _ _,aM⟩ ?_ ?_
 .rintro i _ KC hK hi ⟨h',e9,z,rfl,p,hz⟩
  have g16:(bT 16||bT (i:Int))=ag:=rfl;nofun;refine xG (aJ hz) aM ?_ ?_
  .have: ∀ n,((ar n).flatMap λi=>[((i+1:Nat):Int),((16*i:Nat):Int)]).length=2*n:=λn=>by
    induction n with
    |zero=>rfl
    |succ n ih=>rw[dZ,jM,bb,ih];simp;exact aw [] (.e (.a (.m 2 J0) Y2) (.m 2 (.a J0 Y1)))
   rw[bb,aX,fW,this];show _+2<=_;exact(au [.an (.t Y0 J0) (.l J0 (.n 4)),.t J1 J0] (.l (.a (.a (.m 2 J1) Y1) Y2) (.n 1000000))) cO hi
  nofun;refine hK (.inl rfl) ⟨_,_,_,rfl,(p.trans (bH _ _)).trans (bH _ _),aM.trans ?_⟩;rw[dZ,jM,<- wg,b8];rfl
 rintro _ ⟨h2,e9,z,rfl,p2,hz⟩;have Ht:=p1.trans p2;have eY:=aI Ht hl;have xj:=aI Ht hb;nofun;refine bS eY (by decide) rfl ?_;nofun;refine YV (by unfold yf;simp;rcases hm with rfl|rfl <;> decide) ?_;rw[ab6 hm cj fq];nofun;refine xG (aJ (aJ hz)) aM (by rcases hm with rfl|rfl <;> exact Nat.le_of_ble_eq_true rfl) ?_;rw[show((m:Int)::(ar m).flatMap λi=>[((i+1:Nat):Int),((16*i:Nat):Int)]).map PV.int++[.int kd,.int 0,.int pt]=(vh m kd pt).map PV.int by unfold vh;rw[b8];rfl];nofun;refine FD (BR (l:=vh m kd pt) (aJ (aJ aM)) aM) ?_;nofun;generalize Bo:h2++[aB.list ((vh m kd pt).map PV.int)]++[aB.list [PV.int kd,.int 0,.int pt]]++[aB.list ((vh m kd pt).map PV.int)]=h3;have p3:h<+:h3:=Bo▸Ht.trans (((bH _ _).trans (bH _ _)).trans (bH _ _));have ha3:=aI p3 ha;refine bS (aI p3 hl) (by decide) rfl ?_;nofun;refine abM cO.2 hO λh4 kb p4 lo4 A4=>?_;have Hu:=p3.trans p4;have hb4:=aI Hu hb;nofun;refine bS (aI Hu hl) (by decide) rfl ?_;nofun;have yc:((fw U kd md m w B (N/B)).map (kD C SY)).length=N/B:=by rw[aX];exact(aX _).trans fV
 have hJ0:0<N/B:=by
  rcases rB (N/B) with e|e
  .rw[e] at hdiv;exact(az [.t Y0 J0,.e J0 (.m 0 J1)] (.t Y0 J2)) jJ hdiv
  .exact e
 have Bw:N/B<=N:=Lg _ _;have hjb:=ab7 (V:=U) (kd:=kd) (mid:=md) (C:=C) (SY:=SY) H cO.2;refine ace yc hJ0 ((au [.l J0 (.n 10),.l J1 J0] (.l J1 (.n 1000))) hN Bw) ((au [.l J0 (.n 10),.l J1 (.m 36 J0)] (.t J1 (.n 50000))) hN hjb) λh5 fl L p5 lo5 loL L5=>?_;have A5:=A4.mono λz es e=>aI p5 e;obtain⟨Rc,c1,c2⟩:=id A5;obtain⟨Qp,ks2⟩:=acd hm Rc;have L5':pH h5 fl (N/B) L λj=>fT ((fu U kd md m w B j B).flatMap (gM C SY)):=⟨L5.fJ,λj hj=>by have:=L5.at' j hj;rw[acf hj] at this;exact this,L5.inj,L5.mW⟩;nofun;refine FF c1 ks2 (by rw[Qp];simp;exact(aw [.an (.t Y0 J0) (.l J0 (.n 4))] (.l J0 (.n 1000000))) cO) ?_;rw[Qp];nofun;refine FG (by rw[pg];simp;exact(aw [.an (.t Y0 J0) (.l J0 (.n 4))] (.l J0 (.n 1000000))) cO) ?_;rw[pg];have hmm:(ar m).map (λp:Nat=>PV.int (p:Int))=((ar m).map λp:Nat=>(p:Int)).map PV.int:=by rw[cV];rfl
 rw[hmm];nofun;refine FD (BR (l:=(ar m).map λp:Nat=>(p:Int)) (aJ aM) aM) ?_;nofun;generalize yt:h5++[aB.list (((ar m).map λp:Nat=>(p:Int)).map PV.int)]++[aB.list (((ar m).map λp:Nat=>(p:Int)).map PV.int)]=h6;have p6:h5<+:h6:=yt▸(bH _ _).trans (bH _ _);have L6:=L5'.mono p6;have f6:=L6.fJ;have BE:((((ar (N/B)).map λj=>PV.ref (L j)).length:Nat):Int)=(N/B:Nat):=by simp
 nofun;have Qq:(0<I->N/B=ht)/\(¬ 0<I->N/B=1):=by
  have hw:=H.w';have hN':=H.N';rcases H.B' with⟨e1,e2⟩|⟨e1,e2⟩
  .exact⟨λzy=>by rw[hN',e2,zO _ hw.1],λc=>by exact(lx [.t Y0 J0,.E Q0 (.c J0),.no (.T (.n 0) Q0)] (.e J1 Y1)) fK e1 c⟩
  .exact⟨λc=>by exact(lx [.E Q0 (.n 0),.T (.n 0) Q0] (.e J0 J1)) e1 c,λzy=>by rw[e2,DQ jJ]⟩
 refine acg (v:= .int ((N/B:Nat):Int)) (λc K q=>by rw[Qq.1 c] at q;exact q) (λc K q=>by rw[Qq.2 c] at q;exact q) ?_;have gp:(eC (p0-pt-1)&&bT 2)=ag:=by have:pt=0\/pt=1:=(cY [.an (.L (.n 0) Q0) (.T Q0 (.n 2))] (.o (.E Q0 (.n 0)) (.E Q0 (.n 1)))) fq;rcases uV with rfl|rfl|rfl <;> rcases this with rfl|rfl <;> rfl
 nofun;have A6:=A5.mono λz es e=>aI p6 e;have BL: ∀ p y x,p<m->y<ht->x<w->0<=U p y x/\U p y x<65536:=λp y x hp hy hx=>by
  rw[eU];show 0<=(V p y x).fdiv (2^pt.toNat)/\(V p y x).fdiv (2^pt.toNat)<65536;have h1:=hV p y x hp hy hx;have:pt=0\/pt=1:=(cY [.an (.L (.n 0) Q0) (.T Q0 (.n 2))] (.o (.E Q0 (.n 0)) (.E Q0 (.n 1)))) fq;rcases this with rfl|rfl
  .rw[show(2:Int)^(0:Int).toNat=1 from rfl,Int.fdiv_one];exact(mj [.T Q0 (.n 65536),.an (.L (.n 0) Q1) (.L Q1 Q0)] (.an (.L (.n 0) Q1) (.T Q1 (.n 65536)))) hM h1
  .rw[show(2:Int)^(1:Int).toNat=2 from rfl,zt _ (by decide)];exact(My [.T Q0 (.n 65536),.an (.L (.n 0) Q1) (.L Q1 Q0),pd 2 Q2 Q1] (.an (.L (.n 0) Q2) (.T Q2 (.n 65536)))) hM h1 (ud _ 2)
 rw[<- eM];refine ab4 (k:=k+9) (V:=U) H cO cj hO hS BL A6 L6 λh7 pz2 Pl Rw R7=>?_;obtain⟨r1,r2⟩:=R7.fin H.N' hdiv;have p47:h4<+:h7:=R7.kp.pre (p5.trans p6) λz ⟨j,hj,e⟩=>e▸loL j hj;have f7:=R7.kp.get _ _ (λ⟨j,hj,e⟩=>L6.mW j hj e.symm) L6.fJ;have Qr:=H.w';have Qs:=H.h';nofun;refine aca (PA.mono (Hu.trans p47)) ((aw [.an (.t Y0 J0) (.l J0 (.n 4))] (.l J0 (.n 1000))) cO) Qr.2 Qs.2 ((cY [.an (.L (.n 0) Q0) (.T Q0 (.n 2))] (.o (.E Q0 (.n 0)) (.E Q0 (.n 1)))) fq) rfl λh8 du Ud p8 d1 d2=>?_;have aci:mx h8 9 (.ref pz2) (.ref du):=by
  refine BQ (aI p8 R7.vc) d1 (by simp) λp x y hx hy=>by
   obtain⟨hp,rfl⟩:=sO hx;obtain⟨_,rfl⟩:=sO hy;obtain⟨R2,g1,g2⟩:=d2 p hp;refine BQ (aI p8 (R7.vd p hp)) g1 (by simp) λyy x y hx hy=>by
    obtain⟨Qt,rfl⟩:=sO hx;obtain⟨_,rfl⟩:=sO hy;have e: ∀ f:Nat->Int,(ar w).map (λx=>PV.int (f x))=((ar w).map f).map PV.int:=λf=>by rw[cV];rfl
    have l1:=aI p8 (r1 p yy hp Qt);have l2:=g2 yy Qt;rw[eU] at l1;rw[e] at l1 l2;exact BR l1 l2
 have hw3:w<=10:=by have h1:=H.N';have:w*1<=w*ht:=wm _ Qs.1;exact(aQ [.l J0 (.n 10),.e J0 J1,.e J0 J2,.l (.w J3 1) J2] (.l J3 (.n 10))) hN hdiv h1 this
 have sI:ht<=10:=by have h1:=H.N';have:1*ht<=w*ht:=lX _ Qr.1;exact(aQ [.l J0 (.n 10),.e J0 J1,.e J0 J2,.l (.m 1 J3) J2] (.l J3 (.n 10))) hN hdiv h1 this
 nofun;refine NW aci ?_;nofun;obtain⟨n,hn⟩: ∃ n:Nat->Nat,∀ j,j<N/B->n j<8/\h7[L j]?=aa (.list ((cX (n j) ag).map bI)):=⟨λj=>if hj:j<N/B then(r2 j hj).choose else 0,λj hj=>by simp only[dif_pos hj];exact(r2 j hj).choose_spec⟩;refine acb (n:=n) (caps:=[]) (aI p8 f7) ((au [.l J0 (.n 10),.l J1 J0] (.l J1 (.n 1000))) hN Bw) (λj hj=>⟨aI p8 (hn j hj).2,(hn j hj).1⟩) ?_;nofun;refine NW (BQ (xs:=[]) (ys:=[]) (aJ aM) aM rfl λi x y hx=>by simp at hx) ?_;nofun;exact qf _
end
theorem acj{f:Int}(h:0<=f/\f<6): ∃ w ht:Nat,([.tup [.int 2,.int 2],.tup [.int 3,.int 2],.tup [.int 1,.int 1],.tup [.int 3,.int 1],.tup [.int 1,.int 3],.tup [.int 1,.int 10]]:List PV)[f.toNat]?=aa (.tup [.int (w:Nat),.int (ht:Nat)])/\0<w/\w<=3/\0<ht/\ht<=10/\w*ht<=10:=by
 have:f=0\/f=1\/f=2\/f=3\/f=4\/f=5:=(cY [.an (.L (.n 0) Q0) (.T Q0 (.n 6))] (.o (.E Q0 (.n 0)) (.o (.E Q0 (.n 1)) (.o (.E Q0 (.n 2)) (.o (.E Q0 (.n 3)) (.o (.E Q0 (.n 4)) (.E Q0 (.n 5)))))))) h;rcases this with rfl|rfl|rfl|rfl|rfl|rfl
 .exact⟨2,2,rfl,by decide⟩
 .exact⟨3,2,rfl,by decide⟩
 .exact⟨1,1,rfl,by decide⟩
 .exact⟨3,1,rfl,by decide⟩
 .exact⟨1,3,rfl,by decide⟩
 .exact⟨1,10,rfl,by decide⟩
theorem ack{f:Int}(h:0<=f/\f<3): ∃ p:Int,([.int 2,.int 8,.int 16]:List PV)[f.toNat]?=aa (.int p)/\(p=2\/p=8\/p=16):=by
 have:f=0\/f=1\/f=2:=(cY [.an (.L (.n 0) Q0) (.T Q0 (.n 3))] (.o (.E Q0 (.n 0)) (.o (.E Q0 (.n 1)) (.E Q0 (.n 2))))) h;rcases this with rfl|rfl|rfl
 .exact⟨2,rfl,by decide⟩
 .exact⟨8,rfl,by decide⟩
 .exact⟨16,rfl,by decide⟩
section
variable{k:Nat}
set_option maxHeartbeats 1000000 in
theorem acm(l:List Int):Wh ((run T (k+12) ag).call 45 [.j0 l]) [] λr h'=>r= .bool ag:=by
 refine bc (Wf _ _ _ _) ?_;nofun;refine ZG λn s hs=>?_;have hW:([]++[wd n s]:PH)[0]?=aa (wd n s):=rfl;have e0:([]:PH).length=0:=rfl;rw[e0];generalize ([]++[wd n s]:PH)=h at *
 nofun;refine qH hW (by decide) hs λf n s f0 f1 hs=>?_;replace hW:=bF (o:=wd n s) hW;generalize h.set _ (wd n s)=h at *
 obtain⟨m,hm,Qu⟩: ∃ m:Nat,1+f=(m:Int)/\(m=1\/m=2):=⟨(1+f).toNat,by exact(cM [.L (.n 0) Q0,pT J0 (.a (.n 1) Q0)] (.E (.a (.n 1) Q0) (.c J0))) f0 (uT _),by exact(cM [.L (.n 0) Q0,.T Q0 (.n 2),pT J0 (.a (.n 1) Q0)] (.o (.e J0 Y1) (.e J0 Y2))) f0 f1 (uT _)⟩;nofun;rw[hm];nofun;refine qH (aJ hW) (by decide) hs λf n s f0 f1 hs=>?_;obtain⟨w,ht,cH,w0,w1,Qv,BS,BU⟩:=acj ⟨f0,f1⟩;have bf:=bh hW;refine bS (bj aM ((aw [.t Y0 J0] (.no (.e Y0 J0))) bf)) f0 cH ?_;replace hW:=bF (o:=wd n s) (aJ (o':= .list [.tup [.int 2,.int 2],.tup [.int 3,.int 2],.tup [.int 1,.int 1],.tup [.int 3,.int 1],.tup [.int 1,.int 3],.tup [.int 1,.int 10]]) hW);generalize oK _ 0 (wd n s)=h at *
 nofun;refine qH (aJ hW) (by decide) hs λf n s f0 f1 hs=>?_;obtain⟨p0,uV,BV⟩:=ack ⟨f0,f1⟩;have bf:=bh hW;refine bS (bj aM ((aw [.t Y0 J0] (.no (.e Y0 J0))) bf)) f0 uV ?_;replace hW:=bF (o:=wd n s) (aJ (o':= .list [.int 2,.int 8,.int 16]) hW);generalize oK _ 0 (wd n s)=h at *
 nofun;refine qH hW (by decide) hs λf n s f0 f1 hs=>?_;replace hW:=bF (o:=wd n s) hW;generalize oK _ 0 (wd n s)=h at *
 obtain⟨kd,cj,Qw⟩: ∃ kd:Int,1+f=kd/\1<=kd/\kd<=7:=⟨_,rfl,by exact(cY [.L (.n 0) Q0] (.L (.n 1) (.a (.n 1) Q0))) f0,by exact(cY [.T Q0 (.n 7)] (.L (.a (.n 1) Q0) (.n 7))) f1⟩;nofun;rw[cj];refine qH hW (by decide) hs λpt n s Hv Hw hs=>?_;replace hW:=bF (o:=wd n s) hW;generalize oK _ 0 (wd n s)=h at *
 nofun;refine qH hW (by decide) hs λf n s f0 f1 hs=>?_;replace hW:=bF (o:=wd n s) hW;generalize oK _ 0 (wd n s)=h at *
 obtain⟨I,hI,hIc⟩: ∃ I:Int,(w:Int)*f=I/\(I=(w:Nat)\/I=0):=⟨_,rfl,by
  have:f=0\/f=1:=(cY [.L (.n 0) Q0,.T Q0 (.n 2)] (.o (.E Q0 (.n 0)) (.E Q0 (.n 1)))) f0 f1;rcases this with rfl|rfl
  .right;simp
  .left;simp⟩
 have gI:(bT (w:Int)||bT f)=ag:=by unfold bT;rw[decide_eq_true (show(w:Int).natAbs<18446744073709551616 from(au [.t Y0 J0,.l J0 (.n 3),pA J1 (.c J0)] (.t J1 (.n 18446744073709551616))) w0 w1 (uA _))];rfl
 have gm:d7 0 (m:Int) 1=ag:=gK ((cM [.E (.a (.n 1) Q0) (.c J0),.L (.n 0) Q0,.T Q0 (.n 2)] (.an (.L (.n 0) (.c J0)) (.L (.c J0) (.n 1000000)))) hm ‹_› ‹_›);nofun;rw[hI];have acn: ∃ M:Int,(2:Int)^p0.toNat-1=M/\0<=M/\M<65536:=by rcases BV with rfl|rfl|rfl <;> exact⟨_,rfl,by decide,by decide⟩
 obtain⟨M,hM,hM0,Qx⟩:=acn;have gp:(eC p0&&bT 2)=ag:=by rcases BV with rfl|rfl|rfl <;> rfl
 refine qG (n:=m) (λi st acc=>Aw λ(h':PH) (n s:Int) (e1:Option PV) (U:Nat->Nat) (V:Nat->Nat->Nat->Int)=>nH (st=⟨h',[ae,e1,ae,aa (.int (ht:Nat)),aa (.int p0),aa (.ref 0),aa (.int (w:Nat))]⟩) (h'[0]?=aa (wd n s)) (0<=s) (acc=(ar i).map (λp=> .ref (U p))) (∀ p,p<i->(∃ r,h'[U p]?=aa (.inst 11 [(15,.int (w:Nat)),(14,.int (ht:Nat)),(5,.ref r)])/\jG h' r ht w (V p))/\ ∀ y x,y<ht->x<w->0<=V p y x/\V p y x<=M)) rfl ⟨h,n,s,ae,λzy=>0,λzy zy zy=>0,rfl,hW,hs,rfl,λp hp=>absurd hp (dm _)⟩ ?_ ?_
 .rintro i _ acc KC XC hK hX hi ⟨h',n,s,e1,U,V,rfl,hW,hs,rfl,j7⟩
  nofun;rw[hM];refine ZI (w:=w) (ht:=ht) hW hs ((aw [.l J0 (.n 3)] (.l J0 (.n 1000))) w1) ((aw [.l J0 (.n 10)] (.l J0 (.n 1000))) BS) ((mj [.E (.s Q0 (.n 1)) Q1,.L (.n 0) Q1,.T Q1 (.n 65536)] (.an (.L (.n 0) Q1) (.T Q1 (.n 100000)))) hM hM0 Qx) λh2 r p V2 n' s' K lE n6 ho G hV=>?_;have kl: ∀ (z:Nat) lst,h'[z]?=aa (.list lst)->h2[z]?=aa (.list lst):=λz lst e=>K.get _ _ (cy e hW rfl) e;refine hK ⟨h2,n',s',_,(λz=>if z=i then p else U z),(λz=>if z=i then V2 else V z),rfl,lE,n6,?_,λq hq=>?_⟩
  .rw[dZ,b8]
   congr 1
   .refine gF λq hq=>?_
    rw[fh] at hq;dsimp only;rw[if_neg (cq hq)]
   .simp
  .by_cases e:q=i
   .subst e;simp only[if_pos]
    exact⟨⟨r,ho,G⟩,hV⟩
   .simp only[if_neg e]
    obtain⟨⟨r',o',G'⟩,hV'⟩:=j7 q ((rX [.E (.a (.n 1) Q0) (.c J0),.t J1 J0,.t J2 (.a J1 Y1),.no (.e J2 J1),.T Q0 (.n 2)] (.t J2 J1)) hm hi hq e ‹_›);exact⟨⟨r',K.get _ _ (cy o' hW rfl) o',G'.mono kl⟩,hV'⟩
 rintro _ acc ⟨h1,n,s,e1,U,V,rfl,hW,hs,rfl,j7⟩;refine dW (by simp;exact(cM [.E (.a (.n 1) Q0) (.c J0),.T Q0 (.n 2)] (.l J0 (.n 1000000))) hm ‹_›) ?_;dsimp only;clear hW hs;have PA:qK (h1++[aB.list ((ar m).map λp=> .ref (U p))]) h1.length m w ht V:=⟨U,aM,λp hp=>by obtain⟨⟨r,a,G⟩,_⟩:=j7 p hp;exact⟨r,aJ a,G.mono λz lst e=>aJ e⟩⟩;have hV: ∀ p y x,p<m->y<ht->x<w->0<=V p y x/\V p y x<=M:=λp y x hp=>(j7 p hp).2 y x;generalize hpz:h1.length=pz at *
 generalize h1++[aB.list ((ar m).map λp=> .ref (U p))]=h1 at *
 clear j7 hpz;nofun;refine qG (n:=m) (λi st acc=>jW λ(h':PH) (e1:Option PV) (U:Nat->Nat)=>jX (st=⟨h',[ae,e1,ae]⟩) (h1<+:h') (acc=(ar i).map (λp=> .ref (U p))) (∀ p,p<i->h'[U p]?=aa (.inst 3 [(9,.int (p+1:Nat)),(10,.int 1),(11,.int 1),(12,.int 0)]))) rfl ⟨h1,ae,λzy=>0,rfl,fg,rfl,λp hp=>absurd hp (dm _)⟩ ?_ ?_
 .rintro i _ acc KC XC hK hX hi ⟨h',e1,U,rfl,p,rfl,hU⟩
  nofun;refine j3 Zf (ZQ aM ?_);rw[Bb];refine hK ⟨_,_,(λz=>if z=i then h'.length else U z),rfl,pre_app p,?_,λq hq=>?_⟩
  .rw[dZ,b8]
   congr 1
   .refine gF λq hq=>?_
    rw[fh] at hq;dsimp only;rw[if_neg (cq hq)]
   .simp
  .by_cases e:q=i
   .subst e;simp only[if_pos];exact aM
   .simp only[if_neg e];exact aJ (hU q ((rX [.E (.a (.n 1) Q0) (.c J0),.t J1 J0,.t J2 (.a J1 Y1),.no (.e J2 J1),.T Q0 (.n 2)] (.t J2 J1)) hm hi hq e ‹_›))
 rintro _ acc ⟨h2,e1,U,rfl,p2,rfl,hU⟩;refine dW (by simp;exact(cM [.E (.a (.n 1) Q0) (.c J0),.T Q0 (.n 2)] (.l J0 (.n 1000000))) hm ‹_›) ?_;dsimp only;nofun;refine j3 Zg (ZR aM ?_);rw[Bb];have FA:dI (h2++[aB.list ((ar m).map λp=> .ref (U p))]++[aB.inst 4 [(2,.str (jw "lossless")),(13,.int p0),(14,.int (ht:Nat)),(15,.int (w:Nat)),(16,.ref h2.length),(17,.int 1)]]) (h2++[aB.list ((ar m).map λp=> .ref (U p))]).length m w ht p0 (.str (jw "lossless")):=⟨by exact(cM [.E (.a (.n 1) Q0) (.c J0),.L (.n 0) Q0] (.t Y0 J0)) hm ‹_›,by exact(cM [.E (.a (.n 1) Q0) (.c J0),.T Q0 (.n 2)] (.l J0 (.n 4))) hm ‹_›,h2.length,U,aM,aJ aM,λi hi=>aJ (aJ (hU i hi))⟩;replace PA:=PA.mono (p2.trans ((bH _ [aB.list ((ar m).map λp=> .ref (U p))]).trans (bH _ [aB.inst 4 [(2,.str (jw "lossless")),(13,.int p0),(14,.int (ht:Nat)),(15,.int (w:Nat)),(16,.ref h2.length),(17,.int 1)]])));generalize (h2++[aB.list ((ar m).map λp=> .ref (U p))]).length=fr at *
 generalize h2++[aB.list ((ar m).map λp=> .ref (U p))]++[aB.inst 4 [(2,.str (jw "lossless")),(13,.int p0),(14,.int (ht:Nat)),(15,.int (w:Nat)),(16,.ref h2.length),(17,.int 1)]]=h3 at *
 clear hU p2;nofun;refine FG (by rw[pg];simp;exact(cM [.E (.a (.n 1) Q0) (.c J0),.T Q0 (.n 2)] (.l J0 (.n 1000000))) hm ‹_›) ?_;rw[pg];nofun;refine FG (by rw[pg];simp;exact(cM [.E (.a (.n 1) Q0) (.c J0),.T Q0 (.n 2)] (.l J0 (.n 1000000))) hm ‹_›) ?_;rw[pg];nofun;refine Fy aM ((cM [.E (.a (.n 1) Q0) (.c J0),.L (.n 0) Q0] (.L (.n (-1000000)) (.c J0))) hm ‹_›) ((cM [.E (.a (.n 1) Q0) (.c J0),.T Q0 (.n 2)] (.L (.c J0) (.n 1000000))) hm ‹_›) ?_;rw[bJ];nofun;generalize xW:h3++[aB.list ((ar m).map λp:Nat=>PV.int (p:Int))]=h4;have p4:h3<+:h4:=xW▸bH _ _;have d4:h4[h3.length]?=aa (.list ((ar m).map λp:Nat=>PV.int (p:Int))):=xW▸aM;generalize sC:h4++[aB.list ((ar m).map λp:Nat=>PV.int (p:Int))]=h5;have p5:h4<+:h5:=sC▸bH _ _;have d5:h5[h4.length]?=aa (.list ((ar m).map λp:Nat=>PV.int (p:Int))):=sC▸aM;generalize yt:h5++[aB.list [PV.int 0]]++[aB.list (cX m (PV.int 0))]=h6;have p6:h5<+:h6:=yt▸(bH _ _).trans (bH _ _);have d6:h6[(h5++[aB.list [PV.int 0]]).length]?=aa (.list (cX m (.int 0))):=yt▸aM;refine j3 Zn (ZS aM ?_);rw[Bb];generalize Hx:h6++[aB.inst 12 [(36,.ref h3.length),(19,.ref h4.length),(20,.ref (h5++[aB.list [PV.int 0]]).length),(21,.int kd),(22,.int 0),(23,.int 0),(24,.int pt)]]=h7;have p7:h6<+:h7:=Hx▸bH _ _;have SA:gu h7 h6.length m kd pt:=⟨_,_,_,Hx▸aM,aI p7 (aI p6 (aI p5 d4)),aI p7 (aI p6 d5),aI p7 d6⟩;have Qy:=((p4.trans p5).trans p6).trans p7;replace FA:=FA.mono Qy;replace PA:=PA.mono Qy;have fq:pt=0\/pt=1:=(cY [.L (.n 0) Q0,.T Q0 (.n 2)] (.o (.E Q0 (.n 0)) (.E Q0 (.n 1)))) Hv Hw;obtain⟨B,N,H,hN⟩: ∃ B N,pC I w ht B N/\N<=10:=by
  rcases hIc with e|e
  .exact⟨w,w*ht,⟨rfl,by exact(aw [.t Y0 J0,.l J0 (.n 3)] (.an (.t Y0 J0) (.l J0 (.n 1000)))) w0 w1,by exact(aw [.t Y0 J0,.l J0 (.n 10)] (.an (.t Y0 J0) (.l J0 (.n 1000)))) Qv BS,by exact(aw [.l J0 (.n 10)] (.t J0 (.n 1000))) BU,.inl ⟨e,rfl⟩⟩,BU⟩
  .exact⟨w*ht,w*ht,⟨rfl,by exact(aw [.t Y0 J0,.l J0 (.n 3)] (.an (.t Y0 J0) (.l J0 (.n 1000)))) w0 w1,by exact(aw [.t Y0 J0,.l J0 (.n 10)] (.an (.t Y0 J0) (.l J0 (.n 1000)))) Qv BS,by exact(aw [.l J0 (.n 10)] (.t J0 (.n 1000))) BU,.inr ⟨e,rfl⟩⟩,BU⟩
 clear xW sC yt Hx;nofun;refine aaa (k:=k+7) FA PA ((aw [.l J0 (.n 3)] (.l J0 (.n 1000))) w1) ((aw [.l J0 (.n 10)] (.l J0 (.n 1000))) BS) (by rcases fq with rfl|rfl <;> rfl) λh8 sm p8 S8=>?_;nofun;refine abI (k:=k+2) (FA.mono p8) (SA.mono p8) S8 Qu Qw ((mj [.o (.E Q0 (.n 2)) (.o (.E Q0 (.n 8)) (.E Q0 (.n 16))),.L (.n 0) Q1,.T Q1 (.n 2),.o (.E Q1 (.n 0)) (.E Q1 (.n 1))] (.an (.L (.n 0) Q1) (.an (.L Q1 (.n 15)) (.an (.T Q1 Q0) (.L Q0 (.n 1000)))))) BV Hv Hw fq) H λh9 l' a b C SY p9 hl hO hS ha hb=>?_;dsimp only[kH,xv,AZ,AY,NK];exact ach (k:=k) (r:=[ae,ae,ae,ae,ae,ae,ae,ae,ae,ae,ae,ae,ae]) rfl rfl Qu Qw ((cY [.L (.n 0) Q0,.T Q0 (.n 2)] (.an (.L (.n 0) Q0) (.T Q0 (.n 2)))) Hv Hw) BV H hN hl hO hS ha hb (PA.mono (p8.trans p9)) hV Qx λzy=>rfl
theorem aco(l:List Int):Fv l:=acm (k:=28) l
end
end
noncomputable def Dec:Code->Bool
 | .builtin id _=>Em.contains id
 |_=>ak
def Clear(Γ:Ctx):Prop:=Dec Γ.code=ak/\ ∀ x∈Γ.below,Dec x.1=ak
def aF(b:Bool)(M:eR)(A:bB)(t:Sem α)(Q:α->aq->Prop)(s:aq):Prop:=∀ Γ p,Γ.In A->(b=ag->Clear Γ)->Sem.wp M Γ t (λa zy s'=>Q a s') (λzy zy zy=>False) p s
def iH(b:Bool)(M:eR)(A:bB)(c:Code)(R:iZ->aq->Prop)(s:aq):Prop:=∀ Γ p,Γ.code=c->Γ.Below A->(b=ag->Clear Γ)->wpCode M Γ (λr s'=>match r with| .ok f=>R f s'| .error _=>False) p s
section
variable{α β:Type}{b:Bool}{M:eR}{A:bB}{s:aq}
theorem aV{t:Sem α}{Q:α->aq->Prop}(h:aC M A t Q (λzy zy=>False) s):aF b M A t Q s:=λΓ p bQ zy=>h Γ p bQ
theorem yu{t:Sem α}{Q:α->aq->Prop}(h:aF ak M A t Q s):aC M A t Q (λzy zy=>False) s:=λΓ p bQ=>h Γ p bQ nofun
theorem aP(h:Q a s):aF b M A (pure a) Q s:=λzy zy zy zy=>h
theorem lN(h:aF b M A t Q s)(hQ: ∀ a s,Q a s->Q' a s):aF b M A t Q' s:=λΓ p bQ hc=>o3 M Γ t (λa zy s=>hQ a s) (λzy zy zy h=>h) p s (h Γ p bQ hc)
theorem av{m:Sem α}{f:α->Sem β}{Q:β->aq->Prop}(h:aF b M A m (λa s'=>aF b M A (f a) Q s') s):aF b M A (m >>= f) Q s:=λΓ p bQ hc=>by rw[ED];exact o3 M Γ m (λa p' s' h'=>h' Γ p' bQ hc) (λzy zy zy h'=>h') p s (h Γ p bQ hc)
theorem ai2{m:Sem α}{f:α->β}{Q:β->aq->Prop}(h:aF b M A m (λa s'=>Q (f a) s') s):aF b M A (f <$> m) Q s:=λΓ p bQ hc=>by rw[Sem.wp_map];exact h Γ p bQ hc
theorem ai3[Decidable c](h:if c then aF b M A x Q s else aF b M A y Q s):aF b M A (if c then x else y) Q s:=by split <;> rename_i q <;> simpa only[q,if_true,if_false] using h
theorem qY(hm:aF b M A m Q s):aF b M A (m.onRaise h) Q s:=λΓ p bQ hc=>by rw[Sem.wp_onRaise];exact o3 M Γ m (λzy zy zy h=>h) (λzy zy zy h=>h.elim) p s (hm Γ p bQ hc)
theorem ai4(hm:aF b M A m Q s):aF b M A (MonadExcept.tryCatch m h) Q s:=λΓ p bQ hc=>by rw[Sem.wp_tryCatch'];exact o3 M Γ m (λzy zy zy h=>h) (λzy zy zy h=>h.elim) p s (hm Γ p bQ hc)
theorem cg(h:aF b M A m Q s):aF b M A (oW vs m) Q s:=λΓ p bQ hc=>by rw[Sem.wp_holding];exact h Γ p bQ hc
theorem acp(h:aF b M A m Q s):aF b M A (m.keep vs) Q s:=λΓ p bQ hc=>by rw[Sem.wp_keep];exact h Γ p bQ hc
theorem BX(h:aF b M A m Q s):aF b M A (operate vs m) Q s:=λΓ p bQ hc=>by rw[Sem.wp_operate];exact h Γ p bQ hc
theorem cD(h:Q () s):aF b M A (qi pos) Q s:=λzy zy zy zy=>h
theorem Qz(h:Q () s):aF b M A point Q s:=λzy zy zy zy=>h
theorem BY(h:Q () s):aF b M A (rule tag) Q s:=λzy zy zy zy=>h
theorem QA(h:aF b M A (storeName env x v) Q s):aF b M A (wN env x v) Q s:=λΓ p bQ hc=>by rw[Sem.wp_bindName];exact h Γ p bQ hc
theorem ai5(h:aF b M A.in1 t Q s):aF b M A t Q s:=λΓ p bQ hc=>h Γ p ⟨bQ.1,bQ.2.1,bQ.2.2.1,bQ.2.2.2.1,nq bQ.2.2.2.2⟩ hc
theorem Clear.enter(h:Clear Γ)(hd:Dec c=ak)(hv:Option Value)(p:Pos):Clear (Γ.enter c hv p):=⟨hd,λx hx=>by
 rcases gH.mp hx with rfl|hx
 .exact h.1
 .exact h.2 x hx⟩
theorem Clear.goto(h:Clear Γ)(hd:Dec c=ak):Clear (Γ.goto c):=⟨hd,h.2⟩
theorem ai6{c:Code}{R:iZ->aq->Prop}(h:ny M A c (λr s'=>match r with| .ok f=>R f s'| .error _=>False) s):iH b M A c R s:=λΓ p hc bQ zy=>h Γ p hc bQ
theorem acq(h:iH b M A c R s)(hR: ∀ f s,R f s->R' f s):iH b M A c R' s:=λΓ p hc bQ hC=>Ek (λr s' q=>by cases r <;> first|exact hR _ _ q|exact q) (h Γ p hc bQ hC)
theorem QB(hd:Dec c=ak)(hc:iH b M A c Q s):aF b M A (PySem.run c) Q s:=λΓ p bQ hC=>by rw[Sem.wp_run];refine Ek (λr s' q=>?_) (hc _ p rfl (bQ.enter c ae p nofun) λe=>(hC e).enter hd ae p);cases r <;> exact q
theorem acr{c:Code}{Q:Value->aq->Prop}(hd:Dec c=ak)(hc:iH b M A c (λf s'=>match f with| .ret v=>Q v s'|_=>False) s):aF b M A (runValue c) Q s:=
 λΓ p bQ hC=>by
  rw[Sem.wp_runValue];refine Ek (λr s' q=>?_) (hc _ p rfl (bQ.enter c ae p nofun) λe=>(hC e).enter hd ae p);cases r with
  |error e=>exact q
  |ok f=>cases f <;> exact q
theorem yv{f:Value}{pos:List Value}{kw:List (Str×Value)}{Q:Value->aq->Prop}(hc:iH b M A (.call f ⟨pos,kw⟩) (λf s'=>match f with| .ret v=>Q v s'|_=>False) s): aF b M A (call f pos kw) Q s:=acr rfl hc
theorem QC(hd:Dec c=ak)(hc:iH b M A c Q s):aF b M A (runOwn c env) Q s:=by unfold runOwn;exact qY (QB hd hc)
def yw(b:Bool)(M:eR)(A:bB)(R:iZ->aq->Prop)(fin:fA)(s':aq):Prop:=match fin with| .done f=>R f s'| .again c'=>c'.quiet=ag/\Dec c'=ak/\iH b M A c' R s'
theorem jK(h:aF b M (A.under c) (M.den c) (yw b M A R) s):iH b M A c R s:=λΓ p hc bQ hC=>by
 rw[wpCode_iff_wp,hc];refine o3 M Γ _ (λfin p' s' h'=>?_) (λzy zy zy h'=>h'.elim) p s (h Γ p (hc▸bQ.in) hC);cases fin with
 |done f=>exact h'
 |again c'=>exact⟨h'.1,h'.2.2 (Γ.goto c') p' rfl (bQ.goto c') λe=>(hC e).goto h'.2.1⟩
end
open PySem.W PyProof.Rows
noncomputable def acs:List Nat:=[108,115,122,129,136,209,258,265,272,387,394,401,408,413,420,427,469,476,481,488,493,501,508,515,522,529,684,691,698,705,712,719,726,733,740,745,787,829,836,841,848,853,860,867,872,877,150,157,164,183,190,197,223,230,237,244,286,307,312,317,324,331,338,345,352,373,441,448,543,550,557,564,585,592,599,606,627,634,641,648,670,759,766,801,808,167,200,247,289,355,376,458,567,609,651,673,776,818]
noncomputable def acu:List Nat:=[167,200,247,289,355,376,458,567,609,651,673,776,818]
noncomputable def acv:List Nat:=[166,199,246,288,354,375,457,566,608,650,672,775,817]
noncomputable def kG (i:Nat):Nat:=acs.getD i 0
noncomputable def qZ (c:Nat):Nat:=acu.getD c 0
noncomputable def pI (c:Nat):Nat:=acv.getD c 0
noncomputable def lEq:List Nat->List Nat->Bool
 |[],[]=>ag
 |a::l,b::r=>bif lb a b then lEq l r else ak
 |_,_=>ak
noncomputable def sEq (a b:Str):Bool:=lEq a.cps.toList b.cps.toList
theorem lEq_iff: ∀ {l r:List Nat},lEq l r=ag↔l=r
 |[],[]=>⟨λzy=>rfl,λzy=>rfl⟩
 |[],_::_=>⟨nofun,nofun⟩
 |_::_,[]=>⟨nofun,nofun⟩
 |a::l,b::r=>by
  cases h:lb a b with
  |true=>have e:=tI h;subst e;rw[show lEq (a::l) (a::r)=bif lb a a then lEq l r else ak from rfl,h];exact lEq_iff.trans ⟨congrArg _,λe=>(KY e).2⟩
  |false=>rw[show lEq (a::l) (b::r)=bif lb a b then lEq l r else ak from rfl,h];exact⟨nofun,λe=>absurd (KY e).1 (DE h)⟩
theorem sEq_iff{a b:Str}:sEq a b=ag↔a=b:=by
 induction a using Str.casesOn with
 |mk a=>induction b using Str.casesOn with|mk b=>exact lEq_iff.trans ⟨λe=>congrArg Str.mk (vT.mp e),λe=>congrArg (λs:Str=>s.cps.toList) e⟩
theorem Hy(a b:Str):(a==b)=sEq a b:=kX.mpr (beq_iff_eq.trans sEq_iff.symm)
theorem Hz{a b:Str}(h:(!sEq a b)=ag):(a==b)=ak:=by rw[Hy];exact(ox _).mp h
abbrev Lk:=Nat->Option Obj
def kc(K:Lk)(H:Heap):Prop:= ∀ {a o},K a=aa o->H.get? a=aa o
noncomputable def sP:Value->Option String
 | .type n=>aa n
 |_=>ae
noncomputable def yx:Value->Option Nat
 | .ref a=>aa a
 |_=>ae
noncomputable def QD:Value->Option PV
 | .int i _=>aa (.int i)
 | .bytes b _=>bif iY b.size 1000000 then aa (.bytes b.toList) else ae
 |_=>ae
noncomputable def HA:List Value->Option (List PV)
 |[]=>aa []
 |v::r=>(QD v).bind λp=>(HA r).map (p:: ·)
noncomputable def HB:Data->Option (List Value)
 | .seq xs _=>aa xs.toList
 |_=>ae
noncomputable def QE:Data->Option qh
 | .func f=>aa f
 |_=>ae
noncomputable def QF:Data->Option ClassData
 | .cls f=>aa f
 |_=>ae
noncomputable def QG:Data->Option (Array Value)
 | .fields f=>aa f
 |_=>ae
noncomputable def HD:Data->Option (List jS)
 | .dict es _=>aa es.toList
 |_=>ae
noncomputable def bodyOf:FuncBody->Option (List b9)
 | .stmts b=>aa b
 |_=>ae
noncomputable def QH (p:Arguments):Option (List Arg):=bif p.posonlyargs.isEmpty&&p.vararg.isNone&&p.kwonlyargs.isEmpty&&p.kw_defaults.isEmpty&&p.kwarg.isNone then aa p.args else ae
noncomputable def BZ:Value->Option Str
 | .str s _=>aa s
 |_=>ae
noncomputable def QI (K:Lk) (v:Value):Option (Option String×List PV):=match v with| .none=>aa (aa "tuple",[])| .ref a=>(K a).bind λo=>bif o.dict.isNone&&lb o.slots.size 0 then(HB o.data).bind λvs=>(HA vs).map λl=>(sP o.cls,l) else ae|_=>ae
noncomputable def codeOk (K:Lk) (fd:qh):Bool:=((yx fd.code).bind K).any λoc=>(QG oc.data).any λvs=>(vs[1]?.bind BZ).any λq=>sEq q fd.qualname
abbrev B1:=List Str×List PV×bg×List b9×Bool
noncomputable def QJ:Option j2->Option B1
 |some (.fn p d n b g)=>aa (p,d,n,b,g)
 |_=>ae
abbrev HE:=(Option String×Option String×ScopeKind)×B1
noncomputable def HF (K:Lk) (a:Nat):Option HE:=(K a).bind λo=>(QE o.data).bind λfd=>(bodyOf fd.body).bind λb=>(QH fd.params).bind λfS=>(QI K fd.defaults).bind λd=>bif !fd.scope.isCoroutine&&lb fd.globals jQ&&lb fd.builtins rJ&&fd.closure.isEmpty&&codeOk K fd then aa ((sP o.cls,d.1,fd.scope.kind),fS.map (·.arg),d.2,fd.scope.names,b,fd.scope.isGenerator) else ae
noncomputable def HG (v:B1):HE:=((aa "function",aa "tuple",.function),v)
noncomputable def isKey (x:Str) (v:Value):Bool:=(BZ v).any λs=>sEq s x
noncomputable def yz (x:Str):List jS->Option Value
 |[]=>ae
 |e::r=>bif isKey x e.key then aa e.val else yz x r
noncomputable def QK (K:Lk) (N:Nat):List jS:=((K N).bind λo=>HD o.data).getD []
noncomputable def lO (K:Lk) (N:Nat) (x:Str):Option Value:=yz x (QK K N)
noncomputable def nsOk (K:Lk) (N:Nat):Bool:=((K N).bind λo=>HD o.data).any λl=>l.all λe=>(BZ e.key).isSome
noncomputable def QL:List Value->Option (Nat×String)
 |[x,y]=>(yx x).bind λa=>(sP y).map λt=>(a,t)
 |_=>ae
noncomputable def HH:Option Value->Option String
 |some (.builtin n)=>aa n
 |_=>ae
noncomputable def QM:List (Option Value)->Option String
 |[_,_,_,_,x,_]=>HH x
 |_=>ae
noncomputable def HI (K:Lk) (a:Nat):Option ((Option String×String×String)×Nat):=(K a).bind λo=>(QF o.data).bind λcd=>(QL cd.mro).bind λmt=>(QM o.slots.toList).bind λnw=>bif lb mt.1 a&&cd.hasDict&& !cd.abstract&& !cd.hasDel then aa ((sP o.cls,mt.2,nw),cd.ns) else ae
noncomputable def HJ (n:Nat):(Option String×String×String)×Nat:=((aa "type","object","object.__new__"),n)
noncomputable def B2 (v:Option Value) (a:Nat):Bool:=(v.bind yx).any λb=>lb b a
noncomputable def QN:Value->Option Int
 | .int i _=>aa i
 |_=>ae
noncomputable def QO (K:Lk) (c:Nat):Bool:=
 nsOk K (pI c)&&(lO K (pI c) "__getattribute__").isNone&&(lO K (pI c) "__getattr__").isNone&&(lO K (pI c) "__setattr__").isNone&&
 (ar 37).all (λa=>T.gJ.contains (c,a)||(fm[a]?.bind (lO K (pI c))).isNone)&&
 T.meths.all (λt=> !Nat.beq t.1 c||(gY[t.2.1]?).any λx=>B2 (lO K (pI c) x) (kG t.2.2))&&B2 (lO K (pI c) "__init__") (kG (sd c))
noncomputable def QP (K:Lk):Bool:=nsOk K jQ&&T.Fg.all (λp=>((lO K jQ p.1).bind QN).any λj=>j==p.2)&&T.glob.all (λp=>B2 (lO K jQ p.1) (kG p.2))&&xw.all λp=>(lO K jQ p.1).isNone
structure pJ (K:Lk):Prop where
 fns: ∀ {i},i<85->HF K (kG i)=(QJ T.ents[i]?).map HG
 cls: ∀ {c},c<13->HI K (qZ c)=aa (HJ (pI c))
 AA: ∀ {c},c<13->QO K c=ag
 gl:QP K=ag
structure Gh where
 ad:Nat->Nat
 foot:Nat->Nat->Prop
 gi:Nat->Option Nat
 fz:Nat->Option Obj
structure Cf where
 G:Gh
 h:PH
 s:aq
noncomputable def Cf.Own (c:Cf) (a:Nat):Prop:= ∃ k,k<c.h.length/\c.G.foot k a
structure SX where
 prog:fB
 w:ef
 bC:Heap
 C:Nat->Addr
 mg:Str->Option Value
 mb:Str->Option Value
 T:eK
 fv:Nat->Addr
noncomputable abbrev SX.M (X:SX):eR:=bR X.prog X.w
noncomputable abbrev jk (X:SX):rI X.prog X.w Int:=intKind X.prog X.w
noncomputable abbrev pK (X:SX):rI X.prog X.w Str:=strKind X.prog X.w
mutual
inductive VR (X:SX) (c:Cf):PV->Value->Prop
 |none:VR X c .none .none
 |bool (b:Bool):VR X c (.bool b) (.bool b)
 |int (i:Int) (t:Tok):VR X c (.int i) (.int i t)
 |str (s:Str) (t:Tok):VR X c (.str s) (.str s t)
 |bytes (b:List UInt8) (t:Tok):b.length<=1000000->VR X c (.bytes b) (.bytes b.toArray t)
 |tup {l:List PV} {a:Addr} {vs:List Value} {m:Nat}:c.s.heap.get? a=aa (seqObj "tuple" vs.toArray m)->aE X c l vs->l.length<=1000000->VR X c (.tup l) (.ref a)
 |dw {a b s:Int} {r:Addr} {t u v:Tok}:IsRange c.s.heap r a b s t u v->d7 a b s=ag->VR X c (.dw a b s) (.ref r)
 |j0 {l:List Int} {a:Addr} {vs:List Value}:X.bC.IsList a vs.toArray->l7 vs l->l.length<=1000000->VR X c (.j0 l) (.ref a)
 |ref {k:Nat}:k<c.h.length->VR X c (.ref k) (.ref (c.G.ad k))
inductive aE (X:SX) (c:Cf):List PV->List Value->Prop
 |nil:aE X c [] []
 |cons {p:PV} {v:Value} {l:List PV} {vs:List Value}:VR X c p v->aE X c l vs->aE X c (p::l) (v::vs)
end
inductive KV (X:SX) (c:Cf) {K:Type} (enc:K->PV):List (PV×PV)->List (K×Value)->Prop
 |nil:KV X c enc [] []
 |cons {k:K} {p:PV} {v:Value} {es:List (PV×PV)} {bl:List (K×Value)}:VR X c p v->KV X c enc es bl->KV X c enc ((enc k,p)::es) ((k,v)::bl)
noncomputable abbrev q6 (X:SX):HeapKind X.prog X.w (List Int):=tupleKind (jk X)
noncomputable def kJ (l:List Int):PV:= .tup (l.map PV.int)
noncomputable def strip (xs:List (List Int×Addr×Value)):List (List Int×Value):=xs.map λx=>(x.1,x.2.2)
inductive DR (X:SX) (c:Cf) (a:Addr) (es:List (PV×PV)):Prop
 |int {bl:List (Int×Value)}:KV X c PV.int es bl->c.s.heap.DictOf (jk X) a bl->DR X c a es
 |str {bl:List (Str×Value)}:KV X c PV.str es bl->c.s.heap.DictOf (pK X) a bl->DR X c a es
 |pair {xs:List (List Int×Addr×Value)}:KV X c kJ es (strip xs)->c.s.heap.DictOfH (q6 X) a xs->(∀ x∈xs,VR X c (kJ x.1) (.ref x.2.1))->DR X c a es
noncomputable def jl (H:Heap) (x C d:Addr) (mA:Str->Option Value):Prop:=∃ o,H.get? x=aa o/\o.cls= .ref C/\(∀ c,o.data≠ .cls c)/\o.dict=aa d/\d≠x/\H.Ns1 d mA
noncomputable def lP (X:SX) (c:Cf) (fs:List (Nat×PV)) (mA:Str->Option Value):Prop:=
 (∀ x v,mA x=aa v-> ∃ k p,fm[k]?=aa x/\fs.lookup k=aa p/\VR X c p v)/\
 (∀ k p,fs.lookup k=aa p-> ∃ x v,fm[k]?=aa x/\mA x=aa v)
structure mX (X:SX) (c:Cf) (env:Env) (loc:List (Option PV)):Prop where
 ns: ∃ m,c.s.heap.Ns env.locals m/\ ∀ (i:Nat) (x:Str) (v:PV),env.scope.names[i]?=aa (x,NameKind.local)->eV loc i=aa v-> ∃ u,m x=aa u/\VR X c v u
 cell: ∀ (i:Nat) (x:Str) (k:jv),env.scope.names[i]?=aa (x,k)->k= .cell\/k= .free-> ∃ z u,env.cells.lookup x=aa z/\c.s.heap.IsCell z u/\ ∀ v,eV loc i=aa v-> ∃ u',u=aa u'/\VR X c v u'
 len:loc.length=env.scope.names.length
noncomputable def cp (env:Env) (a:Nat):Prop:=a=env.locals\/ ∃ x,env.cells.lookup x=aa a
structure HK (X:SX) (env:Env):Prop where
 kind:env.scope.kind= .function
 nodup:(env.scope.names.map (·.1)).Nodup
 globals:env.globals=jQ
 builtins:env.builtins=rJ
 frame:env.frame.isSome=ag
 apart: ∀ x y c,env.cells.lookup x=aa c->env.cells.lookup y=aa c->x=y
 off: ∀ x,env.cells.lookup x≠aa env.locals
 plain: ∀ p∈env.scope.names,(p.1==("__debug__" :Str))=ak/\(p.1==("__classdict__" :Str))=ak
noncomputable def dr (M:eR) (A:bB) (c:Code) (t:Sem fA) (fs:List oY) (s:aq) (Φ:End->aq->Prop):Prop:=∀ Γ p,Γ.code=c->Γ.Woken A-> ∃ e s',Runs M Γ p t fs s e s'/\Φ e s'
structure bp (d:Nat) (A:bB):Prop where
 handled:A.handled=ae
 guards:A.guards=aa []
 depth:A.depth+3*d<=990
 units:A.units+40*d<=9000
structure B3 (M:eR) (c:Code) (fs:List oY):Prop where
 split:splitAtGen fs=ae
 QQ:fs.any EC=ak
 leaf: ∀ A s (Φ:End->aq->Prop) c',Φ (.ret (.ok (.ret .none))) s->dr M A c' (leafOf (.ok .next)) fs s Φ
 room: ∀ A d,bp (d+1) A->bp d (A.over c fs)
structure sQ (X:SX) (G:Gh) (k f:Nat) (env:Env) (names:bg) (body:List b9):Prop where
 ent: ∃ params de,X.T.ents[f]?=aa (.fn params de names body ag)
 names:env.scope.names=names
 ok:HK X env
 co:env.scope.isCoroutine=ak
 foot: ∀ a,cp env a->G.foot k a/\a≠G.ad k
noncomputable def vi (ob:Obj) (g:Nat):Prop:= ∃ nm qn,ob.cls= .type "generator" /\ob.data= .fields #[.int g 0,nm,qn]/\ob.slots= #[]
inductive GR (X:SX) (c:Cf) (k:Nat):Nat->List (Option PV)->Option (List PV)->Prop
 |out {f g:Nat} {ob:Obj}:c.G.gi k=aa g->c.G.fz k=aa ob->vi ob g->GR X c k f [] ae
 |fresh {f g:Nat} {ob:Obj} {loc:List (Option PV)} {env:Env} {names:bg} {body:List b9}:c.G.gi k=aa g->c.G.fz k=aa ob->vi ob g->c.s.gens[g]?=aa (.fresh (.func body env))->sQ X c.G k f env names body->
   mX X c env loc->GR X c k f loc ae
 |live {f g it:Nat} {ob:Obj} {loc:List (Option PV)} {env:Env} {names:bg} {body:List b9} {pre:List b9} {t src e:Expr} {xs:List PV} {dP:List b9} {kk:Resume->Sem fA} {lv:List Value} {p:Pos} {fs:List oY} {cl:Bool}
   {x step:Int} {left:Nat}:
   c.G.gi k=aa g->c.G.fz k=aa ob->vi ob g->c.s.gens[g]?=aa (.suspended kk lv (.forLoop t (.ref it) dP [] env) p fs cl)->sQ X c.G k f env names body->nV body=aa (pre,t,src,e)->
   (∃ yp ep,dP=[.Expr (.Yield (aa e) yp) ep])->B3 X.M (.forLoop t (.ref it) dP [] env) fs->
   (∀ A s (Φ:End->aq->Prop),dr X.M A (.forLoop t (.ref it) dP [] env) (.pure (.again (.forLoop t (.ref it) dP [] env))) fs s Φ->dr X.M A (.forLoop t (.ref it) dP [] env) (kk (.send .none)) fs s Φ)->
   c.G.foot k it->it≠c.G.ad k-> ¬ cp env it->IsRangeIter c.s.heap it x (left:Int) step->xs=(ar left).map (λ(j:Nat)=>PV.int (x+(j:Int)*step))->
   mX X c env loc->GR X c k f loc (aa xs)
inductive OR (X:SX) (c:Cf) (k:Nat):aB->Prop
 |list {l:List PV} {vs:List Value} {m:Nat}:c.s.heap.get? (c.G.ad k)=aa (seqObj "list" vs.toArray m)->aE X c l vs->l.length<=1000000->OR X c k (.list l)
 |dict {es:List (PV×PV)}:DR X c (c.G.ad k) es->es.length<=1000000->OR X c k (.dict es)
 |dy {es:List (PV×PV)} {o:Obj}:DR X c (c.G.ad k) es->es.length<=1000000->c.s.heap.get? (c.G.ad k)=aa o->c.G.fz k=aa o->OR X c k (.dy es)
 |set {es:List PV} {is:List Int}:intsOf es=aa is->is.length<=1000->c.s.heap.SetOf (jk X) (c.G.ad k) (λi=>is.contains i) is.length->OR X c k (.set es)
 |cb {b:List UInt8}:c.s.heap.get? (c.G.ad k)=aa {cls:= .type "bytearray",dict:=ae,data:= .bytearray b.toArray 0,slots:= #[]}->b.length<=1000000->OR X c k (.cb b)
 |inst {z:Nat} {fs:List (Nat×PV)} {d:Addr} {mA:Str->Option Value}:jl c.s.heap (c.G.ad k) (X.C z) d mA->c.G.foot k d->lP X c fs mA->z<13->(∀ a p,fs.lookup a=aa p->X.T.gJ.contains (z,a)=ak)->OR X c k (.inst z fs)
 |gen {f:Nat} {loc:List (Option PV)} {rest:Option (List PV)}:GR X c k f loc rest->OR X c k (.gen f loc rest)
noncomputable def cK (o:Obj):Prop:=(o.cls= .type "tuple" \/o.cls= .type "range")/\(∀ es ep,o.data≠ .dict es ep)/\ ∀ v,o.data≠ .cell v
noncomputable def vj (o:aB):Prop:=match o with| .dy _=>True| .gen _ _ _=>True|_=>False
structure SR (X:SX) (c:Cf):Prop where
 objs: ∀ {k o},c.h[k]?=aa o->OR X c k o
 ad: ∀ {k},k<c.h.length->c.G.foot k (c.G.ad k)
 apart: ∀ {j k a},j<c.h.length->k<c.h.length->c.G.foot j a->c.G.foot k a->j=k
 above: ∀ {k a},k<c.h.length->c.G.foot k a->X.bC.objs.size<=a
 kinds: ∀ {k a},k<c.h.length->c.G.foot k a-> ∃ o,c.s.heap.get? a=aa o/\ ¬ cK o
 static: ∀ b o,X.bC.get? b=aa o->c.s.heap.get? b=aa o
 old:X.bC.objs.size<=c.s.heap.objs.size
 bare:tN c.s.gens
 sR: ∀ {j k g},j<c.h.length->k<c.h.length->c.G.gi j=aa g->c.G.gi k=aa g->j=k
 ke: ∀ {k g},k<c.h.length->c.G.gi k=aa g->g<c.s.gens.size
 fz: ∀ {k ob},k<c.h.length->c.G.fz k=aa ob->c.s.heap.get? (c.G.ad k)=aa ob/\ ∃ o,c.h[k]?=aa o/\vj o
structure Ev (P:Nat->Prop) (c c':Cf):Prop where
 keep: ∀ {a:Nat} {o},c.s.heap.get? a=aa o-> ¬ P a-> ¬ c.Own a->c'.s.heap.get? a=aa o
 ad: ∀ {k},k<c.h.length->c'.G.ad k=c.G.ad k
 own: ∀ {k a ob},k<c'.h.length->c'.G.foot k a->c.s.heap.get? a=aa ob->k<c.h.length/\c.G.foot k a
 le:c.h.length<=c'.h.length
 live: ∀ {a:Nat} {ob},c.s.heap.get? a=aa ob-> ∃ yA,c'.s.heap.get? a=aa yA
 fz: ∀ {k ob},k<c.h.length->c.G.fz k=aa ob->c'.G.fz k=aa ob
 gi: ∀ {k},k<c.h.length->c'.G.gi k=c.G.gi k
section
variable{X:SX}{P:Nat->Prop}{c c' c₁ c₂:Cf}
theorem Ev.refl(P:Nat->Prop)(c:Cf):Ev P c c:=⟨λe zy zy=>e,λzy=>rfl,λhk hf zy=>⟨hk,hf⟩,aS _,λe=>⟨_,e⟩,λzy e=>e,λzy=>rfl⟩
theorem Ev.trans(x:Ev P c c₁)(y:Ev P c₁ c₂):Ev P c c₂ where
 keep e hP hO:=y.keep (x.keep e hP hO) hP λ⟨k,hk,hf⟩=>hO ⟨k,x.own hk hf e⟩
 ad hk:=(y.ad (dj hk x.le)).trans (x.ad hk)
 own hk hf e:=(x.live e).elim λzy e'=>x.own (y.own hk hf e').1 (y.own hk hf e').2 e
 le:=cG x.le y.le
 live e:=(x.live e).elim λzy e'=>y.live e'
 fz hk e:=y.fz (dj hk x.le) (x.fz hk e)
 gi hk:=(y.gi (dj hk x.le)).trans (x.gi hk)
theorem Ev.weaken(x:Ev P c c')(h: ∀ a o,c.s.heap.get? a=aa o->P a->P' a):Ev P' c c':=⟨λe hP hO=>x.keep e (λq=>hP (h _ _ e q)) hO,x.ad,x.own,x.le,x.live,x.fz,x.gi⟩
structure Mo (c c':Cf):Prop where
 st: ∀ {a o},c.s.heap.get? a=aa o->cK o->c'.s.heap.get? a=aa o
 ad: ∀ {k},k<c.h.length->c'.G.ad k=c.G.ad k
 le:c.h.length<=c'.h.length
theorem B4:cK (seqObj "tuple" a m):=⟨.inl rfl,(λzy zy e=>wW e),(λzy e=>wW e)⟩
mutual
theorem VR.mono(m:Mo c c')(h:VR X c p v):VR X c' p v:=by
 induction h using VR.casesOn with
 |none=>exact .none
 |bool=>exact .bool _
 |int=>exact .int _ _
 |str=>exact .str _ _
 |bytes _ _ h=>exact .bytes _ _ h
 |tup ht hl hz=>exact .tup (m.st ht B4) (aE.mono m hl) hz
 |dw hr hk=>exact .dw (m.st hr ⟨.inr rfl,(λzy zy e=>wW e),(λzy e=>wW e)⟩) hk
 |j0 hl hi hz=>exact .j0 hl hi hz
 |ref hk=>exact m.ad hk▸ .ref (dj hk m.le)
theorem aE.mono(m:Mo c c')(h:aE X c l vs):aE X c' l vs:=by
 induction h using aE.casesOn with
 |nil=>exact .nil
 |cons h r=>exact .cons (VR.mono m h) (aE.mono m r)
end
theorem KV.mono{K:Type}{enc:K->PV}{es:List (PV×PV)}{bl:List (K×Value)}(m:Mo c c')(h:KV X c enc es bl):KV X c' enc es bl:=by
 induction h with
 |nil=>exact .nil
 |cons h1 _ ih=>exact .cons (h1.mono m) ih
theorem acw(m:Mo c c')(h:IsTupleKey (jk X) c.s.heap ks a):IsTupleKey (jk X) c'.s.heap ks a:=h.elim λo q=>q.elim λi q=>q.elim λn q=>⟨o,i,n,m.st q.1 ⟨.inl q.2.1,(λzy zy z=>(by rcases q.2.2.1.symm.trans z with⟨⟩)),λzy z=>(by rcases q.2.2.1.symm.trans z with⟨⟩)⟩,q.2⟩
theorem DR.mono(m:Mo c c')(hg: ∀ {ob},c.s.heap.get? a=aa ob->c'.s.heap.get? a'=aa ob)(h:DR X c a es):DR X c' a' es:=by
 induction h using DR.casesOn with
 |int k d=>exact .int (k.mono m) (d.elim λo q=>q.elim λe q=>q.elim λp q=>⟨o,e,p,hg q.1,q.2⟩)
 |str k d=>exact .str (k.mono m) (d.elim λo q=>q.elim λe q=>q.elim λp q=>⟨o,e,p,hg q.1,q.2⟩)
 |pair k d r=>exact .pair (k.mono m) (d.elim λo q=>q.elim λe q=>q.elim λp q=>⟨o,e,p,hg q.1,q.2.1,q.2.2.1,q.2.2.2.1,λx hx=>acw m (q.2.2.2.2.1 x hx),q.2.2.2.2.2⟩) λx hx=>(r x hx).mono m
theorem lP.mono{fs:List (Nat×PV)}{mA:Str->Option Value}(m:Mo c c')(h:lP X c fs mA):lP X c' fs mA:=⟨λx v e=>(h.1 x v e).elim λk r=>r.elim λp r=>⟨k,p,r.1,r.2.1,r.2.2.mono m⟩,h.2⟩
theorem mX.mono(h:mX X c env loc)(hf: ∀ {a ob},cp env a->c.s.heap.get? a=aa ob->c'.s.heap.get? a=aa ob)(m:Mo c c'):mX X c' env loc:=⟨h.ns.elim λz q=>⟨z,q.1.elim λod q=>q.elim λes q=>q.elim λep q=>⟨od,es,ep,hf (.inl rfl) q.1,q.2⟩,λi y v e1 e2=>(q.2 i y v e1 e2).elim λu q=>⟨u,q.1,q.2.mono m⟩⟩,λi y k e1 e2=>(h.cell i y k e1 e2).elim λz q=>q.elim λu q=>q.2.1.elim λoc w=>⟨z,u,q.1,⟨oc,hf (.inr ⟨y,q.1⟩) w.1,w.2⟩,λv e=>(q.2.2 v e).elim λu' q=>⟨u',q.1,q.2.mono m⟩⟩,h.len⟩
end
section
variable{X:SX}{c:Cf}{l l':List PV}{vs QR:List Value}{p:PV}{v:Value}
theorem aE.length(h:aE X c l vs):l.length=vs.length:=by
 induction l generalizing vs with
 |nil=>cases h;rfl
 |cons p l ih=>cases h with|cons _ r=>exact congrArg (·+1) (ih r)
theorem aE.get(h:aE X c l vs){i:Nat}(e:l[i]?=aa p): ∃ v,vs[i]?=aa v/\VR X c p v:=by
 induction l generalizing vs i with
 |nil=>cases e
 |cons q l ih=>
  cases h with
  |cons hq r=>
   induction i using ju with
   |zero=>obtain rfl:=bD e;exact⟨_,rfl,hq⟩
   |succ i=>exact ih r e
theorem aE.back(h:aE X c l vs){i:Nat}(e:vs[i]?=aa v): ∃ p,l[i]?=aa p/\VR X c p v:=by
 induction l generalizing vs i with
 |nil=>cases h;cases e
 |cons q l ih=>
  cases h with
  |cons hq r=>
   induction i using ju with
   |zero=>obtain rfl:=bD e;exact⟨_,rfl,hq⟩
   |succ i=>exact ih r e
theorem aE.append(h:aE X c l vs)(h':aE X c l' QR):aE X c (l++l') (vs++QR):=by
 induction l generalizing vs with
 |nil=>cases h;exact h'
 |cons q l ih=>cases h with|cons hq r=>exact .cons hq (ih r)
theorem aE.take(h:aE X c l vs)(i:Nat):aE X c (l.take i) (vs.take i):=by
 induction l generalizing vs i with
 |nil=>cases h;cases i <;> exact .nil
 |cons q l ih=>cases h with|cons hq r=>induction i using ju with|zero=>exact .nil|succ i=>exact .cons hq (ih r i)
theorem aE.drop(h:aE X c l vs)(i:Nat):aE X c (l.drop i) (vs.drop i):=by
 induction l generalizing vs i with
 |nil=>cases h;cases i <;> exact .nil
 |cons q l ih=>cases h with|cons hq r=>induction i using ju with|zero=>exact .cons hq r|succ i=>exact ih r i
theorem aE.set(h:aE X c l vs)(i:Nat)(hv:VR X c p v):aE X c (l.set i p) (vs.set i v):=by
 induction l generalizing vs i with
 |nil=>cases h;exact .nil
 |cons q l ih=>cases h with|cons hq r=>induction i using ju with|zero=>exact .cons hv r|succ i=>exact .cons hq (ih r i)
theorem aE.replicate(h:VR X c p v): ∀ k:Nat,aE X c (cX k p) (cX k v)
 |0=> .nil
 |k+1=> .cons h (aE.replicate h k)
theorem QS(e:intsOf (q::l)=aa is): ∃ i js,q= .int i/\intsOf l=aa js/\i::js=is:=by
 induction q using PV.casesOn with
 |int i=>exact(ee.mp e).elim λjs r=>⟨i,js,rfl,r⟩
 |_=>exact nO e
theorem aE.nums(h:aE X c l vs)(e:intsOf l=aa is):l7 vs is:=by
 induction l generalizing vs is with
 |nil=>cases h;cases e;exact .nil
 |cons q l ih=>obtain⟨i,js,rfl,ej,rfl⟩:=QS e;cases h with|cons hq r=>cases hq;exact .cons _ _ (ih r ej)
theorem B5(e:intsOf l=aa is):l=is.map PV.int:=by
 induction l generalizing is with
 |nil=>cases e;rfl
 |cons q l ih=>obtain⟨i,js,rfl,ej,rfl⟩:=QS e;exact congrArg _ (ih ej)
theorem QT(e:intsOf l=aa is):is.length=l.length:=by rw[B5 e,aX]
end
section
variable{X:SX}{c:Cf}{x:PV}{a:Value}{M:Value->Prop}
@[elab_as_elim] theorem VR.kI {K:Int->Prop} (h:VR X c x a) (e:bN x K) (k: ∀ {i t},K i->M (.int i t)):M a:=by induction h using VR.casesOn with|int=>exact k e|_=>exact e.elim
@[elab_as_elim] theorem VR.HL {K:Bool->Prop} (h:VR X c x a) (e:EY x K) (k: ∀ {i},K i->M (.bool i)):M a:=by induction h using VR.casesOn with|bool=>exact k e|_=>exact e.elim
@[elab_as_elim] theorem VR.kB {K:List UInt8->Prop} (h:VR X c x a) (e:AG x K) (k: ∀ {b t},K b->b.length<=1000000->M (.bytes b.toArray t)):M a:=by induction h using VR.casesOn with|bytes _ _ hz=>exact k e hz|_=>exact e.elim
@[elab_as_elim] theorem VR.kT {K:List PV->Prop} (h:VR X c x a) (e:qr x K) (k: ∀ {l r vs m},K l->c.s.heap.get? r=aa (seqObj "tuple" vs.toArray m)->aE X c l vs->l.length<=1000000->M (.ref r)):M a:=by induction h using VR.casesOn with|tup h1 h2 h3=>exact k e h1 h2 h3|_=>exact e.elim
@[elab_as_elim] theorem VR.kN (h:VR X c x a) (e:isNone x=ag) (k:M .none):M a:=by induction h using VR.casesOn with|none=>exact k|_=>exact nB e
@[elab_as_elim] theorem VR.kR {K:Nat->Prop} (h:VR X c x a) (e:kx x K) (k: ∀ {i},K i->i<c.h.length->M (.ref (c.G.ad i))):M a:=by induction h using VR.casesOn with|ref hk=>exact k e hk|_=>exact e.elim
end
section
variable{X:SX}{c:Cf}{p:PV}{l:List PV}{vs:List Value}{M:List Value->Prop}
@[elab_as_elim] theorem aE.QV (h:aE X c [] vs) (k:M []):M vs:=by cases h;exact k
@[elab_as_elim] theorem aE.B6 (h:aE X c (p::l) vs) (k: ∀ {v ws},VR X c p v->aE X c l ws->M (v::ws)):M vs:=by cases h with|cons h r=>exact k h r
@[elab_as_elim] theorem aE.QW (h:aE X c [p] vs) (k: ∀ {v},VR X c p v->M [v]):M vs:=h.B6 λh r=>r.QV (k h)
end
theorem cQ(e:guard b P):b=ag/\P:=by induction b using dD with|true=>exact⟨rfl,e⟩|false=>exact e.elim
noncomputable def Gh.put (G:Gh) (n:Nat) (a:Nat) (F:Nat->Prop) (g:Option Nat) (z:Option Obj):Gh:=⟨λk=>if k=n then a else G.ad k,λk=>if k=n then F else G.foot k,λk=>if k=n then g else G.gi k,λk=>if k=n then z else G.fz k⟩
noncomputable def Cf.add (c:Cf) (a:Nat) (F:Nat->Prop) (g:Option Nat) (z:Option Obj) (o:aB) (s':aq):Cf:=⟨c.G.put c.h.length a F g z,c.h++[o],s'⟩
noncomputable def Cf.cL (c:Cf) (h:PH) (s':aq):Cf:=⟨c.G,h,s'⟩
section
variable{X:SX}{c c' c₁ c₂:Cf}{k:Nat}{o:aB}
theorem jl.keeps{H H':Heap}{x C d:Addr}{mA:Str->Option Value}(h:jl H x C d mA)(hx: ∀ {ob},H.get? x=aa ob->H'.get? x=aa ob)(hd: ∀ {ob},H.get? d=aa ob->H'.get? d=aa ob):jl H' x C d mA:=by obtain⟨ob,h1,h2,h3,h4,h5,od,es,ep,e1,r⟩:=h;exact⟨ob,hx h1,h2,h3,h4,h5,od,es,ep,hd e1,r⟩
structure B7 (c c':Cf) (k:Nat):Prop where
 ad:c'.G.ad k=c.G.ad k
 own:c.G.foot k (c.G.ad k)
 foot: ∀ {a ob},c.G.foot k a->c.s.heap.get? a=aa ob->c'.s.heap.get? a=aa ob
 HM: ∀ {a},c.G.foot k a->c'.G.foot k a
 gi:c'.G.gi k=c.G.gi k
 gs: ∀ {g},c.G.gi k=aa g->c'.s.gens[g]?=c.s.gens[g]?
 fz: ∀ {ob},c.G.fz k=aa ob->c'.G.fz k=aa ob
theorem B7.get(K:B7 c c' k)(e:c.s.heap.get? (c.G.ad k)=aa ob):c'.s.heap.get? (c'.G.ad k)=aa ob:=K.ad▸K.foot K.own e
theorem sQ.mono{f:Nat}{env:Env}{names:bg}{body:List b9}(h:sQ X c.G k f env names body)(K:B7 c c' k):sQ X c'.G k f env names body:=⟨h.ent,h.names,h.ok,h.co,λa fa=>⟨K.HM (h.foot a fa).1,K.ad▸(h.foot a fa).2⟩⟩
theorem OR.mono(h:OR X c k o)(K:B7 c c' k)(m:Mo c c'):OR X c' k o:=by
 induction h using OR.casesOn with
 |list hl hv hz=>exact .list (K.get hl) (hv.mono m) hz
 |dict h1 h2=>exact .dict (h1.mono m K.get) h2
 |dy h1 h2 h3 h4=>exact .dy (h1.mono m K.get) h2 (K.get h3) (K.fz h4)
 |set h1 h2 h3=>exact .set h1 h2 (h3.elim λob q=>q.elim λes q=>q.elim λep q=>q.elim λt q=>⟨ob,es,ep,t,K.get q.1,q.2⟩)
 |cb h1 h2=>exact .cb (K.get h1) h2
 |inst h1 h2 h3 h4 h5=>exact .inst (K.ad▸h1.keeps (K.foot K.own) (K.foot h2)) (K.HM h2) (h3.mono m) h4 h5
 |gen h1=>
  induction h1 using GR.casesOn with
  |out a0 a1 a2=>exact .gen (.out (K.gi▸a0) (K.fz a1) a2)
  |fresh a1 a2 a3 a4 a5 a6=>exact .gen (.fresh (K.gi▸a1) (K.fz a2) a3 ((K.gs a1).trans a4) (a5.mono K) (a6.mono (λfa q=>K.foot (a5.foot _ fa).1 q) m))
  |live a1 a2 a3 a4 a5 a6 a7 a8 a9 b1 b2 b3 b4 b5 b6=>exact .gen (.live (K.gi▸a1) (K.fz a2) a3 ((K.gs a1).trans a4) (a5.mono K) a6 a7 a8 a9 (K.HM b1) (K.ad▸b2) b3 (K.foot b1 b4) b5 (b6.mono (λfa q=>K.foot (a5.foot _ fa).1 q) m))
theorem fe{h:PH}(e:h[k]?=aa o):k<h.length:=(dF.mp e).1
theorem some_inj{α:Type}{a:Option α}{x y:α}(e:a=aa x)(e':a=aa y):x=y:=bD (e.symm.trans e')
theorem q7{H:Heap}{a:Nat}{ob:Obj}{n:Nat}(h1:n<=a)(e:H.get? a=aa ob):n<=H.objs.size:=fY (zR h1 (ei e))
theorem SR.ai7(S:SR X c)(o:c.Own a):X.bC.objs.size<=a:=o.elim λzy q=>S.above q.1 q.2
theorem SR.QX(S:SR X c){a:Nat}{ob:Obj}(e:c.s.heap.get? a=aa ob)(st:cK ob): ¬ c.Own a:=λq=>q.elim λzy q=>(S.kinds q.1 q.2).elim λzy r=>r.2 (some_inj e r.1▸st)
theorem SR.ai8(S:SR X c)(hj:j<c.h.length)(hk:k<c.h.length)(e:c.G.ad j=c.G.ad k):j=k:=S.apart hj hk (S.ad hj) (e▸S.ad hk)
theorem Ev.mo(S:SR X c)(E:Ev P c c')(hP: ∀ {a ob},P a->c.s.heap.get? a=aa ob-> ¬ cK ob):Mo c c':=⟨λe st=>E.keep e (λp=>hP p e st) (S.QX e st),E.ad,E.le⟩
theorem Ev.HN(S:SR X c)(E:Ev (λzy=>False) c c'):Mo c c':=E.mo S λp=>p.elim
theorem SR.other(S:SR X c)(P:Nat->Prop){s':aq}(hk: ∀ {a ob},c.s.heap.get? a=aa ob-> ¬ P a->s'.heap.get? a=aa ob)
  (hP: ∀ {a},P a->X.bC.objs.size<=a/\ ¬ c.Own a/\ ∀ {ob},c.s.heap.get? a=aa ob-> ¬ cK ob) (hz:X.bC.objs.size<=s'.heap.objs.size) (hg:s'.gens=c.s.gens):SR X (c.cL c.h s'):=by
 have own: ∀ {k a ob},k<c.h.length->c.G.foot k a->c.s.heap.get? a=aa ob->s'.heap.get? a=aa ob:=λhl hf e=>hk e λp=>(hP p).2.1 ⟨_,hl,hf⟩;exact⟨λe=>(S.objs e).mono ⟨rfl,S.ad (fe e),own (fe e),λx=>x,rfl,λzy=>congrArg (·[_]?) hg,λq=>q⟩ ⟨λe q=>hk e λp=>(hP p).2.2 e q,λzy=>rfl,aS _⟩,S.ad,S.apart,S.above,λhl hf=>(S.kinds hl hf).elim λob q=>⟨ob,own hl hf q.1,q.2⟩,λb ob e=>hk (S.static b ob e) λp=>iK _ (dj (ei e) (hP p).1),hz,hg▸S.bare,S.sR,λh1 h2=>hg▸S.ke h1 h2,λhk e=>⟨own hk (S.ad hk) (S.fz hk e).1,(S.fz hk e).2⟩⟩
theorem SR.grown(S:SR X c)(hk: ∀ {a ob},c.s.heap.get? a=aa ob->s'.heap.get? a=aa ob)(hz:c.s.heap.objs.size<=s'.heap.objs.size)(hg:s'.gens=c.s.gens):SR X (c.cL c.h s'):=S.other (λzy=>False) (λe zy=>hk e) (λp=>p.elim) (cG S.old hz) hg
theorem Ev.grown(hk: ∀ {a ob},c.s.heap.get? a=aa ob->s'.heap.get? a=aa ob):Ev P c (c.cL c.h s'):=⟨λe zy zy=>hk e,λzy=>rfl,λhk hf zy=>⟨hk,hf⟩,aS _,λe=>⟨_,hk e⟩,λzy e=>e,λzy=>rfl⟩
theorem HO{α:Type}{l:List α}{a:α}{k:Nat}(h:k<(l++[a]).length):k<l.length\/k=l.length:=by simp at h;exact(au [.t J0 (.a J1 Y1)] (.o (.t J0 J1) (.e J0 J1))) h
theorem SR.adopt(S:SR X c){a:Nat}{F:Nat->Prop}{g:Option Nat}{z:Option Obj}{s':aq}(hk: ∀ {a ob},c.s.heap.get? a=aa ob->s'.heap.get? a=aa ob)
  (ha:F a) (hF: ∀ {b},F b->(X.bC.objs.size<=b/\ ¬ c.Own b)/\ ∃ ob,s'.heap.get? b=aa ob/\ ¬ cK ob) (hg:c.s.gens.size<=s'.gens.size) (vk: ∀ {i},i<c.s.gens.size->s'.gens[i]?=c.s.gens[i]?) (hb:tN s'.gens)
  (oi: ∀ {i},g=aa i->c.s.gens.size<=i/\i<s'.gens.size)
  (ho:Mo c (c.add a F g z o s')->OR X (c.add a F g z o s') c.h.length o) (hz: ∀ {ob},z=aa ob->s'.heap.get? a=aa ob/\vj o):SR X (c.add a F g z o s'):=by
 generalize hc:c.add a F g z o s'=c' at *
 have hs:c'.s=s':=by rw[<- hc];rfl
 have hh:c'.h=c.h++[o]:=by rw[<- hc];rfl
 have B8: ∀ {k},k<c.h.length->c'.G.ad k=c.G.ad k:=λhk=>by rw[<- hc];exact if_neg (cq hk)
 have q8: ∀ {k},k<c.h.length->c'.G.foot k=c.G.foot k:=λhk=>by rw[<- hc];exact if_neg (cq hk)
 have gil: ∀ {k},k<c.h.length->c'.G.gi k=c.G.gi k:=λhk=>by rw[<- hc];exact if_neg (cq hk)
 have HP: ∀ {k},k<c.h.length->c'.G.fz k=c.G.fz k:=λhk=>by rw[<- hc];exact if_neg (cq hk)
 have QY:c'.G.ad c.h.length=a:=by rw[<- hc];exact if_pos rfl
 have yB:c'.G.foot c.h.length=F:=by rw[<- hc];exact if_pos rfl
 have ke:c'.G.gi c.h.length=g:=by rw[<- hc];exact if_pos rfl
 have QZ:c'.G.fz c.h.length=z:=by rw[<- hc];exact if_pos rfl
 clear hc;have apart: ∀ {k b},k<c.h.length->c.G.foot k b->F b->False:=λhl hf hb=>(hF hb).1.2 ⟨_,hl,hf⟩;subst hs;have hl:c.h.length<=c'.h.length:=by rw[hh];simp
 have mo:Mo c c':=⟨λe zy=>hk e,B8,hl⟩;have lt: ∀ {k},k<c'.h.length->k<c.h.length\/k=c.h.length:=λh=>HO (hh▸h);refine⟨fun{k x} e=>?_,λh=>?_,λhi hj fi fj=>?_,λh hf=>?_,λh hf=>?_,λb ob e=>hk (S.static b ob e),?_,hb,λhi hj gi gj=>?_,λh q=>?_,fun{k ob} h e=>?_⟩
 .rcases lt (fe e) with h|rfl
  .rw[hh,jL h] at e
   exact(S.objs e).mono ⟨B8 h,S.ad h,λzy q=>hk q,λq=>(q8 h).symm▸q,gil h,λq=>vk (S.ke h q),λq=>(HP h).trans q⟩ mo
  .rw[hh,tA] at e
   cases e;exact ho mo
 .rcases lt h with h|rfl
  .rw[q8 h,B8 h];exact S.ad h
  .rw[yB,QY];exact ha
 .rcases lt hi with hi|rfl <;> rcases lt hj with hj|rfl
  .exact S.apart hi hj (q8 hi▸fi) (q8 hj▸fj)
  .exact(apart hi (q8 hi▸fi) (yB▸fj)).elim
  .exact(apart hj (q8 hj▸fj) (yB▸fi)).elim
  .rfl
 .rcases lt h with h|rfl
  .exact S.above h (q8 h▸hf)
  .exact(hF (yB▸hf)).1.1
 .rcases lt h with h|rfl
  .exact(S.kinds h (q8 h▸hf)).elim λob q=>⟨ob,hk q.1,q.2⟩
  .exact(hF (yB▸hf)).2
 .exact(hF ha).2.elim λob q=>q7 (hF ha).1.1 q.1
 .rcases lt hi with hi|rfl <;> rcases lt hj with hj|rfl
  .exact S.sR hi hj (gil hi▸gi) (gil hj▸gj)
  .exact absurd (S.ke hi (gil hi▸gi)) (ic (oi (ke▸gj)).1)
  .exact absurd (S.ke hj (gil hj▸gj)) (ic (oi (ke▸gi)).1)
  .rfl
 .rcases lt h with h|rfl
  .exact dj (S.ke h (gil h▸q)) hg
  .exact(oi (ke▸q)).2
 .rcases lt h with h|rfl
  .rw[B8 h,hh,jL h]
   exact⟨hk (S.fz h (HP h▸e)).1,(S.fz h (HP h▸e)).2⟩
  .rw[QY,hh,tA]
   exact⟨(hz (QZ▸e)).1,o,rfl,(hz (QZ▸e)).2⟩
theorem Ev.adopt{P:Nat->Prop}{c₀:Cf}{a:Nat}{F:Nat->Prop}{g:Option Nat}{z:Option Obj}{s':aq}(E:Ev P c₀ c)(hk: ∀ {a ob},c.s.heap.get? a=aa ob->s'.heap.get? a=aa ob)(hF: ∀ {b},F b->c₀.s.heap.get? b=ae):Ev P c₀ (c.add a F g z o s'):=
 have ne: ∀ {k},k<c₀.h.length->k≠c.h.length:=λh=>cq (dj h E.le)
 ⟨λe p o=>hk (E.keep e p o),λh=>(if_neg (ne h)).trans (E.ad h),fun{k b ob} h (f:(if k=c.h.length then F else c.G.foot k) b) e=>(HO h).elim (λh=>E.own h (by rw[if_neg (cq h)] at f;exact f) e) λq=>(by rw[if_pos q] at f;exact nO ((hF f).symm.trans e)),cG E.le (by show c.h.length<=(c.h++[o]).length;rw[bb];exact rD ..),λe=>(E.live e).elim λob q=>⟨ob,hk q⟩,λh e=>(if_neg (ne h)).trans (E.fz h e),λh=>(if_neg (ne h)).trans (E.gi h)⟩
theorem SR.add(S:SR X c){a:Nat}{F:Nat->Prop}{g:Option Nat}{z:Option Obj}{s':aq}(hk: ∀ {a ob},c.s.heap.get? a=aa ob->s'.heap.get? a=aa ob)
  (ha:F a) (hF: ∀ {b},F b->(X.bC.objs.size<=b/\c.s.heap.get? b=ae)/\ ∃ ob,s'.heap.get? b=aa ob/\ ¬ cK ob) (hg:c.s.gens.size<=s'.gens.size) (vk: ∀ {i},i<c.s.gens.size->s'.gens[i]?=c.s.gens[i]?) (hb:tN s'.gens)
  (oi: ∀ {i},g=aa i->c.s.gens.size<=i/\i<s'.gens.size)
  (ho:Mo c (c.add a F g z o s')->OR X (c.add a F g z o s') c.h.length o) (hz: ∀ {ob},z=aa ob->s'.heap.get? a=aa ob/\vj o):SR X (c.add a F g z o s')/\Ev (λzy=>False) c (c.add a F g z o s'):=
 ⟨S.adopt hk ha (λhb=>⟨⟨(hF hb).1.1,λo=>o.elim λk w=>(S.kinds w.1 w.2).elim λob r=>nO ((hF hb).1.2.symm.trans r.1)⟩,(hF hb).2⟩) hg vk hb oi ho hz,Ev.adopt (.refl ..) hk λhb=>(hF hb).1.2⟩
noncomputable def pL (h:PH) (k:Nat):Prop:= ∃ o,h[k]?=aa o/\ ¬ vj o
theorem pL.lt{h:PH}(x:pL h k):k<h.length:=x.elim λzy q=>fe q.1
theorem pL.fz(x:pL c.h k)(S:SR X c){ob:Obj}(hz:c.G.fz k=aa ob):False:=x.elim λzy q=>(S.fz (fe q.1) hz).2.elim λzy r=>q.2 (some_inj r.1 q.1▸r.2)
theorem SR.upd(S:SR X c){o':aB}{s':aq}(kK:pL c.h k)(sS: ∀ {a:Nat} {ob},¬ c.G.foot k a->c.s.heap.get? a=aa ob->s'.heap.get? a=aa ob)
  (cj: ∀ {a},c.G.foot k a-> ∃ ob,s'.heap.get? a=aa ob/\ ¬ cK ob) (hg:s'.gens=c.s.gens) (ho:Mo c (c.cL (c.h.set k o') s')->OR X (c.cL (c.h.set k o') s') k o'):SR X (c.cL (c.h.set k o') s')/\Ev (λzy=>False) c (c.cL (c.h.set k o') s'):=by
 have hn:(c.h.set k o').length=c.h.length:=oF;have hk:=kK.lt;have lt: ∀ {j},j<(c.h.set k o').length->j<c.h.length:=λh=>hn▸h;have mo:Mo c (c.cL (c.h.set k o') s'):=⟨λe q=>sS (λf=>S.QX e q ⟨k,hk,f⟩) e,λzy=>rfl,nr hn.symm⟩;refine⟨⟨fun{j x} e=>?_,λh=>S.ad (lt h),λh h'=>S.apart (lt h) (lt h'),λh=>S.above (lt h),fun{j a} hj hf=>?_,λb ob e=>sS (λf=>?_) (S.static b ob e),?_,hg▸S.bare,λh h'=>S.sR (lt h) (lt h'),λh q=>hg▸S.ke (lt h) q,fun{j ob} hj e=>?_⟩,⟨λe zy hO=>sS (λf=>hO ⟨k,hk,f⟩) e,λzy=>rfl,λh hf zy=>⟨lt h,hf⟩,mo.le,fun{a ob} e=>?_,λzy e=>e,λzy=>rfl⟩⟩
 .by_cases hj:k=j
  .subst hj
   have e:(c.h.set k o')[k]?=aa x:=e;rw[qd hk] at e;obtain rfl:=bD e;exact ho mo
  .have e:(c.h.set k o')[j]?=aa x:=e
   rw[nk hj] at e;have hl:=fe e;exact(S.objs e).mono ⟨rfl,S.ad hl,λf q=>sS (λf'=>hj (S.apart hk hl f' f)) q,λq=>q,rfl,λzy=>congrArg (·[_]?) hg,λq=>q⟩ mo
 .by_cases sT:k=j
  .subst sT;exact cj hf
  .exact(S.kinds (lt hj) hf).elim λob q=>⟨ob,sS (λf'=>sT (S.apart hk (lt hj) f' hf)) q.1,q.2⟩
 .exact iK _ (dj (ei e) (S.above hk f))
 .exact(cj (S.ad hk)).elim λob q=>q7 (S.above hk (S.ad hk)) q.1
 .have sT:k≠j:=λq=>kK.fz S (show c.G.fz k=aa ob by rw[q];exact e)
  have q:=S.fz (lt hj) e;exact⟨sS (λf=>sT (S.apart hk (lt hj) f (S.ad (lt hj)))) q.1,q.2.elim λo r=>⟨o,(nk sT).trans r.1,r.2⟩⟩
 .exact(lT (c.G.foot k a)).elim (λf=>(cj f).elim λob q=>⟨ob,q.1⟩) λf=>⟨ob,sS f e⟩
theorem SR.Q5(S:SR X c){o':aB}{s':aq}(kK:pL c.h k)(hs:i0 (c.G.ad k) c.s.heap s'.heap)(cj: ∃ ob,s'.heap.get? (c.G.ad k)=aa ob/\ ¬ cK ob)(hg:s'.gens=c.s.gens)
  (ho:Mo c (c.cL (c.h.set k o') s')->OR X (c.cL (c.h.set k o') s') k o'):SR X (c.cL (c.h.set k o') s')/\Ev (λzy=>False) c (c.cL (c.h.set k o') s'):=
 S.upd kK (fun{a ob} f e=>(hs.2 _ λq:a=c.G.ad k=>f (q▸S.ad kK.lt)).trans e) (fun{a} f=>(lT (a=c.G.ad k)).elim (λq=>q▸cj) λq=>(S.kinds kK.lt f).elim λob r=>⟨ob,(hs.2 _ q).trans r.1,r.2⟩) hg ho
structure Nx (X:SX) (c c':Cf):Prop where
 sr:SR X c'
 ev:Ev (λzy=>False) c c'
 os:c'.s.os=c.s.os
theorem Nx.refl(S:SR X c):Nx X c c:=⟨S,Ev.refl ..,rfl⟩
theorem Nx.trans(x:Nx X c c₁)(y:Nx X c₁ c₂):Nx X c c₂:=⟨y.sr,x.ev.trans y.ev,y.os.trans x.os⟩
noncomputable def Kv (X:SX) (c:Cf) (K:PV->PH->Prop) (Q:Value->aq->Prop):Prop:= ∀ {c' r v},K r c'.h->Nx X c c'->VR X c' r v->Q v c'.s
noncomputable def Cf.tok (c:Cf) (t:Nat):Cf:=⟨c.G,c.h,{c.s with toks:=t}⟩
theorem Nx.tok(S:SR X c):Nx X c (c.tok t):=⟨S.grown (s':={c.s with toks:=t}) (λe=>e) (aS _) rfl,Ev.grown (s':={c.s with toks:=t}) λe=>e,rfl⟩
theorem bp.in1(h:bp (d+1) A):bp d A.in1:=⟨h.handled,h.guards,by have:=h.depth;show A.depth+_<=_;exact(au [.l (.a J0 (.m 3 (.a J1 Y1))) (.n 990)] (.l (.a J0 (.m 3 J1)) (.n 990))) this,by have:=h.units;show A.units+1+_<=_;exact(au [.l (.a J0 (.m 40 (.a J1 Y1))) (.n 9000)] (.l (.a (.a J0 Y1) (.m 40 J1)) (.n 9000))) this⟩
theorem bp.le(h:bp d A)(he:e<=d):bp e A:=⟨h.handled,h.guards,by have:=h.depth;exact(az [.l J0 J1,.l (.a J2 (.m 3 J1)) (.n 990)] (.l (.a J2 (.m 3 J0)) (.n 990))) he this,by have:=h.units;exact(az [.l J0 J1,.l (.a J2 (.m 40 J1)) (.n 9000)] (.l (.a J2 (.m 40 J0)) (.n 9000))) he this⟩
theorem bp.room(h:bp d A):A.units<nA:=by have:=h.units;rw[show nA=9900 from rfl];exact(au [.l (.a J0 (.m 40 J1)) (.n 9000)] (.t J0 (.n 9900))) this
end
noncomputable def oj {K:Type} [DecidableEq K] (enc:K->PV):Prop:= ∀ a b,gX (enc a) (enc b)=decide (a=b)
theorem encInt:oj PV.int:=λa b=>kX.mpr (by rw[decide_eq_true_eq];exact beq_iff_eq)
theorem encStr:oj PV.str:=λa b=>kX.mpr (by rw[decide_eq_true_eq];exact beq_iff_eq)
theorem B9: ∀ l:List Int,intsOf (l.map PV.int)=aa l
 |[]=>rfl
 |i::r=>congrArg (wy (i:: ·)) (B9 r)
theorem sU:oj kJ:=λa b=>kX.mpr (by rw[decide_eq_true_eq];show(intsOf (a.map PV.int)==intsOf (b.map PV.int))=ag↔_;rw[B9,B9];exact beq_iff_eq.trans (Option.some.injEq ..).to_iff)
section
variable{X:SX}{c:Cf}{K:Type}[DecidableEq K]{enc:K->PV}{es:List (PV×PV)}{bl:List (K×Value)}{k:K}{p:PV}{v:Value}
theorem KV.length{K:Type}{enc:K->PV}{bl:List (K×Value)}(h:KV X c enc es bl):es.length=bl.length:=by
 induction h with
 |nil=>rfl
 |cons _ _ ih=>exact congrArg (·+1) ih
theorem KV.any(N:oj enc)(h:KV X c enc es bl):(es.any λe=>gX e.1 (enc k))=bl.any λkv=>decide (kv.1=k):=by
 induction h with
 |nil=>rfl
 |cons _ _ ih=>exact congr (congrArg _ (N _ _)) ih
theorem KV.get(N:oj enc)(h:KV X c enc es bl)(e:dU es (enc k)=aa p): ∃ v,mc bl k=aa v/\VR X c p v:=by
 unfold dU at e;unfold mc;induction h with
 |nil=>cases e
 | @cons k' p v es bl hv _ ih=>
  rw[zK] at e ⊢;rw[N] at e;cases hd:decide (k'=k) with
  |true=>rw[hd] at e;obtain rfl:=bD e;exact⟨v,rfl,hv⟩
  |false=>rw[hd] at e;exact ih e
theorem KV.none(N:oj enc)(h:KV X c enc es bl)(e:dU es (enc k)=ae):mc bl k=ae:=by
 unfold dU at e;unfold mc;induction h with
 |nil=>rfl
 | @cons k' p v es bl hv _ ih=>
  rw[zK] at e ⊢;rw[N] at e;cases hd:decide (k'=k) with
  |true=>rw[hd] at e;cases e
  |false=>rw[hd] at e;exact ih e
theorem KV.snoc{K:Type}{enc:K->PV}{bl:List (K×Value)}{k:K}(h:KV X c enc es bl)(hv:VR X c p v):KV X c enc (es++[(enc k,p)]) (bl++[(k,v)]):=by
 induction h with
 |nil=>exact .cons hv .nil
 |cons h1 _ ih=>exact .cons h1 ih
theorem KV.map(N:oj enc)(h:KV X c enc es bl)(hv:VR X c p v):KV X c enc (es.map λe=>if gX e.1 (enc k) then(e.1,p) else e) (bl.map λkv=>if kv.1=k then(kv.1,v) else kv):=by
 induction h with
 |nil=>exact .nil
 | @cons k' p' v' dM acx h1 _ ih=>
  rw[gG,gG];show KV X c enc ((if gX (enc k') (enc k)=ag then _ else _)::_) ((if k'=k then _ else _)::_);rw[N];by_cases e:k'=k
  .rw[if_pos (decide_eq_true e),if_pos e];exact .cons hv ih
  .rw[if_neg (by rw[decide_eq_false e];exact ia),if_neg e];exact .cons h1 ih
theorem KV.put(N:oj enc)(h:KV X c enc es bl)(hv:VR X c p v):KV X c enc (dput es (enc k) p) (stored bl k v):=by unfold dput stored;rw[h.any N];exact iteInduction (motive:=λz=>KV X c enc z _) (λe=>(if_pos e).symm▸h.map N hv) λe=>(if_neg e).symm▸h.snoc hv
theorem KV.del(N:oj enc)(h:KV X c enc es bl):KV X c enc (r0 es (enc k)) (without bl k):=by
 unfold r0 without;induction h with
 |nil=>exact .nil
 | @cons k' p' v' dM acx h1 _ ih=>
  rw[KI,KI];show KV X c enc (if(!gX (enc k') (enc k))=ag then _ else _) (if decide (k'≠k)=ag then _ else _);rw[N,decide_not];by_cases e:k'=k
  .rw[decide_eq_true e];exact ih
  .rw[decide_eq_false e];exact .cons h1 ih
variable{xs:List (List Int×Addr×Value)}{kk:List Int}{a:Addr}
theorem yC(xs:List (List Int×Addr×Value))(kk:List Int):mc (strip xs) kk=(atKey xs kk).map (·.2):=by unfold mc strip atKey;rw[List.find?_map,Lh,Lh];rfl
theorem Q6:strip (tV xs kk a v)=stored (strip xs) kk v:=by
 have e:(atKey xs kk).isSome=(strip xs).any λkv=>decide (kv.1=kk):=by unfold atKey strip;rw[DT,List.any_map];exact kX.mpr (Kr.trans tE.symm)
 unfold tV stored;rw[e];cases h:(strip xs).any λkv=>decide (kv.1=kk) with
 |true=>
  unfold strip;rw[if_pos rfl,if_pos rfl,cV,cV];refine gF λx zy=>?_;show((putAt kk v x).1,(putAt kk v x).2.2)=if x.1=kk then(x.1,v) else(x.1,x.2.2)
  unfold putAt;by_cases e:x.1=kk
  .rw[if_pos e,if_pos e]
  .rw[if_neg e,if_neg e]
 |false=>rw[if_neg ia,if_neg ia];unfold strip;rw[b8];rfl
theorem Q7{P:List Int->Addr->Prop}(h: ∀ x∈xs,P x.1 x.2.1)(hk:P kk a): ∀ x∈tV xs kk a v,P x.1 x.2.1:=by unfold tV;refine iteInduction (motive:=λz:List (List Int×Addr×Value)=> ∀ x∈z,P x.1 x.2.1) (λzy x hx=>(bX.mp hx).elim λy q=>?_) λzy x hx=>(fX.mp hx).elim (h x) λhx=>gQ.mp hx▸hk;rw[<- q.2];exact iteInduction (motive:=λz:List Int×Addr×Value=>P z.1 z.2.1) (λzy=>h y q.1) λzy=>h y q.1
theorem ai9:strip (xs.filter λx=>decide (x.1≠kk))=without (strip xs) kk:=by unfold strip without;rw[KJ];rfl
theorem kinds_of(e:keysOk p es=ag):keyKind p≠0/\ ∀ q∈es,keyKind q.1=keyKind p:=⟨λz=>by unfold keysOk at e;rw[z] at e;exact(nB e),λq hq=>beq_iff_eq.mp (dS.mp (bA.mp e).2 q hq)⟩
theorem KV.nil_of{K:Type}{enc:K->PV}{bl:List (K×Value)}{n:Nat}(h:KV X c enc es bl)(hn: ∀ k,keyKind (enc k)≠n)(e: ∀ q∈es,keyKind q.1=n):bl=[]/\es=[]:=by
 induction h using KV.casesOn with
 |nil=>exact⟨rfl,rfl⟩
 | @cons k=>exact absurd (e _ (.head _)) (hn k)
theorem HQ(l:List PV):keyKind (.tup l)=0\/keyKind (.tup l)=3:=by
 show(bif _ then 3 else 0)=0\/(bif _ then 3 else 0)=3;induction(intsOf l).any (·.length==2) using dD with
 |true=>exact .inr rfl
 |false=>exact .inl rfl
theorem HR(l:List Int):keyKind (kJ l)=0\/keyKind (kJ l)=3:=HQ _
theorem itemsAre(h:l7 vs is):ItemsAre (jk X) is vs:=by
 induction h with
 |nil=>exact .nil
 |cons i t _ ih=>exact .cons (decide_eq_true rfl) ih
theorem Q8{K':Type}[DecidableEq K']{knd:rI X.prog X.w K}{acy:rI X.prog X.w K'}{H:Heap}(h:H.DictOf knd a []):H.DictOf acy a []:=h.elim λo q=>q.elim λe q=>q.elim λp q=>by have h0:e.toList=[]:=rt.mp q.2.2.2.2.1.length;exact⟨o,e,p,q.1,q.2.1,q.2.2.1,λz hz=>absurd (C4.mpr hz) (by rw[h0];exact oE),by rw[h0];exact .nil,zN⟩
theorem Ca{knd:rI X.prog X.w K}{H:Heap}:H.DictOf knd a []↔H.DictOfH (q6 X) a []:=⟨λh=>h.elim λo q=>q.elim λe q=>q.elim λp q=>⟨o,e,p,q.1,q.2.1,q.2.2.1,rt.mp q.2.2.2.2.1.length,λzy hz=>((by rcases hz with⟨⟩)),zN⟩,λh=>h.elim λo q=>q.elim λe q=>q.elim λp q=>⟨o,e,p,q.1,q.2.1,q.2.2.1,λz hz=>absurd (C4.mpr hz) (by rw[q.2.2.2.1];exact oE),by rw[q.2.2.2.1];exact .nil,zN⟩⟩
theorem DR.vm(h:DR X c a es)(e: ∀ q∈es,keyKind q.1=1): ∃ bl,KV X c PV.int es bl/\c.s.heap.DictOf (jk X) a bl:=by
 induction h using DR.casesOn with
 |int k d=>exact⟨_,k,d⟩
 |str k d=>obtain⟨rfl,rfl⟩:=k.nil_of (n:=1) (λzy=>(nN rfl)) e;exact⟨[],.nil,Q8 d⟩
 |pair k d _=>obtain⟨h1,rfl⟩:=k.nil_of (n:=1) (λl=>(HR l).elim (λz=>z▸by decide) λz=>z▸by decide) e;obtain rfl:=Kd.mp h1;exact⟨[],.nil,Ca.mpr d⟩
theorem DR.HS(h:DR X c a es)(e: ∀ q∈es,keyKind q.1=2): ∃ bl,KV X c PV.str es bl/\c.s.heap.DictOf (pK X) a bl:=by
 induction h using DR.casesOn with
 |str k d=>exact⟨_,k,d⟩
 |int k d=>obtain⟨rfl,rfl⟩:=k.nil_of (n:=2) (λzy=>(nN rfl)) e;exact⟨[],.nil,Q8 d⟩
 |pair k d _=>obtain⟨h1,rfl⟩:=k.nil_of (n:=2) (λl=>(HR l).elim (λz=>z▸by decide) λz=>z▸by decide) e;obtain rfl:=Kd.mp h1;exact⟨[],.nil,Ca.mpr d⟩
theorem DR.asPair(h:DR X c a es)(e: ∀ q∈es,keyKind q.1=3): ∃ xs,KV X c kJ es (strip xs)/\c.s.heap.DictOfH (q6 X) a xs/\ ∀ x∈xs,VR X c (kJ x.1) (.ref x.2.1):=by
 induction h using DR.casesOn with
 |pair k d r=>exact⟨_,k,d,r⟩
 |int k d=>obtain⟨rfl,rfl⟩:=k.nil_of (n:=3) (λzy=>(nN rfl)) e;exact⟨[],.nil,Ca.mp d,λzy h=>(by rcases h with⟨⟩)⟩
 |str k d=>obtain⟨rfl,rfl⟩:=k.nil_of (n:=3) (λzy=>(nN rfl)) e;exact⟨[],.nil,Ca.mp d,λzy h=>(by rcases h with⟨⟩)⟩
@[elab_as_elim] theorem VR.key {i:PV} {w:Value} {M:PV->Value->Prop} (h:VR X c i w) (e:keysOk i es=ag) (h1: ∀ {n t},(∀ q∈es,keyKind q.1=1)->M (.int n) (.int n t)) (h2: ∀ {n t},(∀ q∈es,keyKind q.1=2)->M (.str n) (.str n t))
  (h3: ∀ {l r},(∀ q∈es,keyKind q.1=3)->IsTupleKey (jk X) c.s.heap l r->VR X c (kJ l) (.ref r)->M (kJ l) (.ref r)):M i w:=by
 obtain⟨e0,e1⟩:=kinds_of e;induction h using VR.casesOn with
 |int=>exact h1 e1
 |str=>exact h2 e1
 | @tup l r vs m ht hv hz=>
  cases e2:intsOf l with
  |none=>exact absurd (show(bif (intsOf l).any (·.length==2) then 3 else 0)=0 by rw[e2];rfl) e0
  |some is=>have e3:=B5 e2;subst e3;have e1: ∀ q∈es,keyKind q.1=3:=(HR is).elim (λz=>absurd z e0) λz=>z▸e1;exact h3 (l:=is) e1 ⟨_,_,m,ht,rfl,rfl,itemsAre (hv.nums e2)⟩ (.tup ht hv hz)
 |_=>exact absurd rfl e0
end
theorem sV:lj=16777216:=by rw[wI]
theorem gO(h:n<=1000000):n<=lj:=by rw[sV];exact(aw [.l J0 (.n 1000000)] (.l J0 (.n 16777216))) h
theorem vn{T:String}(hT:T≠ "tuple" /\T≠ "range")(h:o.cls= .type T): ¬ cK o:=λq=>q.1.elim (λe=>hT.1 (Mi (h.symm.trans e))) λe=>hT.2 (Mi (h.symm.trans e))
theorem vo: ¬ cK (seqObj "list" vs m):=vn (T:= "list") (by decide) rfl
theorem yD(h:o.ExactDict): ¬ cK o:=vn (T:= "dict") (by decide) h.1
noncomputable def Kb (c:Cf) (K:Bool->Prop) (Q:Value->aq->Prop):Prop:= ∀ {r t},K r->Q (.bool r) {c.s with toks:=t}
noncomputable def Ku (X:SX) (c:Cf) (K:Unit->PH->Prop) (Q:Unit->aq->Prop):Prop:= ∀ {c'},K () c'.h->Nx X c c'->Q () c'.s
section
variable{X:SX}{c:Cf}{K:PV->PH->Prop}{Q:Value->aq->Prop}{r:PV}{v:Value}{t:Nat}{k:Nat}
theorem Mo.tok:Mo c (c.tok t):=⟨λe zy=>e,λzy=>rfl,aS _⟩
theorem kL(S:SR X c)(e:K r c.h)(hq:Kv X c K Q)(hv:VR X c r v):Q v {c.s with toks:=t}:=hq (c':=c.tok t) e (.tok S) (hv.mono .tok)
theorem gx(S:SR X c){i:Int}{u:Tok}(e:K (.int i) c.h)(hq:Kv X c K Q):Q (.int i u) {c.s with toks:=t}:=hq (c':=c.tok t) e (.tok S) (.int i u)
theorem HT(S:SR X c){ob:Obj}{o:aB}{a:Addr}{H':Heap}(hk: ∀ {a o},c.s.heap.get? a=aa o->H'.get? a=aa o)(ha:X.bC.objs.size<=a/\c.s.heap.get? a=ae)(hs: ¬ cK ob)(hg:H'.get? a=aa ob)
  (ho: ∀ {c':Cf},Mo c c'->c'.s.heap.get? (c'.G.ad c.h.length)=aa ob->OR X c' c.h.length o) (e:K (.ref c.h.length) (c.h++[o])) (hq:Kv X c K Q):Q (.ref a) {c.s with heap:=H',toks:=t}:=by
 have ad: ∀ s',(c.add a (λb=>b=a) ae ae o s').G.ad c.h.length=a:=λzy=>if_pos rfl;have r:=S.add (a:=a) (F:=λb=>b=a) (g:=ae) (z:=ae) (o:=o) (s':={c.s with heap:=H',toks:=t}) hk rfl (λhb=>hb▸⟨ha,_,hg,hs⟩) (aS _) (λzy=>rfl) S.bare nO (λm=>ho m (by rw[ad];exact hg)) nO;have vr:=VR.ref (X:=X) (c:=c.add a (λb=>b=a) ae ae o {c.s with heap:=H',toks:=t}) (k:=c.h.length) (by show _<(c.h++[o]).length;simp);rw[ad] at vr;exact hq e ⟨r.1,r.2,rfl⟩ vr
theorem SR.top(S:SR X c):X.bC.objs.size<=c.s.heap.objs.size/\c.s.heap.get? c.s.heap.objs.size=ae:=⟨S.old,oZ (aS _)⟩
theorem Cb(S:SR X c){l:List PV}{vs:List Value}{a:Addr}{H':Heap}{m:Nat}(hk: ∀ {a o},c.s.heap.get? a=aa o->H'.get? a=aa o)(ha:X.bC.objs.size<=a/\c.s.heap.get? a=ae)(hg:H'.get? a=aa (seqObj "list" vs.toArray m))(e:fP l c.h K)(hv:aE X c l vs)(hq:Kv X c K Q):Q (.ref a) {c.s with heap:=H',toks:=t}:=HT S hk ha vo hg (λm hg=> .list hg (hv.mono m) (iL.mp (cQ e).1)) (cQ e).2 hq
theorem Cc(S:SR X c){l:List PV}{vs:List Value}(e:fP l c.h K)(hv:aE X c l vs)(hq:Kv X c K Q):Q (.ref c.s.heap.objs.size) {c.s with heap:=c.s.heap.push (seqObj "list" vs.toArray 0),toks:=t}:=Cb S (λe=>cf _ e) S.top (eg _ rfl) e hv hq
theorem vq(S:SR X c){o':aB}{H':Heap}(kK:pL c.h k)(hs:i0 (c.G.ad k) c.s.heap H')(cj: ∃ ob,H'.get? (c.G.ad k)=aa ob/\ ¬ cK ob)
  (ho:Mo c (c.cL (c.h.set k o') {c.s with heap:=H',toks:=t})->OR X (c.cL (c.h.set k o') {c.s with heap:=H',toks:=t}) k o') {r:PV} {v:Value} (e:K r (c.h.set k o')) (hv:VR X c r v) (hq:Kv X c K Q):Q v {c.s with heap:=H',toks:=t}:=
 have q:=S.Q5 (s':={c.s with heap:=H',toks:=t}) kK hs cj rfl ho
 hq (c':=c.cL (c.h.set k o') _) e ⟨q.1,q.2,rfl⟩ (hv.mono (q.2.HN S))
theorem Q9{K:Unit->PH->Prop}{Q:Unit->aq->Prop}(S:SR X c){o':aB}{H':Heap}(kK:pL c.h k)(hs:i0 (c.G.ad k) c.s.heap H')(cj: ∃ ob,H'.get? (c.G.ad k)=aa ob/\ ¬ cK ob)
  (ho:Mo c (c.cL (c.h.set k o') {c.s with heap:=H',toks:=t})->OR X (c.cL (c.h.set k o') {c.s with heap:=H',toks:=t}) k o') (e:K () (c.h.set k o')) (hq:Ku X c K Q):Q () {c.s with heap:=H',toks:=t}:=
 have q:=S.Q5 (s':={c.s with heap:=H',toks:=t}) kK hs cj rfl ho
 hq (c':=c.cL (c.h.set k o') _) e ⟨q.1,q.2,rfl⟩
theorem OR.mY{l:List PV}{M:Prop}(h:OR X c k (.list l))(f: ∀ {vs m},c.s.heap.get? (c.G.ad k)=aa (seqObj "list" vs.toArray m)->aE X c l vs->l.length<=1000000->M):M:=by cases h with|list h1 h2 h3=>exact f h1 h2 h3
theorem Ra{o:aB}{P:List PV->Prop}{M:aB->Prop}(e:oL P o)(f: ∀ {l},P l->M (.list l)):M o:=by induction o using aB.casesOn with|list=>exact f e|_=>exact e.elim
theorem kf(S:SR X c){P:List PV->Prop}{M:Prop}(e:gW c.h k P)(f: ∀ {l vs m},c.h[k]?=aa (.list l)->c.s.heap.get? (c.G.ad k)=aa (seqObj "list" vs.toArray m)->aE X c l vs->l.length<=1000000->P l->M):M:=e.elim λo q=>Ra (M:=λo=>c.h[k]?=aa o->M) q.2 (λp e=>(S.objs e).mY λh1 h2 h3=>f e h1 h2 h3 p) q.1
theorem isList{H:Heap}{a:Addr}{vs:List Value}{m:Nat}(h:H.get? a=aa (seqObj "list" vs.toArray m)):H.IsList a vs.toArray:=⟨_,h,rfl,m,rfl⟩
end
theorem foldl_rep(v:Value): ∀ (n:Nat) (acc:Array Value),DC (λx1 x2=>x1++x2) acc (cX n #[v])=acc++(cX n v).toArray
 |0,acc=>by rw[List.replicate_zero];exact(Array.append_empty).symm
 |n+1,acc=>by rw[Kh,Dw,foldl_rep v n,Array.append_assoc,Kh];exact congrArg _ (vT.mp (by simp))
theorem acz(v:Value)(n:Nat):DC (λx1 x2=>x1++x2) #[] (cX (if(#[v]:Array Value).isEmpty=ag then 0 else n) #[v])=(cX n v).toArray:=(foldl_rep v n #[]).trans Array.empty_append
theorem HU{j:Int}{z:PV}{h:PH}{K:PV->PH->Prop}(e: -1000000<=j/\fP (cX j.toNat z) h K): -1000000<=j/\j<=1000000:=⟨e.1,by have:=iL.mp (cQ e.2).1;rw[tB] at this;exact(cM [.l J0 (.n 1000000),pT J0 Q0] (.L Q0 (.n 1000000))) this (uT _)⟩
theorem fits_of(h: -1000000<=j/\j<=1000000): ¬ (!Builtin.List.listFitsIndex j)=ag:=by have:Builtin.List.listFitsIndex j=ag:=bA.mpr ⟨decide_eq_true (by omega),decide_eq_true (by omega)⟩;rw[this];exact ia
theorem acA(h: -1000000<=j/\j<=1000000): ¬ (#[v]:Array Value).size*j.toNat>(2^63-1)/8:=by rw[show(#[v]:Array Value).size=1 from rfl];omega
theorem acB(h: -1000000<=j/\j<=1000000): ¬ Builtin.List.listTooLong ((#[v]:Array Value).size*j.toNat)=ag:=λe=>by have:=of_decide_eq_true e;rw[show(#[v]:Array Value).size=1 from rfl,sV] at this;exact(cM [.an (.L (.n (-1000000)) Q0) (.L Q0 (.n 1000000)),.t (.n 16777216) (.m 1 J0),pT J0 Q0] .ff) h this (uT _)
theorem yE(h:bT a=ag):a.natAbs<2^64:=of_decide_eq_true h
theorem acC(x:Int)(h:bT y=ag):Ly x y=ak:=by
 have hl:y.natAbs.log2<64:=by
  by_cases z:y.natAbs=0
  .rw[z];decide
  .exact(Nat.log2_lt z).mpr (yE h)
 unfold Ly;dsimp only;rw[C7];left;rw[decide_eq_false_iff_not]
 split <;> (first|exact bL 0 0 [] [] [] (.no (.t (.n 300) Y0))|exact(au [.t J0 (.n 64),pD 30 J1 J0] (.no (.t (.n 300) (.a J1 Y1)))) hl (uD _ 30))
theorem yF(h:eC n=ag):0<=n/\n<=1000000:=by have:=bA.mp h;exact⟨of_decide_eq_true this.1,of_decide_eq_true this.2⟩
theorem HV{b:Int}{p:Bool}(h:(b != 0&&p)=ag):b≠0/\p=ag:=by have:=bA.mp h;exact⟨bne_iff_ne.mp this.1,this.2⟩
section
variable{X:SX}{c:Cf}{A:bB}{K:PV->PH->Prop}{Q:Value->aq->Prop}{x y:PV}{a b:Value}
theorem acD(S:SR X c)(hx:VR X c x a)(hy:VR X c y b)(e:MR x y c.h K)(hq:Kv X c K Q):aC X.M A (binaryOp .Add a b) Q (λzy zy=>False) c.s:=by
 induction hx using VR.casesOn with
 |int=>exact hy.kI e λe=>PyProof.Rows.add_int (gx S e hq)
 |bytes p _ hp=>refine hy.kB e fun{q t} e rU=>PySem.W.KBy.add_bytes (by rw[dJ,dJ];exact(au [.l J0 (.n 1000000),.l J1 (.n 1000000)] (.l (.a J0 J1) (.n 16777216))) hp rU) λt' k=>?_;rw[v9];exact kL S (cQ e).2 hq (.bytes _ t' (iL.mp (cQ e).1))
 |ref hi=>exact hy.kR e λe hj=>kf S e λe1 hl hv hz e=>kf S e λe2 j8 dN fc e=>concat_meets ⟨_,hl,rfl⟩ ⟨_,j8,rfl⟩ noFill_list_add seq_list_add PySem.F.slot_list_add PySem.F.entry_list_add (PySem.F.args_list_add_2 _ _) (list_addW _ _ _ _ _ _ ae ae #[] #[] (by rw[dJ,dJ,<- hv.length,<- dN.length,sV];exact(au [.l J0 (.n 1000000),.l J1 (.n 1000000)] (.l (.a J0 J1) (.n 16777216))) hz fc)) ⟨hl,j8,by rw[v9];exact Cc S e (hv.append dN) hq⟩
 |_=>exact e.elim
theorem acE(S:SR X c)(hx:VR X c x a)(hy:VR X c y b)(e:mulC x y c.h K)(hq:Kv X c K Q):aC X.M A (binaryOp .Mult a b) Q (λzy zy=>False) c.s:=by
 refine hy.kI e fun{j u} e=>?_;induction hx using VR.casesOn with
 |int i t=>
  refine PyProof.Rows.mul_int (gx S e.2 hq) ?_;rcases ni.mp e.1 with q|q
  .exact .of_left (intBits_le (yE q))
  .exact .of_right (intBits_le (yE q))
 |ref hi=>
  refine kf S e λe1 hl hv hz e=>e.elim λz e=>?_;have e1:=e.1;subst e1;refine hv.QW (fun{v} GZ hl=>?_) hl
  .
   .refine wpAny_binaryOp_repeat_ref (T:= "list") (U:= "int") (by decide) ⟨_,hl,rfl⟩ (λs'=>typeIs_int s' j u) noFill_list_mul F.fills_int_mul F.slot_int_rmul repeat_list F.slot_int_index.lookup
     (call_meets F.slot_int_rmul (typeIs_int c.s j u) F.entry_int_rmul (F.args_int_rmul_2 _ _) (int___rmul___int_list j u _ #[_] _) ⟨hl,rfl,⟨_,hl,rfl⟩,call_meets F.slot_list_mul ⟨_,hl,rfl⟩ F.entry_list_mul (F.args_list_mul_2 _ _) (AutoListH.list___mul___list_int_3 _ #[_] _ j u (fits_of (HU e.2)) (acA (HU e.2)) (acB (HU e.2))) ⟨hl,?_⟩⟩)
    have q:=Cc (t:=c.s.toks) S e.2.2 (aE.replicate GZ _) hq;rw[<- acz] at q;exact q
 |_=>exact e.elim
theorem acF{op:tT}(S:SR X c)(hx:VR X c x a)(hy:VR X c y b)(e:jb op x y c.h K)(hq:Kv X c K Q):aC X.M A (binaryOp op a b) Q (λzy zy=>False) c.s:=by
 induction op using Operator.casesOn with
 |Add=>exact acD S hx hy e hq
 |Sub=>exact hx.kI e λe=>hy.kI e λe=>PyProof.Rows.sub_int (gx S e hq)
 |Mult=>exact acE S hx hy e hq
 |FloorDiv=>exact hx.kI e λe=>hy.kI e λe=>PyProof.Rows.floordiv_int (HV e.1).1 (gx S e.2 hq) (.inl (acC _ (HV e.1).2))
 |Mod=>exact hx.kI e λe=>hy.kI e λe=>PyProof.Rows.mod_int (HV e.1).1 (gx S e.2 hq)
 |Pow=>exact hx.kI e λe=>hy.kI e λe=>have q:=bA.mp e.1;pow_int_small (yF q.1).1 (yF q.1).2 (yE q.2) (gx S e.2 hq)
 |LShift=>exact hx.kI e λe=>hy.kI e λe=>have q:=bA.mp e.1;lshift_int_small (yF q.1).1 (yF q.1).2 (yE q.2) (gx S e.2 hq)
 |RShift=>exact hx.kI e λe=>hy.kI e λe=>rshift_int (yF e.1).1 (gx S e.2 hq)
 |BitOr=>exact hx.kI e λe=>hy.kI e λe=>or_int (gx S e hq)
 |BitAnd=>exact hx.kI e λe=>hy.kI e λe=>and_int (gx S e hq)
 |_=>exact e.elim
end
theorem acG(hs:qD slice=ag)(o i:Value):subscripted slice ak o i=operate [o,i] (getItem o i):=by
 induction slice using nF with
 |Slice=>exact nB hs
 |_=>rfl
theorem Cd(e:idxOf k n=aa j):j<n/\ -(n:Int)<=k/\k<n/\Ak k n=aa j/\(0<=k->j=k.toNat)/\(¬ 0<=k->j=(k+n).toNat):=by
 unfold idxOf at e;unfold Ak;by_cases h:0<=k
 .rw[if_pos h] at e
  by_cases h1:k<n
  .rw[if_pos h1] at e;obtain rfl:=bD e
   refine⟨by exact(lx [.L (.n 0) Q0,.T Q0 (.c J0),pT J1 Q0] (.t J1 J0)) h h1 (uT _),by exact(cM [.L (.n 0) Q0,.T Q0 (.c J0)] (.L (.g (.c J0)) Q0)) h h1,h1,?_,λzy=>rfl,λz=>absurd h z⟩;simp only[show ¬ k<0 from(cY [.L (.n 0) Q0] (.no (.T Q0 (.n 0)))) h,h,h1,if_false,decide_true,JI,if_true]
  .rw[if_neg h1] at e;cases e
 .rw[if_neg h] at e
  by_cases h1:0<=k+n
  .rw[if_pos h1] at e;obtain rfl:=bD e
   refine⟨by exact(lx [.no (.L (.n 0) Q0),.L (.n 0) (.a Q0 (.c J0)),pT J1 (.a Q0 (.c J0))] (.t J1 J0)) h h1 (uT _),by exact(cM [.L (.n 0) (.a Q0 (.c J0))] (.L (.g (.c J0)) Q0)) h1,by exact(cM [.no (.L (.n 0) Q0),.L (.n 0) (.a Q0 (.c J0))] (.T Q0 (.c J0))) h h1,?_,λz=>absurd z h,λzy=>rfl⟩;simp only[show k<0 from(cY [.no (.L (.n 0) Q0)] (.T Q0 (.n 0))) h,show k+(n:Int)<n from(cM [.no (.L (.n 0) Q0)] (.T (.a Q0 (.c J0)) (.c J0))) h,h1,decide_true,JI,if_true]
  .rw[if_neg h1] at e;cases e
section
variable{X:SX}{c:Cf}{A:bB}{d k:Nat}{K:PV->PH->Prop}{Q:Value->aq->Prop}{x y:PV}{o i:Value}{value slice:Expr}
theorem bp.Ce(hA:bp d A):A.in1.units<nA:=by have:=hA.units;show A.units+1<nA;rw[show nA=9900 from rfl];exact(au [.l (.a J0 (.m 40 J1)) (.n 9000)] (.t (.a J0 Y1) (.n 9900))) this
theorem sW{T id:String}(hs:qD slice=ag)(hT:c.s.TypeIs o T)(hl:ie (.type T) "__getitem__" =pure (aa (.builtin id)))(hg:aC X.M A (getItem o i) Q (λzy zy=>False) c.s): aC X.M A (zY value slice o i) Q (λzy zy=>False) c.s:=tail_any hT hl hg (acG hs o i)
theorem getL{l:List PV}{vs:List Value}{m j:Nat}{k:Int}{t:Tok}{a:Addr}{u:Value}(hl:c.s.heap.get? a=aa (seqObj "list" vs.toArray m))(hv:l.length=vs.length)(hz:l.length<=1000000)(e:idxOf k l.length=aa j)(g:vs[j]?=aa u)(hq:Q u c.s):aC X.M A (getItem (.ref a) (.int k t)) Q (λzy zy=>False) c.s:=by
 obtain⟨-,i1,i2,-,i3,i4⟩:=Cd e;by_cases h0:0<=k
 .exact Ls (isList hl) h0 ((cM [.l J0 (.n 1000000),.T Q0 (.c J0)] (.T Q0 (.n 9223372036854775808))) hz i2) (by rw[kj,<- i3 h0];exact g) hq
 .exact wpAny_getItem_list_neg (isList hl) ((cY [.no (.L (.n 0) Q0)] (.T Q0 (.n 0))) h0) (by rw[dJ];exact(lx [.e J0 J1,.L (.g (.c J0)) Q0] (.L (.g (.c J1)) Q0)) hv i1) ((cM [.l J0 (.n 1000000),.L (.g (.c J0)) Q0] (.L (.g (.n 9223372036854775808)) Q0)) hz i1) (by rw[kj,dJ,<- hv,<- i4 h0];exact g) hq
theorem Rb{es:List (PV×PV)}{a:Addr}(hA:bp d A)(hs:qD slice=ag)(S:SR X c)(D:DR X c a es)(hy:VR X c y i)(e:xl es y λv=>K v c.h)(hq:Kv X c K Q):aC X.M A (zY value slice (.ref a) i) Q (λzy zy=>False) c.s:=by
 refine e.2.elim λr q=>?_;revert q;refine hy.key e.1 (fun{n t} hk q=>?_) (fun{n t} hk q=>?_) fun{l r} hk ht zy q=>?_
 .exact(D.vm hk).elim λbl D=>(D.1.get encInt q.1).elim λw g=>sW hs D.2.typeIs D2.lookup (wpAny_getItem_of (knd:=jk X) (k:=n) (decide_eq_true rfl) D.2.mapOf g.1 (kL S q.2 hq g.2))
 .exact(D.HS hk).elim λbl D=>(D.1.get encStr q.1).elim λw g=>sW hs D.2.typeIs D2.lookup (wpAny_getItem_of (knd:=pK X) (k:=n) (decide_eq_true rfl) D.2.mapOf g.1 (kL S q.2 hq g.2))
 .exact(D.asPair hk).elim λxs D=>(D.1.get sU q.1).elim λw g=>(ee.mp ((yC xs l).symm.trans g.1)).elim λp z=>sW hs D.2.1.typeIs D2.lookup (wpAny_getItem_heap (knd:=q6 X) hA.Ce ht D.2.1 z.1 (kL S q.2 hq (z.2▸g.2)))
theorem acH(hA:bp d A)(hs:qD slice=ag)(S:SR X c)(hx:VR X c x o)(hy:VR X c y i)(e:mz x y c.h K)(hq:Kv X c K Q):aC X.M A (zY value slice o i) Q (λzy zy=>False) c.s:=by
 induction hx using VR.casesOn with
 |tup ht hv hz=>exact hy.kI e λe=>e.elim λj e=>e.2.elim λw q=>(hv.get q.1).elim λu g=>sW (T:= "tuple") hs ⟨_,ht,rfl⟩ F.slot_tuple_getitem.lookup (PyProof.Rows.getItem_tuple ⟨_,ht,rfl,_,rfl⟩ (by have:=Cd e.1;have:=hv.length;omega) (by have:=Cd e.1;omega) (by rw[dJ,<- hv.length];exact(Cd e.1).2.2.2.1) (kj▸g.1) (kL S q.2 hq g.2))
 |j0 hl hv hz=>have IL:c.s.heap.IsList _ _:=hl.elim λo r=>⟨o,S.static _ _ r.1,r.2⟩;exact hy.kI e λe=>e.2.elim λw q=>(hv.get _ _ q.1).elim λu g=>sW hs IL.typeIs D3.lookup (Ls IL e.1 (by have:=(dF.mp q.1).1;exact(lx [.l J0 (.n 1000000),.t J1 J0,pT J1 Q0] (.T Q0 (.n 9223372036854775808))) hz this (uT _)) (kj▸g) (gx S q.2 hq))
 | @bytes l _ hz=>refine hy.kI e fun{j u} e=>e.2.elim λw q=>sW hs (jx c.s _ _) EH.lookup (PySem.W.getItem_bytes (by have:=(dF.mp q.1).1;exact(aw [.l J0 (.n 1000000)] (.l J0 (.n 1099511627776))) hz) e.1 (by have:=(dF.mp q.1).1;exact(lx [.t J0 J1,pT J0 Q0] (.T Q0 (.c J1))) this (uT _)) ?_);rw[show l.getD j.toNat 0=w by rw[eP,q.1];rfl];exact gx S q.2 hq
 |ref ha=>
  refine e.elim λob q=>?_;induction ob using aB.casesOn with
  |list l=>exact(S.objs q.1).mY λhl hv hz=>hy.kI q.2 λe=>e.elim λj e=>e.2.elim λw q=>(hv.get q.1).elim λu g=>sW hs (isList hl).typeIs D3.lookup (getL hl hv.length hz e.1 g.1 (kL S q.2 hq g.2))
  |dict es=>cases S.objs q.1 with|dict D=>exact Rb hA hs S D hy q.2 hq
  |dy es=>cases S.objs q.1 with|dy D=>exact Rb hA hs S D hy q.2 hq
  |_=>exact q.2.elim
 |_=>exact e.elim
end
theorem acI(lo:Option Int)(n:Nat):(lo.map λi=>mw i n).getD 0=kms_lo lo n:=by
 induction lo using jP with
 |none=>rfl
 |some i=>show mw i n=kms_lo (aa i) n;unfold mw kms_lo;dsimp only;split <;> split <;> (first|exact(Mz [pT J1 Q0,pM J0 J1 J2,pT J4 (.g Q0),pB J3 J2 J4,.L (.n 0) Q0,.T Q0 (.n 0)] (.e J0 J3)) (uT _) (uM _ _) (uT _) (uB _ _) ‹_› ‹_› |exact(rX [pT J1 Q0,pM J0 J1 J2] (.e J0 J0)) (uT _) (uM _ _)|exact(o7 [pT J0 (.a Q0 (.c J1)),pT J3 (.g Q0),pB J2 J1 J3,.no (.L (.n 0) Q0)] (.e J0 J2)) (uT _) (uT _) (uB _ _) ‹_› |exact(o7 [pT J0 (.a Q0 (.c J1)),pT J3 Q0,pM J2 J3 J1,.no (.L (.n 0) Q0),.no (.T Q0 (.n 0))] (.e J0 J2)) (uT _) (uT _) (uM _ _) ‹_› ‹_›)
theorem acJ(hi:Option Int)(n:Nat):(hi.map λi=>mw i n).getD n=kms_hi hi n:=by
 induction hi using jP with
 |none=>rfl
 |some i=>show mw i n=kms_hi (aa i) n;unfold mw kms_hi;dsimp only;split <;> split <;> (first|exact(Mz [pT J1 Q0,pM J0 J1 J2,pT J4 (.g Q0),pB J3 J2 J4,.L (.n 0) Q0,.T Q0 (.n 0)] (.e J0 J3)) (uT _) (uM _ _) (uT _) (uB _ _) ‹_› ‹_› |exact(rX [pT J1 Q0,pM J0 J1 J2] (.e J0 J0)) (uT _) (uM _ _)|exact(o7 [pT J0 (.a Q0 (.c J1)),pT J3 (.g Q0),pB J2 J1 J3,.no (.L (.n 0) Q0)] (.e J0 J2)) (uT _) (uT _) (uB _ _) ‹_› |exact(o7 [pT J0 (.a Q0 (.c J1)),pT J3 Q0,pM J2 J3 J1,.no (.L (.n 0) Q0),.no (.T Q0 (.n 0))] (.e J0 J2)) (uT _) (uT _) (uM _ _) ‹_› ‹_›)
theorem Rd(l:List α)(lo hi:Option Int):sliceOf l lo hi=(l.drop (kms_lo lo l.length)).take (kms_hi hi l.length-kms_lo lo l.length):=by unfold sliceOf;rw[acI,acJ,List.drop_take]
theorem Rf(b:List UInt8)(lo hi:Option Int):KBy.picked b.toArray lo hi=(sliceOf b lo hi).toArray:=by unfold KBy.picked Builtin.Bytes.sliced;rw[kms_bounds lo hi b.toArray.size];simp only[sliceRange_one,pick_run];rw[Rd];rfl
section
variable{X:SX}{c:Cf}{A:bB}{d k:Nat}{K:PV->PH->Prop}{KU:Unit->PH->Prop}{Q:Value->aq->Prop}{QU:Unit->aq->Prop}{x y z:PV}{o i v:Value}{t:Nat}
theorem aE.slice(hv:aE X c l vs)(lo hi:Option Int):aE X c (sliceOf l lo hi) (kms_pick vs lo hi):=by rw[Rd];unfold kms_pick;rw[<- hv.length];exact(hv.drop _).take _
noncomputable def Cf.push (c:Cf) (ob:Obj):Cf:=⟨c.G,c.h,{c.s with heap:=c.s.heap.push ob}⟩
theorem Nx.push(S:SR X c)(ob:Obj):Nx X c (c.push ob):=⟨S.grown (s':={c.s with heap:=c.s.heap.push ob}) (λe=>cf _ e) (by rw[t6];exact km _) rfl,Ev.grown (s':={c.s with heap:=c.s.heap.push ob}) λe=>cf _ e,rfl⟩
theorem Kv.after(hq:Kv X c K Q)(N:Nx X c c'):Kv X c' K Q:=λe N' r=>hq e (N.trans N') r
theorem Nx.mo(S:SR X c)(N:Nx X c c'):Mo c c':=N.ev.HN S
theorem acK{value:Expr}{lower upper:Option Expr}{p:Pos}{lo hi:Option Int}{vl vu:Value}(S:SR X c)(hx:VR X c x o)(pl:IsPart vl lo)(pu:IsPart vu hi)(e:AH x lo hi c.h K)(hq:Kv X c K Q):
  aC X.M A (zY value (.Slice lower upper ae p) o (.ref c.s.heap.objs.size)) Q (λzy zy=>False) (c.push {cls:= .type "slice",data:= .fields #[vl,vu,.none]}).s:=by
 have N:=Nx.push S {cls:= .type "slice",data:= .fields #[vl,vu,.none]};have rU:Kv X (c.push {cls:= .type "slice",data:= .fields #[vl,vu,.none]}) K Q:=hq.after N;induction hx using VR.casesOn with
 | @bytes l t hz=>have fc:=iL.mp (cQ e).1;refine tail_any (ops:=[.ref c.s.heap.objs.size,.bytes l.toArray t]) (jx _ _ _) EH.lookup (getItem_meets (jx _ _ _) (by decide) EH FB.entry_bytes_getitem (FB.args_bytes_getitem_2 _ _) (KBc.meets_slice2 l.toArray t _ pl pu) ⟨L7 _ _ _ _,by rw[Rf,dJ];exact gO fc,λt' k=>?_⟩) rfl;rw[Rf];exact kL (c:=c.push _) N.sr (cQ e).2 rU (.bytes _ t' fc)
 |ref ha=>refine kf (c:=c.push _) N.sr e fun{l vs m} e1 hl hv hz e=>tail_any (ops:=[.ref c.s.heap.objs.size,.ref (c.G.ad _)]) (isList hl).typeIs D3.lookup (wpAny_getItem_list_slice (isList hl) (L7 ..) pl pu .none nO ?_ (by rw[dJ,<- hv.length];exact gO hz)) rfl;rw[kms_pick_eq];exact Cc (c:=c.push _) N.sr e (hv.slice _ _) rU
 |_=>exact e.elim
theorem acL{prog:fB}{w:ef}{s:aq}{E:Value->aq->Prop}{l:Addr}{vs:List Value}{m:Nat}{k:Int}{t:Tok}{v:Value}{Q:Unit->aq->Prop}(ho:s.heap.get? l=aa (seqObj "list" vs.toArray m))
  (h0:0<=k) (Rg:k<2^63) (hn:k<vs.length)
  (hQ: ∀ h' m',h'.get? l=aa (seqObj "list" (vs.set k.toNat v).toArray m')->i0 l s.heap h'->Q () {s with heap:=h'}):aC (bR prog w) A (setItem (.ref l) (.int k t) v) Q E s:=by
 have hl:s.heap.IsList l vs.toArray:=⟨_,ho,rfl,m,rfl⟩;unfold setItem
 try with_reducible refine wpAny_holding ?_
 first|refine wpAny_bind (wpAny_pure ?_)|skip
 refine wpAny_bind (wpAny_sequenceKey hl.typeIs (by decide) ?_);refine wpAny_bind (wC (name:=jw "__setitem__") hl.typeIs slot_list_setitem (lh slot_list_setitem hl.typeIs entry_list_setitem ?_ (args_list_setitem _ _ _)));show aC _ _ (Builtin.List.listSubscript? (.int k t) >>= _) _ _ s;refine wpAny_bind (wpAny_listSubscript_int (fitsIndex_of h0 Rg) ?_);clear Rg;obtain⟨j,rfl⟩:=Int.eq_ofNat_of_zero_le h0;have hj:j<vs.toArray.size:=by rw[dJ];exact(au [.T (.c J0) (.c J1)] (.t J0 J1)) hn
 show aC _ _ ((seqItemAt l j >>= λr=>pure (r.map (j,·))) >>= _) _ _ s;refine wpAny_bind (wpAny_bind (wpAny_seqItemAt ho rfl (wpAny_pure ?_)));rw[show vs.toArray[j]?=aa vs.toArray[j] from vR hj];have sL:=tM ho (·.setIfInBounds j v);rw[List.setIfInBounds_toArray] at sL;exact wpAny_bind (wpAny_setSeqItemAt ho rfl (wpAny_pure ⟨.none,rfl,wpAny_pure (hQ _ _ sL (lq ..))⟩))
theorem HW(es:List (PV×PV))(k v:PV):(dput es k v).length<=es.length+1:=by
 unfold dput;split
 .rw[aX];exact km _
 .rw[bb];exact aS _
theorem HX{H:Heap}{K:Type}[DecidableEq K]{knd:rI X.prog X.w K}{a:Addr}{bl:List (K×Value)}(d:H.DictOf knd a bl): ∃ ob,H.get? a=aa ob/\ ¬ cK ob:=d.elim λo q=>q.elim λzy q=>q.elim λzy q=>⟨o,q.1,yD q.2.1⟩
theorem Rh{H:Heap}{a:Addr}{xs:List (List Int×Addr×Value)}(d:H.DictOfH (q6 X) a xs): ∃ ob,H.get? a=aa ob/\ ¬ cK ob:=d.elim λo q=>q.elim λzy q=>q.elim λzy q=>⟨o,q.1,yD q.2.1⟩
theorem OR.pN{es:List (PV×PV)}{M:Prop}(h:OR X c k (.dict es))(f:DR X c (c.G.ad k) es->es.length<=1000000->M):M:=by cases h with|dict h1 h2=>exact f h1 h2
theorem acM{es:List (PV×PV)}(hA:bp d A)(D:DR X c (c.G.ad k) es)(hz:es.length<=1000000)(hy:VR X c y i)(hv:VR X c z v)(e:keysOk y es=ag)
  (hq: ∀ {H' t},i0 (c.G.ad k) c.s.heap H'->(∃ ob,H'.get? (c.G.ad k)=aa ob/\ ¬ cK ob)->(∀ {c':Cf},Mo c c'->c'.s.heap=H'->c'.G.ad k=c.G.ad k->DR X c' (c'.G.ad k) (dput es y z))->QU () {c.s with heap:=H',toks:=t}):
  aC X.M A (setItem (.ref (c.G.ad k)) i v) QU (λzy zy=>False) c.s:=by
 revert hq;refine hy.key e (fun{n t} hk hq=>?_) (fun{n t} hk hq=>?_) fun{l r} hk ht hr hq=>?_
 .exact(D.vm hk).elim λbl D=>Lq (knd:=jk X) (k:=n) (decide_eq_true rfl) D.2 (λH' d' hs=>hq hs (HX d') λm e e'=> .int ((D.1.mono m).put encInt (hv.mono m)) (by rw[e,e'];exact d')) (D.1.length▸gO hz)
 .exact(D.HS hk).elim λbl D=>Lq (knd:=pK X) (k:=n) (decide_eq_true rfl) D.2 (λH' d' hs=>hq hs (HX d') λm e e'=> .str ((D.1.mono m).put encStr (hv.mono m)) (by rw[e,e'];exact d')) (D.1.length▸gO hz)
 .exact(D.asPair hk).elim λxs D=>wpAny_setItem_heap (knd:=q6 X) hA.Ce ht D.2.1 (λH' d' hs=>hq hs (Rh d') λm e e'=> .pair (Q6▸(D.1.mono m).put sU (hv.mono m)) (by rw[e,e'];exact d') (Q7 (P:=λz y=>VR X _ (kJ z) (.ref y)) (λx hx=>(D.2.2 x hx).mono m) (hr.mono m))) (by have:=D.1.length;rw[show(strip xs).length=xs.length from aX ..] at this;exact this▸gO hz)
theorem acN(hA:bp d A)(S:SR X c)(hx:VR X c x o)(hy:VR X c y i)(hz:VR X c z v)(e:uu x y z c.h KU)(hq:Ku X c KU QU):aC X.M A (setItem o i v) QU (λzy zy=>False) c.s:=by
 refine hx.kR e fun{k} e ha=>e.elim λob q=>?_;induction ob using aB.casesOn with
 |list l=>exact(S.objs q.1).mY λhl hv yr=>hy.kI q.2 λe=>acL hl e.1 (by omega) (by rw[<- hv.length];exact e.2.1) λH' m' sL hs=>Q9 S ⟨_,q.1,(λz=>z.elim)⟩ hs ⟨_,sL,vo⟩ (λm=> .list sL ((hv.mono m).set _ (hz.mono m)) (by rw[oF];exact yr)) e.2.2 hq
 |dict es=>exact(S.objs q.1).pN λD yr=>acM hA D yr hy hz q.2.1 λhs hob hD=>Q9 S ⟨_,q.1,(λz=>z.elim)⟩ hs hob (λm=> .dict (hD m rfl rfl) (cG (HW ..) q.2.2.1)) q.2.2.2 hq
 |_=>exact q.2.elim
end
inductive mZ (X:SX) (c:Nat):Prop
 |mk {nm q:Str} {N:Addr} {bs:List Value} {sn:List Str} {sub:List Value} {col:Option Bool} {dd:Option Addr} {k0 k1 k2 k3 k5:Option Value} {mN:Str->Option Value}:
  X.bC.get? (X.C c)=aa (tR nm q (X.C c) N bs [.type "object"] ag sn sub ak col dd k0 k1 k2 k3 k5 "object.__new__")->X.bC.Ns N mN->
  mN "__getattribute__" =ae->mN "__getattr__" =ae->mN "__setattr__" =ae->
  (∀ {a name},fm[a]?=aa name->X.T.gJ.contains (c,a)=ak->mN name=ae)->
  (∀ {m f},nR X.T.meths c m=aa f-> ∃ name,gY[m]?=aa name/\mN name=aa (.ref (X.fv f))/\(∃ of,X.bC.get? (X.fv f)=aa of/\of.cls= .type "function")/\
   (∃ y,ie (.type "object") name=pure y)/\ ∀ a,fm[a]?=aa name->X.T.gJ.contains (c,a)=ag)->mZ X c
noncomputable def Cg (n:Str):Bool:=match fastLookup "object" n with|some ae=>ag|_=>ak
theorem Ri(h:Cg n=ag):ie (.type "object") n=pure ae:=by
 rw[iO,iN];unfold Cg at h;cases e:fastLookup "object" n with
 |none=>rw[e] at h;exact nB h
 |some o=>induction o using jP with|none=>rfl|some v=>rw[e] at h;exact nB h
theorem acO:fm.all Cg=ag:=by kernel_rfl
theorem Rj{a:Nat}{name:Str}(h:fm[a]?=aa name):ie (.type "object") name=pure ae:=Ri (dS.mp acO _ (kY h))
theorem acP:fm.Nodup:=by decide +kernel
theorem Rk{a b:Nat}{x:Str}(ha:fm[a]?=aa x)(hb:fm[b]?=aa x):a=b:=(Kt (dF.mp ha).1 acP).mp (ha.trans hb.symm)
section
variable{X:SX}{c:Cf}{A:bB}{k a z f m:Nat}{K:PV->PH->Prop}{KU:Unit->PH->Prop}{Q:Value->aq->Prop}{QU:Unit->aq->Prop}{x y r:PV}{o u v:Value}{name:Str}{fs:List (Nat×PV)}{mA Rl:Str->Option Value}
theorem VR.handed(h:VR X c x o):handedOut o=pure o:=by cases h <;> rfl
theorem jl.inst{H:Heap}{x C d:Addr}(h:jl H x C d mA):H.Inst x C mA:=h.elim λo q=>⟨o,q.1,q.2.1,q.2.2.1,.inr ⟨d,q.2.2.2.1,q.2.2.2.2⟩⟩
theorem lP.at(h:lP X c fs mA)(hn:fm[a]?=aa name)(hl:fs.lookup a=aa r): ∃ v,mA name=aa v/\VR X c r v:=(h.2 _ _ hl).elim λy q=>q.elim λv q=>⟨v,some_inj q.1 hn▸q.2,(h.1 _ _ q.2).elim λb w=>w.elim λp w=>some_inj (Rk q.1 w.1▸w.2.1) hl▸w.2.2⟩
theorem Ci(b:Nat)(v:PV): ∀ fs:List (Nat×PV),(ky fs a v).lookup b=if b=a then aa v else fs.lookup b
 |[]=>by
  show(match b==a with|true=>aa v|false=>ae)=_;by_cases e:b=a
  .rw[if_pos e,beq_iff_eq.mpr e]
  .rw[if_neg e,beq_false_of_ne e];rfl
 |(e,w)::r=>by
  show(bif e==a then(a,v)::r else(e,w)::ky r a v).lookup b=_;cases h:e==a with
  |true=>
   obtain rfl:=beq_iff_eq.mp h;show(match b==e with|true=>aa v|false=>r.lookup b)=if b=e then aa v else match b==e with|true=>aa w|false=>r.lookup b
   by_cases q:b=e
   .rw[if_pos q,beq_iff_eq.mpr q]
   .rw[if_neg q,beq_false_of_ne q]
  |false=>
   show(match b==e with|true=>aa w|false=>(ky r a v).lookup b)=if b=a then aa v else match b==e with|true=>aa w|false=>r.lookup b
   rw[Ci b v r];by_cases q:b=e
   .rw[beq_iff_eq.mpr q];exact(if_neg λz:b=a=>ia (h.symm.trans (beq_iff_eq.mpr (q.symm.trans z)))).symm
   .rw[beq_false_of_ne q]
theorem Rm{p:PV}{b:Nat}(h:(ky fs a y).lookup b=aa p):(b=a/\p=y)\/(b≠a/\fs.lookup b=aa p):=by
 rw[Ci] at h;by_cases q:b=a
 .rw[if_pos q] at h;exact .inl ⟨q,(bD h).symm⟩
 .rw[if_neg q] at h;exact .inr ⟨q,h⟩
theorem lP.put(h:lP X c fs mA)(hn:fm[a]?=aa name)(hv:VR X c y u):lP X c (ky fs a y) (λz=>if z=name then aa u else mA z):=by
 refine⟨λz w e=>?_,λb p e=>(Rm e).elim (λq=>⟨name,u,q.1▸hn,if_pos rfl⟩) λq=>(h.2 b p q.2).elim λz w=>w.elim λv w=>⟨z,v,w.1,(if_neg λe:z=name=>q.1 (Rk w.1 (e▸hn))).trans w.2⟩⟩;by_cases q:z=name
 .exact⟨a,y,q▸hn,(Ci ..).trans (if_pos rfl),bD ((if_pos q).symm.trans e)▸hv⟩
 .exact(h.1 z w ((if_neg q).symm.trans e)).elim λb r=>r.elim λp r=>⟨b,p,r.1,(Ci ..).trans ((if_neg λt:b=a=>q (some_inj r.1 (t▸hn))).trans r.2.1),r.2.2⟩
theorem jl.step{H H':Heap}{x C d:Addr}(h:jl H x C d mA)(I:H'.Inst x C Rl)(hs: ∀ pO,H.get? x=aa pO-> ∃ q9,H'.get? x=aa q9/\q9.cls=pO.cls/\q9.data=pO.data/\q9.slots=pO.slots/\ ∀ dx,pO.dict=aa dx->q9.dict=aa dx):jl H' x C d Rl:=h.elim λo q=>(hs o q.1).elim λq9 f=>I.elim λo' i=>by have e:q9=o':=some_inj f.1 i.1;subst e;have hd:=f.2.2.2.2 _ q.2.2.2.1;exact i.2.2.2.elim (λz=>nS (hd.symm.trans z.1)) λz=>z.elim λd' z=>by have e:d=d':=bD (hd.symm.trans z.1);subst e;exact⟨q9,i.1,i.2.1,i.2.2.1,hd,z.2⟩
theorem jl.rest{H H':Heap}{x C d:Addr}(h:jl H x C d mA)(hk: ∀ b o,b≠x->(∀ pO dx,H.get? x=aa pO->pO.dict=aa dx->b≠dx)->H.get? b=aa o->H'.get? b=aa o){b:Addr}{ob:Obj}(h1:b≠x)(h2:b≠d)(e:H.get? b=aa ob):H'.get? b=aa ob:=h.elim λo q=>hk b ob h1 (λpO dx e1 e2 e3=>h2 (e3.trans (bD ((some_inj q.1 e1▸e2).symm.trans q.2.2.2.1)))) e
theorem jl.kK{H:Heap}{x C d:Addr}(h:jl H x C d mA):(∃ ob,H.get? x=aa ob/\ ¬ cK ob)/\ ∃ ob,H.get? d=aa ob/\ ¬ cK ob:=h.elim λo q=>⟨⟨o,q.1,λz=>z.1.elim (λw=>(by rcases w.symm.trans q.2.1 with⟨⟩)) λw=>(by rcases w.symm.trans q.2.1 with⟨⟩)⟩,q.2.2.2.2.2.elim λod w=>w.elim λes w=>w.elim λep w=>⟨od,w.1,λz=>z.2.1 _ _ w.2.1⟩⟩
theorem OR.HY{M:Prop}(h:OR X c k (.inst z fs))(g: ∀ {d mA},jl c.s.heap (c.G.ad k) (X.C z) d mA->c.G.foot k d->lP X c fs mA->z<13->(∀ a p,fs.lookup a=aa p->X.T.gJ.contains (z,a)=ak)->M):M:=by cases h with|inst h1 h2 h3 h4 h5=>exact g h1 h2 h3 h4 h5
theorem Rn{o:aB}{P:Nat->List (Nat×PV)->Prop}{M:aB->Prop}(e:oI P o)(f: ∀ {z fs},P z fs->M (.inst z fs)):M o:=by induction o using aB.casesOn with|inst=>exact f e|_=>exact e.elim
theorem Ro(e:xm X.T.gJ z a fs=aa p):X.T.gJ.contains (z,a)=ak/\fs.lookup a=aa p:=by
 unfold xm at e;cases q:X.T.gJ.contains (z,a) with
 |true=>rw[q] at e;exact nO e
 |false=>rw[q] at e;exact⟨rfl,e⟩
theorem acQ{expr:Bool}(hC:mZ X z)(hn:fm[a]?=aa name)(S:SR X c){d:Addr}(hi:jl c.s.heap (c.G.ad k) (X.C z) d mA)(ka:lP X c fs mA)(e:xm X.T.gJ z a fs=aa r)(e':K r c.h)(hq:Kv X c K Q):aC X.M A (getAttr (.ref (c.G.ad k)) name expr) Q (λzy zy=>False) c.s:=by
 induction hC using mZ.casesOn with
 |mk c1 c2 c3 c4 c5 c6 c7=>exact(ka.at hn (Ro e).2).elim λv q=>load_attr (S.static _ _ c1) (c2.keeps S.static) c3 (c6 hn (Ro e).1) (Rj hn) hi.inst q.1 q.2.handed (kL S e' hq q.2)
theorem acR(hC: ∀ z,z<13->mZ X z){expr:Bool}(hn:fm[a]?=aa name)(S:SR X c)(hx:VR X c x o)(e:E1 X.T.gJ x a c.h K)(hq:Kv X c K Q):aC X.M A (getAttr o name expr) Q (λzy zy=>False) c.s:=hx.kR (M:=λo=>aC X.M A (getAttr o name expr) Q (λzy zy=>False) c.s) e fun{k} e zy=>e.elim λob q=>Rn (M:=λob=>c.h[k]?=aa ob->_) q.2 (λe1 e2=>e1.elim λr e1=>(S.objs e2).HY λhi zy ka hz zy=>acQ (hC _ hz) hn S hi ka e1.1 e1.2 hq) q.1
theorem acS{pl:Sem Bool}(hC: ∀ z,z<13->mZ X z)(hn:gY[m]?=aa name)(S:SR X c)(eh:c.h[k]?=aa (.inst z fs))(hm:nR X.T.meths z m=aa f){Q:Value×List Value->aq->Prop}(hq:Q (.ref (X.fv f),[.ref (c.G.ad k)]) c.s):
  aC X.M A (getMethod (.ref (c.G.ad k)) name pl) Q (λzy zy=>False) c.s:=
 (S.objs eh).HY fun{d mA} hi zy ka hz yG=>by
  induction hC z hz using mZ.casesOn with
  | @mk nm q N bs sn sub col dd k0 k1 k2 k3 k5 mN c1 c2 c3 c4 c5 c6 c7=>
   refine(c7 hm).elim λacT e=>?_;have e1:=some_inj e.1 hn;subst e1;refine e.2.2.1.elim λof e3=>e.2.2.2.1.elim λy e5=>method_of (S.static _ _ c1) (c2.keeps S.static) c3 c4 e.2.1 (S.static _ _ e3.1) e3.2 e5 hi.inst ?_ hq;cases hA:mA acT with
   |none=>rfl
   |some v=>exact(ka.1 _ _ hA).elim λa q=>q.elim λp q=>nB ((yG a p q.2.1).symm.trans (e.2.2.2.2 a q.1))
theorem acU(hC:mZ X z)(hn:fm[a]?=aa name)(S:SR X c)(eh:c.h[k]?=aa (.inst z fs))(hz:z<13){d:Addr}(hi:jl c.s.heap (c.G.ad k) (X.C z) d mA)(hf:c.G.foot k d)(ka:lP X c fs mA)(yG: ∀ a p,fs.lookup a=aa p->X.T.gJ.contains (z,a)=ak)
  (hy:VR X c y u) (iV:X.T.gJ.contains (z,a)=ak) (e:KU () (c.h.set k (.inst z (ky fs a y)))) (hq:Ku X c KU QU):aC X.M A (setAttr (.ref (c.G.ad k)) name u) QU (λzy zy=>False) c.s:=by
 induction hC using mZ.casesOn with
 |mk c1 c2 c3 c4 c5 c6 c7=>
  have hk:=fe eh;refine store_attr (ns:=fm) PySem.F.store_object (S.static _ _ c1) (c2.keeps S.static) c5 (c6 hn iV) (Rj hn) (λz=>ic (z▸S.above hk (S.ad hk)) (ei c1)) hi.inst (λH' yH I' m1 HZ=>?_)
   (λy hy=>oy λhA=>hy (by
    cases om:mA y with
    |none=>rfl
    |some w=>exact(ka.1 _ _ om).elim λa' q=>q.elim λp q=>absurd (kY q.1) hA)) (by rw[sV];decide)
  have dC:=hi.step I' HZ;have q:=S.upd (s':={c.s with heap:=H',toks:=yH}) (o':= .inst z (ky fs a y)) ⟨_,eh,id⟩ (fun{b ob} hb e=>hi.rest m1 (λz=>hb (z▸S.ad hk)) (λz=>hb (z▸hf)) e)
   (fun{b} hb=>(lT (b=c.G.ad k)).elim (λe=>e▸dC.kK.1) λe1=>(lT (b=d)).elim (λe=>e▸dC.kK.2) λe2=>(S.kinds hk hb).elim λob q=>⟨ob,hi.rest m1 e1 e2 q.1,q.2⟩) rfl
   λm=> .inst dC hf ((ka.mono m).put hn (hy.mono m)) hz λb p e=>(Rm e).elim (λq=>q.1▸iV) λq=>yG b p q.2
  exact hq (c':=c.cL (c.h.set k _) {c.s with heap:=H',toks:=yH}) e ⟨q.1,q.2,rfl⟩
theorem acV(hC: ∀ z,z<13->mZ X z)(hn:fm[a]?=aa name)(S:SR X c)(hx:VR X c x o)(hy:VR X c y u)(e:E3 X.T.gJ x a y c.h KU)(hq:Ku X c KU QU):aC X.M A (setAttr o name u) QU (λzy zy=>False) c.s:=hx.kR (M:=λo=>aC X.M A (setAttr o name u) QU (λzy zy=>False) c.s) e fun{k} e zy=>e.elim λob q=>Rn (M:=λob=>c.h[k]?=aa ob->_) q.2 (λe1 e2=>(S.objs e2).HY λhi hf ka hz yG=>acU (hC _ hz) hn S e2 hz hi hf ka yG hy e1.1 e1.2 hq) q.1
end
section
open PySem.SeqAt
theorem all_true(n:Nat):(ar n).all (λzy=>ag)=ag:=dS.mpr λzy zy=>rfl
theorem acW{M:eR}{A:bB}{a b:Value}{Q:Value->aq->Prop}{s:aq}(h:aC M A (oT .In a b) (λv s'=> ∃ c,v= .bool c/\Q (.bool !c) s') (λzy zy=>False) s):aC M A (oT .NotIn a b) Q (λzy zy=>False) s:=λΓ p bQ=>by
 have q:Sem.wp M Γ (contains b a) (λc p s'=>Q (.bool !c) s') (λzy zy zy=>False) p s:=by have h1:=h Γ p bQ;rw[show oT .In a b=(contains b a >>= λc=>pure (Value.bool c)) from rfl,ED] at h1;exact o3 M Γ _ (λc zy s' q=>by rw[Sem.wp_pure'] at q;exact q.elim λc' r=>Value.bool.inj r.1▸r.2) (λzy zy zy q=>q) p s h1
 rw[show oT .NotIn a b=(contains b a >>= λc=>pure (Value.bool !c)) from rfl,ED];exact o3 M Γ _ (λc zy s' q=>by rw[Sem.wp_pure'];exact q) (λzy zy zy q=>q) p s q
section
variable{X:SX}{c:Cf}{A:bB}{d k:Nat}{K:Bool->Prop}{Q:Value->aq->Prop}{x y:PV}{a b:Value}
theorem VR.isNone(h:VR X c x a):plainIs a .none=ag/\(a== .none)=isNone x:=by cases h <;> exact⟨rfl,rfl⟩
theorem Rp{s:aq}{p:Bool}(h:RcNeAt A s a b (!p))(e:p=ag):RcNeAt A s a b ak:=by rw[e] at h;exact h
theorem acX(i j:Int):decide (i≠j)= !(i==j):=decide_not
theorem eq3{i:Int}{t u:Tok}{s:aq}:EqAt A s (.int i t) (.int i u) ag/\RcAt A s (.int i t) (.int i u) ag/\RcNeAt A s (.int i t) (.int i u) ak:=by have h:=beq_self_eq_true i;exact⟨h▸EqAt.int_int i t i u,h▸RcAt.int_int i t i u,Rp (RcNeAt.int_int i t i u) h⟩
theorem acY{s:aq}{a b:Addr}{vs ws:List Value}{m n:Nat}(h1:s.heap.get? a=aa (seqObj "list" vs.toArray m))(h2:s.heap.get? b=aa (seqObj "list" ws.toArray n))(hn:vs.length=ws.length)(hu:A.units<nA)
  (he: ∀ (j:Nat) v w,vs[j]?=aa v->ws[j]?=aa w->EqAt A.in1 s v w ag):EqAt A s (.ref a) (.ref b) ag/\RcAt A s (.ref a) (.ref b) ag/\RcNeAt A s (.ref a) (.ref b) ak:=by
 have j9: ∀ j (h1:j<vs.toArray.size) (h2:j<ws.toArray.size),EqAt A.in1 s vs.toArray[j] ws.toArray[j] ((λzy=>ag) j):=λj p q=>he j _ _ (eQ p) (eQ q);have h:=all_true vs.toArray.size;have r1:=h▸RcAt.lists (isList h1) (isList h2) hn hu j9;exact⟨(lT (a=b)).elim (λe=>e▸EqAt.same _) λe=>EqAt.of_refs e r1,r1,Rp (RcNeAt.lists (isList h1) (isList h2) hn hu j9) h⟩
theorem Rq(S:SR X c): ∀ {n:Nat} {x y:PV} {a b:Value} {A:bB},A.units+n<nA->mx c.h n x y->VR X c x a->VR X c y b->EqAt A c.s a b ag/\RcAt A c.s a b ag/\RcNeAt A c.s a b ak:=fun{n}=>by
 induction n with
 |zero=>intro _ _ _ _ _ _ e;exact e.elim
 |succ n ih=>
  intro x y a b A hu e hx hy;induction hx using VR.casesOn with
  |int=>exact hy.kI e λe=>e▸eq3
  |ref hi=>exact hy.kR e λe hj=>kf S e λe1 hl hv hz e=>kf S e λe2 j8 dN fc e=>acY hl j8 (hv.length.symm.trans (e.1.trans dN.length)) (zR (rD ..) hu) λj v w g1 g2=>(hv.back g1).elim λp r1=>(dN.back g2).elim λq r2=>(ih (A:=A.in1) (show A.units+1+n<nA from(az [.t (.a J0 (.a J1 Y1)) J2] (.t (.a (.a J0 Y1) J1) J2)) hu) (e.2 j p q r1.1 r2.1) r1.2 r2.2).1
  |_=>exact e.elim
theorem Rr(hA:bp d A):A.units+9<nA:=by have:=hA.units;rw[show nA=9900 from rfl];exact(au [.l (.a J0 (.m 40 J1)) (.n 9000)] (.t (.a J0 (.n 9)) (.n 9900))) this
theorem acZ(hA:bp d A)(S:SR X c)(hx:VR X c x a)(hy:VR X c y b)(e:MP c.h x y K)(hq:Kb c K Q):aC X.M A (oT .Eq a b) Q (λzy zy=>False) c.s:=by
 induction hx using VR.casesOn with
 |int i t=>exact hy.kI e λe=>RcAt.int_int _ _ _ _ _ _ _ _ (hq (t:=c.s.toks) e)
 |ref hi=>refine Or.elim e (λe=>(Rq S (Rr hA) e.1 (.ref hi) hy).2.1 _ _ _ _ (hq (t:=c.s.toks) e.2)) λe=>hy.kR e λe hj=>kf S e λe1 hl hv hz e=>kf S e λe2 j8 dN fc e=>RcAt.lists_lengths (isList hl) (isList j8) (bne_iff_ne.mpr λz=>e.1 (hv.length.trans (tv z dN.length.symm))) hA.room _ _ _ _ (hq (t:=c.s.toks) e.2)
 |_=>exact e.elim
theorem ac0(hA:bp d A)(S:SR X c)(hx:VR X c x a)(hy:VR X c y b)(e:MQ c.h x y K)(hq:Kb c K Q):aC X.M A (oT .NotEq a b) Q (λzy zy=>False) c.s:=by
 induction hx using VR.casesOn with
 |int i t=>exact hy.kI e fun{j u} e=>RcNeAt.int_int _ _ _ _ _ _ _ _ (hq (t:=c.s.toks) (acX i j▸e))
 |ref hi=>exact(Rq S (Rr hA) e.1 (.ref hi) hy).2.2 _ _ _ _ (hq (t:=c.s.toks) e.2)
 |_=>exact e.elim
theorem ac1{κ:Type}[DecidableEq κ](bl:List (κ×Value))(k:κ):(mc bl k).isSome=bl.any λkv=>decide (kv.1=k):=by unfold mc;rw[DT];exact kX.mpr (Kr.trans tE.symm)
theorem KV.isIn{κ:Type}[DecidableEq κ]{enc:κ->PV}{es:List (PV×PV)}{bl:List (κ×Value)}{k:κ}(N:oj enc)(h:KV X c enc es bl):(mc bl k).isSome=es.any λe=>gX e.1 (enc k):=(ac1 bl k).trans (h.any N).symm
theorem SR.yI(hM:jR<X.bC.objs.size)(S:SR X c)(hk:k<c.h.length):(c.G.ad k==jR)=ak:=beq_false_of_ne λe=>ic (S.above hk (S.ad hk)) (e▸hM)
theorem inD{es:List (PV×PV)}{r:Addr}(hA:bp d A)(hm:(r==jR)=ak)(D:DR X c r es)(hx:VR X c x a)(e:keysOk x es=ag/\K (es.any λe=>gX e.1 x))(hq:Kb c K Q):aC X.M A (oT .In a (.ref r)) Q (λzy zy=>False) c.s:=by
 revert e;intro e;have e2:=e.2;revert e2;refine hx.key e.1 (fun{n t} hk q=>?_) (fun{n t} hk q=>?_) fun{l r} hk ht zy q=>?_
 .exact(D.vm hk).elim λbl D=>wpAny_in_of (knd:=jk X) (k:=n) (decide_eq_true rfl) hm D.2.mapOf (hq (D.1.isIn encInt▸q))
 .exact(D.HS hk).elim λbl D=>wpAny_in_of (knd:=pK X) (k:=n) (decide_eq_true rfl) hm D.2.mapOf (hq (D.1.isIn encStr▸q))
 .exact(D.asPair hk).elim λxs D=>wpAny_in_heap (knd:=q6 X) hA.Ce ht hm D.2.1 (hq (by rw[show(atKey xs l).isSome=(mc (strip xs) l).isSome by rw[yC,DT],D.1.isIn sU];exact q))
theorem ac2(l:List Int)(i:Int):l.contains i=l.any (·==i):=by rw[List.contains_eq_any_beq];exact congrArg _ (funext λz=>Bool.beq_comm)
theorem aja{l:List PV}{M:PV->Prop}(e:EZ x l K)(f: ∀ {i is},intsOf l=aa is->K (is.contains i)->M (.int i)):M x:=by induction x using PV.casesOn with|int i=>exact e.elim λis q=>f q.1 q.2|_=>exact e.elim
theorem Rt(hM:jR<X.bC.objs.size)(hA:bp d A)(S:SR X c)(hx:VR X c x a)(hy:VR X c y b)(e:qt c.h x y K)(hq:Kb c K Q):aC X.M A (oT .In a b) Q (λzy zy=>False) c.s:=by
 refine hy.kR e fun{k} e hk=>e.elim λob q=>?_;induction ob using aB.casesOn with
 |dict es=>exact(S.objs q.1).pN λD zy=>inD hA (S.yI hM hk) D hx q.2 hq
 |set es=>
  cases S.objs q.1 with
  |set g1 g2 g3=>exact hx.kI q.2 λe=>e.elim λis e=>wpAny_inSet_of (knd:=jk X) (decide_eq_true rfl) rfl g3 (hq (some_inj g1 e.1▸e.2))
 |list l=>exact(S.objs q.1).mY λhl hv zy=>hx.kI q.2 fun{i t} e=>e.elim λis e=>in_list_ints (isList hl) (hv.nums e.1) (hq (t:=c.s.toks) (ac2 is i▸e.2))
 |_=>exact q.2.elim
theorem Cj(hM:jR<X.bC.objs.size)(hA:bp d A){op:fZ}(S:SR X c)(hx:VR X c x a)(hy:VR X c y b)(e:jC op x y c.h K)(hq:Kb c K Q):aC X.M A (oT op a b) Q (λzy zy=>False) c.s:=by
 induction op using CmpOp.casesOn with
 |Eq=>exact acZ hA S hx hy e hq
 |NotEq=>exact ac0 hA S hx hy e hq
 |Lt=>exact hx.kI e λe=>hy.kI e λe=>Ll (hq (t:=c.s.toks) e)
 |LtE=>exact hx.kI e λe=>hy.kI e λe=>PyProof.Rows.le_int (hq (t:=c.s.toks) e)
 |Gt=>exact hx.kI e λe=>hy.kI e λe=>PyProof.Rows.gt_int (hq (t:=c.s.toks) e)
 |GtE=>exact hx.kI e λe=>hy.kI e λe=>PyProof.Rows.ge_int (hq (t:=c.s.toks) e)
 |Is=>exact hy.kN (cQ e).1 (wpAny_is_plain hx.isNone.1 (hx.isNone.2▸hq (t:=c.s.toks) (cQ e).2))
 |IsNot=>exact hy.kN (cQ e).1 (wpAny_isNot_plain hx.isNone.1 (hx.isNone.2▸hq (t:=c.s.toks) (cQ e).2))
 |In=>exact Rt hM hA S hx hy e hq
 |NotIn=>exact acW (Rt (K:=λb=>K !b) hM hA S hx hy e fun{r t} e=>⟨r,rfl,hq e⟩)
end
end
section
open PySem.SeqAt
structure b7 (X:SX):Prop where
 cls: ∀ c,c<13->mZ X c
 mods:jR<X.bC.objs.size
 last: ∃ (a:Nat) (o:Obj),X.bC.get? a=aa o/\a+1=X.bC.objs.size
theorem Ck{vs:List Value}{is:List Int}(h:l7 vs is): ∃ l:List (Int×Tok),vs=l.map (λp=>EG p.1 p.2)/\is=l.map (·.1):=by
 induction h with
 |nil=>exact⟨[],rfl,rfl⟩
 |cons n t _ ih=>exact ih.elim λl q=>⟨(n,t)::l,congrArg _ q.1,congrArg _ q.2⟩
theorem H0(l:List (Int×Tok)):tU l.toArray=(l.map λp=>EG p.1 p.2).toArray:=List.map_toArray ..
theorem Ru(l:List (Int×Tok))(i:Nat):jT l.toArray i=(l.map (·.1)).getD i 0:=by unfold jT;rw[kj,eP,dG]
theorem range_getD: ∀ l:List Int,(ar l.length).map (λi=>l.getD i 0)=l
 |[]=>rfl
 |x::l=>by rw[fW,v7,gG,cV];exact congrArg (x:: ·) (range_getD l)
theorem Rv(f:Nat->Int): ∀ k,preSum f k=((ar k).map f).sum
 |0=>rfl
 |k+1=>by rw[dZ,b8,wh,<- Rv f k];exact congrArg (preSum f k+ ·) (vW _).symm
theorem ac3(l:List (Int×Tok)):preSum (jT l.toArray) l.toArray.size=(l.map (·.1)).sum:=by rw[Rv,show jT l.toArray=λi=>(l.map (·.1)).getD i 0 from funext (Ru l),dJ,<- aX (·.1),range_getD]
theorem Rx{g:Int->Int->Int}{lt:Int->Int->Bool}(hg: ∀ a b,g a b=if lt b a=ag then b else a)(f:Nat->Int): ∀ k,f (argBest (λi j=>lt (f i) (f j)) k)=((ar k).map λi=>f (i+1)).foldl g (f 0)
 |0=>rfl
 |k+1=>by rw[dZ,b8,Dt,<- Rx hg f k];exact(apply_ite f _ _ _).trans (hg _ _).symm
theorem ac4{g:Int->Int->Int}{lt:Int->Int->Bool}(hg: ∀ a b,g a b=if lt b a=ag then b else a){l:List (Int×Tok)}{x:Int}{xs:List Int}(e:x::xs=l.map (·.1)):
  jT l.toArray (argBest (λi j=>lt (jT l.toArray i) (jT l.toArray j)) (l.toArray.size-1))=xs.foldl g x:=by
 rw[Rx hg (jT l.toArray),dJ,<- aX (·.1),<- e,show jT l.toArray=λi=>(x::xs).getD i 0 from funext λi=>e▸Ru l i];exact congrArg (DC g x) (range_getD xs)
theorem ac5(a b:Int):max a b=if decide (b>a)=ag then b else a:=by
 by_cases h:b>a
 .rw[if_pos (decide_eq_true h)];omega
 .rw[if_neg λz=>h (of_decide_eq_true z)];omega
theorem ac6(a b:Int):min a b=if decide (b<a)=ag then b else a:=by
 by_cases h:b<a
 .rw[if_pos (decide_eq_true h)];omega
 .rw[if_neg λz=>h (of_decide_eq_true z)];omega
theorem ac7(hh:A.handled=ae)(ht:s.heap.IsTuple t (tU xs))(d8:0<xs.size)
  (h: ∀ v h' tk,(tU xs)[argBest (λi j=>decide (jT xs i<jT xs j)) (xs.size-1)]?=aa v->(∀ b o,s.heap.get? b=aa o->h'.get? b=aa o)->Q v {s with heap:=h',toks:=tk}):
  aC (bR prog w) A (call (.builtin "min") [.ref t]) Q E s:=by
 refine ht.elim λo q=>?_;have cH:(tU xs).size=xs.size:=Array.size_map ..;refine call_min_walk (D1 ht ⟨s.heap.objs.size,_,_,_,_,_,_,rfl,Walks.tuple (A:=A.in1) hh _ t (cq (ei q.1)) (tU xs),⟨⟨_,eg _ rfl,rfl,rfl⟩,ht.at λo e=>cf _ e⟩,λb hb=>?_,by rw[cH];exact d8,CmpOf.ints_lt (jT xs) (λzy zy=>intItems_at),λv h' tk hP hk=>h v h' tk (cH▸hP) λb o e=>hk b o (λhb=>absurd (ei e) ((gQ.mp hb)▸iK _)) (cf _ e)⟩);exact(gH.mp hb).elim (λe=>e.symm▸ei (eg _ rfl)) λhb=>(gQ.mp hb).symm▸ei (cf _ q.1)
section
variable{X:SX}{c:Cf}{A:bB}{d:Nat}{K:PV->PH->Prop}{Q:Value->aq->Prop}{x y:PV}{xs:List PV}{vs:List Value}{v:Value}{t:Nat}{H':Heap}
theorem b7.room(K:b7 X)(S:SR X c)(hk: ∀ b o,c.s.heap.get? b=aa o->H'.get? b=aa o):X.bC.objs.size<=H'.objs.size:=K.last.elim λa q=>q.elim λo q=>q.2▸ei (hk _ _ (S.static _ _ q.1))
noncomputable def Cf.to (c:Cf) (H':Heap) (t:Nat):Cf:=⟨c.G,c.h,{c.s with heap:=H',toks:=t}⟩
theorem Nx.kept(X0:b7 X)(S:SR X c)(hk: ∀ b o,c.s.heap.get? b=aa o->H'.get? b=aa o):Nx X c (c.to H' t):=⟨S.other (λzy=>False) (s':={c.s with heap:=H',toks:=t}) (λe zy=>hk _ _ e) (λp=>p.elim) (X0.room S hk) rfl,Ev.grown (s':={c.s with heap:=H',toks:=t}) λe=>hk _ _ e,rfl⟩
theorem vt(X0:b7 X)(S:SR X c)(hk: ∀ b o,c.s.heap.get? b=aa o->H'.get? b=aa o)(e:K x c.h)(hv:VR X (c.to H' t) x v)(hq:Kv X c K Q):Q v {c.s with heap:=H',toks:=t}:=hq (c':=c.to H' t) e (.kept X0 S hk) hv
theorem ac8(X0:b7 X)(S:SR X c)(hk: ∀ b o,c.s.heap.get? b=aa o->H'.get? b=aa o)(ha:H'.objs.size<=a):X.bC.objs.size<=a/\c.s.heap.get? a=ae:=⟨cG (X0.room S hk) ha,tK.mpr λo e=>ic ha (ei (hk _ _ e))⟩
@[elab_as_elim] theorem aE.one {P:PV->Prop} {M:List Value->Prop} (h:aE X c xs vs) (e:one xs P) (f: ∀ {x v},VR X c x v->P x->M [v]):M vs:=by
 induction h using aE.casesOn with
 |nil=>exact e.elim
 |cons h r=>induction r using aE.casesOn with|nil=>exact f h e|cons=>exact e.elim
theorem Cm(hv:aE X c l vs):(vs.toArray.size:Int)=l.length:=by rw[dJ,hv.length]
theorem ac9(S:SR X c)(hx:aE X c xs vs)(e:one xs λx=>MS x c.h K)(hq:Kv X c K Q):aC X.M A (call (.builtin "len") vs) Q (λzy zy=>False) c.s:=by
 refine hx.one e fun{x v} h1 e=>?_;induction h1 using VR.casesOn with
 |tup ht hv hz=>exact PyProof.Rows.len_tuple ⟨_,ht,rfl,_,rfl⟩ (by rw[Cm hv];exact(aw [.l J0 (.n 1000000)] (.T (.c J0) (.n 9223372036854775808))) hz) (gx S ((Cm hv).symm▸e) hq)
 |bytes l t hz=>exact PySem.W.len_bytes (by rw[dJ];exact(aw [.l J0 (.n 1000000)] (.l J0 (.n 1099511627776))) hz) (gx S e hq)
 |j0 hl hi hz=>exact hl.elim λo r=>Lj ⟨o,S.static _ _ r.1,r.2⟩ (by rw[dJ,hi.length];exact(aw [.l J0 (.n 1000000)] (.T (.c J0) (.n 9223372036854775808))) hz) (gx S (by rw[dJ,hi.length];exact e) hq)
 |ref hk=>exact kf S e λzy hl hv hz e=>Lj (isList hl) (by rw[Cm hv];exact(aw [.l J0 (.n 1000000)] (.T (.c J0) (.n 9223372036854775808))) hz) (gx S ((Cm hv).symm▸e) hq)
 |_=>exact e.elim
theorem yJ{a b c:Int}(e:d7 a b c=ag):0<c/\c<=1000/\a.natAbs<=1000000/\b.natAbs<=1000000:=by have h1:=bA.mp e;have h2:=bA.mp h1.1;have h3:=bA.mp h2.1;exact⟨of_decide_eq_true h3.1,of_decide_eq_true h3.2,of_decide_eq_true h2.2,of_decide_eq_true h1.2⟩
theorem H4(X0:b7 X)(S:SR X c){a b s:Int}{u v w:Tok}(e:qx a b s c.h K)(hq:Kv X c K Q):Q (.ref c.s.heap.objs.size) {c.s with heap:=c.s.heap.push {cls:= .type "range",data:= .fields #[.int a u,.int b v,.int s w]},toks:=t}:=vt X0 S (λzy zy e=>cf _ e) (cQ e).2 (.dw (IsRange.new ..) (cQ e).1) hq
theorem ada(X0:b7 X)(S:SR X c)(hx:aE X c xs vs)(e:MT xs c.h K)(hq:Kv X c K Q):aC X.M A (call (.type "range") vs) Q (λzy zy=>False) c.s:=by
 induction hx using aE.casesOn with
 |nil=>exact e.elim
 |cons h r=>induction r using aE.casesOn with
  |nil=>exact h.kI e λe=>call_range_1 (H4 X0 S e hq)
  |cons h' r=>induction r using aE.casesOn with
   |nil=>exact h.kI e λe=>h'.kI e λe=>call_range_2 (H4 X0 S e hq)
   |cons uJ r=>induction r using aE.casesOn with|nil=>exact h.kI e λe=>h'.kI e λe=>uJ.kI e λe=>call_range_3 (λz=>by have:=yJ (cQ e).1;exact(lx [.E Q0 (.n 0),.an (.T (.n 0) Q0) (.an (.L Q0 (.n 1000)) (.an (.l J0 (.n 1000000)) (.l J1 (.n 1000000))))] .ff) z this) (H4 X0 S e hq) (.inl (PyProof.noPylong_small (by have:=yJ (cQ e).1;exact(U6 [.an (.T (.n 0) Q0) (.an (.L Q0 (.n 1000)) (.an (.l J0 (.n 1000000)) (.l J1 (.n 1000000)))),pA J0 Q1,pA J1 Q2,pA J2 Q0] (.t J2 (.n 1073741824))) this (uA _) (uA _) (uA _))))|cons=>exact e.elim
theorem adb(X0:b7 X)(hA:bp d A)(S:SR X c)(hx:aE X c xs vs)(e:one xs λx=>qr x λl=>xn l λis=>K (.int is.sum) c.h)(hq:Kv X c K Q):aC X.M A (call (.builtin "sum") vs) Q (λzy zy=>False) c.s:=hx.one e λh1 e=>h1.kT e fun{l r vs m} e ht hv hz=>e.elim λis e=>(Ck (hv.nums e.1)).elim λq r=>by obtain⟨rfl,rfl⟩:=r;exact ktm_sumG hA.handled (xs:=q.toArray) ⟨_,ht,rfl,m,by rw[H0]⟩ λh' tk t' hk=>vt X0 S hk (by rw[ac3];exact e.2) (.int _ _) hq
theorem Ry{g:Int->Int->Int}{lt:Int->Int->Bool}(hg: ∀ a b,g a b=if lt b a=ag then b else a)(X0:b7 X)(S:SR X c){l:List (Int×Tok)}{x:Int}{xs:List Int}(el:x::xs=l.map (·.1))(e:K (.int (xs.foldl g x)) c.h)(hk: ∀ b o,c.s.heap.get? b=aa o->H'.get? b=aa o)
  (hv:(tU l.toArray)[argBest (λi j=>lt (jT l.toArray i) (jT l.toArray j)) (l.toArray.size-1)]?=aa v) (hq:Kv X c K Q):Q v {c.s with heap:=H',toks:=t}:=
 (intItems_at hv).elim λt e'=>by subst e';exact vt X0 S hk (by rw[ac4 hg el];exact e) (.int _ _) hq
theorem Rz{l:List (Int×Tok)}{x:Int}{xs:List Int}(el:x::xs=l.map (·.1)):0<l.toArray.size:=by
 induction l using cw with
 |nil=>exact nC el
 |cons=>exact zW _
theorem ade(X0:b7 X)(hA:bp d A)(S:SR X c)(hx:aE X c xs vs)(e:one xs λx=>kx x λa=>gW c.h a λl=>AI l λx xs=>K (.int (xs.foldl max x)) c.h)(hq:Kv X c K Q):aC X.M A (call (.builtin "max") vs) Q (λzy zy=>False) c.s:=hx.one e λh1 e=>h1.kR e λe zy=>kf S e fun{l vs m} zy hl hv zy e=>e.elim λx e=>e.elim λxs e=>(Ck (hv.nums e.1)).elim λq r=>by obtain⟨rfl,r⟩:=r;exact max_intList hA.handled (xs:=q.toArray) ⟨_,hl,rfl,m,by rw[H0]⟩ (Rz r) λv h' tk dN hk=>Ry ac5 X0 S r e.2 hk dN hq
theorem adf(X0:b7 X)(hA:bp d A)(S:SR X c)(hx:aE X c xs vs)(e:one xs λx=>qr x λl=>AI l λx xs=>K (.int (xs.foldl min x)) c.h)(hq:Kv X c K Q):aC X.M A (call (.builtin "min") vs) Q (λzy zy=>False) c.s:=hx.one e λh1 e=>h1.kT e fun{l a vs m} e ht hv zy=>e.elim λx e=>e.elim λxs e=>(Ck (hv.nums e.1)).elim λq r=>by obtain⟨rfl,r⟩:=r;exact ac7 hA.handled (xs:=q.toArray) ⟨_,ht,rfl,m,by rw[H0]⟩ (Rz r) λv h' tk dN hk=>Ry ac6 X0 S r e.2 hk dN hq
theorem adg(X0:b7 X)(S:SR X c)(hx:aE X c xs vs)(e:one xs λx=>MW x c.h K)(hq:Kv X c K Q):aC X.M A (call (.type "tuple") vs) Q (λzy zy=>False) c.s:=by
 refine hx.one e fun{x v} h1 e=>?_;induction h1 using VR.casesOn with
 |tup ht hv hz=>exact call_tuple_same ⟨_,ht,rfl,_,rfl⟩ (kL (t:=c.s.toks) S e hq (.tup ht hv hz))
 |ref hk=>exact kf S e λzy hl hv hz e=>call_tuple_list (isList hl) (λh' hk=>vt (t:=c.s.toks) X0 S (λb o e=>cf _ (hk b o e)) (cQ e).2 (.tup (eg _ rfl) (hv.mono (Nx.mo S (.kept (t:=c.s.toks) X0 S λb o e=>cf _ (hk b o e)))) hz) hq) (by rw[dJ,<- hv.length];exact gO hz)
 |_=>exact e.elim
theorem adh(S:SR X c)(hx:aE X c xs vs)(e:one xs λx=>MY x c.h K)(hq:Kv X c K Q):aC X.M A (call (.type "int") vs) Q (λzy zy=>False) c.s:=by
 refine hx.one e fun{x v} h1 e=>?_;induction h1 using VR.casesOn with
 |int i t=>exact call_int_int (gx (t:=c.s.toks) S e hq)
 |bool b=>exact call_int_bool (gx S (by cases b <;> exact e) hq)
 |_=>exact e.elim
theorem adi(S:SR X c)(hx:aE X c xs vs)(e:one xs λx=>bN x λa=>K (.int a.natAbs) c.h)(hq:Kv X c K Q):aC X.M A (call (.builtin "abs") vs) Q (λzy zy=>False) c.s:=hx.one e λh1 e=>h1.kI e fun{a t} e=>call_abs_int λu tk=>gx S (by rw[show(if a<0 then -a else a)=(a.natAbs:Int) by by_cases q:a<0;rw[if_pos q];exact(cM [.T Q0 (.n 0),pA J0 Q0] (.E (.g Q0) (.c J0))) q (uA _);rw[if_neg q];exact(cM [.no (.T Q0 (.n 0)),pA J0 Q0] (.E Q0 (.c J0))) q (uA _)];exact e) hq
theorem RA(h:o.cls= .type "set"): ¬ cK o:=vn (T:= "set") (by decide) h
theorem adj(S:SR X c)(hx:aE X c xs vs)(e:guard xs.isEmpty (uq (.set []) c.h K))(hq:Kv X c K Q):aC X.M A (call (.type "set") vs) Q (λzy zy=>False) c.s:=by
 induction hx using aE.casesOn with
 |nil=>exact call_set_0 λled=>HT (t:=c.s.toks) S (λe=>cf _ e) S.top (RA rfl) (eg _ rfl) (λm hg=> .set (is:=[]) rfl (cz _) ⟨_,#[],0,.fresh 0 0 led,hg,⟨rfl,rfl,rfl⟩,rfl,(λzy h=>(by rcases h with⟨⟩)),(λk=>by simp),by decide,rfl,rfl⟩) e hq
 |cons=>exact e.elim
end
end
section
open PySem.SeqAt
noncomputable def kg (h:Heap) (d:Addr) (es:Array jS) (ep:Nat):Prop:= ∃ o,h.get? d=aa o/\o.ExactDict/\o.data= .dict es ep
section
variable{prog:fB}{w:ef}{A:bB}{E:Value->aq->Prop}{s:aq}
theorem kg.typeIs(x:kg s.heap d es ep):s.TypeIs (.ref d) "dict" :=let⟨o,ho,hc,_⟩:=x;⟨o,ho,hc.1⟩
theorem kg.lt(x:kg h d es ep):d<h.objs.size:=let⟨_,ho,_⟩:=x;ei ho
theorem kg.at(x:kg h d es ep)(hk: ∀ o,h.get? d=aa o->h'.get? d=aa o):kg h' d es ep:=let⟨o,ho,r⟩:=x;⟨o,hk o ho,r⟩
theorem RB(hd:(d==jR)=ak)(hm:kg s.heap d es ep)
  (hQ:Q (.ref s.heap.objs.size) {s with heap:=s.heap.push {cls:= .type "dict_keyiterator",data:= .fields #[.ref d,.int 0 0,.int es.size 0,.int ep 0]}}):aC (bR prog w) A (pyIter (.ref d)) Q E s:=by
 obtain⟨o,ho,hc,RC⟩:=id hm;have hT:=hm.typeIs;refine wpAny_pyIter_slot hT LZ (lh LZ hT F.entry_dict_iter ?_ (F.args_dict_iter_1 _));unfold Builtin.«dict.__iter__» Builtin.Dict.dictSlotNone;refine wpAny_bind (wpAny_bind (Ln hT ?_));show aC _ _ (pure (Av d)) _ _ s;refine wpAny_pure ?_;show aC _ _ (LF d >>= _) _ _ s;unfold LF;rw[if_neg (by rw[hd];exact ia)];refine wpAny_bind (wpAny_pure ?_);refine wpAny_bind (z7 ho RC (wpAny_bind (D7 ho RC ?_)));exact wpAny_bind (l8 (wpAny_pure ⟨_,rfl,"dict_keyiterator",_,⟨_,eg _ rfl,rfl⟩,wY.lookup,by simpa[rawInt] using hQ⟩))
theorem RE{es:Array jS}{i:Nat}{e:Option jS}(h:es[i]?=e):(if(i:Int)<0 then ae else es[(i:Int).toNat]?)=e:=(if_neg (ib.mpr (cR i))).trans h
theorem RG{it d:Addr}{i ep:Nat}{es:Array jS}{e:jS}{Q:Option Value->aq->Prop}(hit:s.heap.IsKeyIter it d i es.size ep)(hm:kg s.heap d es ep)(hx:es[i]?=aa e)
  (hQ: ∀ h',h'.IsKeyIter it d (i+1) es.size ep->i0 it s.heap h'->Q (aa e.key) {s with heap:=h'}):aC (bR prog w) A (ko (.ref it)) Q E s:=by
 obtain⟨o,ho,hc,hd⟩:=id hit;obtain⟨od,yK,RH,oh⟩:=id hm;unfold ko;refine wpAny_bind (wF (wC (name:=jw "__next__") hit.typeIs wY (lh wY hit.typeIs LP ?_ (LO _))));refine wpAny_bind (wpAny_pure ?_);refine wpAny_bind (wpAny_bind (wpAny_bind (z6 hit.typeIs (wpAny_pure ?_))));refine wpAny_bind (wpAny_fieldsOf ho hd ?_);refine dT rfl ?_;refine wpAny_bind (wpAny_pure (wpAny_bind (z7 yK oh ?_)));refine dT (bne_self_eq_false _) ?_;refine wpAny_bind (wpAny_pure (wpAny_bind (D7 yK oh ?_)));refine dT (bne_self_eq_false _) ?_;refine wpAny_pure ?_;obtain⟨bf,he⟩:=Array.getElem?_eq_some_iff.mp hx;dsimp only;rw[RE hx];dsimp only;refine wpAny_bind (wpAny_bind (z6 hit.typeIs (wpAny_pure (wpAny_bind (Lo hit.typeIs ?_)))));show aC _ _ (setField (.ref it) 1 (rawInt ((i:Int)+1)) >>= _) _ _ s;refine wpAny_bind (wpAny_setField ho hd (by simp) ?_);have Cn:(s.heap.update it (Obj.mapFields (·.setIfInBounds 1 (rawInt ((i:Int)+1))))).IsKeyIter it d (i+1) es.size ep:=⟨_,rQ _ ho (Obj.isFreed_of_fields (L9 hd _)),(Obj.cls_mapFields ..).trans hc,by rw[L9 hd];rfl⟩;refine wpAny_bind (wpAny_holding (wpAny_bind (Lo (s:={s with heap:=s.heap.update it (Obj.mapFields (·.setIfInBounds 1 (rawInt ((i:Int)+1))))}) Cn.typeIs ?_)));show aC _ _ (pure e.key) _ _ _;exact wpAny_pure (wpAny_pure ⟨_,rfl,wpAny_pure (hQ _ Cn (lq ..))⟩)
theorem RI{it d:Addr}{i ep:Nat}{es:Array jS}{Q:Option Value->aq->Prop}(hh:A.handled=ae)(hit:s.heap.IsKeyIter it d i es.size ep)(hm:kg s.heap d es ep)(hx:es[i]?=ae)
  (hQ: ∀ h',rR it s.heap h'->Q ae {s with heap:=h'}):aC (bR prog w) A (ko (.ref it)) Q E s:=by
 obtain⟨o,ho,hc,hd⟩:=id hit;obtain⟨od,yK,RH,oh⟩:=id hm;unfold ko;refine wpAny_bind (wF (wC (name:=jw "__next__") hit.typeIs wY (lh wY hit.typeIs LP ?_ (LO _))));refine wpAny_bind (wpAny_pure ?_);refine wpAny_bind (wpAny_bind (wpAny_bind (z6 hit.typeIs (wpAny_pure ?_))));refine wpAny_bind (wpAny_fieldsOf ho hd ?_);refine dT rfl ?_;refine wpAny_bind (wpAny_pure (wpAny_bind (z7 yK oh ?_)));refine dT (bne_self_eq_false _) ?_;refine wpAny_bind (wpAny_pure (wpAny_bind (D7 yK oh ?_)));refine dT (bne_self_eq_false _) ?_;refine wpAny_pure ?_;dsimp only;rw[RE hx];dsimp only;refine wpAny_bind (wpAny_bind (z6 hit.typeIs (wpAny_pure ?_)));show aC _ _ (setField (.ref it) 0 .none >>= _) _ _ s;refine wpAny_bind (wpAny_setField ho hd (by simp) ?_);show aC _ _ (tW (.type "StopIteration") [] >>= _) _ _ _;refine wpAny_bind ?_;simp only[tW,newTuple];refine wpAny_bind (l8 ?_ (by size_fits));refine wpAny_bind (m:=tQ _ _) (iP (a:=eT) (by first|rfl|(simp only[tQ];rfl)) ?_);refine l8 ?_ (by size_fits);unfold raiseNew;dsimp only;refine wpAny_bind (Eh ?_);rw[show A.in1.handled=ae from hh];refine wpAny_bind (wpAny_pure (El ?_));refine wpAny_bind (rG (T:= "StopIteration") (b:=ag) ⟨_,eg _ rfl,rfl⟩ Ed ?_);exact wpAny_pure (hQ _ (((lq ..).extBut.push _).push _))
theorem adk(hh:A.handled=ae)(I d:Addr)(d8:d≠I)(es:Array jS)(ep:Nat):
  Walks prog w A I [I,d] [I] es.size (λi v=> ∃ e,es[i]?=aa e/\e.key=v) (λi h=>h.IsKeyIter I d i es.size ep/\kg h d es ep) where
 sub:=λb hb=>by simp at hb;simp[hb]
 frame:=λzy zy zy st hk=>⟨st.1.at λo e=>hk I (kZ) o e,st.2.at λo e=>hk d (by simp) o e⟩
 item:=λi s Q E hi st hQ=>by have hx:es[i]?=aa es[i]:=vR hi;refine RG st.1 st.2 hx λh' Cn eB=>?_;exact hQ _ h' s.toks ⟨_,hx,rfl⟩ ⟨Cn,st.2.at λo e=>eB.extBut d o d8 e⟩ λb o hb e=>eB.extBut b o (λh=>hb (by simp[h])) e
 done:=λs Q E st hQ=>RI hh st.1 st.2 (by simp) λh' j9=>hQ h' s.toks λb o hb e=>j9 b o (λh=>hb (by simp[h])) e
 self:=λzy zy zy zy st hQ=>Lp st.1 hQ
theorem adm(lo:(d==jR)=ak):KdlSrc prog w "dict" d d es.size (λi v=> ∃ e,es[i]?=aa e/\e.key=v) (λh=>kg h d es ep) where
 type:=λzy hm=>hm.typeIs
 there:=λzy hm=>⟨hm.lt,hm.lt⟩
 keep:=λzy zy hm hk=>hm.at λo e=>hk d (.inl rfl) o e
 notList:=by decide
 notTuple:=by decide
 hint:=λzy zy zy zy hm hq=>kdl_hint_dict hm.typeIs hq
 iter:=λzy zy hh hm=>⟨_,_,(λzy zy hq=>RB lo hm hq),adk hh _ d (cq hm.lt) es ep,⟨⟨_,eg _ rfl,rfl,rfl⟩,hm.at λzy e=>cf _ e⟩⟩
end
end
theorem kh(hc:c=ak)(h:aF b M A y Q s):aF b M A (if c=ag then x else y) Q s:=by subst hc;exact h
theorem H5(hc:c=ag)(h:aF b M A x Q s):aF b M A (if c=ag then x else y) Q s:=by subst hc;exact h
theorem ado[Decidable c](h:aF b M A x Q s)(h':aF b M A y Q s):aF b M A (if c then x else y) Q s:=iteInduction (motive:=λt=>aF b M A t Q s) (λzy=>h) λzy=>h'
theorem H6{prog:fB}{w:ef}{b:Bool}{A:bB}{s:aq}{T:String}{name:Str}{id:String}{B:Builtin}{self:Value}{rest:List Value}{Q:Value->aq->Prop}(h:Slot T name id)(hT:s.TypeIs self T)
  (hb:oU mf id=aa B) (hd: ∀ a,Dec (.builtin id a)=ak) (hc:aF b (bR prog w) A.in1 (B ⟨self::rest,[]⟩) (λfin s'=> ∃ v,fin= .done (.ret v)/\Q v s') s) (ha:rO id ⟨self::rest,[]⟩):
  aF b (bR prog w) A (call (.builtin id) (self::rest)) Q s:=by
 refine yv (jK ?_);show aF b _ A.in1 (do tP id ⟨self::rest,[]⟩;again (.builtin id ⟨self::rest,[]⟩)) _ s;refine av (aV (h.check _ _ _ _ _ _ _ _ hT ha (aP ⟨oR h.plain _,hd _,jK ?_⟩)));rw[tX h.plain _];show aF b _ _ (match oU mf id with|some b=>b ⟨self::rest,[]⟩|none=>wJ ((Ee id "#data").getD id)) _ s;rw[hb];exact lN hc λfin s' q=>q.elim λv q=>q.1▸q.2
theorem yL{id:String}{args:Args}(h:Code.isGuard (.builtin id args)=ak){t:String}(ht:guardIds.contains t=ag): ¬ id=t:=λe=>ia ((show guardIds.contains t=ak from e▸h).symm.trans ht)
theorem adp{M:eR}{A:bB}{s:aq}{v:Value}{Q:Bool->aq->Prop}(hg:A.guards=aa [])(h:Q ak s):aF ag M A (Eo v) Q s:=λΓ p bQ hC=>by
 have hC:=hC rfl;have hG:guardsOf ((Γ.code,p)::Γ.below)=[]:=(guardsOf_cons ..).trans (bQ.2.2.2.1 _ hg);unfold Eo;show Q (List.any ((Γ.code,p)::Γ.below) _) s;rw[Kw.mpr λx hx=>?_]
 .exact h
 .have h1:x.1.isGuard=ak:=by
   cases hq:x.1.isGuard with
   |false=>rfl
   |true=>exact(by rcases(hG▸tF.mpr ⟨bX.mpr ⟨x,hx,rfl⟩,hq⟩:x.1∈[]) with⟨⟩)
  have h2:Dec x.1=ak:=(gH.mp hx).elim (λe=>e▸hC.1) λhx=>hC.2 x hx;clear hx hG hC h;induction x using Prod.casesOn with|mk c q=>
  induction c using Code.casesOn with
  |builtin id args=>
   refine ne_true_of_eq_false ?_;delta US;show dite (id= "bytearray.__contains__") _ _=ak;refine tv (dif_neg (c:=id= "bytearray.__contains__") (yL h1 (by decide))) ?_;refine tv (dif_neg (c:=id= "bytearray.__mod__") (yL h1 (by decide))) ?_;refine tv (dif_neg (c:=id= "bytearray.__rmod__") (yL h1 (by decide))) ?_;refine tv (dif_neg (c:=id= "_struct.pack_into.held") (yL h1 (by decide))) ?_;refine tv (dif_neg (c:=id= "bytearray.find.held") (yL h1 (by decide))) ?_;induction args using Args.casesOn with|mk pos kw=>
   induction pos using cw with
   |nil=>rfl
   |cons a r=>exact(congrArg (_&& ·) h2).trans (Bool.and_false _)
  |_=>exact ia
namespace F
theorem RJ:Slot "bytearray" "append" "bytearray.append" :=
 .of (owner:= "bytearray") (n:= "append") (by rw[iO,iN];kernel_rfl) (by decide +kernel) (by decide +kernel) (by decide +kernel)
  (by first|exact .inl (by decide +kernel)|exact .inr (by decide +kernel)) (by rw[qg];kernel_rfl)
theorem RL:Slot "bytearray" "extend" "bytearray.extend" :=
 .of (owner:= "bytearray") (n:= "extend") (by rw[iO,iN];kernel_rfl) (by decide +kernel) (by decide +kernel) (by decide +kernel)
  (by first|exact .inl (by decide +kernel)|exact .inr (by decide +kernel)) (by rw[qg];kernel_rfl)
theorem adq:Slot "bytearray" "__init__" "bytearray.__init__" :=
 .of (owner:= "bytearray") (n:= "__init__") (by rw[iO,iN];kernel_rfl) (by decide +kernel) (by decide +kernel) (by decide +kernel)
  (by first|exact .inl (by decide +kernel)|exact .inr (by decide +kernel)) (by rw[qg];kernel_rfl)
theorem ads:oU mf "bytearray.append" =aa Builtin.«bytearray.append»:=by first|exact D4 (by kernel_rfl)|exact D5 (by kernel_rfl)
theorem adt:oU mf "bytearray.extend" =aa Builtin.«bytearray.extend»:=by first|exact D4 (by kernel_rfl)|exact D5 (by kernel_rfl)
theorem adu:oU mf "bytearray.__init__" =aa Builtin.«bytearray.__init__»:=by first|exact D4 (by kernel_rfl)|exact D5 (by kernel_rfl)
theorem adv(a b:Value):rO "bytearray.append" ⟨[a,b],[]⟩:=by unfold rO;kernel_rfl
theorem adw(a b:Value):rO "bytearray.extend" ⟨[a,b],[]⟩:=by unfold rO;kernel_rfl
theorem adx:typeOf (.builtin "bytearray.append")=pure (.type "method_descriptor"):=by show builtinType _=_;rw[Lr];kernel_rfl
theorem ady:typeOf (.builtin "bytearray.extend")=pure (.type "method_descriptor"):=by show builtinType _=_;rw[Lr];kernel_rfl
theorem RN:PlainAttrs "bytearray" :=⟨⟨"bytearray.__getattribute__",by rw[iO,iN];kernel_rfl,by decide +kernel⟩,by rw[iO,iN];kernel_rfl⟩
theorem sX:ie (.type "bytes") "__buffer__" =pure (aa (.builtin "bytes.__buffer__")):=by rw[iO,iN];kernel_rfl
theorem H8:ie (.type "bytearray") "__buffer__" =pure (aa (.builtin "bytearray.__buffer__")):=by rw[iO,iN];kernel_rfl
theorem adz:ie (.type "bytes") "__release_buffer__" =pure ae:=by rw[iO,iN];kernel_rfl
theorem adA:ie (.type "bytearray") "__release_buffer__" =pure (aa (.builtin "bytearray.__release_buffer__")):=by rw[iO,iN];kernel_rfl
theorem RO:Am (.type "bytes") (.type "bytes")=pure ag:=by rw[qg];kernel_rfl
theorem Co:Am (.type "bytearray") (.type "bytearray")=pure ag:=by rw[qg];kernel_rfl
theorem adB:ie (.type "bytearray") "__bytes__" =pure ae:=by rw[iO,iN];kernel_rfl
theorem adC:ie (.type "bytearray") "__index__" =pure ae:=by rw[iO,iN];kernel_rfl
end F
noncomputable def gP (l:List UInt8):Obj:={cls:= .type "bytearray",dict:=ae,data:= .bytearray l.toArray 0,slots:= #[]}
section
variable{M:eR}{s:aq}{A:bB}{E:Value->aq->Prop}{a:Addr}{bs bs':List UInt8}
theorem RP{Q:Bool->aq->Prop}(hg:A.guards=aa [])(ho:s.heap.get? a=aa (gP bs))(h:Q ak s):aF ag M A (Eo (.ref a) <||> (do return decide ((<- LB (.ref a))>0))) Q s:=by unfold orM;refine av (adp hg (aV (wpAny_bind ?_)));unfold LB;exact wpAny_bind (l9 ho (wpAny_pure (wpAny_pure h)))
theorem RQ(hg:A.guards=aa [])(ho:s.heap.get? a=aa (gP bs))(h:Q () s):aF ag M A (En (.ref a)) Q s:=by unfold En;exact av (RP hg ho (aP h))
theorem RR: ¬ cK (gP bs):=vn (T:= "bytearray") (by decide) rfl
theorem H9(ho:s.heap.get? a=aa (gP bs))(hf:f bs.toArray=bs'.toArray)(hz:bs'.length<=1000000)
  (h: ∀ H',i0 a s.heap H'->H'.get? a=aa (gP bs')->Q () {s with heap:=H'}):aC M A (wU (.ref a) f) Q E s:=by
 unfold wU;show aC M A (z8 a f) _ _ s;unfold z8;refine wpAny_bind (l9 ho ?_);show aC M A (update a (ql f) >>= λzy=>lookBehind a) _ _ s;have hu:(s.heap.update a (ql f)).get? a=aa (gP bs'):=(rQ (ql f) ho rfl).trans (congrArg (λx:Array UInt8=>aa ({cls:= .type "bytearray",dict:=ae,data:= .bytearray x 0,slots:= #[]}:Obj)) hf);exact wpAny_bind (wpAny_update ho (wpAny_lookBehind hu (if_neg (by rw[dJ];exact ic (gO hz))) (h _ (lq ..) hu)))
theorem Cp{v:Value}{T id name:String}{Q:Bool->aq->Prop}(hT:s.TypeIs v T)(hl:ie (.type T) (name:Str)=pure (aa (.builtin id)))(h1:id.endsWith ("." ++name)=ag)(h2:id.dropRight (name.length+1)=T)
  (h3:Am (.type T) (.type T)=pure ag) (h:Q ag s):aC M A (Ar v name) Q E s:=by
 unfold Ar;refine wpAny_bind (gU hT hl ?_);dsimp only;rw[h2];refine dT (congrArg not h1) (rG hT h3 h)
theorem adD{v:Value}{T name:String}{Q:Bool->aq->Prop}(hT:s.TypeIs v T)(hl:ie (.type T) (name:Str)=pure ae)(h:Q ag s):aC M A (Ar v name) Q E s:=by unfold Ar;exact wpAny_bind (gU hT hl (wpAny_pure h))
theorem RT(ho:s.heap.get? a=aa (gP bs))(h:Q bs.toArray s):aC M A (Ep (.ref a)) Q E s:=by unfold Ep;refine wpAny_bind ?_;show aC M A (load a >>= _) _ _ s;exact wpAny_bind (l9 ho (wpAny_pure (wpAny_pure h)))
theorem adE{b:Array UInt8}{t:Tok}{Q:Bool->aq->Prop}(h:Q ak s):aC M A (wR (.bytes b t)) Q E s:=by unfold wR;exact wpAny_bind (adD (jx _ _ _) F.adz (wpAny_pure h))
theorem RU{Q:Bool->aq->Prop}(ho:s.heap.get? a=aa (gP bs))(h:Q ak s):aC M A (wR (.ref a)) Q E s:=by unfold wR;exact wpAny_bind (Cp ⟨_,ho,rfl⟩ F.adA (by decide +kernel) (by decide +kernel) F.Co (wpAny_pure h))
theorem adF{id:String}{b:Array UInt8}{t:Tok}{full:Bool}{Q:Option (Array UInt8)->aq->Prop}(h:Q (aa b) s):aC M A (nE id (.bytes b t) full) Q E s:=by unfold nE;refine wpAny_bind (gU (jx _ _ _) F.sX ?_);dsimp only;exact wpAny_bind (Cp (jx _ _ _) F.sX (by decide +kernel) (by decide +kernel) F.RO (dT rfl (wpAny_bind (gU (jx _ _ _) F.sX (wpAny_bind (adE (dT rfl (wpAny_bind (wpAny_bind (wpAny_pure (wpAny_pure (wpAny_pure h))))))))))))
theorem adG{id:String}{full:Bool}{Q:Option (Array UInt8)->aq->Prop}(ho:s.heap.get? a=aa (gP bs))(h:Q (aa bs.toArray) s):aC M A (nE id (.ref a) full) Q E s:=by have hT:s.TypeIs (.ref a) "bytearray" :=⟨_,ho,rfl⟩;unfold nE;refine wpAny_bind (gU hT F.H8 ?_);dsimp only;exact wpAny_bind (Cp hT F.H8 (by decide +kernel) (by decide +kernel) F.Co (dT rfl (wpAny_bind (gU hT F.H8 (wpAny_bind (RU ho (dT rfl (wpAny_bind (RT ho (wpAny_pure h))))))))))
theorem adH{id:String}{b:Array UInt8}{t:Tok}{fl:Int}{Q:Option (Array UInt8×Option Value)->aq->Prop}(h:Q (aa (b,ae)) s):aC M A (Lz id (.bytes b t) fl) Q E s:=by unfold Lz;refine wpAny_bind (wF ?_);unfold Builtin.Bytes.takeBuffer?;refine wpAny_bind (gU (jx _ _ _) F.sX ?_);dsimp only;exact wpAny_bind (Cp (jx _ _ _) F.sX (by decide +kernel) (by decide +kernel) F.RO (dT rfl (wpAny_bind (gU (jx _ _ _) F.sX (wpAny_bind (m:=nE id (.bytes b t) (full:=fl==Builtin.Bytes.fullReadOnly)) (adF (wpAny_pure (wpAny_pure h))))))))
end
section
variable{X:SX}{c:Cf}{A:bB}{d k:Nat}{K:PV->PH->Prop}{Q:Value->aq->Prop}{bs:List UInt8}{x:PV}{v:Value}
theorem OR.Cq{M:Prop}(h:OR X c k (.cb bs))(f:c.s.heap.get? (c.G.ad k)=aa (gP bs)->bs.length<=1000000->M):M:=by cases h with|cb h1 h2=>exact f h1 h2
theorem RV(S:SR X c)(eh:c.h[k]?=aa (.cb bs)){bs':List UInt8}{H':Heap}(hz:bs'.length<=1000000)(hs:i0 (c.G.ad k) c.s.heap H')(hg:H'.get? (c.G.ad k)=aa (gP bs'))(e:K .none (c.h.set k (.cb bs')))(hq:Kv X c K Q):Q .none {c.s with heap:=H'}:=vq (t:=c.s.toks) S ⟨_,eh,id⟩ hs ⟨_,hg,RR⟩ (λzy=> .cb hg hz) e .none hq
theorem adI(hA:bp d A)(S:SR X c)(eh:c.h[k]?=aa (.cb bs))(hv:VR X c x v)(e:bN x λi=>qu i=ag/\bs.length<1000000/\K .none (c.h.set k (.cb (bs++[bY i.toNat]))))(hq:Kv X c K Q):
  aF ag X.M A (call (.builtin "bytearray.append") [.ref (c.G.ad k),v]) Q c.s:=
 hv.kI e fun{i t} e=>(S.objs eh).Cq λg1 g2=>by refine H6 F.RJ ⟨_,g1,rfl⟩ F.ads (λzy=>rfl) ?_ (F.adv _ _);unfold Builtin.«bytearray.append»;refine av (m:=selfAndOne _ _) (aP ?_);dsimp only;refine av (m:=LD _) ?_;unfold LD;have h0:=bA.mp e.1;exact av (m:=asIndex _) (aP (kh (C8.mpr ⟨decide_eq_false (ib.mpr (of_decide_eq_true h0.1)),decide_eq_false (Int.not_le.mpr (of_decide_eq_true h0.2))⟩) (aP (av (RQ hA.guards g1 (av (aV (H9 (bs':=bs++[i.toNat.toUInt8]) g1 (Dv ..) (by rw[bb];exact e.2.1) λH' hs hg=>aP ⟨.none,rfl,RV S eh (by rw[bb];exact e.2.1) hs hg e.2.2 hq⟩))))))))
theorem adJ(hA:bp d A)(S:SR X c)(eh:c.h[k]?=aa (.cb bs))(hv:VR X c x v)(e:AG x λb=>bs.length+b.length<1000000/\K .none (c.h.set k (.cb (bs++b))))(hq:Kv X c K Q):
  aF ag X.M A (call (.builtin "bytearray.extend") [.ref (c.G.ad k),v]) Q c.s:=
 hv.kB e fun{b t} e zy=>(S.objs eh).Cq λg1 g2=>by refine H6 F.RL ⟨_,g1,rfl⟩ F.adt (λzy=>rfl) ?_ (F.adw _ _);unfold Builtin.«bytearray.extend»;refine av (m:=selfAndOne _ _) (aP ?_);dsimp only;refine av (aV (gU (jx _ _ _) F.sX (H5 rfl (av (BY (av (aV (RT g1 (av (aV (adH ?_)))))))))));show aF ag _ _ (if(!b.toArray.isEmpty)=ag then En (.ref (c.G.ad k)) >>= λzy=>wU (.ref (c.G.ad k)) (·++b.toArray) >>= λzy=>ret .none else wU (.ref (c.G.ad k)) (·++b.toArray) >>= λzy=>ret .none) _ c.s;have wr:aF ag X.M A.in1 (wU (.ref (c.G.ad k)) (·++b.toArray) >>= λzy=>ret .none) (λfin s'=> ∃ v,fin= .done (.ret v)/\Q v s') c.s:=av (aV (H9 (bs':=bs++b) g1 (v9 ..) (by rw[bb];exact fY e.1) λH' hs hg=>aP ⟨.none,rfl,RV S eh (by rw[bb];exact fY e.1) hs hg e.2 hq⟩));exact ado (av (RQ hA.guards g1 wr)) wr
end
namespace F
theorem Ia:mroOf (.type "bytearray")=pure [.type "bytearray",.type "object"]:=by rw[mroOf_type];kernel_rfl
theorem adK:ie (.type "bytearray") "__new__" =pure (aa (.builtin "bytearray.__new__")):=by rw[iO,iN];kernel_rfl
theorem adL:TypeCalled "bytearray" "bytearray.__new__" "bytearray.__init__" :=⟨by decide +kernel,by decide +kernel,⟨_,_,Ia⟩,madeBy_type Ia adK (by decide +kernel),by decide +kernel,by rw[qg];kernel_rfl,adq⟩
theorem adM:checkTypeCall "bytearray" ⟨[],[]⟩=pure ():=by kernel_rfl
theorem adN:tP "bytearray.__new__" ⟨[.type "bytearray"],[]⟩=pure ():=by kernel_rfl
theorem RW:plainId "bytearray.__new__" =ag:=by decide +kernel
theorem adO:oU mf "bytearray.__new__" =aa Builtin.«list.__new__»:=entryFor_alias (id':= "list.__new__") (by kernel_rfl) rfl (by decide +kernel) (by kernel_rfl)
theorem adP(a:Value):rO "bytearray.__init__" ⟨[a],[]⟩:=by unfold rO;kernel_rfl
theorem adQ:Builtin.Bytes.bindOptional "bytearray.__init__" "bytearray" ["source","encoding","errors"] [] []=pure [ae,ae,ae]:=by kernel_rfl
theorem adR:(("bytearray.__new__" :String).splitOn ".__new__").headD "" = "bytearray" :=congrArg (λl:List String=>l.headD "") split_bytearray
end F
section
variable{α β:Type}{b:Bool}{M:eR}{A:bB}{s:aq}
theorem yM{m:Sem α}{a:α}{f:α->Sem β}{Q:β->aq->Prop}(e:m=pure a)(h:aF b M A (f a) Q s):aF b M A (m >>= f) Q s:=e▸av (aP h)
end
section
variable{prog:fB}{w:ef}{A:bB}{E:Value->aq->Prop}{s:aq}
theorem adS(h:Q₁ (.ref s.heap.objs.size) {s with heap:=s.heap.push (gP [])}):
  ny (bR prog w) A (.call (.builtin "bytearray.__new__") ⟨[.type "bytearray"],[]⟩) (wants Q₁ E) s:=by
 refine D8 ?_;show aC _ A.in1 (do tP "bytearray.__new__" ⟨[.type "bytearray"],[]⟩;again (.builtin "bytearray.__new__" ⟨[.type "bytearray"],[]⟩)) _ _ s;refine wpAny_bind (iP F.adN (wpAny_pure ⟨oR F.RW _,codeAny_builtin_stack F.adO rfl λp st=>?_⟩));rw[tX F.RW _];have G3:=F.Co;have adT:=F.adR;obtain⟨hp,g,d,tk,os⟩:=s;simp only[adT]
 wp_walk
 exact h
theorem adU(hA:A.guards=aa [])(ho:s.heap.get? a=aa (gP []))(hq: ∀ H',i0 a s.heap H'->H'.get? a=aa (gP [])->Q (.done (.ret .none)) {s with heap:=H'}):
  aF ag (bR prog w) A (Builtin.«bytearray.__init__» ⟨[.ref a],[]⟩) Q s:=by
 unfold Builtin.«bytearray.__init__»;refine av (m:=wR (.ref a)) (aV (RU ho (kh rfl (yM F.adQ ?_))));exact av (m:=LA _ _ _ _) (aP (av (m:=LA _ _ _ _) (aP (av (RP hA ho (kh rfl (av (aV (H9 (bs':=[]) ho rfl (cz _) λH' hs hg=>av (aP (aP (hq H' hs hg))))))))))))
theorem adV{b:Bool}{id:String}{args:Args}{B:Builtin}{R:iZ->aq->Prop}(hb:oU mf id=aa B)(h:aF b (bR prog w) (A.under (.builtin id args)) (B args) (yw b (bR prog w) A R) s):
  iH b (bR prog w) A (.builtin id args) R s:=by
 refine jK ?_;show aF b _ _ (match oU mf id with|some b=>b args|none=>wJ ((Ee id "#data").getD id)) _ s;rw[hb];exact h
theorem adW{Q:Value->aq->Prop}(hA:A.guards=aa [])(h: ∀ H',(∀ b o,s.heap.get? b=aa o->H'.get? b=aa o)->H'.get? s.heap.objs.size=aa (gP [])->Q (.ref s.heap.objs.size) {s with heap:=H'}):
  aF ag (bR prog w) A (call (.type "bytearray") []) Q s:=by
 have ft:=F.adL;refine yv (jK ?_);show aF ag _ _ (rM (.type "bytearray") _) _ s;refine aP ⟨Es _ (by decide +kernel),rfl,adV F.entry_type_call ?_⟩;rw[Around.under_plain (weight_type_call_type "bytearray" [] []) (units_type_call_type "bytearray" [] [])];unfold Builtin.«type.__call__»;refine kh ft.notType (kh ft.canCreate (yM F.adM (yM F.Ia (kh rfl (yM ft.made ?_)))));refine av (aP (av (cg (aV (wpAny_call (codeAny_mono (adS (E:=λzy zy=>False) (Q₁:=λv s'=>v= .ref s.heap.objs.size/\s'={s with heap:=s.heap.push (gP [])}) ⟨rfl,rfl⟩) λr s' hr=>?_))))));induction r using Except.casesOn with
 |error e=>exact hr
 |ok f=>
  induction f using Flow.casesOn with
  |ret v=>obtain⟨rfl,rfl⟩:v= .ref s.heap.objs.size/\s'={s with heap:=s.heap.push (gP [])}:=hr;have ho:(s.heap.push (gP [])).get? s.heap.objs.size=aa (gP []):=eg _ rfl;refine av (aV (rG (T:= "bytearray") (b:=ag) ⟨_,ho,rfl⟩ F.Co (kh rfl (av (cg ?_)))));unfold callSpecial?;refine av (aV (gU ⟨_,ho,rfl⟩ ft.init.lookup ?_));dsimp only;rw[ft.init.bind];exact cg (av (aP (av (H6 (b:=ag) (rest:=[]) ft.init ⟨_,ho,rfl⟩ F.adu (λzy=>rfl) (adU (A:=A.in1.in1) hA ho λH' hs hg=>⟨.none,rfl,aP (aP (h H' (λb o e=>(hs.2 b (cq (ei e))).trans (cf _ e)) hg))⟩) (F.adP _)))))
  |_=>exact hr.elim
end
theorem adX{X:SX}{c:Cf}{A:bB}{d:Nat}{K:PV->PH->Prop}{Q:Value->aq->Prop}(hA:bp d A)(S:SR X c)(e:K (.ref c.h.length) (c.h++[.cb []]))(hq:Kv X c K Q):aF ag X.M A (call (.type "bytearray") []) Q c.s:=adW hA.guards λH' hk hg=>HT (t:=c.s.toks) S (λe=>hk _ _ e) S.top RR hg (λzy hg=> .cb hg (cz _)) e hq
section
variable{prog:fB}{w:ef}{A:bB}{E:Value->aq->Prop}{s:aq}
theorem adY{v:Value}{R:qk->aq->Prop}(h:aC (bR prog w) A.in1 (Builtin.«bytes.__new__» ⟨[.type "bytes",v],[]⟩) (λfin s'=>match fin with| .done f=>R (.ok f) s'| .again c'=>c'.quiet=ag/\ny (bR prog w) A c' R s') (λe s'=>R (.error e) s') s):
  ny (bR prog w) A (.call (.builtin "bytes.__new__") ⟨[.type "bytes",v],[]⟩) R s:=by
 refine D8 ?_;show aC _ A.in1 (do tP "bytes.__new__" ⟨[.type "bytes",v],[]⟩;again (.builtin "bytes.__new__" ⟨[.type "bytes",v],[]⟩)) _ _ s;refine wpAny_bind (iP (LW _) (wpAny_pure ⟨oR As _,z9 L0 ?_⟩));rw[tX As _];exact h
theorem adZ(ho:s.heap.get? a=aa (gP b))(hz:b.length<=1000000)(hQ:Q (.bytes b.toArray s.toks) {s with toks:=s.toks+1}):
  ny (bR prog w) A (.call (.builtin "bytes.__new__") ⟨[.type "bytes",.ref a],[]⟩) (wants Q E) s:=by
 refine adY ?_;have hT:s.TypeIs (.ref a) "bytearray" :=⟨_,ho,rfl⟩;unfold Builtin.«bytes.__new__»;refine wpAny_bind (iP (a:=ag) rfl (dT rfl (wpAny_bind (iP L3 (dT rfl (wpAny_bind (iP (L2 _) (wpAny_bind (iP (a:=()) rfl (wpAny_bind (iP (a:=()) rfl (dT rfl (wpAny_bind (gU hT F.adB (wpAny_bind (wpAny_bind ?_))))))))))))))));show aC _ _ (load a >>= _) _ _ _;refine wpAny_bind (l9 ho (wpAny_pure (wpAny_pure (dT rfl (wpAny_bind (gU hT F.adC (rK rfl ?_)))))))
 first
  |show aC _ _ (nE "bytes.__new__" (.ref a) ag >>= _) _ _ _
  |(refine wpAny_bind ?_;show aC _ _ (nE "bytes.__new__" (.ref a) ag >>= _) _ _ _)
 refine wpAny_bind (adG ho (wpAny_bind (wL (wpAny_bind (wpAny_mkBytes ?_ (by rw[dJ];exact gO hz))))));refine rK (by decide) ?_
 first
  |exact wpAny_pure hQ
  |exact wpAny_bind (wpAny_pure (wpAny_pure hQ))
theorem ad0{R:qk->aq->Prop}{I S:Addr}{fp wr:List Addr}{St:Nat->Heap->Prop}{ns:List Int}(hr: ∀ n∈ns,0<=n/\n<256)(hz:ns.length<=lj)(Cr:S∉fp)
  (W:Walks prog w A.in1 I fp wr ns.length (λi v=> ∃ t,v= .int (ns.getD i 0) t) St):
  ∀ (k i:Nat) (s:aq),ns.length-i=k->i<=ns.length->St i s.heap->s.heap.get? S=aa {cls:= .type "bytearray",data:= .bytearray (qj (ns.take i))}->
   (∀ h' t k',(∀ b o,b∉wr->b≠S->s.heap.get? b=aa o->h'.get? b=aa o)->R (.ok (.ret (.bytes (qj ns) t))) {s with heap:=h',toks:=k'})->
   ny (bR prog w) A (.builtin "bytes.__new__.loop" ⟨[.type "bytes",.ref I,.ref S],[]⟩) R s:=by
 have RX:S∉wr:=λh=>Cr (W.sub _ h);intro k;induction k with
 |zero=>
  intro i s hk hle iC hS hR;have pG:i=ns.length:=(az [.e J0 Y0,.l J2 J1,pB J0 J1 J2] (.e J2 J1)) hk hle (uB _ _);subst pG;refine z9 LU ?_;rw[tX wZ _];show aC _ A.in1 (ko (.ref I) >>= _) _ _ s;refine wpAny_bind (W.done s _ _ iC λh' tk he=>?_);have iX:=he S _ RX hS;refine wpAny_bind ?_;unfold Ep Builtin.Bytes.payload?;refine wpAny_bind (wpAny_bind (l9 iX ?_));refine wpAny_pure (wpAny_pure ?_);rw[gR];refine wpAny_bind (wpAny_mkBytes ?_ (by rw[byteArr_size];exact hz));show aC _ _ (if(lu "bytes" ==lu "bytes")=ag then _ else _) _ _ _;refine rK (by decide) ?_
  first
   |exact wpAny_pure (hR h' _ _ λb o hb zy e=>he b o hb e)
   |exact wpAny_bind (wpAny_pure (wpAny_pure (hR h' _ _ λb o hb zy e=>he b o hb e)))
 |succ k ih=>
  intro i s hk hle iC hS hR;have bf:i<ns.length:=(aQ [.e J0 (.a J3 Y1),.l J2 J1,pB J0 J1 J2] (.t J2 J1)) hk hle (uB _ _);have hn:ns[i]?=aa (ns.getD i 0):=by rw[eP,eQ bf];rfl
  obtain⟨h0,h1⟩:=hr _ (kY hn);generalize hnn:ns.getD i 0=n at *
  refine z9 LU ?_;rw[tX wZ _];show aC _ A.in1 (ko (.ref I) >>= _) _ _ s;refine wpAny_bind (W.item i s _ _ bf iC λv h' tk hv ad1 he=>?_);obtain⟨t,rfl⟩:=hv;rw[hnn];have iX:=he S _ RX hS;refine wpAny_bind (wpAny_holding (iP (rfl:asIndex (.int n t)=pure n) ?_));refine wpAny_bind (wpAny_letGo ?_);refine dT (by simp only[C8,decide_eq_false_iff_not];exact(cY [.L (.n 0) Q0,.T Q0 (.n 256)] (.an (.no (.T Q0 (.n 0))) (.no (.L (.n 256) Q0)))) h0 h1) ?_;refine wpAny_bind ?_;show aC _ _ (z8 S (·.push n.toNat.toUInt8)) _ _ _;unfold z8;refine wpAny_bind (l9 iX ?_);show aC _ _ (update S (ql (·.push n.toNat.toUInt8)) >>= λzy=>lookBehind S) _ _ _;refine wpAny_bind (wpAny_update iX ?_);have sY:(h'.update S (ql (·.push n.toNat.toUInt8))).get? S=aa {cls:= .type "bytearray",data:= .bytearray (qj (ns.take (i+1)))}:=by rw[byteArr_take hn];exact rQ (ql (·.push n.toNat.toUInt8)) iX rfl
  refine wpAny_lookBehind sY ?_ ?_
  .show(if(qj (ns.take (i+1))).size>lj then aa "bytearray:memory" else ae)=ae
   rw[if_neg];rw[byteArr_size,gT];exact(aQ [.l J0 J1,.t J2 J0,pM J3 (.a J2 Y1) J0] (.no (.t J1 J3))) hz bf (uM _ _)
  .have RY:=lq h' S (ql (·.push n.toNat.toUInt8))
   refine wpAny_pure ⟨oR wZ _,ih (i+1) {s with heap:=h'.update S (ql (·.push n.toNat.toUInt8)),toks:=tk} ((bU [.e J0 (.a J3 Y1),.l J2 J1,.t J2 J1,pB J0 J1 J2,pB J4 J1 (.a J2 Y1)] (.e J4 J3)) hk hle bf (uB _ _) (uB _ _)) bf (W.frame _ _ _ ad1 λb hb o e=>(RY.2 b (λz=>Cr (z▸hb))).trans e) sY λh3 t' k' sZ=>?_⟩;exact hR h3 t' k' λb o RZ R3 e=>sZ b o RZ R3 ((RY.2 b R3).trans (he b o RZ e))
end
namespace F
theorem ad2:ie (.type "tuple") "__bytes__" =pure ae:=by rw[iO,iN];kernel_rfl
theorem ad3:ie (.type "tuple") "__index__" =pure ae:=by rw[iO,iN];kernel_rfl
theorem R5:ie (.type "tuple") "__buffer__" =pure ae:=by rw[iO,iN];kernel_rfl
theorem ad4:splitId "tuple.__len__" =aa ("tuple","__len__"):=by decide +kernel
theorem ad5:Am (.type "tuple") (.type "tuple")=pure ag:=by rw[qg];kernel_rfl
end F
section
variable{prog:fB}{w:ef}{A:bB}{E:Value->aq->Prop}{s:aq}
theorem ad6{vs:List Value}{ns:List Int}{i:Nat}{v:Value}(h:l7 vs ns)(e:vs[i]?=aa v): ∃ u,v= .int (ns.getD i 0) u:=by obtain⟨l,rfl,rfl⟩:=Ck h;rw[dG] at e;exact(ee.mp e).elim λp q=>⟨p.2,by rw[eP,dG,q.1,<- q.2];rfl⟩
theorem ad7{I:Addr}{fp wr:List Addr}{n:Nat}{P P':Nat->Value->Prop}{St:Nat->Heap->Prop}(W:Walks prog w A I fp wr n P St)(h: ∀ i v,P i v->P' i v):Walks prog w A I fp wr n P' St where
 sub:=W.sub
 frame:=W.frame
 item:=λi s Q E hi st hQ=>W.item i s Q E hi st λv h' tk hp=>hQ v h' tk (h i v hp)
 done:=W.done
 self:=W.self
theorem ad8{t:Addr}{vs:List Value}{ns:List Int}{m:Nat}{Q:Value->aq->Prop}(hh:A.handled=ae)(ht:s.heap.get? t=aa (seqObj "tuple" vs.toArray m))(hi:l7 vs ns)(hr: ∀ n∈ns,0<=n/\n<256)(hz:ns.length<=lj)
  (hQ: ∀ h' t k,(∀ b o,s.heap.get? b=aa o->h'.get? b=aa o)->Q (.bytes (qj ns) t) {s with heap:=h',toks:=k}):
  ny (bR prog w) A (.call (.builtin "bytes.__new__") ⟨[.type "bytes",.ref t],[]⟩) (wants Q E) s:=by
 refine D8 ?_;show aC _ A.in1 (do tP "bytes.__new__" ⟨[.type "bytes",.ref t],[]⟩;again (.builtin "bytes.__new__" ⟨[.type "bytes",.ref t],[]⟩)) _ _ s;refine wpAny_bind (iP (LW _) (wpAny_pure ⟨oR As _,z9 L0 ?_⟩));rw[tX As _];have hl:s.heap.IsTuple t vs.toArray:=⟨_,ht,rfl,m,rfl⟩;have hT:s.TypeIs (.ref t) "tuple" :=⟨_,ht,rfl⟩;unfold Builtin.«bytes.__new__»;refine wpAny_bind (iP (a:=ag) rfl ?_);refine dT rfl ?_;refine wpAny_bind (iP L3 ?_);refine dT rfl ?_;refine wpAny_bind (iP (L2 _) ?_);refine wpAny_bind (iP (a:=()) rfl ?_);refine wpAny_bind (iP (a:=()) rfl ?_);refine dT rfl ?_;refine wpAny_bind (gU hT F.ad2 ?_);refine wpAny_bind (wpAny_bind ?_);show aC _ _ (load t >>= _) _ _ _;refine wpAny_bind (l9 ht ?_);refine wpAny_pure (wpAny_pure ?_);refine dT rfl ?_;refine wpAny_bind (gU hT F.ad3 ?_);refine rK rfl ?_
 first
  |show aC _ _ (nE "bytes.__new__" (.ref t) ag >>= _) _ _ _
  |(refine wpAny_bind ?_;show aC _ _ (nE "bytes.__new__" (.ref t) ag >>= _) _ _ _)
 refine wpAny_bind ?_;unfold nE;refine wpAny_bind (gU hT F.R5 ?_);refine wpAny_bind (gU hT F.R5 ?_);refine wpAny_pure ?_;refine wpAny_bind (wpAny_tryCatch (D1 hl ?_));have bf:t<s.heap.objs.size:=ei ht;generalize hO:({cls:= .type "tuple_iterator",data:= .fields #[.ref t,.int 0 0]}:Obj)=oI;have cH:(s.heap.push oI).objs.size=s.heap.objs.size+1:=t6 _ _;have R6:({s with heap:=s.heap.push oI}:aq).TypeIs (.ref t) "tuple" :=⟨_,cf _ ht,rfl⟩;refine wpAny_bind (wpAny_holding ?_);unfold Builtin.Bytes.lengthHint;refine wpAny_bind (gU R6 slot_tuple_len.lookup ?_);dsimp only;rw[F.ad4];dsimp only;refine wpAny_bind (rG R6 F.ad5 ?_);refine dT rfl ?_;refine rK (by decide +kernel) ?_;refine wpAny_pure ?_;refine wpAny_bind ?_;unfold Builtin.Bytes.newBytearray;refine l8 ?_ (cz _);have W:=ad7 (P':=λi v=> ∃ u,v= .int (ns.getD i 0) u) (Walks.tuple (prog:=prog) (w:=w) (A:=A.in1) hh s.heap.objs.size t (cq bf) vs.toArray) λi v e=>ad6 hi (kj▸e);rw[show vs.toArray.size=ns.length from by rw[dJ,hi.length]] at W;have main:=ad0 (R:=wants Q E) (S:=(s.heap.push oI).objs.size) hr hz (by
   rw[cH];intro hm;rcases gH.mp hm with e|hm
   .exact absurd e (Le _)
   .exact absurd (gQ.mp hm) (dK (rC bf))) W ns.length 0 {s with heap:=(s.heap.push oI).push {cls:= .type "bytearray",data:= .bytearray #[]}} rfl (cz _)
  ⟨⟨_,cf _ (eg _ (by subst hO;rfl)),by subst hO;rfl,by subst hO;rfl⟩,hl.at λzy e=>cf _ (cf _ e)⟩ (eg _ rfl)
  λh' u k hk=>hQ h' u k λb o e=>hk b o (by simp;exact cq (ei e)) (by rw[cH];exact cq (rC (ei e))) (cf _ (cf _ e))
 first
  |exact wpAny_pure ⟨oR wZ _,main⟩
  |exact wpAny_pure (wpAny_pure ⟨oR wZ _,main⟩)
theorem R8(h:ny (bR prog w) A.in1 (.call (.builtin "bytes.__new__") ⟨[.type "bytes",v],[]⟩) (wants (λobj bE=>bE.TypeIs obj "bytes" /\Q obj bE) E) s):aC (bR prog w) A (call (.type "bytes") [v]) Q E s:=by refine callType_codes (Q₁:=λobj bE=>bE.TypeIs obj "bytes" /\Q obj bE) Ez (PySem.F.bm_typeCall _) PySem.F.entry_object_init h λobj bE eA=>?_;exact⟨eA.1,PySem.F.args_object_init_2 obj _,object_init_meets Ez.init.lookup Ez.made (by decide) prog w A.in1 _ bE ⟨eA.1,rfl,eA.2⟩⟩
end
section
variable{X:SX}{c:Cf}{A:bB}{d:Nat}{K:PV->PH->Prop}{Q:Value->aq->Prop}{xs:List PV}{vs:List Value}
theorem Cs(e:r4 is=aa bs):(∀ n∈is,0<=n/\n<256)/\qj is=bs.toArray:=by
 unfold r4 at e;cases q:is.all qu with
 |true=>rw[q] at e;obtain rfl:=bD e;exact⟨λn hn=>have h:=bA.mp (dS.mp q n hn);⟨of_decide_eq_true h.1,of_decide_eq_true h.2⟩,rfl⟩
 |false=>rw[q] at e;exact nO e
theorem R9(X0:b7 X)(S:SR X c){is:List Int}{bs:List UInt8}{t k:Nat}{H':Heap}(ho:qj is=bs.toArray)(e:o8 bs c.h K)(hk: ∀ b o,c.s.heap.get? b=aa o->H'.get? b=aa o)(hq:Kv X c K Q):Q (.bytes (qj is) t) {c.s with heap:=H',toks:=k}:=by rw[ho];exact vt X0 S hk (cQ e).2 (.bytes _ t (iL.mp (cQ e).1)) hq
theorem ad9(X0:b7 X)(hA:bp d A)(S:SR X c)(hx:aE X c xs vs)(e:one xs λx=>MX x c.h K)(hq:Kv X c K Q):aC X.M A (call (.type "bytes") vs) Q (λzy zy=>False) c.s:=by
 refine hx.one e fun{x v} h1 e=>?_;induction h1 using VR.casesOn with
 |tup ht hv hz=>exact e.elim λis e=>e.2.elim λbs e'=>R8 (ad8 hA.handled ht (hv.nums e.1) (Cs e'.1).1 (by rw[QT e.1];exact gO hz) λH' t k hk=>⟨jx _ _ _,R9 X0 S (Cs e'.1).2 e'.2 hk hq⟩)
 |ref hk=>
  refine e.elim λob q=>?_;induction ob using aB.casesOn with
  |list l=>exact(S.objs q.1).mY λhl hv hz=>q.2.elim λis e=>e.2.elim λbs e'=>call_bytes_ints (isList hl) (hv.nums e.1) (Cs e'.1).1 (by rw[<- hv.length];exact gO hz) hA.handled λH' t k hk=>R9 X0 S (Cs e'.1).2 e'.2 hk hq
  |cb b=>exact(S.objs q.1).Cq λg1 g2=>R8 (adZ g1 g2 ⟨jx _ _ _,kL (t:=c.s.toks+1) S (cQ q.2).2 hq (.bytes _ _ g2)⟩)
  |_=>exact q.2.elim
 |_=>exact e.elim
end
section
open PySem.SeqAt
namespace F
theorem ajb:splitId "bytes.__len__" =aa ("bytes","__len__"):=by decide +kernel
end F
section
variable{prog:fB}{w:ef}{A:bB}{E:Value->aq->Prop}{s:aq}
theorem aea(h:Q ak s):aC (bR prog w) A (LI (.bytes b t)) Q E s:=by
 have hT:s.TypeIs (.bytes b t) "bytes" :=jx _ _ _;unfold LI;refine wpAny_bind (gU hT FB.slot_bytes_len.lookup ?_);generalize yg:("bytes.__len__" :String)=id0
 wp_delta
 rw[show splitId id0=aa ("bytes","__len__") from by subst yg;decide +kernel];subst yg;refine wpAny_bind (rG (T:= "bytes") (b:=ag) hT (by rw[qg];kernel_rfl) ?_);refine D9 (λgV=>absurd gV (by decide)) (λzy=>?_);refine D9 (λzy=>?_) (λgV=>absurd (by decide +kernel) gV);refine wpAny_bind (Ah hT ?_);exact wpAny_pure h
noncomputable abbrev Sa (b:Array UInt8):Nat->Value->Prop:=λi v=> ∃ c u,b[i]?=aa c/\v= .int (c.toNat:Int) u
theorem aeb{R:qk->aq->Prop}{b:Array UInt8}{t:Tok}(hh:A.handled=ae)(S:Addr)(res:Value)(c₀:Nat)(hS:s.heap.get? S=aa {cls:= .type "list",data:= .seq #[] c₀})
  (hR: ∀ h' tk j6 c',(∀ b o,b≠S->s.heap.get? b=aa o->h'.get? b=aa o)->h'.get? S=aa {cls:= .type "list",dict:=ae,data:= .seq j6 c',slots:= #[]}->ItemsOf (Sa b) j6 b.size->R (.ok (.ret res)) {s with heap:=h',toks:=tk}) (hn:b.size<=lj):
  aC (bR prog w) A.in1 (tY (.ref S) (.bytes b t) res) (λfin s'=>match fin with| .done f=>R (.ok f) s'| .again c'=>c'.quiet=ag/\ny (bR prog w) A c' R s') (λe s'=>R (.error e) s') s:=by
 have Ib:S≠s.heap.objs.size:=cq (ei hS);have Cr:S∉[s.heap.objs.size]:=λhm=>Ib (gQ.mp hm);have W:=(KBw.walks (prog:=prog) (w:=w) (A:=A.in1) hh s.heap.objs.size b t).toS;have key: ∀ (h:Heap) (c₁ tk:Nat),EI h s.heap.objs.size b t 0->(∀ b o,b≠S->s.heap.get? b=aa o->h.get? b=aa o)->
   h.get? S=aa {cls:= .type "list",data:= .seq #[] c₁}->ny (bR prog w) A (.builtin "list.extend.loop" ⟨[.ref S,.ref s.heap.objs.size,res],[]⟩) R {s with heap:=h,toks:=tk}:=by
  intro h c₁ tk iC hk pP;refine codeAny_extend_loopS W hn S Cr res b.size 0 _ #[] c₁ rfl (cz _) iC pP (ItemsOf.nil _) λs' j6 c' hm iX oo=>?_;rw[Moved.eq_with hm];refine hR s'.heap s'.toks j6 c' (λb o hb e=>hm.heap b o (λlM=>?_) (hk b o hb e)) iX oo;rcases gH.mp lM with e'|lM
  .exact hb e'
  .exact absurd (ei e) (by rw[gQ.mp lM];exact iK _)
 unfold tY;refine wpAny_bind (Ah (T:= "bytes") (jx _ _ _) ?_);have h1:Builtin.List.listSameRef (.ref S) (.bytes b t)=ak:=rfl;have h2:(lu "bytes" ==lu "list")=ak:=by decide
 have h3:(lu "bytes" ==lu "tuple")=ak:=by decide
 simp only[h1,h2,h3,zo,C9,if_false];refine wpAny_bind (Mj ?_);generalize hO:({cls:= .type "bytes_iterator",data:= .fields #[.bytes b t,.int 0 0]}:Obj)=oI;have st:EI (s.heap.push oI) s.heap.objs.size b t 0:=⟨oI,eg _ (by subst hO;rfl),by subst hO;rfl,by subst hO;rfl⟩;have pP:=cf oI hS;refine wpAny_bind (wpAny_holding (aea ?_));refine D9 (λzy=>?_) (λzy=>wpAny_pure ⟨oR LR _,key _ c₀ _ st (λb o zy e=>cf _ e) pP⟩);refine wpAny_bind (wL ?_);refine wpAny_bind ?_;show aC _ _ (rL S (·.push .none) >>= λzy=>rL S (·.pop)) _ _ _;refine wpAny_bind (rH pP rfl ?_);have sY:=rQ (i9 (·.push eT)) pP rfl;refine rH (hz:=by seq_fits) sY rfl ?_;have yN:=rQ (i9 (·.pop)) sY rfl;refine wpAny_pure ⟨oR LR _,key _ _ _ ?_ (λb o hb e=>?_) yN⟩
 .obtain⟨o,ho,r⟩:=st
  exact⟨o,(w6 _ _ Ib).trans ((w6 _ _ Ib).trans ho),r⟩
 .exact(w6 _ _ (eI hb)).trans ((w6 _ _ (eI hb)).trans (cf _ e))
theorem aec(hh:A.handled=ae)(hn:b.size<=lj)
  (hQ: ∀ h' tk j6 c',(∀ b o,s.heap.get? b=aa o->h'.get? b=aa o)->h'.get? s.heap.objs.size=aa {cls:= .type "list",dict:=ae,data:= .seq j6 c',slots:= #[]}->ItemsOf (Sa b) j6 b.size->Q (.ref s.heap.objs.size) {s with heap:=h',toks:=tk}):
  aC (bR prog w) A (call (.type "list") [.bytes b t]) Q E s:=by
 refine callType_codes (Q₁:=λobj bE=>obj= .ref s.heap.objs.size/\bE={s with heap:=s.heap.push {cls:= .type "list",data:= .seq #[]}}) PySem.F.called_list (PySem.F.typeCall_list_1 _) PySem.F.entry_list_init (code_list_new _ ⟨rfl,rfl⟩) λobj bE eA=>?_;obtain⟨rfl,rfl⟩:=eA;have hS:(s.heap.push {cls:= .type "list",data:= .seq #[]}).get? s.heap.objs.size=aa {cls:= .type "list",data:= .seq #[]}:=eg _ rfl;refine⟨⟨_,hS,rfl⟩,PySem.F.args_list_init_2 _ _,?_⟩;show aC _ _ (do let old <- Er (.ref s.heap.objs.size);Builtin.List.listUpdate (.ref s.heap.objs.size) (λzy=> #[]);letGo old.toList.reverse;tY (.ref s.heap.objs.size) (.bytes b t) .none) _ _ _;refine wpAny_bind ?_;unfold Er;refine wpAny_bind (Ac hS rfl (wpAny_pure ?_));show aC _ _ (rL s.heap.objs.size (λzy=> #[]) >>= λzy=>letGo (#[]:Array Value).toList.reverse >>= λzy=>tY (.ref s.heap.objs.size) (.bytes b t) .none) _ _ _;refine wpAny_bind (rH hS rfl ?_);have sY:=rQ (i9 (λzy=>(#[]:Array Value))) hS rfl;refine wpAny_bind (wpAny_letGo ?_);refine aeb (A:=A.in1) hh _ .none _ sY (λh' tk j6 c' hk iX oo=>?_) hn;exact⟨rfl,hQ h' tk j6 c' (λb o e=>hk b o (cq (ei e)) ((w6 _ _ (eI (cq (ei e)))).trans (cf _ e))) iX oo⟩
end
theorem Sb: ∀ (l:List Value) (f:Nat->Int),(∀ (j:Nat) v,l[j]?=aa v-> ∃ t,v= .int (f j) t)->l7 l ((ar l.length).map f)
 |[],_,_=> .nil
 |v::l,f,h=>(h 0 v rfl).elim λt e=>by rw[fW,v7,gG,cV,e];exact .cons _ _ (Sb l (f∘Nat.succ) λj v q=>h (j+1) v q)
theorem Sd(hp: ∀ i v,P i v-> ∃ t,v= .int (f i) t)(h:ItemsOf P acc n):l7 acc.toList ((ar n).map f):=by have q:=Sb acc.toList f λj v e=>hp j v (h.2 j v (zj▸e));rw[vS,h.1] at q;exact q
theorem vv(q:d7 a b c=ag):0<=ij a b c/\ij a b c<=2000001/\(ij a b c).toNat=((b-a+c-1)/c).toNat:=by
 have h:=yJ q;unfold ij;rw[if_pos (show c>0 from h.1)];by_cases gV:a<b
 .rw[if_pos gV,show b-a+c-1=(b-a-1)+c*1 by rw[v5];exact Int.add_right_comm (b-a) c (-1),JL _ _ (zA h.1)]
  have h1:(b-a-1)/c<=b-a-1:=Int.ediv_le_self _ ((mj [.T Q0 Q1] (.L (.n 0) (.s (.s Q1 Q0) (.n 1)))) gV);exact⟨zx (JO ((mj [.T Q0 Q1] (.L (.n 0) (.s (.s Q1 Q0) (.n 1)))) gV) (Di h.1)) (by decide),by exact(bL 2 4 [_,_] [_,_,_,_] [.an (.T (.n 0) Q0) (.an (.L Q0 (.n 1000)) (.an (.l J0 (.n 1000000)) (.l J1 (.n 1000000)))),.L Q3 (.s (.s Q2 Q1) (.n 1)),pA J0 Q1,pA J1 Q2] (.L (.a Q3 (.n 1)) (.n 2000001))) h h1 (uA _) (uA _),rfl⟩
 .rw[if_neg gV]
  exact⟨Int.le_refl _,by decide,(Int.toNat_eq_zero.mpr (Int.le_of_lt_add_one (Int.ediv_lt_of_lt_mul h.1 (by omega)))).symm⟩
theorem Ie(q:d7 a b c=ag):jB a b c=((ar (ij a b c).toNat).map λ(k:Nat)=>a+(k:Int)*c).map PV.int:=by unfold jB;rw[if_pos (yJ q).1,(vv q).2.2,cV];rfl
section
variable{X:SX}{c:Cf}{A:bB}{d:Nat}{K:PV->PH->Prop}{Q:Value->aq->Prop}{xs:List PV}{vs:List Value}
theorem aE.ofInts(h:l7 vs is):aE X c (is.map PV.int) vs:=by
 induction h with
 |nil=>exact .nil
 |cons n t _ ih=>exact .cons (.int n t) ih
theorem Se(S:SR X c){acc:Array Value}{is:List Int}{k m:Nat}{H':Heap}(e:fP (is.map PV.int) c.h K)(hk: ∀ b o,c.s.heap.get? b=aa o->H'.get? b=aa o)(hg:H'.get? c.s.heap.objs.size=aa (seqObj "list" acc m))(hi:l7 acc.toList is)(hq:Kv X c K Q):Q (.ref c.s.heap.objs.size) {c.s with heap:=H',toks:=k}:=Cb (vs:=acc.toList) (m:=m) S (λe=>hk _ _ e) S.top hg e (.ofInts hi) hq
theorem Ig{a b c:Int}(q:d7 a b c=ag):LJ a b c=ag:=by have h:=yJ q;have h1:=vv q;unfold LJ Builtin.Range.rangeFitsLong;rw[if_pos (show c>0 from h.1)];have F: ∀ i:Int,-3000000<=i/\i<=3000000->(decide (-(2^63)<=i)&&decide (i<2^63))=ag:=λi hi=>bA.mpr ⟨decide_eq_true ((cY [.an (.L (.n (-3000000)) Q0) (.L Q0 (.n 3000000))] (.L (.g (.n 9223372036854775808)) Q0)) hi),decide_eq_true ((cY [.an (.L (.n (-3000000)) Q0) (.L Q0 (.n 3000000))] (.T Q0 (.n 9223372036854775808))) hi)⟩;simp only[rq,Dc,decide_eq_true_eq];exact⟨⟨⟨⟨⟨by exact(qp [.an (.T (.n 0) Q0) (.an (.L Q0 (.n 1000)) (.an (.l J0 (.n 1000000)) (.l J1 (.n 1000000)))),pA J0 Q1,pA J1 Q2] (.L (.g (.n 9223372036854775808)) Q1)) h (uA _) (uA _),by exact(qp [.an (.T (.n 0) Q0) (.an (.L Q0 (.n 1000)) (.an (.l J0 (.n 1000000)) (.l J1 (.n 1000000)))),pA J0 Q1,pA J1 Q2] (.T Q1 (.n 9223372036854775808))) h (uA _) (uA _)⟩,by exact(qp [.an (.T (.n 0) Q0) (.an (.L Q0 (.n 1000)) (.an (.l J0 (.n 1000000)) (.l J1 (.n 1000000)))),pA J0 Q1,pA J1 Q2] (.L (.g (.n 9223372036854775808)) Q2)) h (uA _) (uA _),by exact(qp [.an (.T (.n 0) Q0) (.an (.L Q0 (.n 1000)) (.an (.l J0 (.n 1000000)) (.l J1 (.n 1000000)))),pA J0 Q1,pA J1 Q2] (.T Q2 (.n 9223372036854775808))) h (uA _) (uA _)⟩,by exact(qp [.an (.T (.n 0) Q0) (.an (.L Q0 (.n 1000)) (.an (.l J0 (.n 1000000)) (.l J1 (.n 1000000)))),pA J0 Q1,pA J1 Q2] (.L (.g (.n 9223372036854775808)) Q0)) h (uA _) (uA _),by exact(qp [.an (.T (.n 0) Q0) (.an (.L Q0 (.n 1000)) (.an (.l J0 (.n 1000000)) (.l J1 (.n 1000000)))),pA J0 Q1,pA J1 Q2] (.T Q0 (.n 9223372036854775808))) h (uA _) (uA _)⟩,by exact(xi [.an (.L (.n 0) Q0) (.an (.L Q0 (.n 2000001)) (.e J0 J1)),pT J0 Q0,pT J1 Q1] (.L (.g (.n 9223372036854775808)) Q0)) h1 (uT _) (uT _),by exact(xi [.an (.L (.n 0) Q0) (.an (.L Q0 (.n 2000001)) (.e J0 J1)),pT J0 Q0,pT J1 Q1] (.T Q0 (.n 9223372036854775808))) h1 (uT _) (uT _)⟩,.inr ⟨by exact(qp [.an (.T (.n 0) Q0) (.an (.L Q0 (.n 1000)) (.an (.l J0 (.n 1000000)) (.l J1 (.n 1000000)))),pA J0 Q1,pA J1 Q2] (.L (.g (.n 9223372036854775808)) (.a Q2 (.s Q0 (.n 1))))) h (uA _) (uA _),by exact(qp [.an (.T (.n 0) Q0) (.an (.L Q0 (.n 1000)) (.an (.l J0 (.n 1000000)) (.l J1 (.n 1000000)))),pA J0 Q1,pA J1 Q2] (.T (.a Q2 (.s Q0 (.n 1))) (.n 9223372036854775808))) h (uA _) (uA _)⟩⟩
theorem aed(X0:b7 X)(hA:bp d A)(S:SR X c)(hx:aE X c xs vs)(e:one xs λx=>MV x c.h K)(hq:Kv X c K Q):aC X.M A (call (.type "list") vs) Q (λzy zy=>False) c.s:=by
 refine hx.one e fun{x v} h1 e=>?_;induction h1 using VR.casesOn with
 | @dw a b s r t u w hr q=>exact call_list_range (n:=(ij a b s).toNat) hA.handled hr (Ig q) (vU (vv q).1).symm (by have:=vv q;exact(xi [.an (.L (.n 0) Q0) (.an (.L Q0 (.n 2000001)) (.e J0 J1)),pT J0 Q0,pT J1 Q1] (.l J0 (.n 16777216))) this (uT _) (uT _)) λH' tk acc c' hk hg oo=>Se S (Ie q▸e) hk hg (Sd (λzy zy h=>h) oo) hq
 |ref hk=>exact kf S e λzy hl hv hz e=>call_list_seq _ (.inl rfl) hl rfl rfl (λH' c' hk hg=>Cb (t:=c.s.toks) S (λe=>hk _ _ e) S.top hg e hv hq) (by rw[dJ,<- hv.length];exact gO hz)
 | @bytes l t hz=>refine aec hA.handled (by rw[dJ];exact gO hz) λH' tk acc c' hk hg oo=>Se (is:=l.map λc=>(c.toNat:Int)) S (by rw[cV];exact e) hk hg ?_ hq;have h:=Sd (f:=λi=>(l.map λc=>(c.toNat:Int)).getD i 0) (λi v h=>h.elim λc h=>h.elim λu h=>⟨u,by rw[h.2,eP,dG,<- kj,h.1];rfl⟩) oo;rw[dJ,<- aX (λc:UInt8=>(c.toNat:Int)),range_getD] at h;exact h
 |_=>exact e.elim
end
end
noncomputable def Good (n:Nat) (lt:Nat->Nat->Bool):KasT α->(α->Prop)->Prop
 | .ret a,Q=>Q a
 | .ask i j k,Q=>i<n/\j<n/\Good n lt (k (lt i j)) Q
theorem Good.bind{α β:Type}{n:Nat}{lt:Nat->Nat->Bool}{f:α->KasT β}{Q:β->Prop}: ∀ (t:KasT α),Good n lt t (λa=>Good n lt (f a) Q)->Good n lt (t.bind f) Q
 | .ret _,h=>h
 | .ask _ _ k,h=>⟨h.1,h.2.1,Good.bind (k _) h.2.2⟩
theorem Good.mono{α:Type}{n:Nat}{lt:Nat->Nat->Bool}{Q Q':α->Prop}(hq: ∀ a,Q a->Q' a): ∀ (t:KasT α),Good n lt t Q->Good n lt t Q'
 | .ret _,h=>hq _ h
 | .ask _ _ k,h=>⟨h.1,h.2.1,Good.mono hq (k _) h.2.2⟩
theorem Good.wp{α:Type}{n:Nat}{lt:Nat->Nat->Bool}{cmp:Nat->Nat->(Bool->aq->Prop)->aq->Prop}{Q:α->Prop}{R:α->aq->Prop}{s:aq}
  (hc: ∀ i j (C:Bool->aq->Prop),i<n->j<n->C (lt i j) s->cmp i j C s) (hr: ∀ a,Q a->R a s): ∀ (t:KasT α),Good n lt t Q->t.kasWp cmp R s
 | .ret _,h=>hr _ h
 | .ask _ _ k,h=>hc _ _ _ h.1 h.2.1 (Good.wp hc hr (k _) h.2.2)
noncomputable def Pm (n:Nat) (p:Array Nat):Prop:=p.toList.Perm (ar n)
theorem Pm.size(h:Pm n p):p.size=n:=by have:=h.length_eq;simpa using this
theorem Pm.lt(h:Pm n p)(hi:i<n):p.getD i 0<n:=by
 have dC:i<p.size:=by rw[h.size];exact hi
 have:p[i]∈p.toList:=by simp
 have:=fh.mp (h.mem_iff.mp this);simpa[Array.getD,dC] using this
theorem Pm.mirror(h:Pm n p)(i j d:Nat):Pm n (mirror p i j d):=(JG.mp (mirror_perm p i j d)).trans h
theorem Pm.rev(h:Pm n p)(i j:Nat):Pm n (kas_rev p i j):=h.mirror ..
theorem Pm.bubble(h:Pm n p)(i j:Nat):Pm n (bubble p i j):=(JG.mp (bubble_perm p i j)).trans h
section
variable{O:tO}{key:Nat->O.α}{n:Nat}
noncomputable def Ka (key:Nat->O.α) (p:Array Nat) (i:Nat):O.α:=key (p.getD i 0)
theorem Ih(hj:j<=p.size)(k:Nat):Ka key (kas_rev p i j) k=if i<=k/\k<j then Ka key p (i+j-1-k) else Ka key p k:=by
 unfold Ka kas_rev;simp only[zi];rw[getElem?_mirror_all hj k]
 split <;> rfl
theorem yO(hj:j<=p.size)(heq: ∀ k,i<=k->k<j->Ka key p k=Ka key p (j-1))(k:Nat):Ka key (kas_rev p i j) k=Ka key p k:=by
 rw[Ih hj]
 split
 .rw[heq _ ((bU [pB J4 (.a J0 J2) Y1,pB J3 J4 J1,.an (.l J0 J1) (.t J1 J2)] (.l J0 J3)) (uB _ _) (uB _ _) ‹_›) ((bU [pB J4 (.a J0 J2) Y1,pB J3 J4 J1,.an (.l J0 J1) (.t J1 J2)] (.t J3 J2)) (uB _ _) (uB _ _) ‹_›),heq k ((az [.an (.l J0 J1) (.t J1 J2)] (.l J0 J1)) ‹_›) ((az [.an (.l J0 J1) (.t J1 J2)] (.t J1 J2)) ‹_›)]
 .rfl
theorem Sf(hs:src<p.size)(hd:d<=src)(k:Nat):
  Ka key (bubble p src d) k=if k=src-d then Ka key p src else if src-d<k/\k<=src then Ka key p (k-1) else Ka key p k:=by
 unfold Ka;simp only[zi];rw[getElem?_bubble hs d hd k]
 repeat' split
 all_goals rfl
noncomputable def lQ (key:Nat->O.α) (p:Array Nat) (k:Nat):Prop:= ∀ i j,i<=j->j<k->O.kle (Ka key p i) (Ka key p j)
noncomputable def yP (key:Nat->O.α) (p:Array Nat) (k:Nat):Prop:= ∀ i j,i<=j->j<k->O.kle (Ka key p j) (Ka key p i)
noncomputable abbrev jm (key:Nat->O.α) (i j:Nat):Bool:=O.blt (key i) (key j)
theorem Ii{p:Array Nat}(hP:Pm n p){eG:Nat}(hn:eG<=n): ∀ (f a:Nat),f=eG-a->1<=a->a<=eG->lQ key p a->
  Good n (jm key) (kas_asc p f a) (λm=>a<=m/\m<=eG/\lQ key p m/\(m=eG\/O.klt (Ka key p m) (Ka key p (m-1))))
 |0,a,hf,h1,ha,hs=>⟨aS _,ha,hs,.inl ((az [.e Y0 J0,.l J2 J1,pB J0 J1 J2] (.e J2 J1)) hf ha (uB _ _))⟩
 |f+1,a,hf,h1,ha,hs=>by
  refine⟨hP.lt ((bU [.l J0 J1,.e (.a J2 Y1) J3,pB J3 J0 J4] (.t J4 J1)) hn hf (uB _ _)),hP.lt ((aQ [.l J0 J1,.l Y1 J2,.l J2 J0,pB J3 J2 Y1] (.t J3 J1)) hn h1 ha (uB _ _)),?_⟩;show Good n (jm key) (if O.blt (Ka key p a) (Ka key p (a-1))=ag then _ else _) _;cases rd:O.blt (Ka key p a) (Ka key p (a-1)) with
  |true=>rw[if_pos rfl];exact⟨aS _,ha,hs,.inr rd⟩
  |false=>
   rw[if_neg (ia)];refine Good.mono (λm q=>⟨by omega,q.2⟩) _ (Ii hP hn f (a+1) ((bU [.e (.a J0 Y1) J1,.l J3 J2,pB J1 J2 J3,pB J4 J2 (.a J3 Y1)] (.e J0 J4)) hf ha (uB _ _) (uB _ _)) (k9 _ _) ((aQ [.e (.a J0 Y1) J1,.l J3 J2,pB J1 J2 J3] (.l (.a J3 Y1) J2)) hf ha (uB _ _)) λi j cc hj=>?_);by_cases rf:j<a
   .exact hs i j cc rf
   .have iW:j=a:=(au [.t J0 (.a J1 Y1),.no (.t J0 J1)] (.e J0 J1)) hj rf
    subst iW;by_cases dC:i=j
    .subst dC;exact oQ _
    .exact wB (hs i (j-1) ((az [.l J0 J1,.l Y1 J1,.no (.e J0 J1),pB J2 J1 Y1] (.l J0 J2)) cc h1 dC (uB _ _)) ((au [.l Y1 J0,pB J1 J0 Y1] (.t J1 J0)) h1 (uB _ _))) rd
noncomputable def Ij (n:Nat) (key:Nat->O.α) (eG:Nat) (r:Nat×Array Nat):Prop:=Pm n r.2/\1<=r.1/\r.1<=eG/\lQ key r.2 r.1
theorem Sg{p:Array Nat}(hP:Pm n p){eG a:Nat}(hn:eG<=n)(h1:1<=a)(ha:a<=eG)(hs:yP key p a):Good n (jm key) (kas_tail3 a eG p) (Ij n key eG):=by
 unfold kas_tail3;have cH:a<=p.size:=by rw[hP.size];exact cG ha hn
 refine Good.bind _ (Good.mono (λm q=>⟨hP.rev ..,by omega,q.2.1,q.2.2.1⟩) _ (Ii (hP.rev 0 a) hn _ a rfl h1 ha λi j cc hj=>?_));rw[Ih cH,Ih cH,if_pos ((az [.l J0 J1,.t J1 J2] (.an (.l Y0 J0) (.t J0 J2))) cc hj),if_pos ((au [.t J0 J1] (.an (.l Y0 J0) (.t J0 J1))) hj)];exact hs _ _ ((dn [.l J0 J1,.t J1 J2,pB J4 (.a Y0 J2) Y1,pB J3 J4 J1,pB J5 J4 J0] (.l J3 J5)) cc hj (uB _ _) (uB _ _) (uB _ _)) ((aQ [.l Y1 J0,pB J2 (.a Y0 J0) Y1,pB J1 J2 J3] (.t J1 J0)) h1 (uB _ _) (uB _ _))
theorem aee(hn:eG<=n): ∀ (f:Nat) (p:Array Nat) (x vw:Nat),Pm n p->f=eG-x->1<=x->x<=eG->yP key p x->vw+1<=x->(∀ i,x-(vw+1)<=i->i<x->Ka key p i=Ka key p (x-1))->
  Good n (jm key) (kas_desc f p x vw) (λr=>Pm n r.1/\1<=r.2.1/\r.2.1<=eG/\yP key r.1 r.2.1/\r.2.2+1<=r.2.1/\ ∀ i,r.2.1-(r.2.2+1)<=i->i<r.2.1->Ka key r.1 i=Ka key r.1 (r.2.1-1)):=λf=>by
 induction f with
 |zero=>exactλp x vw hP hf h1 hx hs hq he=>⟨hP,h1,hx,hs,hq,he⟩
 |succ f ih=>
  intro p x vw hP hf h1 hx hs hq he;have cH:x<=p.size:=by rw[hP.size];exact cG hx hn
  refine⟨hP.lt ((bU [.l J0 J1,.e (.a J2 Y1) J3,pB J3 J0 J4] (.t J4 J1)) hn hf (uB _ _)),hP.lt ((aQ [.l J0 J1,.l Y1 J2,.l J2 J0,pB J3 J2 Y1] (.t J3 J1)) hn h1 hx (uB _ _)),?_⟩;show Good n (jm key) (if O.blt (Ka key p x) (Ka key p (x-1))=ag then _ else _) _;cases rd:O.blt (Ka key p x) (Ka key p (x-1)) with
  |true=>
   rw[if_pos rfl];have Sh: ∀ xs:Array Nat,(∀ k,Ka key xs k=Ka key p k)->yP key xs (x+1):=by
    intro xs hk i j cc hj;rw[hk,hk];by_cases rf:j<x
    .exact hs i j cc rf
    .have iW:j=x:=(au [.t J0 (.a J1 Y1),.no (.t J0 J1)] (.e J0 J1)) hj rf
     subst iW;by_cases dC:i=j
     .subst dC;exact oQ _
     .exact wB (wA rd) (hs i (j-1) ((az [.l J0 J1,.l Y1 J1,.no (.e J0 J1),pB J2 J1 Y1] (.l J0 J2)) cc h1 dC (uB _ _)) ((au [.l Y1 J0,pB J1 J0 Y1] (.t J1 J0)) h1 (uB _ _)))
   split
   .exact ih _ (x+1) 0 (hP.rev ..) ((bU [.e (.a J0 Y1) J1,.l J3 J2,pB J1 J2 J3,pB J4 J2 (.a J3 Y1)] (.e J0 J4)) hf hx (uB _ _) (uB _ _)) (k9 _ _) ((aQ [.e (.a J0 Y1) J1,.l J3 J2,pB J1 J2 J3] (.l (.a J3 Y1) J2)) hf hx (uB _ _)) (Sh _ (yO cH he)) (k9 _ _) λi h1 h2=>by congr 1;exact(az [.l J0 J2,.t J2 (.a J1 Y1),pB J0 (.a J1 Y1) Y1] (.e J2 J0)) h1 h2 (uB _ _)
   .exact ih _ (x+1) 0 hP ((bU [.e (.a J0 Y1) J1,.l J3 J2,pB J1 J2 J3,pB J4 J2 (.a J3 Y1)] (.e J0 J4)) hf hx (uB _ _) (uB _ _)) (k9 _ _) ((aQ [.e (.a J0 Y1) J1,.l J3 J2,pB J1 J2 J3] (.l (.a J3 Y1) J2)) hf hx (uB _ _)) (Sh _ λzy=>rfl) (k9 _ _) λi h1 h2=>by congr 1;exact(az [.l J0 J2,.t J2 (.a J1 Y1),pB J0 (.a J1 Y1) Y1] (.e J2 J0)) h1 h2 (uB _ _)
  |false=>
   rw[if_neg (ia)];refine⟨hP.lt ((aQ [.l J0 J1,.l Y1 J2,.l J2 J0,pB J3 J2 Y1] (.t J3 J1)) hn h1 hx (uB _ _)),hP.lt ((bU [.l J0 J1,.e (.a J2 Y1) J3,pB J3 J0 J4] (.t J4 J1)) hn hf (uB _ _)),?_⟩;show Good n (jm key) (if O.blt (Ka key p (x-1)) (Ka key p x)=ag then _ else _) _;cases aef:O.blt (Ka key p (x-1)) (Ka key p x) with
   |true=>rw[if_pos rfl];exact⟨hP,h1,hx,hs,hq,he⟩
   |false=>
    rw[if_neg (ia)];have Si:Ka key p x=Ka key p (x-1):=DZ aef rd;refine ih _ (x+1) (vw+1) hP ((bU [.e (.a J0 Y1) J1,.l J3 J2,pB J1 J2 J3,pB J4 J2 (.a J3 Y1)] (.e J0 J4)) hf hx (uB _ _) (uB _ _)) (k9 _ _) ((aQ [.e (.a J0 Y1) J1,.l J3 J2,pB J1 J2 J3] (.l (.a J3 Y1) J2)) hf hx (uB _ _)) (λi j cc hj=>?_) ((au [.l (.a J0 Y1) J1] (.l (.a (.a J0 Y1) Y1) (.a J1 Y1))) hq) λi h1 h2=>?_
    .by_cases rf:j<x
     .exact hs i j cc rf
     .have iW:j=x:=(au [.t J0 (.a J1 Y1),.no (.t J0 J1)] (.e J0 J1)) hj rf
      subst iW;by_cases dC:i=j
      .subst dC;exact oQ _
      .rw[Si];exact hs i (j-1) ((az [.l J0 J1,.l Y1 J1,.no (.e J0 J1),pB J2 J1 Y1] (.l J0 J2)) cc h1 dC (uB _ _)) ((au [.l Y1 J0,pB J1 J0 Y1] (.t J1 J0)) h1 (uB _ _))
    .rw[show x+1-1=x from(au [pB J0 (.a J1 Y1) Y1] (.e J0 J1)) (uB _ _)]
     by_cases Sj:i=x
     .subst Sj;rfl
     .rw[Si];exact he i ((bU [.l J0 J3,pB J0 (.a J1 Y1) (.a (.a J2 Y1) Y1),pB J4 J1 (.a J2 Y1)] (.l J4 J3)) h1 (uB _ _) (uB _ _)) (dH (d0 h2) Sj)
theorem Sk{p:Array Nat}(hP:Pm n p){eG a:Nat}(hn:eG<=n)(ha:a+1<=eG)(hs:yP key p (a+1)):Good n (jm key) (kas_descPart a eG p) (Ij n key eG):=by
 unfold kas_descPart;refine Good.bind _ (Good.mono (λr q=>?_) _ (aee hn _ p (a+1) 0 hP rfl (k9 _ _) ha hs (k9 _ _) λi h1 h2=>by congr 1;exact(az [.l J0 J2,.t J2 (.a J1 Y1),pB J0 (.a J1 Y1) Y1] (.e J2 J0)) h1 h2 (uB _ _)));obtain⟨Ik,q1,q2,q3,q4,q5⟩:=q;have cH:r.2.1<=r.1.size:=by rw[Ik.size];exact cG q2 hn
 split
 .refine Sg (Ik.rev ..) hn q1 q2 λi j cc hj=>?_
  rw[yO cH q5,yO cH q5];exact q3 i j cc hj
 .exact Sg Ik hn q1 q2 q3
theorem aeg{p:Array Nat}(hP:Pm n p){eG:Nat}(hn:eG<=n)(h1:1<=eG):Good n (jm key) (kas_count eG p) (Ij n key eG):=by
 unfold kas_count;refine Good.bind _ (Good.mono (λm q=>?_) _ (Ii hP hn _ 1 rfl (aS _) h1 λi j cc hj=>by have:i=j:=((au [.l J0 J1,.t J1 Y1] (.e J0 J1)) cc hj);subst this;exact oQ _));obtain⟨q1,q2,q3,q4⟩:=q;by_cases hm:m=eG
 .rw[if_pos (by simpa using hm)];exact⟨hP,q1,q2,q3⟩
 .rw[if_neg (by simpa using hm)]
  have bf:O.klt (Ka key p m) (Ka key p (m-1)):=q4.resolve_left hm;by_cases Im:m>1
  .rw[if_pos Im]
   refine⟨hP.lt ((au [.l J0 J1,.l Y1 J0] (.t Y0 J1)) hn h1),hP.lt ((aQ [.l J0 J1,.l Y1 J2,.l J2 J0,.no (.e J2 J0),pB J3 J2 Y1] (.t J3 J1)) hn q1 q2 hm (uB _ _)),?_⟩;show Good n (jm key) (if O.blt (Ka key p 0) (Ka key p (m-1))=ag then _ else _) _;cases aeh:O.blt (Ka key p 0) (Ka key p (m-1)) with
   |true=>rw[if_pos rfl];exact⟨hP,q1,q2,q3⟩
   |false=>
    rw[if_neg (ia)];have cH:m<=p.size:=by rw[hP.size];exact(az [.l J0 J1,.l J2 J0,.no (.e J2 J0)] (.l J2 J1)) hn q2 hm
    have qV: ∀ k,0<=k->k<m->Ka key p k=Ka key p (m-1):=by intro k _ hk;exact DZ (q3 k (m-1) ((az [.l Y1 J0,.t J1 J0,pB J2 J0 Y1] (.l J1 J2)) q1 hk (uB _ _)) ((au [.l Y1 J0,pB J1 J0 Y1] (.t J1 J0)) q1 (uB _ _))) (wB aeh (q3 0 k (cz _) hk))
    refine Sk (hP.rev ..) hn ((au [.l J0 J1,.no (.e J0 J1)] (.l (.a J0 Y1) J1)) q2 hm) λi j cc hj=>?_;rw[yO cH qV,yO cH qV];by_cases ji:j<m
    .rw[qV i (cz _) (zR cc ji),qV j (cz _) ji];exact oQ _
    .have iW:j=m:=(au [.t J0 (.a J1 Y1),.no (.t J0 J1)] (.e J0 J1)) hj ji
     subst iW;by_cases dC:i=j
     .subst dC;exact oQ _
     .rw[qV i (cz _) (dH cc dC)];exact wA bf
  .rw[if_neg Im]
   have hm1:m=1:=(aw [.l Y1 J0,.no (.t Y1 J0)] (.e J0 Y1)) q1 Im;subst hm1;refine Sk hP hn ((aw [.l Y1 J0,.no (.e Y1 J0)] (.l Y2 J0)) h1 hm) λi j cc hj=>?_;by_cases dC:i=j
   .subst dC;exact oQ _
   .have Sl:i=0:=(au [.l J0 J1,.t J1 Y2,.no (.e J0 J1)] (.e J0 Y0)) cc hj dC
    have qR:j=1:=(au [.l J0 J1,.t J1 Y2,.no (.e J0 J1),.e J0 Y0] (.e J1 Y1)) cc hj dC Sl;subst Sl;subst qR;exact wA bf
theorem aei{p:Array Nat}(hP:Pm n p){k:Nat}(hk:k<n)(hs:lQ key p k): ∀ (f l r:Nat),r-l<=f->l<=r->r<=k->(∀ i,i<l->O.kle (Ka key p i) (Ka key p k))->(∀ i,r<=i->i<k->O.klt (Ka key p k) (Ka key p i))->
  Good n (jm key) (kas_place p k f l r) (λl=>l<=k/\(∀ i,i<l->O.kle (Ka key p i) (Ka key p k))/\(∀ i,l<=i->i<k->O.klt (Ka key p k) (Ka key p i))):=λf=>by
 induction f with
 |zero=>intro l r hf Ct m2 jc vx;have:l=r:=(az [.l J0 Y0,.l J2 J1,pB J0 J1 J2] (.e J2 J1)) hf Ct (uB _ _);subst this;exact⟨m2,jc,vx⟩
 |succ f ih=>
  intro l r hf Ct m2 jc vx;unfold kas_place
  split
  .have:l=r:=zV Ct ‹_›
   subst this;exact⟨m2,jc,vx⟩
  .refine⟨hP.lt hk,hP.lt ((bU [.t J0 J1,.l J2 J0,pD 2 J4 (.a J3 J2),.no (.l J2 J3)] (.t J4 J1)) hk m2 (uD _ 2) ‹_›),?_⟩
   show Good n (jm key) (if O.blt (Ka key p k) (Ka key p ((l+r)/2))=ag then _ else _) _;cases rd:O.blt (Ka key p k) (Ka key p ((l+r)/2)) with
   |true=>rw[if_pos rfl];exact ih l _ ((dn [.l J0 (.a J3 Y1),pB J0 J1 J2,pD 2 J5 (.a J2 J1),pB J4 J5 J2,.no (.l J1 J2)] (.l J4 J3)) hf (uB _ _) (uD _ 2) (uB _ _) ‹_›) ((az [pD 2 J2 (.a J1 J0),.no (.l J0 J1)] (.l J1 J2)) (uD _ 2) ‹_›) ((aQ [.l J0 J1,pD 2 J3 (.a J2 J0),.no (.l J0 J2)] (.l J3 J1)) m2 (uD _ 2) ‹_›) jc λi h1 h2=>KeyOrd.klt_of_klt_of_kle rd (hs _ _ h1 h2)
   |false=>rw[if_neg (ia)];exact ih _ r ((dn [.l J0 (.a J3 Y1),pB J0 J1 J2,pD 2 J5 (.a J2 J1),pB J4 J1 (.a J5 Y1)] (.l J4 J3)) hf (uB _ _) (uD _ 2) (uB _ _)) ((az [.l J0 J1,pD 2 J2 (.a J0 J1),.no (.l J1 J0)] (.l (.a J2 Y1) J1)) Ct (uD _ 2) ‹_›) m2 (λi h1=>wB (hs i ((l+r)/2) ((aQ [.t J0 (.a J1 Y1),pD 2 J1 (.a J2 J3)] (.l J0 J1)) h1 (uD _ 2)) ((aQ [.l J0 J1,pD 2 J3 (.a J2 J0),.no (.l J0 J2)] (.t J3 J1)) m2 (uD _ 2) ‹_›)) (show O.kle _ _ from rd)) vx
theorem Sm: ∀ (f:Nat) (p:Array Nat) (k:Nat),Pm n p->f+k=n->1<=k->lQ key p k->Good n (jm key) (kas_bin f p k) (λp=>Pm n p/\lQ key p n)
 |0,p,k,hP,hf,h1,hs=>by have:k=n:=(au [.e (.a Y0 J0) J1] (.e J0 J1)) hf;subst this;exact⟨hP,hs⟩
 |f+1,p,k,hP,hf,h1,hs=>by
  unfold kas_bin;refine Good.bind _ (Good.mono (λl q=>?_) _ (aei hP ((az [.e (.a (.a J0 Y1) J1) J2] (.t J1 J2)) hf) hs k 0 k ((au [pB J0 J1 Y0] (.l J0 J1)) (uB _ _)) (cz _) (aS _) (λi hi=>by exact((aw [.t J0 Y0] .ff) hi).elim) λi h1 h2=>by exact((au [.l J0 J1,.t J1 J0] .ff) h1 h2).elim));obtain⟨d9,jc,vx⟩:=q;refine Sm f _ (k+1) (hP.bubble ..) ((az [.e (.a (.a J0 Y1) J1) J2] (.e (.a J0 (.a J1 Y1)) J2)) hf) (k9 _ _) λi j cc hj=>?_;have Sn:k<p.size:=by rw[hP.size];exact(az [.e (.a (.a J0 Y1) J1) J2] (.t J1 J2)) hf
  rw[Sf Sn ((az [.l Y1 J0,pB J1 J0 J2] (.l J1 J0)) h1 (uB _ _)),Sf Sn ((az [.l Y1 J0,pB J1 J0 J2] (.l J1 J0)) h1 (uB _ _)),show k-(k-l)=l from(aQ [.l J0 J1,pB J3 J1 J0,pB J2 J1 J3] (.e J2 J0)) d9 (uB _ _) (uB _ _)]
  repeat' split
  all_goals first
   |(exfalso;(first|exact(aQ [.l J0 J1,.t J1 (.a J2 Y1),.e J0 J3,.no (.e J1 J3),.no (.an (.t J3 J1) (.l J1 J2))] .ff) cc hj ‹_› ‹_› ‹_› |exact(aQ [.l J0 J1,.no (.e J0 J2),.an (.t J2 J0) (.l J0 J3),.e J1 J2] .ff) cc ‹_› ‹_› ‹_› |exact(aQ [.l J0 J1,.t J1 (.a J2 Y1),.an (.t J3 J0) (.l J0 J2),.no (.e J1 J3),.no (.an (.t J3 J1) (.l J1 J2))] .ff) cc hj ‹_› ‹_› ‹_›))
   |exact oQ _
   |exact jc _ ((az [.l J0 J1,.no (.e J0 J2),.e J1 J2] (.t J0 J2)) cc ‹_› ‹_›)
   |exact wA (vx _ ((aQ [.l J0 J1,pB J3 J1 Y1,.e J0 J2,.no (.e J1 J2)] (.l J2 J3)) cc (uB _ _) ‹_› ‹_›) ((az [.l Y1 J0,.t J1 (.a J0 Y1),pB J2 J1 Y1] (.t J2 J0)) h1 hj (uB _ _)))
   |exact hs _ _ (by(first|exact(dn [.l J0 J1,pB J4 J0 Y1,pB J5 J1 Y1,.no (.e J0 J2),.an (.t J2 J0) (.l J0 J3)] (.l J4 J5)) cc (uB _ _) (uB _ _) ‹_› ‹_› |exact(bU [.l J0 J1,.t J1 (.a J2 Y1),pB J4 J1 Y1,.no (.e J0 J3),.no (.an (.t J3 J0) (.l J0 J2)),.an (.t J3 J1) (.l J1 J2)] (.l J0 J4)) cc hj (uB _ _) ‹_› ‹_› ‹_› |exact cc)) (by(first|exact(az [.l Y1 J0,.t J1 (.a J0 Y1),pB J2 J1 Y1] (.t J2 J0)) h1 hj (uB _ _)|exact(az [.l J0 J1,.t J2 (.a J1 Y1),.no (.e J2 J0),.no (.an (.t J0 J2) (.l J2 J1))] (.t J2 J1)) d9 hj ‹_› ‹_›))
theorem aej(h1:1<=n):Good n (jm key) (kas_sort n) (λp=>Pm n p/\lQ key p n):=by
 unfold kas_sort;have hP:Pm n (k7 (ar n)):=KW _;refine Good.bind _ (Good.mono (λr q=>?_) _ (aeg hP (aS _) h1));obtain⟨q1,q2,q3,q4⟩:=q;have e:max r.1 1=r.1:=(au [.l Y1 J0,pX J1 J0 Y1] (.e J1 J0)) q2 (uX _ _)
 split
 .exact Sm _ _ _ q1 ((aQ [.e J0 J1,pX J0 J1 Y1,pB J3 J2 J0,.t J1 J2] (.e (.a J3 J0) J2)) e (uX _ _) (uB _ _) ‹_›) ((au [.l Y1 J0,.e J1 J0,pX J1 J0 Y1] (.l Y1 J1)) q2 e (uX _ _)) (by rw[e];exact q4)
 .have:r.1=n:=(au [.l J0 J1,.no (.t J0 J1)] (.e J0 J1)) q3 ‹_›
  rw[this] at q4;exact⟨q1,q4⟩
end
section
variable{prog:fB}{w:ef}{A:bB}{s:aq}{O:tO}{key:Nat->O.α}{κ:zZ}
noncomputable def s6 (a:Addr) (H H':Heap):Prop:= ∀ b o,b≠a->H.get? b=aa o->H'.get? b=aa o
theorem So{E:Value->aq->Prop}{a:Addr}{vs:List Value}{m:Nat}{P:fA->aq->Prop}(ho:s.heap.get? a=aa (seqObj "list" vs.toArray m))(rh:vs.length<64)
  (hK:2<=vs.length-> ∀ (s':aq) (Q:zZ->aq->Prop),s6 a s.heap s'.heap->Q κ s'->aC (bR prog w) A (keyKind' vs.toArray) Q (λzy zy=>False) s')
  (hL: ∀ (s':aq) (Q:Bool->aq->Prop) (i j:Nat),s6 a s.heap s'.heap->i<vs.length->j<vs.length->Q (jm key i j) s'->aC (bR prog w) A (keyLt' κ (vs.getD i eT) (vs.getD j eT)) Q (λzy zy=>False) s')
  (h: ∀ p e H',Pm vs.length p->lQ key p vs.length->s6 a s.heap H'->H'.get? a=aa (seqObj "list" (k7 (p.toList.map λi=>vs.getD i eT)) e)->P (.done (.ret .none)) {s with heap:=H'}):
  aC (bR prog w) A (Builtin.«list.sort» ⟨[.ref a],[]⟩) P E s:=by
 have ha:a<s.heap.objs.size:=ei ho;have s1:=lq s.heap a (i9 λzy=>(#[]:Array Value));obtain⟨e1,Sp⟩: ∃ e1,(s.heap.update a (i9 λzy=>(#[]:Array Value))).get? a=aa (seqObj "list" #[] e1):=⟨_,tM ho λzy=> #[]⟩;have k1:s6 a s.heap (((s.heap.update a (i9 λzy=>(#[]:Array Value))).push (seqObj "tuple" vs.toArray 0)).push (seqObj "list" #[] 0)):=λb o hb e=>cf _ (cf _ ((s1.2 b hb).trans e));have vy:(((s.heap.update a (i9 λzy=>(#[]:Array Value))).push (seqObj "tuple" vs.toArray 0)).push (seqObj "list" #[] 0)).get? a=aa (seqObj "list" #[] e1):=cf _ (cf _ Sp);rw[list_sort_plain];refine wpAny_bind (listItems_at ho rfl ?_);refine wpAny_bind (DX ho rfl ?_ (by rw[dJ,wI];exact(aw [.t J0 (.n 64)] (.l J0 (.n 16777216))) rh) (cz _));refine wpAny_bind (DY Sp rfl ?_);refine wpAny_bind (wpAny_newTuple ?_ (by show vs.length<=_;rw[wI];exact(aw [.t J0 (.n 64)] (.l J0 (.n 16777216))) rh));refine wpAny_bind (wD ?_ (cz _));refine wpAny_holding ?_;show aC (bR prog w) A _ P E {s with heap:=((s.heap.update a (i9 λzy=>(#[]:Array Value))).push (seqObj "tuple" vs.toArray 0)).push (seqObj "list" #[] 0)};generalize (((s.heap.update a (i9 λzy=>(#[]:Array Value))).push (seqObj "tuple" vs.toArray 0)).push (seqObj "list" #[] 0))=H1 at *
 dsimp only;have fin: ∀ (p:Array Nat),Pm vs.length p->lQ key p vs.length-> ∀ c2 (H2:Heap),H2.get? a=aa (seqObj "list" (k7 (p.toList.map λi=>vs.getD i eT)) c2)->s6 a H1 H2->P (.done (.ret .none)) {s with heap:=H2}:=λp q1 q2 c2 H2 q3 q4=>h p c2 H2 q1 q2 (λb o hb e=>q4 b o hb (k1 b o hb e)) q3;by_cases hn:vs.toArray.size<2
 .rw[if_pos hn,if_pos hn]
  refine wpAny_bind (wpAny_pure ?_);rw[StateT.run_pure];refine wpAny_bind (wpAny_pure ?_);dsimp only;refine wpAny_bind (DY vy rfl ?_);have s2:=lq H1 a (i9 λzy=>(arrOf (z5 z4 (vs.toArray.zip vs.toArray) #[] 7 ae)).map (·.2));obtain⟨c2,Io⟩: ∃ c2,(H1.update a (i9 λzy=>(arrOf (z5 z4 (vs.toArray.zip vs.toArray) #[] 7 ae)).map (·.2))).get? a=aa (seqObj "list" ((arrOf (z5 z4 (vs.toArray.zip vs.toArray) #[] 7 ae)).map (·.2)) c2):=⟨_,tM vy λzy=>_⟩;have e0:(arrOf (z5 z4 (vs.toArray.zip vs.toArray) #[] 7 ae)).map (·.2)=k7 ((k7 (ar vs.length)).toList.map λi=>vs.getD i eT):=by
   show(vs.toArray.zip vs.toArray).map (·.2)=_;apply vT.mp;simp only[Array.toList_map,Array.toList_zip];apply List.ext_getElem
   .simp
   .intro i h1 h2
    simp at h1 ⊢;rw[eQ (h1)];rfl
  refine wpAny_bind (DX vy rfl ?_ (cz _) (by rw[e0];simp;rw[wI];exact(aw [.t J0 (.n 64)] (.l J0 (.n 16777217))) rh));refine dT (bne_self_eq_false _) ?_;refine wpAny_pure (fin (k7 (ar vs.length)) (KW _) (λi j cc hj=>?_) c2 _ (by rw[<- e0];exact Io) λb o hb e=>(s2.2 b hb).trans e);have:i=j:=by rw[dJ] at hn;exact(az [.t J0 Y2,.l J1 J2,.t J2 J0] (.e J1 J2)) hn cc hj
  subst this;exact oQ _
 .rw[if_neg hn,if_neg hn]
  have h2:2<=vs.length:=by rw[dJ] at hn;exact(aw [.no (.t J0 Y2)] (.l Y2 J0)) hn
  refine wpAny_bind (ma (hK h2 {s with heap:=H1} (λIq s'=>Iq=κ/\s'={s with heap:=H1}) k1 ⟨rfl,rfl⟩) (λIq s0 hk=>?_) λzy zy x=>x.elim);obtain⟨rfl,rfl⟩:=hk;have tree:(kas_sort vs.length).kasWp (kas_ask prog w A Iq vs) (λp m3=>(Pm vs.length p/\lQ key p vs.length)/\m3={s with heap:=H1}) {s with heap:=H1}:=Good.wp (λi j C hi hj hC=>hL _ _ i j k1 hi hj hC) (λp q=>⟨q,rfl⟩) _ (aej (key:=key) ((aw [.l Y2 J0] (.l Y1 J0)) h2));refine wpAny_bind (ma (kat_run (E:=E) (Q:=λn7 s'=> ∃ p:Array Nat,p.size=vs.length/\arrOf n7=p.map (kas_item (vs.toArray.zip vs.toArray))/\failedOf n7=ae/\(Pm vs.length p/\lQ key p vs.length)/\s'={s with heap:=H1})
   rfl h2 rh (λp' n7 s' a1 a2 a3 a4=>⟨p',a1,a2,a3,a4⟩) tree) ?_ λzy zy e=>e)
  rintro⟨⟨⟩,n7⟩ s' ⟨p,hp,har,hf,⟨q1,q2⟩,rfl⟩;dsimp only;have qM:=kat_snds rfl har;have cH:(k7 (p.toList.map λi=>vs.getD i eT)).size=vs.length:=by rw[dJ,aX,vS,hp]
  rw[qM];have s2:=lq H1 a (i9 λzy=>k7 (p.toList.map λi=>vs.getD i eT));obtain⟨c2,Io⟩: ∃ c2,(H1.update a (i9 λzy=>k7 (p.toList.map λi=>vs.getD i eT))).get? a=aa (seqObj "list" (k7 (p.toList.map λi=>vs.getD i eT)) c2):=⟨_,tM vy λzy=>k7 (p.toList.map λi=>vs.getD i eT)⟩;refine wpAny_bind (DY vy rfl ?_);refine wpAny_bind (DX vy rfl ?_ (cz _) (cG (nr cH) (by rw[wI];exact(aw [.t J0 (.n 64)] (.l J0 (.n 16777217))) rh)));rw[hf];refine dT (bne_self_eq_false _) ?_;exact wpAny_pure (fin p q1 q2 c2 _ Io λb o hb e=>(s2.2 b hb).trans e)
end
noncomputable def Cu:tO where
 α:=Int
 blt a b:=decide (a<b)
 irrefl a:=decide_eq_false (Dg a)
 trans a b c h1 h2:=decide_eq_true (Dk (of_decide_eq_true h1) (of_decide_eq_true h2))
 negTrans a b c h:=(JK (a<b)).elim (λe=> .inl (decide_eq_true e)) λe=> .inr (decide_eq_true (JM (ib.mp e) (of_decide_eq_true h)))
 total a b h1 h2:=zv (ib.mp (of_decide_eq_false h2)) (ib.mp (of_decide_eq_false h1))
noncomputable abbrev vz (a b:Int×Int):Prop:=a.1<b.1\/a.1=b.1/\a.2<b.2
noncomputable def Cv:tO where
 α:=Int×Int
 blt a b:=decide (vz a b)
 irrefl a:=decide_eq_false λh=>h.elim (Dg _) λh=>Dg _ h.2
 trans a b c h1 h2:=decide_eq_true ((of_decide_eq_true h1).elim (λh=>(of_decide_eq_true h2).elim (λh'=> .inl (Dk h h')) λh'=> .inl (h'.1▸h)) λh=>(of_decide_eq_true h2).elim (λh'=> .inl (h.1▸h')) λh'=> .inr ⟨h.1.trans h'.1,Dk h.2 h'.2⟩)
 negTrans a b c h:=De (λe:a.1<b.1=> .inl (decide_eq_true (.inl e))) λe=>De (λf:b.1<c.1=> .inr (decide_eq_true (.inl f))) λf=>
  (of_decide_eq_true h).elim (λg=>absurd g (ib.mpr (vX (ib.mp f) (ib.mp e)))) λg=>
   have e1:a.1=b.1:=zv (vX (zB g.1) (ib.mp f)) (ib.mp e)
   De (λk:a.2<b.2=> .inl (decide_eq_true (.inr ⟨e1,k⟩))) λk=> .inr (decide_eq_true (.inr ⟨e1.symm.trans g.1,JM (ib.mp k) g.2⟩))
 total a b h1 h2:=
  have h1:=of_decide_eq_false h1;have h2:=of_decide_eq_false h2;have e:a.1=b.1:=zv (ib.mp λe=>h2 (.inl e)) (ib.mp λe=>h1 (.inl e))
  DW e (zv (ib.mp λk=>h2 (.inr ⟨e.symm,k⟩)) (ib.mp λk=>h1 (.inr ⟨e,k⟩)))
structure Ordered (O:tO) (enc:O.α->PV):Prop where
 le: ∀ a b,nM (enc a) (enc b)= !O.blt b a
theorem aek:Ordered Cu PV.int:=⟨λ(a b:Int)=>kX.mpr (by rw[ox];exact decide_eq_true_iff.trans (ib.symm.trans decide_eq_false_iff_not.symm))⟩
noncomputable def s7 (p:Int×Int):PV:= .tup [.int p.1,.int p.2]
theorem ael:Ordered Cv s7:=⟨λ(a b:Int×Int)=>kX.mpr (by show(decide (a.1<b.1)||(a.1==b.1&&decide (a.2<=b.2)))=ag↔(!decide (vz b a))=ag;rw[ox,decide_eq_false_iff_not,Dc,rq,decide_eq_true_eq,decide_eq_true_eq,beq_iff_eq];exact⟨λh k=>h.elim (λh=>k.elim (Int.lt_asymm h) λk=>vY h k.1.symm) λh=>k.elim (λk=>vY k h.1.symm) λk=>ib.mpr h.2 k.2,λh=>(Int.lt_trichotomy a.1 b.1).elim .inl λq=>q.elim (λe=> .inr ⟨e,ib.mp λk=>h (.inr ⟨e.symm,k⟩)⟩) λq=>absurd (.inl q) h⟩)⟩
theorem Sq(r:List PV)(h:nM x y=ag):nP x (y::r)=x::y::r:=if_pos h
theorem Sr(r:List PV)(h:nM x y=ak):nP x (y::r)=y::nP x r:=if_neg λe=>ia (h.symm.trans e)
theorem Ss(x:PV): ∀ l,(nP x l).Perm (x::l)
 |[]=> .refl _
 |y::r=>by
  cases h:nM x y with
  |true=>rw[Sq r h]
  |false=>rw[Sr r h];exact((Ss x r).cons y).trans (.swap x y r)
theorem aem: ∀ l,(lA l).Perm l
 |[]=> .refl _
 |x::r=>(Ss x _).trans ((aem r).cons x)
section
variable{O:tO}{enc:O.α->PV}
theorem Su(N:Ordered O enc)(x:O.α): ∀ l:List O.α,l.Pairwise O.kle-> ∃ l':List O.α,nP (enc x) (l.map enc)=l'.map enc/\l'.Pairwise O.kle/\l'.Perm (x::l)
 |[],_=>⟨[x],rfl,List.pairwise_singleton _ _,.refl _⟩
 |y::r,h=>by
  have h':=zG.mp h;rw[gG];cases hb:O.blt y x with
  |false=>rw[Sq _ (by rw[N.le,hb];rfl)];exact⟨x::y::r,rfl,zG.mpr ⟨λz hz=>(gH.mp hz).elim (λe=>e▸hb) λhz=>wB hb (h'.1 z hz),h⟩,.refl _⟩
  |true=>rw[Sr _ (by rw[N.le,hb];rfl)];exact(Su N x r h'.2).elim λl' e=>⟨y::l',congrArg (enc y:: ·) e.1,zG.mpr ⟨λz hz=>(gH.mp (e.2.2.mem_iff.mp hz)).elim (λe=>e▸wA hb) λhz=>h'.1 z hz,e.2.1⟩,(e.2.2.cons y).trans (.swap x y r)⟩
theorem Sv(N:Ordered O enc): ∀ l:List O.α,∃ l':List O.α,lA (l.map enc)=l'.map enc/\l'.Pairwise O.kle/\l'.Perm l
 |[]=>⟨[],rfl,.nil,.refl _⟩
 |x::r=>(Sv N r).elim λl' e=>(Su N x l' e.2.1).elim λSw q=>⟨Sw,(congrArg (nP (enc x)) e.1).trans q.1,q.2.1,q.2.2.trans (e.2.2.cons x)⟩
theorem Sx{α:Type}(d:α): ∀ l:List α,(ar l.length).map (λi=>l.getD i d)=l
 |[]=>rfl
 |x::l=>by rw[fW,v7,gG,cV];exact congrArg (x:: ·) (Sx d l)
theorem Sy(N:Ordered O enc)(d:O.α){ks:List O.α}{p:Array Nat}(hP:Pm ks.length p)(hA:lQ (O:=O) (λi=>ks.getD i d) p ks.length):lA (ks.map enc)=p.toList.map λi=>(ks.map enc).getD i .none:=by refine(Sv N ks).elim λl' e=>e.1.trans ?_;have q:(p.toList.map λi=>ks.getD i d).Pairwise O.kle:=Du.mpr (Dm.mpr λi j hi hj cc=>by have h:=hA i j (fY cc) (hP.size▸hj);unfold Ka at h;rw[zi,zi,vR hi,vR hj] at h;exact h);have hp:(p.toList.map λi=>ks.getD i d).Perm ks:=(hP.map λi=>ks.getD i d).trans (.of_eq (Sx d ks));rw[List.Perm.eq_of_pairwise (λzy zy zy zy=>DZ) e.2.1 q (e.2.2.trans hp.symm),cV];refine gF λi hi=>?_;have hi:=fh.mp (hP.mem_iff.mp hi);show enc (ks.getD i d)=_;rw[eP,eP,dG,eQ hi];rfl
end
section
variable{X:SX}{c:Cf}{A:bB}{l:List PV}{vs:List Value}{v:Value}
theorem aE.getD(h:aE X c l vs)(hi:i<vs.length): ∃ p,l[i]?=aa p/\VR X c p (vs.getD i eT):=h.back (v:=vs.getD i eT) (by rw[eP,eQ hi];rfl)
theorem aE.pick(h:aE X c l vs): ∀ q:List Nat,(∀ i∈q,i<vs.length)->aE X c (q.map λi=>l.getD i .none) (q.map λi=>vs.getD i eT)
 |[],_=> .nil
 |i::q,hq=>(h.getD (hq i (.head _))).elim λp e=> .cons (by show VR X c (l.getD i .none) _;rw[eP,e.1];exact e.2) (h.pick q λj hj=>hq j (.tail _ hj))
@[elab_as_elim] theorem VR.num {i:Int} {M:Value->Prop} (h:VR X c (.int i) v) (k: ∀ {t},M (.int i t)):M v:=h.kI (K:=(·=i)) rfl fun{j t} e=>e▸k
@[elab_as_elim] theorem VR.pair {p:Int×Int} {M:Value->Prop} (h:VR X c (s7 p) v) (k: ∀ {r t u m},c.s.heap.get? r=aa (seqObj "tuple" #[.int p.1 t,.int p.2 u] m)->M (.ref r)):M v:=h.kT (K:=(·=[.int p.1,.int p.2])) rfl fun{l r vs m} e ht hv zy=>aE.B6 (M:=λvs=>c.s.heap.get? r=aa (seqObj "tuple" vs.toArray m)->M (.ref r)) (e▸hv) (λh1 hr=>hr.QW (M:=λws=>c.s.heap.get? r=aa (seqObj "tuple" (_::ws).toArray m)->M (.ref r)) fun{w} h2=>h1.num (M:=λv=>c.s.heap.get? r=aa (seqObj "tuple" [v,w].toArray m)->M (.ref r)) (h2.num (M:=λw=>c.s.heap.get? r=aa (seqObj "tuple" [_,w].toArray m)->M (.ref r)) k)) ht
theorem Sz(M:eR)(H:Heap)(i:Int)(t:Tok):Looks M H (typeOf (.int i t)) (.type "int"):=λA Q E s zy q=>wpAny_pure (a:=lu "int") q
theorem aen{is:List Int}(hv:aE X c (is.map PV.int) vs)(h2:2<=vs.length){Q:zZ->aq->Prop}(hq:Q oneType' c.s):aC X.M A (keyKind' vs.toArray) Q (λzy zy=>False) c.s:=kas_kind (T:= .type "int") h2 (λv dN=>(List.mem_iff_getElem?.mp dN).elim λi e=>(hv.back e).elim λp r=>by have e1:=r.1;rw[dG] at e1;exact(ee.mp e1).elim λn q=>by exact(q.2▸r.2:VR X c (.int n) v).num (Sz _ _ _ _)) (by decide) (by decide) hq
theorem Cw{α:Type}{enc:α->PV}{ks:List α}{d:α}{i:Nat}{p:PV}(e:(ks.map enc)[i]?=aa p):p=enc (ks.getD i d):=by rw[dG] at e;exact(ee.mp e).elim λn q=>by rw[eP,q.1,<- q.2];rfl
theorem aeo{is:List Int}(hv:aE X c (is.map PV.int) vs){i j:Nat}(h1:i<vs.length)(h2:j<vs.length){Q:Bool->aq->Prop}(hq:Q (jm (O:=Cu) (λi=>is.getD i (0:Int)) i j) c.s):
  aC X.M A (keyLt' oneType' (vs.getD i eT) (vs.getD j eT)) Q (λzy zy=>False) c.s:=
 (hv.getD h1).elim λp e=>(hv.getD h2).elim λq e'=>(Cw (d:=(0:Int)) e.1▸e.2).num ((Cw (d:=(0:Int)) e'.1▸e'.2).num (kat_lt_int hq))
theorem SD: ∀ {ps:List (Int×Int)} {vs:List Value},aE X c (ps.map s7) vs-> ∃ fs,KatTups c.s.heap vs fs/\fs.length=vs.length/\ ∀ v∈fs,∃ i t,v= .int i t
 |[],_,h=>h.QV ⟨[],KatTups.nil,rfl,λzy h=>(by rcases h with⟨⟩)⟩
 |p::ps,_,h=>h.B6 λh r=>h.pair fun{a t u m} ht=>(SD r).elim λfs e=>⟨.int p.1 t::fs,KatTups.cons ht rfl rfl rfl e.1,congrArg (·+1) e.2.1,λv hv=>(gH.mp hv).elim (λe=>⟨_,_,e⟩) λhv=>e.2.2 v hv⟩
theorem aep{ps:List (Int×Int)}(hv:aE X c (ps.map s7) vs)(h2:2<=vs.length){Q:zZ->aq->Prop}(hq:Q (tuples' ag) c.s):aC X.M A (keyKind' vs.toArray) Q (λzy zy=>False) c.s:=(SD hv).elim λfs e=>kat_kind (T:= .type "int") e.1 (by rw[e.2.1];exact dj Nat.zero_lt_two h2) (λv hv=>(e.2.2 v hv).elim λi q=>q.elim λt q=>q▸Sz _ _ _ _) (by decide) (by rw[show(lu "int" != lu "tuple")=ag by decide];exact hq)
theorem aeq{p q:Int×Int}{a b:Addr}{t u t' u':Tok}{m m':Nat}{Q:Bool->aq->Prop}(h1:c.s.heap.get? a=aa (seqObj "tuple" #[.int p.1 t,.int p.2 u] m))(h2:c.s.heap.get? b=aa (seqObj "tuple" #[.int q.1 t',.int q.2 u'] m'))(hq:Q (decide (vz p q)) c.s):
  aC X.M A (keyLt' (tuples' ag) (.ref a) (.ref b)) Q (λzy zy=>False) c.s:=by
 refine kat_lt h1 rfl h2 rfl ?_;show KatLex X.prog X.w A ag ak Q [(.int p.1 t,.int q.1 t'),(.int p.2 u,.int q.2 u')] 0 c.s;refine kat_cons (wpAny_eqBool_int (kat_go (λe=>kat_yes (kat_cons (wpAny_eqBool_int (kat_go (λe'=>kat_yes (kat_nil ?_)) λe'=>kat_no (kat_one _ _ (Ll ?_)))))) λe=>kat_no (oneLt_int ?_)))
 .rw[decide_eq_false λh:vz p q=>h.elim (λh=>vY h (beq_iff_eq.mp e)) λh=>vY h.2 (beq_iff_eq.mp e')] at hq
  exact hq
 .show Q (decide (p.2<q.2)) c.s
  rw[show decide (p.2<q.2)=decide (vz p q) from decide_eq_decide.mpr ⟨λh=> .inr ⟨beq_iff_eq.mp e,h⟩,λh=>h.elim (λh=>absurd (beq_iff_eq.mp e) (vY h)) λh=>h.2⟩];exact hq
 .rw[show decide (p.1<q.1)=decide (vz p q) from decide_eq_decide.mpr ⟨.inl,λh=>h.elim id λh=>absurd h.1 (beq_eq_false_iff_ne.mp e)⟩]
  exact hq
theorem aer{ps:List (Int×Int)}(hv:aE X c (ps.map s7) vs){i j:Nat}(h1:i<vs.length)(h2:j<vs.length){Q:Bool->aq->Prop}(hq:Q (jm (O:=Cv) (λi=>ps.getD i ((0,0):Int×Int)) i j) c.s):
  aC X.M A (keyLt' (tuples' ag) (vs.getD i eT) (vs.getD j eT)) Q (λzy zy=>False) c.s:=
 (hv.getD h1).elim λp e=>(hv.getD h2).elim λq e'=>(Cw (d:=((0,0):Int×Int)) e.1▸e.2).pair λg1=>(Cw (d:=((0,0):Int×Int)) e'.1▸e'.2).pair λg2=>aeq g1 g2 hq
end
theorem aes(h:keyKind p=1): ∃ i,p= .int i:=by
 induction p using PV.casesOn with
 |int i=>exact⟨i,rfl⟩
 |tup l=>exact absurd h ((HQ l).elim (λz=>z▸by decide) λz=>z▸by decide)
 |_=>exact nN rfl h
theorem aet(h:keyKind p=3): ∃ q,p=s7 q:=by
 induction p using PV.casesOn with
 |tup l=>
  have h:(bif (intsOf l).any (·.length==2) then 3 else 0)=3:=h;cases e:intsOf l with
  |none=>rw[e] at h;exact nN rfl h
  |some is=>
   rw[e] at h;change (bif is.length==2 then 3 else 0)=3 at h;cases q:is.length==2 with
   |true=>exact(Mn (beq_iff_eq.mp q)).elim λi w=>w.elim λj w=>⟨(i,j),congrArg PV.tup ((B5 e).trans (congrArg _ w))⟩
   |false=>rw[q] at h;exact nN rfl h
 |_=>exact nN rfl h
theorem Ir{α:Type}{enc:α->PV}{n:Nat}(hk: ∀ {p},keyKind p=n-> ∃ q,p=enc q): ∀ {l:List PV},(l.all λx=>keyKind x==n)=ag-> ∃ ks:List α,l=ks.map enc
 |[],_=>⟨[],rfl⟩
 |p::l,h=>have h:=bA.mp h;(hk (beq_iff_eq.mp h.1)).elim λq e=>(Ir hk h.2).elim λks e'=>⟨q::ks,by rw[e,e',gG]⟩
section
variable{X:SX}{c:Cf}{A:bB}{d k m:Nat}{K:PV->PH->Prop}{Q:Value->aq->Prop}{l:List PV}{vs:List Value}{a:Addr}{xs:List PV}
theorem Mo.but(ho:c.s.heap.get? a=aa (seqObj "list" vs.toArray m))(hk:s6 a c.s.heap s'.heap):Mo c ⟨c.G,c.h,s'⟩:=⟨fun{b ob} e st=>hk b ob (λz=>vo (some_inj (z▸e) ho▸st)) e,λzy=>rfl,aS _⟩
theorem aeu{E:Value->aq->Prop}{P:fA->aq->Prop}(ho:c.s.heap.get? a=aa (seqObj "list" vs.toArray m))(hs:sortable l=ag)(hv:aE X c l vs)
  (hQ: ∀ (q:List Nat) e H',(∀ i∈q,i<vs.length)->lA l=(q.map λi=>l.getD i .none)->s6 a c.s.heap H'->H'.get? a=aa (seqObj "list" (k7 (q.map λi=>vs.getD i eT)) e)->P (.done (.ret .none)) {c.s with heap:=H'}):
  aC X.M A (Builtin.«list.sort» ⟨[.ref a],[]⟩) P E c.s:=by
 have h:=bA.mp hs;have rh:=hv.length▸of_decide_eq_true h.1;refine(ni.mp h.2).elim (λh=>(Ir (enc:=PV.int) aes h).elim λks e=>?_) λh=>(Ir (enc:=s7) aet h).elim λks e=>?_
 .subst e
  have hl:vs.length=ks.length:=hv.length.symm.trans (aX _);exact So (O:=Cu) (key:=λi=>ks.getD i (0:Int)) (κ:=oneType') ho rh (λh2 s' Q hk hq=>aen (c:=⟨c.G,c.h,s'⟩) (hv.mono (.but ho hk)) h2 hq) (λs' Q i j hk hi hj hq=>aeo (c:=⟨c.G,c.h,s'⟩) (hv.mono (.but ho hk)) hi hj hq) λp e H' hP hA hk hg=>hQ p.toList e H' (λi hi=>fh.mp (hP.mem_iff.mp hi)) (Sy (O:=Cu) aek (0:Int) (hl▸hP) (hl▸hA)) hk hg
 .subst e
  have hl:vs.length=ks.length:=hv.length.symm.trans (aX _);exact So (O:=Cv) (key:=λi=>ks.getD i ((0,0):Int×Int)) (κ:=tuples' ag) ho rh (λh2 s' Q hk hq=>aep (c:=⟨c.G,c.h,s'⟩) (hv.mono (.but ho hk)) h2 hq) (λs' Q i j hk hi hj hq=>aer (c:=⟨c.G,c.h,s'⟩) (hv.mono (.but ho hk)) hi hj hq) λp e H' hP hA hk hg=>hQ p.toList e H' (λi hi=>fh.mp (hP.mem_iff.mp hi)) (Sy (O:=Cv) ael ((0,0):Int×Int) (hl▸hP) (hl▸hA)) hk hg
theorem SE{H:Heap}{t:Nat}(X0:b7 X)(S:SR X c)(hk: ∀ b o,c.s.heap.get? b=aa o->H.get? b=aa o)(ha:X.bC.objs.size<=a/\c.s.heap.get? a=ae)(ho:H.get? a=aa (seqObj "list" vs.toArray 0))(hv:aE X c l vs)(e:mkSort l c.h K)(hq:Kv X c K Q):
  aC X.M A (oW [.ref a] (call (.builtin "list.sort") [.ref a]) >>= λzy=>ret (.ref a)) (λfin s'=> ∃ v,fin= .done (.ret v)/\Q v s') (λzy zy=>False) {c.s with heap:=H,toks:=t}:=
 wpAny_bind (wpAny_holding (lh slot_list_sort ⟨_,ho,rfl⟩ entry_list_sort (aeu (c:=c.to H t) ho e.1 (hv.mono (Nx.mo S (.kept X0 S hk))) λq zy H' hq1 vg hq3 hq4=>⟨_,rfl,wpAny_pure ⟨_,rfl,Cb (vs:=q.map λi=>vs.getD i eT) S (fun{b o} z=>hq3 b o (λw=>nO (ha.2.symm.trans ((congrArg c.s.heap.get? w).symm.trans z))) (hk b o z)) ha hq4 e.2 (vg▸hv.pick q hq1) hq⟩⟩) (args_list_sort _)))
theorem aev(X0:b7 X)(S:SR X c)(ho:c.s.heap.get? a=aa (seqObj "list" vs.toArray m))(hz:l.length<=1000000)(hv:aE X c l vs)(e:mkSort l c.h K)(hq:Kv X c K Q):aC X.M A (call (.builtin "sorted") [.ref a]) Q (λzy zy=>False) c.s:=by
 have hn:vs.length<=lj:=hv.length▸gO hz;refine LM kind_sorted plain_sorted entry_sorted (args_sorted1 _) ?_;unfold Builtin.«sorted»;refine wpAny_bind (m:=checkCount "sorted" 1 1 _) (wpAny_pure (wpAny_bind (collect_list (isList ho) (wpAny_bind (wD ?_ hn)) hn)));have cH:((c.s.heap.push (seqObj "list" #[] 0)).update c.s.heap.objs.size (i9 (·++vs.toArray))).objs.size=c.s.heap.objs.size+1:=by rw[Heap.size_update,size_push']
 rw[cH];refine SE (t:=c.s.toks) X0 S (λb o q=>cf _ ((Heap.get?_update_ne _ _ _ _ (cq (ei q))).trans (cf _ q))) ⟨nq S.old,oZ (km _)⟩ (by rw[<- cH];exact eg _ rfl) hv e hq
theorem DR.keys{es:List (PV×PV)}(D:DR X c a es): ∃ ents ep,kg c.s.heap a ents ep/\aE X c (es.map (·.1)) (ents.toList.map (·.key)):=by
 have P: ∀ {κ:Type} [DecidableEq κ] {knd:rI X.prog X.w κ} {enc:κ->PV} {es:List (PV×PV)} {bl:List (κ×Value)} {l:List jS},(∀ {k v},knd.is k v=ag->VR X c (enc k) v)->KV X c enc es bl->Pairs knd l bl->aE X c (es.map (·.1)) (l.map (·.key)):=fun{κ zy knd enc es bl l} f k p=>by
  induction k generalizing l with
  |nil=>cases p;exact .nil
  |cons _ _ ih=>cases p with|cons h1 h2 r=>exact .cons (f h1) (ih r)
 induction D using DR.casesOn with
 |int k d=>exact d.elim λo q=>q.elim λe q=>q.elim λep q=>⟨e,ep,⟨o,q.1,q.2.1,q.2.2.1⟩,P (λh=>(Value.isInt_shape h).elim λt e=>e▸ .int _ t) k q.2.2.2.2.1⟩
 |str k d=>exact d.elim λo q=>q.elim λe q=>q.elim λep q=>⟨e,ep,⟨o,q.1,q.2.1,q.2.2.1⟩,P (λh=>(Value.isStrOf_shape h).elim λt e=>e▸ .str _ t) k q.2.2.2.2.1⟩
 | @pair xs k d r=>
  refine d.elim λo q=>q.elim λe q=>q.elim λep q=>⟨e,ep,⟨o,q.1,q.2.1,q.2.2.1⟩,?_⟩;rw[q.2.2.2.1,cV];clear q d;have P2: ∀ {es:List (PV×PV)} {xs:List (List Int×Addr×Value)},KV X c kJ es (strip xs)->(∀ x∈xs,VR X c (kJ x.1) (.ref x.2.1))->aE X c (es.map (·.1)) (xs.map λx=>Av x.2.1):=fun{es xs} k r=>by
   induction xs generalizing es with
   |nil=>cases k;exact .nil
   |cons x xs ih=>cases k with|cons h1 h2=>exact .cons (r x (.head _)) (ih h2 λy hy=>r y (.tail _ hy))
  exact P2 k r
theorem aew(X0:b7 X)(hA:bp d A){es:List (PV×PV)}(hm:(a==jR)=ak)(S:SR X c)(D:DR X c a es)(hz:es.length<=1000000)(e:mkSort (es.map (·.1)) c.h K)(hq:Kv X c K Q):aC X.M A (call (.builtin "sorted") [.ref a]) Q (λzy zy=>False) c.s:=
 D.keys.elim λents r=>r.elim λep r=>by
  have hl:ents.size<=lj:=by have h:=r.2.length;rw[aX,aX] at h;exact(show ents.size=es.length from h.symm)▸gO hz
  refine LM kind_sorted plain_sorted entry_sorted (args_sorted1 _) ?_;unfold Builtin.«sorted»;refine wpAny_bind (m:=checkCount "sorted" 1 1 _) (wpAny_pure (wpAny_bind (kdu_collect (A:=A.in1) (adm (ep:=ep) hm) hA.handled r.1 hl λh1 tk acc hk oo=>?_)));have hvs:acc.toList=ents.toList.map (·.key):=rz λi=>by
   rw[dG,zj,zj];cases q:acc[i]? with
   |some v=>exact(oo.2 i v q).elim λe' w=>by rw[w.1];exact congrArg aa w.2.symm
   |none=>rw[JH (oo.1▸Array.getElem?_eq_none_iff.mp q)];rfl
  rw[hvs];exact wpAny_bind (wD (SE X0 S (λb o q=>cf _ (hk b o q)) (ac8 X0 S hk (aS _)) (eg _ rfl) r.2 e hq) (by rw[aX,vS];exact hl))
theorem aex(X0:b7 X)(hA:bp d A)(S:SR X c)(hx:aE X c xs vs)(e:one xs λx=>MU x c.h K)(hq:Kv X c K Q):aC X.M A (call (.builtin "sorted") vs) Q (λzy zy=>False) c.s:=
 hx.one e λh1 e=>h1.kR e fun{k} e hk=>e.elim λob q=>by
  induction ob using aB.casesOn with
  |list l=>exact(S.objs q.1).mY λhl hv hz=>aev X0 S hl hz hv q.2 hq
  |dict es=>exact(S.objs q.1).pN λD hz=>aew X0 hA (S.yI X0.mods hk) S D hz q.2 hq
  |_=>exact q.2.elim
end
theorem aey{α:Type}{l:List α}{k:Nat}{a:α}(e:l[k]?=aa a):l.set k a=l:=by obtain⟨h,rfl⟩:=dF.mp e;exact List.set_getElem_self h
theorem aez{is:List Int}{i:Int}(q:is.contains i=ag):(λj=>is.contains j||decide (j=i))=λj=>is.contains j:=funext λj=>by
 by_cases z:j=i
 .rw[z,q];rfl
 .rw[decide_eq_false z,zo]
theorem aeA{is:List Int}{i:Int}:(λj=>is.contains j||decide (j=i))=λj=>(is++[i]).contains j:=funext λj=>by rw[List.contains_append];exact congrArg (is.contains j|| ·) (zo _).symm
theorem aeB(e:intsOf es=aa is):intsOf (es++[.int i])=aa (is++[i]):=by rw[B5 e];have h:=B9 (is++[i]);rw[b8] at h;exact h
section
variable{X:SX}{c:Cf}{A:bB}{d k m:Nat}{K:PV->PH->Prop}{Q:Value->aq->Prop}{l:List PV}{vs:List Value}{xs:List PV}{es:List (PV×PV)}
theorem Iu(S:SR X c)(eh:c.h[k]?=aa (.list l))(hl:c.s.heap.get? (c.G.ad k)=aa (seqObj "list" vs.toArray m)){f:Array Value->Array Value}{ws:List Value}{l':List PV}{r:PV}{v:Value}(hf:f vs.toArray=ws.toArray)(hv:aE X c l' ws)(hz:l'.length<=1000000)
  (e:K r (c.h.set k (.list l'))) (hr:VR X c r v) (hq:Kv X c K Q):Q v {c.s with heap:=c.s.heap.update (c.G.ad k) (i9 f)}:=by
 have hm:=tM hl f;rw[hf] at hm;exact vq (t:=c.s.toks) S ⟨_,eh,id⟩ (lq ..) ⟨_,hm,vo⟩ (λm=> .list hm (hv.mono m) hz) e hr hq
theorem fits(hv:aE X c l vs)(hz:l.length<=1000000):vs.toArray.size<=lj:=by rw[dJ,<- hv.length];exact gO hz
theorem SF{ws:List Value}{l':List PV}{f:Array Value->Array Value}(hf:f vs.toArray=ws.toArray)(hv:aE X c l' ws)(hz:l'.length<=1000000):(f vs.toArray).size<=lj+1:=by rw[hf];exact nq (fits hv hz)
theorem aeC(S:SR X c)(eh:c.h[k]?=aa (.list l))(hx:aE X c xs vs)(e:one xs λx=>l.length<1000000/\K .none (c.h.set k (.list (l++[x]))))(hq:Kv X c K Q):aC X.M A (call (.builtin "list.append") (.ref (c.G.ad k)::vs)) Q (λzy zy=>False) c.s:=hx.one e fun{x v} h1 e=>(S.objs eh).mY fun{ws m} hl hv hz=>lh D6 ⟨_,hl,rfl⟩ entry_list_append (show aC _ _ (rL (c.G.ad k) (·.push v) >>= λzy=>ret .none) _ _ c.s from wpAny_bind (rH (hz:=fits hv hz) (_hz':=by rw[C6];exact Lf (fits hv hz)) hl rfl (wpAny_pure ⟨.none,rfl,Iu (f:=(·.push v)) (ws:=ws++[v]) S eh hl (Dv ..) (hv.append (.cons h1 .nil)) (by rw[bb];exact e.1) e.2 .none hq⟩))) (args_list_append _ _)
theorem aeD(w:Value)(ws:List Value):((Ak 0 (w::ws).toArray.size).bind λk=>(w::ws).toArray[k]?.map (k,·))=aa (0,w):=by simp[Ak]
theorem aeE(S:SR X c)(eh:c.h[k]?=aa (.list l))(hx:aE X c xs vs)(e:one xs λx=>x= .int 0/\ ∃ y r,l=y::r/\K y (c.h.set k (.list r)))(hq:Kv X c K Q):aC X.M A (call (.builtin "list.pop") (.ref (c.G.ad k)::vs)) Q (λzy zy=>False) c.s:=
 hx.one e fun{x v} h1 e=>(show VR X c (.int 0) v from e.1▸h1).num fun{t}=>e.2.elim λy e=>e.elim λr e=>(S.objs eh).mY fun{ws m} hl hv hz=>by
  have e1:=e.1;subst e1;refine aE.B6 (M:=λws=>c.s.heap.get? (c.G.ad k)=aa (seqObj "list" ws.toArray m)->_) hv (fun{w ws} h2 hr hl=>?_) hl;refine lh LX ⟨_,hl,rfl⟩ F.entry_list_pop ?_ (F.args_list_pop_2 _ _);unfold Builtin.«list.pop»;refine wpAny_bind (m:=selfAndSome _ _ _ _ _) (wpAny_pure ?_);dsimp only;refine wpAny_bind (m:=asIndex _) (wpAny_pure (dT (by decide) (wpAny_bind (listItems_at hl rfl (dT rfl ?_)))));rw[aeD];show aC _ _ (rL (c.G.ad k) (·.eraseIdxIfInBounds 0) >>= λzy=>ret w) _ _ c.s;have hf:(w::ws).toArray.eraseIdxIfInBounds 0=ws.toArray:=by simp[Array.eraseIdxIfInBounds]
  have fc:r.length<=1000000:=tJ hz;exact wpAny_bind (rH (hz:=fits (.cons h2 hr) hz) (_hz':=SF (f:=(·.eraseIdxIfInBounds 0)) hf hr fc) hl rfl (wpAny_pure ⟨w,rfl,Iu (f:=(·.eraseIdxIfInBounds 0)) S eh hl hf hr fc e.2 h2 hq⟩))
theorem aeF(S:SR X c)(eh:c.h[k]?=aa (.list l))(hx:aE X c xs vs)(e:one xs λx=>kx x λj=>gW c.h j λl'=>j≠k/\l.length+l'.length<1000000/\K .none (c.h.set k (.list (l++l'))))(hq:Kv X c K Q):aC X.M A (call (.builtin "list.extend") (.ref (c.G.ad k)::vs)) Q (λzy zy=>False) c.s:=
 hx.one e fun{x v} h1 e=>h1.kR e fun{j} e zy=>kf S e fun{l' ws m'} zy j8 dN fc e=>(S.objs eh).mY fun{vs m} hl hv hz=>by
  refine lh LV ⟨_,hl,rfl⟩ F.entry_list_extend ?_ (F.args_list_extend_2 _ _);show aC _ _ (tY (.ref (c.G.ad k)) (.ref (c.G.ad j)) .none) _ _ c.s;unfold tY;refine wpAny_bind (Ah ⟨_,j8,rfl⟩ (rK (by rw[show(lu "list" ==lu "list")=ag by decide,Bool.or_true];rfl) ?_));unfold Er;have hn:(l++l').length<=1000000:=by rw[bb];exact fY e.2.1
  refine wpAny_bind (wpAny_bind (Ac j8 rfl (wpAny_pure (wpAny_bind (wpAny_bind (Ac hl rfl (wpAny_pure (dT (C7.mpr (.inr (decide_eq_false (ic ?_)))) ?_))))))))
  .rw[dJ,dJ,<- hv.length,<- dN.length,<- bb];exact gO hn
  .show aC _ A.in1 (rL (c.G.ad k) (·++ws.toArray) >>= λzy=>ret .none) _ _ c.s
   exact wpAny_bind (rH (hz:=fits hv hz) (_hz':=SF (f:=(·++ws.toArray)) (v9 ..) (hv.append dN) hn) hl rfl (wpAny_pure ⟨.none,rfl,Iu (f:=(·++ws.toArray)) S eh hl (v9 ..) (hv.append dN) hn e.2.2 .none hq⟩))
theorem bits_is(a:Int):((LH a:Nat):Int)=xp a:=by
 unfold LH xp;by_cases z:a=0
 .rw[if_pos z,z];rfl
 .rw[if_neg z,if_neg λe:(a==0)=ag=>z (beq_iff_eq.mp e)]
theorem aeG{a:Int}{t:Tok}(S:SR X c)(e:K (.int (xp a)) c.h)(hq:Kv X c K Q):aC X.M A (call (.builtin "int.bit_length") [.int a t]) Q (λzy zy=>False) c.s:=call_int_bit_length (gx S (bits_is a▸e) hq)
theorem aeH{zs:List PV}(S:SR X c)(eh:c.h[k]?=aa (.set zs))(hx:aE X c xs vs)(e:one xs λx=>bN x λi=>xn zs λis=>zs.length<1000/\K .none (if is.contains i then c.h else c.h.set k (.set (zs++[.int i]))))(hq:Kv X c K Q):aC X.M A (call (.builtin "set.add") (.ref (c.G.ad k)::vs)) Q (λzy zy=>False) c.s:=
 hx.one e fun{x v} h1 e=>h1.kI e fun{i t} e=>e.elim λis e=>by
  cases S.objs eh with
  | @set _ SG g1 g2 g3=>
   have e1:=some_inj g1 e.1;subst e1;have hl:=QT e.1;refine call_set_add (knd:=jk X) (k:=i) (decide_eq_true rfl) rfl g3 (by rw[show scanBound=4096 from rfl];omega) λH' hs iX=>?_;have cj: ∃ ob,H'.get? (c.G.ad k)=aa ob/\ ¬ cK ob:=iX.elim λo q=>q.elim λzy q=>q.elim λzy q=>q.elim λzy q=>⟨o,q.1,RA q.2.1.1⟩;have e2:zs.length<1000/\K .none (if SG.contains i=ag then c.h else c.h.set k (.set (zs++[.int i]))):=e.2;cases q:SG.contains i with
   |true=>rw[q] at e2 iX;rw[aez q] at iX;exact vq (t:=c.s.toks+1) (o':= .set zs) (r:= .none) S ⟨_,eh,id⟩ hs cj (λzy=> .set e.1 g2 iX) ((aey eh).symm▸e2.2) .none hq
   |false=>rw[q] at e2 iX;rw[aeA] at iX;exact vq (t:=c.s.toks+1) (r:= .none) S ⟨_,eh,id⟩ hs cj (λzy=> .set (aeB e.1) (by rw[bb];exact cG (Lb (hl▸e2.1)) (aS _)) (by rw[bb];exact iX)) e2.2 .none hq
theorem got(D:KV X c PV.int es bl)(hw:VR X c dv w):VR X c ((dU es (.int i)).getD dv) ((mc bl i).getD w):=by
 cases e:dU es (.int i) with
 |none=>rw[D.none encInt e];exact hw
 |some p=>exact(D.get encInt e).elim λv q=>by rw[q.1];exact q.2
theorem Iv(h:keysOk (.int i) es=ag): ∀ q∈es,keyKind q.1=1:=(kinds_of h).2
@[elab_as_elim] theorem aE.xk {P:PV->Prop} {P':PV->PV->Prop} {M:List Value->Prop} (h:aE X c xs vs) (e:xk xs P P') (f: ∀ {x v},VR X c x v->P x->M [v]) (g: ∀ {x y v w},VR X c x v->VR X c y w->P' x y->M [v,w]):M vs:=by
 induction h using aE.casesOn with
 |nil=>exact e.elim
 |cons h r=>induction r using aE.casesOn with
  |nil=>exact f h e
  |cons h' r=>induction r using aE.casesOn with|nil=>exact g h h' e|cons=>exact e.elim
theorem aeI(X0:b7 X)(S:SR X c)(eh:c.h[k]?=aa (.dict es))(hx:aE X c xs vs)
  (e:xk xs (λx=>bN x λi=>keysOk (.int i) es=ag/\K ((dU es (.int i)).getD .none) c.h) λx d=>bN x λi=>keysOk (.int i) es=ag/\K ((dU es (.int i)).getD d) c.h) (hq:Kv X c K Q):
  aC X.M A (call (.builtin "dict.get") (.ref (c.G.ad k)::vs)) Q (λzy zy=>False) c.s:=
 have hm:=S.yI X0.mods (fe eh)
 hx.xk e
  (λh1 e=>h1.kI e fun{i t} e=>(S.objs eh).pN λD zy=>(D.vm (Iv e.1)).elim λbl D=>Ei EA D.2.typeIs L1 (F.args_dict_get_2 _ _) (meets_dict_get (jk X) _ (k:=i) (key:= .int i t) (decide_eq_true rfl) hm) ⟨_,D.2.mapOf,kL S e.2 hq (got D.1 .none)⟩)
  λh1 h2 e=>h1.kI e fun{i t} e=>(S.objs eh).pN λD zy=>(D.vm (Iv e.1)).elim λbl D=>Ei EA D.2.typeIs L1 (F.args_dict_get_3 _ _ _) (meets_dict_get_default (jk X) _ (k:=i) (key:= .int i t) (decide_eq_true rfl) hm _) ⟨_,D.2.mapOf,kL S e.2 hq (got D.1 h2)⟩
theorem aeJ(S:SR X c)(eh:c.h[k]?=aa (.dict es))(hx:aE X c xs vs)(e:one xs λx=>bN x λi=>xl es (.int i) λv=>K v (c.h.set k (.dict (r0 es (.int i)))))(hq:Kv X c K Q):aC X.M A (call (.builtin "dict.pop") (.ref (c.G.ad k)::vs)) Q (λzy zy=>False) c.s:=hx.one e λh1 e=>h1.kI e fun{i t} e=>(S.objs eh).pN λD hz=>(D.vm (Iv e.1)).elim λbl D=>e.2.elim λr e=>(D.1.get encInt e.1).elim λu q=>Ei LY D.2.typeIs F.entry_dict_pop (F.args_dict_pop_2 _ _) (meets_dict_pop_there (knd:=jk X) (d:=c.G.ad k) (k:=i) (key:= .int i t) (decide_eq_true rfl) [] (.inl rfl) rfl) ⟨bl,u,D.2,D.1.length▸gO hz,q.1,λH' d' hs=>vq (t:=c.s.toks+1) S ⟨_,eh,id⟩ hs (HX d') (λm=> .dict (.int ((D.1.mono m).del encInt) d') (cG (List.length_filter_le ..) hz)) e.2 q.2 hq⟩
end
section
variable{prog:fB}{w:ef}{κ:Type}[DecidableEq κ]{knd:HeapKind prog w κ}{A:bB}{E:Value->aq->Prop}{s:aq}{d a:Addr}{xs:List (κ×Addr×Value)}{k:κ}{v:Value}
theorem aeK{o:Obj}{es:Array jS}{ep:Nat}(ho:s.heap.get? d=aa o)(hc:o.ExactDict)(hd:o.data= .dict es ep)(he:es.toList=xs.map (entryOfKey knd))(his: ∀ x∈xs,knd.is s.heap x.1 x.2.1)(hn:(xs.map (·.1)).Nodup)
  (qW:knd.is s.heap k a) (s8: ∀ (j:Nat) (p:Addr×Value),xs[j]?≠aa (k,p)):
  (s.heap.update d (Ma (·.push ⟨knd.hash k,.ref a,v⟩))).DictOfH knd d (tV xs k a v):=by
 have hs:=lq s.heap d (Ma (·.push ⟨knd.hash k,.ref a,v⟩));rw[storedH_new (atKey_none_of_get s8)];refine⟨_,_,ep+1,rQ _ ho (Obj.isFreed_of_dict (L8 hd _)),hc.mapDictKeys _,L8 hd _,?_,λx hx=>?_,?_⟩
 .rw[Array.toList_push,he,b8];rfl
 .exact(fX.mp hx).elim (λhx=>knd.keeps (his x hx) ho hd hs) λhx=>gQ.mp hx▸knd.keeps qW ho hd hs
 .rw[b8]
  refine tC.mpr ⟨hn,lV.mpr ⟨oE,KQ⟩,λx hx y hy e=>?_⟩;exact(bX.mp hx).elim λz q=>(List.getElem?_of_mem q.1).elim λj r=>s8 j z.2 (r.trans (congrArg aa (DW (q.2.trans (e.trans (gQ.mp hy))) rfl)))
theorem aeL(hu:knd.room A.in1)(qW:knd.is s.heap k a)(hm:(d==jR)=ak)(hd:s.heap.DictOfH knd d xs)(hz:xs.length<=lj)
  (h1: ∀ p,atKey xs k=aa p-> ∀ t,Q p.2 {s with toks:=t}) (h2:atKey xs k=ae-> ∀ H' t,H'.DictOfH knd d (tV xs k a v)->i0 d s.heap H'->Q v {s with heap:=H',toks:=t}):
  aC (bR prog w) A (call (.builtin "dict.setdefault") [.ref d,.ref a,v]) Q E s:=
 hd.elim λo q=>q.elim λes q=>q.elim λep q=>by
  have hT:s.TypeIs (.ref d) "dict" :=⟨o,q.1,q.2.1.1⟩;refine lh LS hT F.entry_dict_setdefault ?_ (F.args_dict_setdefault_3 _ _ _);unfold Builtin.«dict.setdefault»;refine wpAny_bind ?_;unfold Builtin.Dict.keyAndDefault;refine wpAny_bind (Ln hT ?_);show aC _ _ (pure (d,Av a,aa v)) _ _ s;refine wpAny_pure (dT hm ?_);show aC _ _ (dictSetDefault d (.ref a) v >>= _) _ _ s;unfold dictSetDefault;refine wpAny_bind (wpAny_holding (wpAny_bind (knd.pyHash hu qW (wpAny_bind (wpAny_dictFind_heap (knd:=knd) (k:=k) (s:={s with toks:=s.toks+knd.draws k}) hu qW q.1 q.2.2.1 q.2.2.2.1 q.2.2.2.2.1 q.2.2.2.2.2 (λs8=>?_) λi p hj=>?_)))))
  .exact wpAny_bind (wL (wpAny_bind (wpAny_updateDictKeys (hz:=by rw[<- vS,q.2.2.2.1,aX];exact hz) (s:={s with toks:=s.toks+knd.draws k}) q.1 q.2.2.1 (wpAny_pure (wpAny_pure ⟨v,rfl,h2 (atKey_none_of_get s8) _ _ (aeK q.1 q.2.1 q.2.2.1 q.2.2.2.1 q.2.2.2.2.1 q.2.2.2.2.2 qW s8) (lq ..)⟩)))))
  .refine wpAny_bind (z7 (s:={s with toks:=s.toks+knd.draws k}) q.1 q.2.2.1 ?_)
   rw[entry_at q.2.2.2.1 i,hj];exact wpAny_bind (wL (wpAny_pure (wpAny_pure ⟨_,rfl,h1 p (atKey_of_get q.2.2.2.2.2 hj) _⟩)))
end
section
variable{X:SX}{c:Cf}{A:bB}{d k:Nat}{K:PV->PH->Prop}{Q:Value->aq->Prop}{vs:List Value}{xs:List PV}{es:List (PV×PV)}
@[elab_as_elim] theorem aE.two {P:PV->PV->Prop} {M:List Value->Prop} (h:aE X c xs vs) (e:two xs P) (f: ∀ {x y v w},VR X c x v->VR X c y w->P x y->M [v,w]):M vs:=by
 induction h using aE.casesOn with
 |nil=>exact e.elim
 |cons h r=>induction r using aE.casesOn with
  |nil=>exact e.elim
  |cons h' r=>induction r using aE.casesOn with|nil=>exact f h h' e|cons=>exact e.elim
theorem aeM(X0:b7 X)(hA:bp d A)(S:SR X c)(eh:c.h[k]?=aa (.dict es))(hx:aE X c xs vs)
  (e:two xs λx d=> ∃ i j,x= .tup [.int i,.int j]/\keysOk x es=ag/\es.length<1000000/\((∃ v,dU es x=aa v/\K v c.h)\/dU es x=ae/\K d (c.h.set k (.dict (dput es x d))))) (hq:Kv X c K Q):
  aC X.M A (call (.builtin "dict.setdefault") (.ref (c.G.ad k)::vs)) Q (λzy zy=>False) c.s:=
 hx.two e fun{x y v w} h1 h2 e=>e.elim λi e=>e.elim λj e=>(S.objs eh).pN λD hz=>by
  have e0:=e.2.2;have hm:=S.yI X0.mods (fe eh);revert e0;have ex:=e.1;refine VR.key (M:=λx v=>(x= .tup [.int i,.int j]->(es.length<1000000/\((∃ v,dU es x=aa v/\K v c.h)\/dU es x=ae/\K y (c.h.set k (.dict (dput es x y)))))->aC X.M A (call (.builtin "dict.setdefault") [.ref (c.G.ad k),v,w]) Q (λzy zy=>False) c.s)) h1 e.2.1 (λzy z=>(by rcases z with⟨⟩)) (λzy z=>(by rcases z with⟨⟩)) (fun{l r} hk ht hr ex e=>?_) ex;refine(D.asPair hk).elim λxs D=>aeL (knd:=q6 X) (k:=l) hA.Ce ht hm D.2.1 ?_ (λp hp t=>?_) λs8 H' t d' hs=>?_
  .have h:=D.1.length
   rw[show(strip xs).length=xs.length from aX ..] at h;exact h▸gO hz
  .refine e.2.elim (λe=>e.elim λu e=>(D.1.get sU e.1).elim λw q=>?_) λe=>?_
   .have h:=q.1
    rw[yC,hp] at h;exact kL S e.2 hq ((show p.2=w from bD h)▸q.2)
   .have h:=D.1.none sU e.1
    rw[yC,hp] at h;exact nS h
  .refine e.2.elim (λe=>e.elim λu e=>(D.1.get sU e.1).elim λw q=>?_) λe'=>?_
   .have h:=q.1
    rw[yC,s8] at h;exact nO h
   .exact vq S ⟨_,eh,id⟩ hs (Rh d') (λm=> .dict (.pair (Q6▸(D.1.mono m).put sU (h2.mono m)) d' (Q7 (P:=λz y=>VR X _ (kJ z) (.ref y)) (λx hx=>(D.2.2 x hx).mono m) (hr.mono m))) (cG (HW ..) e.1)) e'.2 h2 hq
end
structure cu (X:SX) (env:Env) (c:Cf) (l:List (Option PV)):Prop where
 sr:SR X c
 locs:mX X c env l
 frame: ∀ {a},cp env a->X.bC.objs.size<=a/\ ¬ c.Own a/\ ∃ ob,c.s.heap.get? a=aa ob/\ ¬ cK ob
noncomputable def Ke {α β:Type} (X:SX) (c:Cf) (l:List (Option PV)) (P:α->aj->Prop) (R:Cf->α->β->Prop) (Q:β->aq->Prop):Prop:= ∀ {c' a v},P a ⟨c'.h,l⟩->Nx X c c'->R c' a v->Q v c'.s
noncomputable def WE (X:SX) (O:ax) (b:Bool) (d:Nat) (env:Env) (m:RM α) (t:Sem β) (R:Cf->α->β->Prop):Prop:=∀ ⦃A c l P Q⦄,bp d A->cu X env c l->m O ⟨c.h,l⟩ P->Ke X c l P R Q->aF b X.M A t Q c.s
noncomputable def iI (_:Cf) (a v:Bool):Prop:=v=a
inductive dQ (X:SX) (O:ax) (b:Bool) (d:Nat) (env:Env):List (RM PV)->List (Sem Value)->Prop
 |nil:dQ X O b d env [] []
 |cons {m:RM PV} {t:Sem Value} {ms:List (RM PV)} {ts:List (Sem Value)}:WE X O b d env m t (VR X)->dQ X O b d env ms ts->dQ X O b d env (m::ms) (t::ts)
inductive m4 (X:SX) (O:ax) (b:Bool) (d:Nat) (env:Env):List (RM Bool)->List Expr->Prop
 |nil:m4 X O b d env [] []
 |cons {m:RM Bool} {t:Expr} {ms:List (RM Bool)} {ts:List Expr}:WE X O b d env m (isTrue t env (eval t env)) iI->m4 X O b d env ms ts->m4 X O b d env (m::ms) (t::ts)
section
variable{α β:Type}{X:SX}{O:ax}{b:Bool}{d:Nat}{env:Env}{c c':Cf}{l:List (Option PV)}{A:bB}{pos p:Pos}
theorem cu.nx(h:cu X env c l)(N:Nx X c c'):cu X env c' l:=
 ⟨N.sr,h.locs.mono (λfa e=>N.ev.keep e id (h.frame fa).2.1) (N.mo h.sr),fun{a} fa=>
  have q:=h.frame fa
  ⟨q.1,λo=>q.2.2.elim λob r=>o.elim λk w=>q.2.1 ⟨k,N.ev.own w.1 w.2 r.1⟩,q.2.2.elim λob r=>⟨ob,N.ev.keep r.1 id q.2.1,r.2⟩⟩⟩
theorem Ke.v{P:PV->aj->Prop}{Q:Value->aq->Prop}(hq:Ke X c l P (VR X) Q)(N:Nx X c c'):Kv X c' (kH P l) Q:=λe N' r=>hq e (N.trans N') r
theorem Ke.on{P:α->aj->Prop}{R:Cf->α->β->Prop}{Q:β->aq->Prop}(hq:Ke X c l P R Q)(N:Nx X c c'):Ke X c' l P R Q:=λe N' r=>hq e (N.trans N') r
theorem WE.is{m:RM α}{t t':Sem β}{R:Cf->α->β->Prop}(e:t=t')(h:WE X O b d env m t' R):WE X O b d env m t R:=e▸h
theorem jn{t:Sem β}{R:Cf->α->β->Prop}:WE X O b d env dp t R:=λzy zy zy zy zy zy zy e zy=>e.elim
theorem vA{M:eR}{c:Bool}{Q:Bool->aq->Prop}{s:aq}(h:Q c s):aF b M A (truthy (.bool c)) Q s:=λzy zy zy zy=>h
theorem Cy(h:Q () s):aF b M A (release vs keep) Q s:=λΓ p zy zy=>by rw[Sem.wp_release];exact h
theorem aeN:WE X O b d env (Nr k) (eval (.Constant k n p) env) (VR X):=λzy zy zy zy zy hA hS e hq=>by
 induction k using Const.casesOn with
 |int i=>exact aV (wpAny_Constant_int (hq (c':=Cf.tok _ _) e (.tok hS.sr) (.int i _)))
 |str i=>exact aV (Calls.Constant_str (hq (c':=Cf.tok _ _) e (.tok hS.sr) (.str i _)))
 |bool i=>exact aP (hq e (.refl hS.sr) (.bool i))
 |none=>exact aP (hq e (.refl hS.sr) .none)
 |bytes i=>exact aV (wpAny_mkTextBytes (hq (c':=Cf.tok _ _) (cQ e).2 (.tok hS.sr) (.bytes i _ (iL.mp (cQ e).1))))
 |_=>exact e.elim
theorem aeO(eA:WE X O b d env m₁ (eval x env) (VR X))(gz:WE X O b d env m₂ (eval y env) (VR X)):WE X O b d env (ay op m₁ m₂) (eval (.BinOp x op y p) env) (VR X):=.is (arm_eval_BinOp ..) λzy zy zy zy zy hA hS e hq=>av (eA hA hS e λe dg pQ=>av (cg (gz hA (hS.nx dg) e λe bG kM=>av (cD (BX (aV (acF bG.sr (pQ.mono (bG.mo dg.sr)) kM e (hq.v (dg.trans bG)))))))))
theorem aeP(h:WE X O b d env m (eval x env) (VR X)):WE X O b d env (r5 m) (eval (.UnaryOp .USub x p) env) (VR X):=.is (arm_eval_UnaryOp ..) λzy zy zy zy zy hA hS e hq=>av (h hA hS e λe N r=>r.kI e λe=>av (cD (cg (aV (P.neg_int (gx N.sr e (hq.v N)))))))
theorem aeQ(eA:WE X O b d env m₁ (eval x env) (VR X))(gz:WE X O b d env m₂ (eval y env) (VR X)):WE X O b d env (qy m₁ m₂) (eval (.BoolOp .And [x,y] p) env) (VR X):=
 .is (arm_eval_BoolOp ..) λzy zy zy zy zy hA hS e hq=>av (m:=eval x env) (eA hA hS e λe N r=>r.HL e fun{i} e=>av (cD (av (cg (vA (by
  induction i using dD with
  |true=>exact gz hA (hS.nx N) e (hq.on N)
  |false=>exact aP (hq e N (.bool _))))))))
theorem aeR(eA:WE X O b d env m₁ (eval x env) (VR X))(gz:WE X O b d env m₂ (eval y env) (VR X)):WE X O b d env (AM m₁ m₂) (eval (.BoolOp .Or [x,y] p) env) (VR X):=
 .is (arm_eval_BoolOp ..) λzy zy zy zy zy hA hS e hq=>av (m:=eval x env) (eA hA hS e λe N r=>r.HL e fun{i} e=>av (cD (av (cg (vA (by
  induction i using dD with
  |false=>exact gz hA (hS.nx N) e (hq.on N)
  |true=>exact aP (hq e N (.bool _))))))))
theorem aeS{k:RM Bool}{m₁ m₂:RM α}{tc:Sem Bool}{vB s9:Sem β}{R:Cf->α->β->Prop}(hc:WE X O b d env k tc iI)(eA:WE X O b d env m₁ vB R)(gz:WE X O b d env m₂ s9 R):WE X O b d env (bq k m₁ m₂) (tc >>= λx=>if x=ag then vB else s9) R:=
 λzy zy zy zy zy hA hS e hq=>av (hc hA hS e fun{c' a v} e N r=>by
  cases r;induction a using dD with
  |true=>exact eA hA (hS.nx N) e (hq.on N)
  |false=>exact gz hA (hS.nx N) e (hq.on N))
theorem aeT(hc:WE X O b d env k (isTrue t env (eval t env)) iI)(eA:WE X O b d env m₁ (eval x env) (VR X))(gz:WE X O b d env m₂ (eval y env) (VR X)):WE X O b d env (bq k m₁ m₂) (eval (.IfExp t x y p) env) (VR X):= .is (arm_eval_IfExp ..) (aeS hc eA gz)
theorem aeU(X0:b7 X): ∀ {ops:List fZ} {ms:List (RM PV)} {ts:List (Sem Value)} {op:fZ} {m:RM PV} {t:Sem Value},WE X O b d env m t (VR X)->dQ X O b d env ms ts->ops.length=ts.length-> ∀ {c:Cf} {P:Bool->aj->Prop} {Q:Value->aq->Prop} {x:PV} {v:Value},bp d A->cu X env c l->VR X c x v->
  o9 x op m (ops.zip ms) O ⟨c.h,l⟩ P->Ke X c l P (λzy a v=>v= .bool a) Q->aF b X.M A (compareChain pos v (op::ops) (t::ts)) Q c.s:=fun{ops}=>by
 induction ops with
 |nil=>intro ms ts op m t h hs hl c P Q x v hA hS hv e hq;obtain rfl:=rt.mp hl.symm;exact av (m:=oW [v] t) (cg (h hA hS e fun{c₁ y u} e N r=>av (cD (BX (aV (Cj (K:=λk=>P k ⟨c₁.h,l⟩) X0.mods hA N.sr (hv.mono (N.mo hS.sr)) r e fun{k t} e=>hq (c':=c₁.tok t) e (N.trans (.tok N.sr)) rfl))))))
 |cons pb ops ih=>
  intro ms ts op m t h hs hl c P Q x v hA hS hv e hq;induction hs using dQ.casesOn with
  |nil=>exact nN rfl hl
  | @cons m' t' ms ts h' hs=>
   exact av (m:=oW [v] t) (cg (h hA hS e fun{c₁ y u} e N r=>av (cD (av (cg (aV (Cj (K:=λk=>iU (o9 y pb m' (ops.zip ms)) (ai ak) O P k ⟨c₁.h,l⟩) X0.mods hA N.sr (hv.mono (N.mo hS.sr)) r e fun{k t} e=>
    have N':=N.trans (.tok N.sr (t:=t))
    av (Cy (av (cg (vA (by
     induction k using dD with
     |true=>exact ih h' hs (nt hl) hA (hS.nx N') (r.mono .tok) e (hq.on N')
     |false=>exact aP (hq (c':=c₁.tok t) e N' rfl)))))))))))))
end
section
variable{α β:Type}{X:SX}{O:ax}{b:Bool}{d:Nat}{env:Env}{c c':Cf}{l:List (Option PV)}{A:bB}{pos p:Pos}{whole:Sem Value}
theorem aeV(X0:b7 X): ∀ {ops:List fZ} {ms:List (RM PV)} {ts:List (Sem Value)} {op:fZ} {m:RM PV} {t:Sem Value},WE X O b d env m t (VR X)->dQ X O b d env ms ts->ops.length=ts.length-> ∀ {c:Cf} {P:Bool->aj->Prop} {Q:Bool->aq->Prop} {x:PV} {v:Value},bp d A->cu X env c l->VR X c x v->
  o9 x op m (ops.zip ms) O ⟨c.h,l⟩ P->Ke X c l P iI Q->aF b X.M A (testChain pos v (op::ops) (t::ts)) Q c.s:=fun{ops}=>by
 induction ops with
 |nil=>intro ms ts op m t h hs hl c P Q x v hA hS hv e hq;obtain rfl:=rt.mp hl.symm;exact av (m:=oW [v] t) (cg (h hA hS e fun{c₁ y u} e N r=>av (cD (av (BX (aV (Cj (K:=λk=>P k ⟨c₁.h,l⟩) X0.mods hA N.sr (hv.mono (N.mo hS.sr)) r e fun{k t} e=>cg (vA (hq (c':=c₁.tok t) e (N.trans (.tok N.sr)) rfl)))))))))
 |cons pb ops ih=>
  intro ms ts op m t h hs hl c P Q x v hA hS hv e hq;induction hs using dQ.casesOn with
  |nil=>exact nN rfl hl
  | @cons m' t' ms ts h' hs=>
   exact av (m:=oW [v] t) (cg (h hA hS e fun{c₁ y u} e N r=>av (cD (av (cg (aV (Cj (K:=λk=>iU (o9 y pb m' (ops.zip ms)) (ai ak) O P k ⟨c₁.h,l⟩) X0.mods hA N.sr (hv.mono (N.mo hS.sr)) r e fun{k t} e=>
    have N':=N.trans (.tok N.sr (t:=t))
    av (Cy (av (cg (vA (by
     induction k using dD with
     |true=>exact ih h' hs (nt hl) hA (hS.nx N') (r.mono .tok) e (hq.on N')
     |false=>exact aP (hq (c':=c₁.tok t) e N' rfl)))))))))))))
theorem aeW(hc:WE X O b d env k (isTrue x env (eval x env)) iI):WE X O b d env (nQ k) (isTrue (.UnaryOp .Not x p) env whole) iI:=.is (arm_isTrue_UnaryOp ..) λzy zy zy zy zy hA hS e hq=>av (hc hA hS e λe N r=>aP (hq e N (congrArg not r)))
theorem aeX(h:m4 X O b d env ms ts):WE X O b d env (bP ms) (allTrue .And ts env) iI:=by
 induction h with
 |nil=>exact .is (arm_allTrue_nil ..) λzy zy zy zy zy hA hS e hq=>aP (hq e (.refl hS.sr) rfl)
 | @cons m t ms ts hm _ ih=>
  exact .is (arm_allTrue_cons ..) λzy zy zy zy zy hA hS e hq=>av (hm hA hS e fun{c' a v} e N r=>by
   cases r;induction a using dD with
   |true=>exact ih hA (hS.nx N) e (hq.on N)
   |false=>exact aP (hq e N rfl))
theorem aeY(h:m4 X O b d env ms ts):WE X O b d env (fQ ms) (allTrue .Or ts env) iI:=by
 induction h with
 |nil=>exact .is (arm_allTrue_nil ..) λzy zy zy zy zy hA hS e hq=>aP (hq e (.refl hS.sr) rfl)
 | @cons m t ms ts hm _ ih=>
  exact .is (arm_allTrue_cons ..) λzy zy zy zy zy hA hS e hq=>av (hm hA hS e fun{c' a v} e N r=>by
   cases r;induction a using dD with
   |false=>exact ih hA (hS.nx N) e (hq.on N)
   |true=>exact aP (hq e N rfl))
theorem aeZ{m:RM PV}{e:Expr}(hp:isTrue e env (eval e env)=(do let v <- eval e env;qi e.pos;oW [v] (truthy v)))(h:WE X O b d env m (eval e env) (VR X)):WE X O b d env (lB m) (isTrue e env (eval e env)) iI:=.is hp λzy zy zy zy zy hA hS e hq=>av (h hA hS e λe N r=>r.HL e λe=>av (cD (cg (vA (hq e N rfl)))))
theorem ae0(h:noStar e=ag):starEach (e::es) env=(ak,eval e env)::starEach es env:=by cases e <;> first|rfl|exact nB h
theorem yQ: ∀ {es:List Expr},es.all noStar=ag->backTo pos (starEach es env)=(cW es env).map λt=>(ak,t)
 |[],_=>rfl
 |e::es,h=>by have h:=bA.mp h;rw[ae0 h.1,rF];exact congrArg (_:: ·) (yQ h.2)
theorem vC(h:dQ X O b d env ms ts):WE X O b d env (et ms) (rN (ts.map λt=>(ak,t))) (aE X):=by
 induction h with
 |nil=>exactλzy zy zy zy zy hA hS e hq=>aP (hq e (.refl hS.sr) .nil)
 | @cons m t ms ts hm _ ih=>intro _ _ _ _ _ hA hS e hq;rw[gG,rN];exact av (hm hA hS e λe N r=>av (aP (av (cg (ih hA (hS.nx N) e λe N' r'=>aP (hq e (N.trans N') (.cons (r.mono (N'.mo N.sr)) r')))))))
theorem ae1(X0:b7 X)(hp:es.all noStar=ag)(h:dQ X O b d env ms (cW es env)):WE X O b d env (cA ms) (eval (.Tuple es k p) env) (VR X):=
 .is (arm_eval_Tuple ..) λzy zy zy zy zy hA hS e hq=>by
  rw[yQ hp];exact av (cD (av (vC h hA hS e fun{c' a v} e N r=>
   have hz:=iL.mp (cQ e).1;have hk: ∀ b o,c'.s.heap.get? b=aa o->(c'.s.heap.push (seqObj "tuple" v.toArray 0)).get? b=aa o:=λzy zy e=>cf _ e
   aV (wpAny_newTuple (vt (t:=c'.s.toks) X0 N.sr hk (cQ e).2 (.tup (eg _ rfl) (r.mono (Nx.mo N.sr (.kept (t:=c'.s.toks) X0 N.sr hk))) hz) (hq.v N)) (by rw[<- r.length];exact gO hz)))))
theorem ae2(hp:es.all noStar=ag)(h:dQ X O b d env ms (cW es env)):WE X O b d env (cJ ms) (eval (.List es p) env) (VR X):=.is (arm_eval_List ..) λzy zy zy zy zy hA hS e hq=>by rw[yQ hp];exact av (cD (av (vC h hA hS e fun{c' a v} e N r=>aV (wD (Cc (t:=c'.s.toks) N.sr e r (hq.v N)) (by rw[<- r.length];exact gO (iL.mp (cQ e).1))))))
theorem ae3(hs:qD i=ag)(ho:WE X O b d env mo (eval v env) (VR X))(hi:WE X O b d env mi (eval i env) (VR X)):WE X O b d env (aO mo mi) (eval (.Subscript v i p) env) (VR X):=.is (Lu ..) λzy zy zy zy zy hA hS e hq=>av (ho hA hS e λe dg pQ=>av (cg (hi hA (hS.nx dg) e λe bG kM=>av (cD (aV (acH (value:=v) hA hs bG.sr (pQ.mono (bG.mo dg.sr)) kM e (hq.v (dg.trans bG))))))))
noncomputable def yR (_:Cf) (o:Option Int) (v:Value):Prop:=IsPart v o
theorem ae4:WE X O b d env (pe ae) (wK (wO ae env)) yR:=λzy zy zy zy zy hA hS e hq=>aP (hq e (.refl hS.sr) .none)
theorem ae5(h:WE X O b d env m (eval e env) (VR X)):WE X O b d env (pe (aa m)) (wK (wO (aa e) env)) yR:=λzy zy zy zy zy hA hS e hq=>h hA hS e λe N r=>r.kI e λe=>hq e N (.int _ _)
theorem ae6{mo:RM PV}{ml mu:Option (RM PV)}{v:Expr}{lo hi:Option Expr}{q:Pos}(ho:WE X O b d env mo (eval v env) (VR X))(hl:WE X O b d env (pe ml) (wK (wO lo env)) yR)(hu:WE X O b d env (pe mu) (wK (wO hi env)) yR):
  WE X O b d env (uw mo ml mu) (eval (.Subscript v (.Slice lo hi ae q) p) env) (VR X):=
 .is (Lu ..) λzy zy zy zy zy hA hS e hq=>av (ho hA hS e λe dg pQ=>av (cg (by rw[arm_eval_Slice];exact av (hl hA (hS.nx dg) e λe bG kM=>av (cg (hu hA ((hS.nx dg).nx bG) e λe dh Iw=>av (cg (aP (aV (l8 (av (cD (aV (acK (value:=v) (lower:=lo) (upper:=hi) (p:=q) dh.sr (pQ.mono ((bG.trans dh).mo dg.sr)) kM Iw e (hq.v ((dg.trans bG).trans dh)))))) (show(3:Nat)<=_ by rw[sV];decide)))))))))))
theorem SH(h:xy o=ag)(attr:Str):attributeBase o attr env whole=whole:=by
 induction o using nF with
 |Call f es ks p=>induction f using nF with
  |Name=>induction es using cw with
   |nil=>induction ks using cw with|nil=>exact nB h|cons=>rfl
   |cons=>rfl
  |_=>rfl
 |_=>rfl
theorem ae7(X0:b7 X)(hp:xy v=ag)(hc:fm[k]?=aa attr)(h:WE X O b d env m (eval v env) (VR X)):WE X O b d env (aH X.T.gJ m k) (eval (.Attribute v attr p) env) (VR X):=.is (arm_eval_Attribute ..) λzy zy zy zy zy hA hS e hq=>by rw[SH hp];exact av (h hA hS e λe N r=>av (cD (av (cg (aV (acR (expr:=ag) X0.cls hc N.sr r e λe N' r'=>aV (wpAny_bind (wpAny_letTemporaryGo (wpAny_pure (hq e (N.trans N') r'))))))))))
end
theorem SI: ∀ {names:bg} {s:Str} {i:Nat},names.findIdx? (·.1==s)=aa i-> ∃ k,names[i]?=aa (s,k)/\names.lookup s=aa k
 |[],s,i,h=>nO h
 |(x,k)::r,s,i,h=>by
  rw[Kl] at h;rw[jN];by_cases e:x=s
  .subst e
   rw[if_pos (beq_self_eq_true _)] at h;obtain rfl:=bD h;exact⟨k,rfl,by rw[beq_self_eq_true]⟩
  .rw[if_neg λz=>e (beq_iff_eq.mp z)] at h
   rw[beq_false_of_ne λz=>e z.symm];exact(ee.mp h).elim λj q=>(SI q.1).elim λk' w=>⟨k',q.2▸w.1,w.2⟩
theorem ae8(h:Fi k=ag):k= .local\/k= .cell\/k= .free:=by cases k <;> first|exact .inl rfl|exact .inr (.inl rfl)|exact .inr (.inr rfl)|exact nB h
theorem Cz(h:nameAt names s=aa i): ∃ k,names[i]?=aa (s,k)/\names.lookup s=aa k/\(k= .local\/k= .cell\/k= .free):=by
 unfold nameAt at h;cases q:(names.lookup s).any Fi with
 |false=>rw[q] at h;exact nO h
 |true=>rw[q] at h;exact(SI h).elim λk w=>⟨k,w.1,w.2,ae8 (by rw[w.2] at q;exact q)⟩
noncomputable def yS:qw->Value
 | .len=> .builtin "len" | .range=> .type "range" | .sorted=> .builtin "sorted" | .sum=> .builtin "sum" | .list=> .type "list" | .tuple=> .type "tuple"
 | .bytes=> .type "bytes" | .bytearray=> .type "bytearray" | .int=> .type "int" | .abs=> .builtin "abs" | .max=> .builtin "max" | .min=> .builtin "min" | .set=> .type "set"
structure vD (X:SX):Prop where
 ns:X.bC.Ns jQ X.mg
 nb:X.bC.Ns rJ X.mb
 nums: ∀ {x i},X.T.Fg.lookup x=aa i-> ∃ t,X.mg x=aa (.int i t)
 defs: ∀ {x id},X.T.glob.lookup x=aa id->X.mg x=aa (.ref (X.fv id))
 ae9: ∀ {x c},Fh x=aa c->X.T.glob.lookup x=ae->X.mg x=ae/\X.mb x=aa (yS c)
structure bW (X:SX) (env:Env) (nm:bg):Prop where
 names:env.scope.names=nm
 env:HK X env
section
variable{X:SX}{O:ax}{b:Bool}{d:Nat}{env:Env}{nm:bg}{c:Cf}{l:List (Option PV)}{A:bB}{p:Pos}{x:Str}{k:jv}{v:Value}
theorem CA{t:bg}(h: ∀ p∈t,(p.1==("__debug__" :Str))=ak/\(p.1==("__classdict__" :Str))=ak)(e:t.lookup x=aa k):(x==("__debug__" :Str))=ak/\(x==("__classdict__" :Str))=ak:=by
 induction t with
 |nil=>exact nO e
 |cons p t ih=>
  rw[show(p::t).lookup x=_ from jN] at e;cases q:x==p.1 with
  |true=>exact beq_iff_eq.mp q▸h _ (.head _)
  |false=>rw[q] at e;exact ih (λp hp=>h p (.tail _ hp)) e
theorem SJ(C:bW X env nm)(hi:nameAt nm x=aa i):WE X O b d env (af i) (loadName env x) (VR X):=λA c l P Q hA hS e hq=>
 (Cz hi).elim λk w=>by
  obtain rfl:=C.names;have e0:E5 (eV l i) P ⟨c.h,l⟩:=e;cases q:eV l i with
  |none=>rw[q] at e0;exact e0.elim
  |some a=>
   rw[q] at e0;have fin: ∀ {u},VR X c a u->Q u c.s:=λr=>hq e0 (.refl hS.sr) r;refine w.2.2.elim (λz=>?_) λz=>(hS.locs.cell i x k w.1 z).elim λr t=>t.elim λu t=>(t.2.2 a q).elim λu' t'=>?_
   .subst z
    exact hS.locs.ns.elim λm t=>(t.2 i x a w.1 q).elim λu t'=>aV (wpAny_loadName_local C.env.kind w.2.1 t.1 t'.1 (fin t'.2))
   .have t1:=t'.1
    subst t1;refine z.elim (λz=>?_) λz=>?_
    .subst z;exact aV (wpAny_loadName_cell C.env.kind w.2.1 t.1 t.2.1 (fin t'.2))
    .subst z;exact aV (wpAny_loadName_free C.env.kind w.2.1 t.1 t.2.1 (fin t'.2) (CA C.env.plain w.2.1).2)
theorem afa(C:bW X env nm)(hi:nameAt nm x=aa i):WE X O b d env (af i) (eval (.Name x p) env) (VR X):=.is (arm_eval_Name ..) λA c l P Q hA hS e hq=>av (cD ((Cz hi).elim λk w=>by rw[(CA C.env.plain (C.names▸w.2.1)).1];exact SJ C hi hA hS e hq))
theorem CB(h:r7 nm x=ag):nm.lookup x=aa .globalImplicit:=beq_iff_eq.mp h
theorem SK(C:bW X env nm)(G0:vD X)(hg:r7 nm x=ag)(hv:X.mg x=aa v)(hS:cu X env c l)(hq:Q v c.s):aF b X.M A (eval (.Name x p) env) Q c.s:=by obtain rfl:=C.names;exact aV (LK C.env.kind (CB hg) (Calls.loadGlobal_global (mg:=X.mg) (by rw[C.env.globals];exact G0.ns.keeps hS.sr.static) hv hq) (CA C.env.plain (CB hg)).1)
theorem afb(C:bW X env nm)(G0:vD X)(hg:r7 nm x=ag)(hv:X.mg x=ae)(hb:X.mb x=aa v)(hS:cu X env c l)(hq:Q v c.s):aF b X.M A (eval (.Name x p) env) Q c.s:=by obtain rfl:=C.names;exact aV (LK C.env.kind (CB hg) (Calls.loadGlobal_builtin (mg:=X.mg) (mb:=X.mb) (by rw[C.env.globals];exact G0.ns.keeps hS.sr.static) hv (by rw[C.env.builtins];exact G0.nb.keeps hS.sr.static) hb hq) (CA C.env.plain (CB hg)).1)
theorem m5{α β:Type}{k:Bool}{m:RM α}{t:Sem β}{R:Cf->α->β->Prop}(h:k=ag->WE X O b d env m t R):WE X O b d env (gq k m) t R:=by
 induction k using dD with
 |true=>exact h rfl
 |false=>exact jn
theorem vE{α β γ:Type}{o:Option γ}{m:γ->RM α}{t:Sem β}{R:Cf->α->β->Prop}(h: ∀ a,o=aa a->WE X O b d env (m a) t R):WE X O b d env (jE o m) t R:=by
 induction o using jP with
 |some a=>exact h a rfl
 |none=>exact jn
theorem afc(C:bW X env nm)(G0:vD X):WE X O b d env (Fj X.T nm x) (eval (.Name x p) env) (VR X):=by
 unfold Fj;cases h:nameAt nm x with
 |some i=>exact afa C h
 |none=>exact m5 λhg=>vE λi hi=>λzy zy zy zy zy hA hS e hq=>(G0.nums hi).elim λt ht=>SK C G0 hg ht hS (hq e (.refl hS.sr) (.int i t))
end
section
variable{b:Bool}{M:eR}{A:bB}{s:aq}{ts:List (Sem Value)}
noncomputable def gA (ts:List (Sem Value)):List (Bool×Sem Value):=ts.map λt=>(ak,t)
theorem afd(h:aF b M A (rN (gA ts)) (λvs s'=>Q ⟨vs,[]⟩ s') s):aF b M A (evalArgs f ag (gA ts) []) Q s:=by
 unfold evalArgs;induction ts using cw with
 |nil=>exact av (m:=rN []) (lN h λvs s' h'=>av (aP (cg (av (aP (av (aP (aP h'))))))))
 |cons t ts=>exact av (m:=rN (gA (t::ts))) (lN h λvs s' h'=>cg (av (aP (av (aP (aP h'))))))
theorem afe:(gA ts).any (·.1)=ak:=by unfold gA;rw[List.any_map];exact Kw.mpr λzy zy=>ia
theorem aff[Decidable c](hc: ¬ c)(h:aF b M A y Q s):aF b M A (if c then x else y) Q s:=(if_neg hc).symm▸h
theorem SM{t:Sem Value}{Q:Value->aq->Prop}(h:aF b M A t Q s):aF b M A (t >>= λr=>oW [r] point >>= λzy=>pure r) Q s:=av (lN h λr lR hr=>av (cg (Qz (aP hr))))
noncomputable def ta (M:eR) (f:Value) (kp:Keeper) (s:aq):Prop:= ∀ {b A} {Q:Keeper->aq->Prop},Q kp s->aF b M A (keeperOf f) Q s
theorem SN(hlen:ts.length<=30)(m1:kp= .machine\/kp= .frame)
  (h:aF b M A (rN (gA ts)) (λvs bE=>ta M f kp bE/\aF b M A (call f (first++vs) []) Q bE) s):aF b M A (callWith pos f first (gA ts) []) Q s:=by
 unfold callWith;refine av (cg (afd (lN h λvs bE hc=>av (cD (av (hc.1 ?_))))));rw[afe];refine m1.elim (λe=>?_) λe=>?_
 .subst e;exact SM hc.2
 .subst e
  refine aff (show ¬ (gA ts).length+2*([]:List (Option Str×Sem Value)).length>30 from ic (by unfold gA;rw[aX];exact hlen)) (SM ?_);unfold callMarked;exact acp hc.2
theorem Iy{id:String}:ta M (.builtin id) .machine s:=λh=>aP h
theorem afg{id:String}:ta M (.type id) .machine s:=λh=>aP h
theorem afh(k:qw):ta M (yS k) .machine s:=by cases k <;> first|exact Iy|exact afg
theorem afi(ho:s.heap.get? a=aa o)(hd:o.data= .func fd):ta M (.ref a) .frame s:=fun{b A Q} h=>by unfold keeperOf;refine aV (wpAny_bind (l9 ho ?_));rw[hd];exact wpAny_pure h
theorem afj(h:n<30):methodCallForm n (gA ts) []=ag:=by unfold methodCallForm gA;simp only[List.all_map,List.all_nil,zm,List.isEmpty_nil,if_true,DP,rq,decide_eq_true_eq];exact⟨dS.mpr λzy zy=>rfl,h⟩
theorem method_call{o:Expr}{env:Env}{name:Str}{apos pos:Pos}{ov f:Value}{first:List Value}{n:Nat}{Q:Value->aq->Prop}{kp:Keeper}(hl:ts.length<=30)(hn:n<30)(dO:(apos.endLine==pos.line)=ag)(m1:kp= .machine\/kp= .frame)
  (hm: ∀ {pl:Sem Bool} {Q':Value×List Value->aq->Prop},Q' (f,first) s->aC M A (getMethod ov name pl) Q' (λzy zy=>False) s)
  (h:aF b M A (rN (gA ts)) (λvs bE=>ta M f kp bE/\aF b M A (call f (first++vs) []) Q bE) s):aF b M A (nu o name apos pos env ov n (gA ts) []) Q s:=by
 unfold nu;rw[afj hn];exact av (cg (aV (rK rfl (hm (yM (if_pos dO) (SN hl m1 h))))))
end
section
variable{X:SX}{O:ax}{b:Bool}{d:Nat}{env:Env}{nm:bg}{c:Cf}{l:List (Option PV)}{A:bB}{p pos:Pos}{x:Str}
noncomputable def kO (X:SX) (b:Bool) (d:Nat) (f:Value) (m:List PV->HC PV):Prop:=∀ ⦃A c xs vs K Q⦄,bp d A->SR X c->aE X c xs vs->m xs c.h K->Kv X c K Q->aF b X.M A (call f vs) Q c.s
noncomputable def td (X:SX) (f:Value) (kp:Keeper):Prop:= ∀ {s:aq},(∀ c o,X.bC.get? c=aa o->s.heap.get? c=aa o)->ta X.M f kp s
theorem te: ∀ es:List Expr,(cW es env).length=es.length
 |[]=>rfl
 |e::es=>by rw[rF];exact congrArg (·+1) (te es)
noncomputable def afk (m:List PV->HC PV) (K:PV->aj->Prop) (xs:List PV) (s:aj):Prop:=m xs s.heap (kH K s.loc)
theorem SO(hn: ∀ ⦃A c l⦄ ⦃Q:Value->aq->Prop⦄,cu X env c l->Q f c.s->aF b X.M A (eval (.Name x p) env) Q c.s)(m1:kp= .machine\/kp= .frame)(hk:td X f kp)(hc:kO X b d f m)
  (hp:es.all noStar=ag) (hlen:es.length<=30) (h:dQ X O b d env ms (cW es env)):WE X O b d env (λO s K=>et ms O s (afk m K)) (eval (.Call (.Name x p) es [] pos) env) (VR X):=
 .is (arm_eval_Call_Name' ..) λzy zy zy zy zy hA hS e hq=>av (hn hS (by rw[yQ hp];exact SN (first:=[]) (by rw[te];exact hlen) m1 (vC h hA hS e λe N r=>⟨hk N.sr.static,hc hA N.sr r e (hq.v N)⟩)))
end
section
variable{X:SX}{O:ax}{b:Bool}{d:Nat}{env:Env}{nm:bg}{c:Cf}{l:List (Option PV)}{A:bB}{p pos:Pos}{x:Str}{K:PV->PH->Prop}{Q:Value->aq->Prop}{xs:List PV}{vs:List Value}
theorem afl{ba:Bool}{P:Prop}{M:Bool->List Value->Prop}(hx:aE X c xs vs)(e:guard xs.isEmpty (guard ba P))(k:P->M ag []):M ba vs:=by
 induction hx using aE.casesOn with
 |nil=>induction ba using dD with|true=>exact k e|false=>exact e.elim
 |cons=>exact e.elim
theorem afm(X0:b7 X)(hA:bp d A)(S:SR X c)(hx:aE X c xs vs)(e:er b k xs c.h K)(hq:Kv X c K Q):aF b X.M A (call (yS k) vs) Q c.s:=by
 induction k using qw.casesOn with
 |len=>exact aV (ac9 S hx e hq)
 |range=>exact aV (ada X0 S hx e hq)
 |sorted=>exact aV (aex X0 hA S hx e hq)
 |sum=>exact aV (adb X0 hA S hx e hq)
 |list=>exact aV (aed X0 hA S hx e hq)
 |tuple=>exact aV (adg X0 S hx e hq)
 |bytes=>exact aV (ad9 X0 hA S hx e hq)
 |bytearray=>exact afl (M:=λb vs=>aF b X.M A (call (.type "bytearray") vs) Q c.s) hx e λe=>adX hA S e hq
 |int=>exact aV (adh S hx e hq)
 |abs=>exact aV (adi S hx e hq)
 |max=>exact aV (ade X0 hA S hx e hq)
 |min=>exact aV (adf X0 hA S hx e hq)
 |set=>exact aV (adj S hx e hq)
inductive ri (X:SX) (c:Cf):Option PV->Option Value->Prop
 |none:ri X c ae ae
 |some {p:PV} {v:Value}:VR X c p v->ri X c (aa p) (aa v)
noncomputable def SP (X:SX) (d:Nat) (m:Nat->HC (Option PV)):Prop:=∀ ⦃k A c K⦄ ⦃Q:Option Value->aq->Prop⦄,bp d A->SR X c->k<c.h.length->m k c.h K->(∀ {c' o r},K o c'.h->Nx X c c'->ri X c' o r->(∃ ob,c'.s.heap.get? (c.G.ad k)=aa ob/\ob.cls= .type "generator")->Q r c'.s)->aC X.M A (ko (.ref (c.G.ad k))) Q (λzy zy=>False) c.s
structure dR (X:SX) (b:Bool) (d:Nat) (O:ax):Prop where
 call: ∀ id,kO X b d (.ref (X.fv id)) (O.call id)
 ba:O.ba=b
 step:SP X d O.step
structure yT (X:SX):Prop where
 glob: ∀ {x id},X.T.glob.lookup x=aa id-> ∃ kp,(kp=Keeper.machine\/kp=Keeper.frame)/\td X (.ref (X.fv id)) kp
 afn: ∀ {c m f},nR X.T.meths c m=aa f->td X (.ref (X.fv f)) .frame
theorem afo(X0:b7 X)(G0:vD X)(KO:dR X b d O)(C:bW X env nm)(hg:r7 nm x=ag)(hc:Fh x=aa k)(hn:X.T.glob.lookup x=ae)(hp:es.all noStar=ag)(hlen:es.length<=30)(h:dQ X O b d env ms (cW es env)):
  WE X O b d env (aN k ms) (eval (.Call (.Name x p) es [] pos) env) (VR X):=
 have hv:=G0.ae9 hc hn
 SO (m:=er O.ba k) (f:=yS k) (kp:= .machine) (λzy zy zy zy hS hq=>afb C G0 hg hv.1 hv.2 hS hq) (.inl rfl) (λzy=>afh k) (λzy zy zy zy zy zy hA S hx e hq=>afm X0 hA S hx (KO.ba▸e) hq) hp hlen h
theorem afp(G0:vD X)(KF:yT X)(KO:dR X b d O)(C:bW X env nm){id:Nat}{es:List Expr}{ms:List (RM PV)}(hg:r7 nm x=ag)(hn:X.T.glob.lookup x=aa id)(hp:es.all noStar=ag)(hlen:es.length<=30)(h:dQ X O b d env ms (cW es env)):
  WE X O b d env (aU id ms) (eval (.Call (.Name x p) es [] pos) env) (VR X):=
 (KF.glob hn).elim λkp k=>SO (m:=O.call id) (f:= .ref (X.fv id)) (λzy zy zy zy hS hq=>SK C G0 hg (G0.defs hn) hS hq) k.1 k.2 (KO.call id) hp hlen h
end
theorem afq{M:eR}{A:bB}{s:aq}{a:Addr}{T id:String}{w name:Str}{m:Nat}(hm:gY[m]?=aa name)(hw:gY[m]?=aa w)(h: ∃ o,s.heap.get? a=aa o/\o.cls= .type T/\o.dict=ae)(pa:PlainAttrs T)(sl:Slot T w id)(ty:typeOf (.builtin id)=pure (.type "method_descriptor"))
  {pl:Sem Bool} {Q':Value×List Value->aq->Prop} (hq:Q' (.builtin id,[.ref a]) s):aC M A (getMethod (.ref a) name pl) Q' (λzy zy=>False) s:=
 h.elim λo q=>getMethod_builtin ⟨o,q.1,q.2.1⟩ pa (some_inj hw hm▸sl) ty (λb e=>Mh e▸⟨o,q.1,q.2.2⟩) hq
section
variable{X:SX}{O:ax}{b:Bool}{d k m:Nat}{env:Env}{c:Cf}{l:List (Option PV)}{A:bB}{pos apos:Pos}{name:Str}{o:Expr}{es:List Expr}{ms:List (RM PV)}{P:PV->aj->Prop}{Q:Value->aq->Prop}
theorem pS{id T:String}{w:Str}{kk:List PV->aj->Prop}(hA:bp d A)(hS:cu X env c l)(hm:gY[m]?=aa name)(hw:gY[m]?=aa w)(dO:(apos.endLine==pos.line)=ag)(hlen:es.length<30)(h:dQ X O b d env ms (cW es env))
  (ho: ∃ o,c.s.heap.get? (c.G.ad k)=aa o/\o.cls= .type T/\o.dict=ae) (hk:k<c.h.length) (pa:PlainAttrs T) (sl:Slot T w id) (ty:typeOf (.builtin id)=pure (.type "method_descriptor")) (e:et ms O ⟨c.h,l⟩ kk)
  (f: ∀ {c' xs vs},SR X c'->aE X c' xs vs->kk xs ⟨c'.h,l⟩->Kv X c' (kH P l) Q->aF b X.M A (call (.builtin id) (.ref (c'.G.ad k)::vs)) Q c'.s) (hq:Ke X c l P (VR X) Q):
  aF b X.M A (nu o name apos pos env (.ref (c.G.ad k)) es.length (gA (cW es env)) []) Q c.s:=
 method_call (kp:= .machine) (fY (by rw[te];exact hlen)) hlen dO (.inl rfl) (afq hm hw ho pa sl ty) (vC h hA hS e λe N r=>⟨Iy,N.ev.ad hk▸f N.sr r e (hq.v N)⟩)
theorem Iz{h:PH}{k:Nat}{P:List PV->Prop}{M:Prop}(e:gW h k P)(f: ∀ {l},h[k]?=aa (.list l)->P l->M):M:=e.elim λob q=>Ra (M:=λob=>h[k]?=aa ob->M) q.2 (λp e=>f e p) q.1
@[elab_as_elim] theorem IA {motive:Nat->Prop} (m:Nat) (n0:motive 0) (n1:motive 1) (n2:motive 2) (n3:motive 3) (n4:motive 4) (n5: ∀ n,motive (n+5)):motive m:=m.casesOn n0 λm=>m.casesOn n1 λm=>m.casesOn n2 λm=>m.casesOn n3 λm=>m.casesOn n4 n5
theorem afr(hA:bp d A)(hS:cu X env c l)(hm:gY[m]?=aa name)(dO:(apos.endLine==pos.line)=ag)(hlen:es.length<30)(h:dQ X O b d env ms (cW es env))(eh:c.h[k]?=aa (.list zs))(e:guard (mL m) (et ms O ⟨c.h,l⟩ (AO m k P)))(hq:Ke X c l P (VR X) Q): aF b X.M A (nu o name apos pos env (.ref (c.G.ad k)) es.length (gA (cW es env)) []) Q c.s:=
by
 refine(hS.sr.objs eh).mY λhl hv hz=>?_
 induction m using IA with
  |n0=>exact pS hA hS hm rfl dO hlen h ⟨_,hl,rfl,rfl⟩ (fe eh) Ex D6 type_list_append e (λS r e hq=>Iz e λeh e=>aV (aeC S eh r e hq)) hq
  |n1=>exact pS hA hS hm rfl dO hlen h ⟨_,hl,rfl,rfl⟩ (fe eh) Ex LX PySem.F.type_list_pop e (λS r e hq=>Iz e λeh e=>aV (aeE S eh r e hq)) hq
  |n2=>exact pS hA hS hm rfl dO hlen h ⟨_,hl,rfl,rfl⟩ (fe eh) Ex LV PySem.F.type_list_extend e (λS r e hq=>Iz e λeh e=>aV (aeF S eh r e hq)) hq
  |_=>exact e.elim
theorem DR.obj{es:List (PV×PV)}{a:Addr}(D:DR X c a es): ∃ o,c.s.heap.get? a=aa o/\o.cls= .type "dict" /\o.dict=ae:=D.keys.elim λzy r=>r.elim λzy r=>r.1.elim λo q=>⟨o,q.1,q.2.1.1,q.2.1.2.1⟩
theorem afs{o:aB}{P:List (PV×PV)->Prop}{M:aB->Prop}(e:oD P o)(f: ∀ {l},P l->M (.dict l)):M o:=by induction o using aB.casesOn with|dict=>exact f e|_=>exact e.elim
theorem IB{h:PH}{k:Nat}{P:List (PV×PV)->Prop}{M:Prop}(e:lk h k (oD P))(f: ∀ {l},h[k]?=aa (.dict l)->P l->M):M:=e.elim λob q=>afs (M:=λob=>h[k]?=aa ob->M) q.2 (λp e=>f e p) q.1
theorem aft(X0:b7 X)(hA:bp d A)(hS:cu X env c l)(hm:gY[m]?=aa name)(dO:(apos.endLine==pos.line)=ag)(hlen:es.length<30)(h:dQ X O b d env ms (cW es env))(eh:c.h[k]?=aa (.dict zs))(e:guard (mD m) (et ms O ⟨c.h,l⟩ (AP m k P)))(hq:Ke X c l P (VR X) Q): aF b X.M A (nu o name apos pos env (.ref (c.G.ad k)) es.length (gA (cW es env)) []) Q c.s:=
by
 refine(hS.sr.objs eh).pN λD zy=>?_
 induction m using IA with
  |n1=>exact pS hA hS hm rfl dO hlen h D.obj (fe eh) Ey LY PySem.F.type_dict_pop e (λS r e hq=>IB e λeh e=>aV (aeJ S eh r e hq)) hq
  |n3=>exact pS hA hS hm rfl dO hlen h D.obj (fe eh) Ey EA PySem.F.type_dict_get e (λS r e hq=>IB e λeh e=>aV (aeI X0 S eh r e hq)) hq
  |n4=>exact pS hA hS hm rfl dO hlen h D.obj (fe eh) Ey LS PySem.F.type_dict_setdefault e (λS r e hq=>IB e λeh e=>aV (aeM X0 hA S eh r e hq)) hq
  |_=>exact e.elim
theorem afu{o:aB}{P:List PV->Prop}{M:aB->Prop}(e:oS P o)(f: ∀ {l},P l->M (.set l)):M o:=by induction o using aB.casesOn with|set=>exact f e|_=>exact e.elim
theorem afv{h:PH}{k:Nat}{P:List PV->Prop}{M:Prop}(e:lk h k (oS P))(f: ∀ {l},h[k]?=aa (.set l)->P l->M):M:=e.elim λob q=>afu (M:=λob=>h[k]?=aa ob->M) q.2 (λp e=>f e p) q.1
theorem afw{o:aB}{P:List UInt8->Prop}{M:aB->Prop}(e:oB P o)(f: ∀ {l},P l->M (.cb l)):M o:=by induction o using aB.casesOn with|cb=>exact f e|_=>exact e.elim
theorem SQ{h:PH}{k:Nat}{P:List UInt8->Prop}{M:Prop}(e:lk h k (oB P))(f: ∀ {l},h[k]?=aa (.cb l)->P l->M):M:=e.elim λob q=>afw (M:=λob=>h[k]?=aa ob->M) q.2 (λp e=>f e p) q.1
theorem ajc(h:mS (n+6)=ag):False:=nB h
theorem afx(hA:bp d A)(hS:cu X env c l)(hm:gY[m]?=aa name)(dO:(apos.endLine==pos.line)=ag)(hlen:es.length<30)(h:dQ X O b d env ms (cW es env))(eh:c.h[k]?=aa (.set zs))(e:guard (mS m) (et ms O ⟨c.h,l⟩ (AQ m k P)))(hq:Ke X c l P (VR X) Q):
  aF b X.M A (nu o name apos pos env (.ref (c.G.ad k)) es.length (gA (cW es env)) []) Q c.s:=by
 have hm5:=beq_iff_eq.mp (cQ e).1;subst hm5;cases hS.sr.objs eh with
 |set g1 g2 g3=>exact pS hA hS hm rfl dO hlen h (g3.elim λo q=>q.elim λzy q=>q.elim λzy q=>q.elim λzy q=>⟨o,q.1,q.2.1.1,q.2.1.2.1⟩) (fe eh) PySem.F.plainAttrs_set PySem.F.slot_set_add PySem.F.type_set_add e (λS r e hq=>afv e λeh e=>aV (aeH S eh r e hq)) hq
theorem afy(hb:O.ba=b)(hA:bp d A)(hS:cu X env c l)(hm:gY[m]?=aa name)(dO:(apos.endLine==pos.line)=ag)(hlen:es.length<30)(h:dQ X O b d env ms (cW es env)){zs:List UInt8}(eh:c.h[k]?=aa (.cb zs))(e:O.ba=ag/\guard (mA m) (et ms O ⟨c.h,l⟩ (AR m k P)))(hq:Ke X c l P (VR X) Q):
  aF b X.M A (nu o name apos pos env (.ref (c.G.ad k)) es.length (gA (cW es env)) []) Q c.s:=by
 obtain rfl:b=ag:=hb.symm.trans e.1;refine(hS.sr.objs eh).Cq λg1 zy=>?_;induction m using IA with|n0=>exact pS hA hS hm rfl dO hlen h ⟨_,g1,rfl,rfl⟩ (fe eh) F.RN F.RJ F.adx e.2 (λS r e hq=>SQ e λeh e=>r.one e λh1 e=>adI hA S eh h1 e hq) hq|n2=>exact pS hA hS hm rfl dO hlen h ⟨_,g1,rfl,rfl⟩ (fe eh) F.RN F.RL F.ady e.2 (λS r e hq=>SQ e λeh e=>r.one e λh1 e=>adJ hA S eh h1 e hq) hq|_=>exact e.2.elim
end
theorem afz:gY[6]?=aa (jw "bit_length"):=rfl
section
variable{X:SX}{O:ax}{b:Bool}{d k m:Nat}{env:Env}{c:Cf}{l:List (Option PV)}{A:bB}{pos apos:Pos}{name:Str}{o:Expr}{es:List Expr}{ms:List (RM PV)}{P:PV->aj->Prop}{Q:Value->aq->Prop}{x:PV}{v:Value}
theorem afA(X0:b7 X)(KF:yT X)(KO:dR X b d O)(hA:bp d A)(hS:cu X env c l)(hm:gY[m]?=aa name)(dO:(apos.endLine==pos.line)=ag)(hlen:es.length<30)(h:dQ X O b d env ms (cW es env))(eh:c.h[k]?=aa (.inst z fs))(hf:nR X.T.meths z m=aa f)(e:et ms O ⟨c.h,l⟩ (AN f O (.ref k) P))(hq:Ke X c l P (VR X) Q):
  aF b X.M A (nu o name apos pos env (.ref (c.G.ad k)) es.length (gA (cW es env)) []) Q c.s:=
 method_call (kp:= .frame) (fY (by rw[te];exact hlen)) hlen dO (.inr rfl) (λhq=>acS X0.cls hm hS.sr eh hf hq) (vC h hA hS e λe N r=>⟨KF.afn hf N.sr.static,KO.call f hA N.sr (.cons ((VR.ref (fe eh)).mono (N.mo hS.sr)) r) e (hq.v N)⟩)
theorem afB(hA:bp d A)(hS:cu X env c l)(hm:gY[m]?=aa name)(dO:(apos.endLine==pos.line)=ag)(hlen:es.length<30)(h:dQ X O b d env ms (cW es env))(e:guard (m==6) (et ms O ⟨c.h,l⟩ (Fc a P)))(hq:Ke X c l P (VR X) Q):
  aF b X.M A (nu o name apos pos env (.int a t) es.length (gA (cW es env)) []) Q c.s:=by
 obtain rfl:=beq_iff_eq.mp (cQ e).1;exact method_call (kp:= .machine) (fY (by rw[te];exact hlen)) hlen dO (.inl rfl) (λhq=>getMethod_builtin (typeIs_int _ _ _) PySem.F.plainAttrs_int (some_inj afz hm▸PySem.F.slot_int_bit_length) PySem.F.type_int_bit_length (λzy e=>(by rcases e with⟨⟩)) hq)
  (vC h hA hS (cQ e).2 λe N r=>⟨Iy,by
   induction r using aE.casesOn with
   |nil=>exact aV (aeG N.sr (cQ e).2 (hq.v N))
   |cons=>exact nB ((cQ e).1)⟩)
theorem afC(X0:b7 X)(KF:yT X)(KO:dR X b d O)(hA:bp d A)(hS:cu X env c l)(hm:gY[m]?=aa name)(dO:(apos.endLine==pos.line)=ag)(hlen:es.length<30)(h:dQ X O b d env ms (cW es env))(hx:VR X c x v)(e:qz X.T.meths m ms O P x ⟨c.h,l⟩)(hq:Ke X c l P (VR X) Q):
  aF b X.M A (nu o name apos pos env v es.length (gA (cW es env)) []) Q c.s:=by
 induction hx using VR.casesOn with
 |int=>exact afB hA hS hm dO hlen h e hq
 |ref=>
  refine e.elim λob q=>?_;induction ob using aB.casesOn with
  |inst=>exact q.2.elim λf e=>afA X0 KF KO hA hS hm dO hlen h q.1 e.1 e.2 hq
  |list=>exact afr hA hS hm dO hlen h q.1 q.2 hq
  |dict=>exact aft X0 hA hS hm dO hlen h q.1 q.2 hq
  |set=>exact afx hA hS hm dO hlen h q.1 q.2 hq
  |cb=>exact afy KO.ba hA hS hm dO hlen h q.1 q.2 hq
  |_=>exact q.2.elim
 |_=>exact e.elim
theorem afD(X0:b7 X)(KF:yT X)(KO:dR X b d O)(hb:xy o=ag)(hm:gY[m]?=aa name)(dO:(apos.endLine==pos.line)=ag)(hp:es.all noStar=ag)(hlen:es.length<30)(ho:WE X O b d env mo (eval o env) (VR X))(h:dQ X O b d env ms (cW es env)):
  WE X O b d env (bx X.T.meths mo m ms) (eval (.Call (.Attribute o name apos) es [] pos) env) (VR X):=
 .is (arm_eval_Call ..) λzy zy zy zy zy hA hS e hq=>by rw[SH hb,yQ hp];exact av (ho hA hS e λe N r=>av (cD (afC X0 KF KO hA (hS.nx N) hm dO hlen h r e (hq.on N))))
end
noncomputable def fy (X:SX) (c:Cf) (a:Nat):Prop:=X.bC.objs.size<=a/\ ¬ c.Own a/\ ∃ ob,c.s.heap.get? a=aa ob/\ ¬ cK ob
structure di (X:SX) (env:Env) (P:Nat->Prop) (c c':Cf) (l':List (Option PV)):Prop where
 ok:cu X env c' l'
 ev:Ev P c c'
 os:c'.s.os=c.s.os
section
variable{X:SX}{b:Bool}{d:Nat}{env:Env}{nm:bg}{c c' c₁ c₂:Cf}{l l' IC rj:List (Option PV)}{A:bB}{P:Nat->Prop}{a it:Nat}{s':aq}{p:PV}{v:Value}{x:Str}{i j:Nat}
theorem fy.ns(h:fy X c a)(e:c.s.heap.get? a=aa ob): ¬ cK ob:=h.2.2.elim λyA q=>some_inj q.1 e▸q.2
theorem fy.mo(h:fy X c a)(hk:rR a c.s.heap s'.heap):Mo c (c.cL c.h s'):=⟨λe st=>hk _ _ (λz=>(z▸h).ns e st) e,λzy=>rfl,aS _⟩
theorem fy.sr(h:fy X c a)(S:SR X c)(hk:rR a c.s.heap s'.heap)(hz:X.bC.objs.size<=s'.heap.objs.size)(hg:s'.gens=c.s.gens):SR X (c.cL c.h s'):=S.other (λb=>b=a) (λe q=>hk _ _ q e) (λz=>z▸⟨h.1,h.2.1,h.ns⟩) hz hg
theorem Ev.yU(h: ∃ ob,s'.heap.get? a=aa ob)(hk:rR a c.s.heap s'.heap)(hP:P a):Ev P c (c.cL c.h s'):=⟨λe q zy=>hk _ _ (λz=>q (z▸hP)) e,λzy=>rfl,λh f zy=>⟨h,f⟩,aS _,fun{b ob} e=>(lT (b=a)).elim (λz=>z▸h) λz=>⟨ob,hk _ _ z e⟩,λzy e=>e,λzy=>rfl⟩
theorem cu.move(h:cu X env c l)(ha:fy X c a)(hk:rR a c.s.heap s'.heap)(hz:X.bC.objs.size<=s'.heap.objs.size)(hg:s'.gens=c.s.gens)(hf:cp env a-> ∃ ob,s'.heap.get? a=aa ob/\ ¬ cK ob)(hl:Mo c (c.cL c.h s')->mX X (c.cL c.h s') env l'):cu X env (c.cL c.h s') l':=⟨ha.sr h.sr hk hz hg,hl (ha.mo hk),fun{b} fb=>have q:=h.frame fb;⟨q.1,q.2.1,(lT (b=a)).elim (λz=>hf (z▸fb) |>.elim λob r=>⟨ob,z▸r.1,r.2⟩) λz=>q.2.2.elim λob r=>⟨ob,hk _ _ z r.1,r.2⟩⟩⟩
theorem Nx.toS(h:cu X env c l)(N:Nx X c c'):di X env P c c' l:=⟨h.nx N,N.ev.weaken λzy zy zy q=>q.elim,N.os⟩
theorem di.trans(x:di X env P c c₁ IC)(y:di X env P c₁ c₂ rj):di X env P c c₂ rj:=⟨y.ok,x.ev.trans y.ev,y.os.trans x.os⟩
theorem di.refl(h:cu X env c l):di X env P c c l:=⟨h,Ev.refl ..,rfl⟩
theorem di.mo(N:di X env P c c' l')(h:cu X env c l)(hP: ∀ {a},P a->cp env a):Mo c c':=N.ev.mo h.sr λp e=>fy.ns (h.frame (hP p)) e
theorem ID: ∀ {l:List (Option PV)} {i:Nat},i<l.length->eV (gk l i p) i=aa p
 |[],_,h=>(by rcases h with⟨⟩)
 |_::_,0,_=>rfl
 |_::l,i+1,h=>ID (l:=l) (Nat.lt_of_succ_lt_succ h)
theorem CC{l:List (Option PV)}{i j:Nat}(h:i≠j):eV (gk l i p) j=eV l j:=by
 induction l generalizing i j with
 |nil=>rfl
 |cons _ l ih=>
  induction i using ju with
  |zero=>induction j using ju with|zero=>exact absurd rfl h|succ=>rfl
  |succ i=>induction j using ju with|zero=>rfl|succ j=>exact ih λz=>h (congrArg _ z)
theorem SS: ∀ {l:List (Option PV)} {i:Nat},(gk l i p).length=l.length
 |[],_=>rfl
 |_::_,0=>rfl
 |_::l,i+1=>congrArg (·+1) (SS (l:=l))
theorem SU(C:HK X env)(e1:env.scope.names[i]?=aa (x,k))(e2:env.scope.names[j]?=aa (x,k')):i=j:=(Kt (l:=env.scope.names.map (·.1)) (by rw[aX];exact(dF.mp e1).1) C.nodup).mp (by rw[dG,dG,e1,e2];rfl)
theorem IF{H:Heap}{m:Str->Option Value}(h:H.Ns a m): ∃ ob,H.get? a=aa ob/\ ¬ cK ob:=h.elim λo q=>q.elim λzy q=>q.elim λzy q=>⟨o,q.1,λz=>z.2.1 _ _ q.2.1⟩
theorem IG{H:Heap}{m:Option Value}(h:H.IsCell a m): ∃ ob,H.get? a=aa ob/\ ¬ cK ob:=h.elim λo q=>⟨o,q.1,λz=>z.2.2 _ q.2⟩
theorem IH{H H':Heap}{m:Option Value}(h:H.IsCell a m)(hk: ∀ {ob},H.get? a=aa ob->H'.get? a=aa ob):H'.IsCell a m:=h.elim λo q=>⟨o,hk q.1,q.2⟩
theorem SV(h:cu X env c l)(ha:cp env a)(hs:i0 a c.s.heap s'.heap)(II: ∃ ob,s'.heap.get? a=aa ob/\ ¬ cK ob)(hg:s'.gens=c.s.gens)(ho:s'.os=c.s.os)(hP:P a)(hl:Mo c (c.cL c.h s')->mX X (c.cL c.h s') env l'):di X env P c (c.cL c.h s') l':=⟨h.move (h.frame ha) hs.extBut (II.elim λzy q=>q7 (h.frame ha).1 q.1) hg (λzy=>II) hl,.yU (II.elim λob q=>⟨ob,q.1⟩) hs.extBut hP,ho⟩
theorem S2(C:bW X env nm)(hi:nameAt nm x=aa i)(h:cu X env c l)(hv:VR X c p v)(hP: ∀ {a},a=env.locals\/env.cells.lookup x=aa a->P a){Q:Unit->aq->Prop}(hq: ∀ {s'},di X env P c (c.cL c.h s') (gk l i p)->Q () s'):
  aC X.M A (storeName env x v) Q (λzy zy=>False) c.s:=by
 obtain rfl:=C.names;refine(Cz hi).elim λk w=>?_;have S4:i<l.length:=by rw[h.locs.len];exact(dF.mp w.1).1
 have hlen:(gk l i p).length=env.scope.names.length:=SS.trans h.locs.len;have other: ∀ {j y k'} {M:Prop},env.scope.names[j]?=aa (y,k')->(i=j->k=k'->M)->(i≠j->M)->M:=λe1 f g=>(lT _).elim (λz=>f z (by subst z;exact(iM (some_inj w.1 e1)).2)) g;refine w.2.2.elim (λz=>?_) λz=>?_
 .subst z
  exact h.locs.ns.elim λm t=>wpAny_storeName_local w.2.1 t.1 (λH' hn hs=>hq (SV h (.inl rfl) hs (IF hn) rfl rfl (hP (.inl rfl)) λM=>⟨⟨_,hn,λj y u e1 e2=>other e1 (λz zy=>by
    subst z;have q:=some_inj w.1 e1;cases q;exact⟨v,if_pos rfl,some_inj (ID S4) e2▸hv.mono M⟩) λz=>(t.2 j y u e1 ((CC z).symm.trans e2)).elim λu q=>⟨u,(if_neg λr=>z (SU C.env w.1 (r▸e1))).trans q.1,q.2.mono M⟩⟩,
   λj y k' e1 e2=>other e1 (λzy r=>by subst r;exact e2.elim (λe=>Au e) (λe=>Au e)) λz=>(h.locs.cell j y k' e1 e2).elim λa q=>q.elim λu q=>⟨a,u,q.1,IH q.2.1 λe=>(hs.2 a λr=>C.env.off y (r▸q.1)).trans e,λw e=>(q.2.2 w ((CC z).symm.trans e)).elim λu q=>⟨u,q.1,q.2.mono M⟩⟩,hlen⟩)) (by rw[C.env.kind];rfl)
 .refine(h.locs.cell i x k w.1 z).elim λa t=>t.elim λu t=>?_
  have fin: ∀ {H':Heap},H'.IsCell a (aa v)->i0 a c.s.heap H'->Q () {c.s with heap:=H'}:=fun{H'} hn hs=>hq (SV h (.inr ⟨x,t.1⟩) hs (IG hn) rfl rfl (hP (.inr t.1)) λM=>
   ⟨h.locs.ns.elim λm t'=>⟨m,t'.1.elim λo q=>q.elim λes q=>q.elim λep q=>⟨o,es,ep,(hs.2 env.locals λr=>C.env.off x (r▸t.1)).trans q.1,q.2⟩,λj y u e1 e2=>other e1 (λzy r=>by subst r;exact z.elim (λe=>Au e) (λe=>Au e)) λz=>(t'.2 j y u e1 ((CC z).symm.trans e2)).elim λu q=>⟨u,q.1,q.2.mono M⟩⟩,
   λj y k' e1 e2=>other e1 (λz zy=>by
    subst z;have q:=some_inj w.1 e1;cases q;exact⟨a,_,t.1,hn,λw e=>⟨v,rfl,some_inj (ID S4) e▸hv.mono M⟩⟩) λz'=>(h.locs.cell j y k' e1 e2).elim λa' q=>q.elim λu q=>
    ⟨a',u,q.1,IH q.2.1 λe=>(hs.2 a' λr=>z' (by subst r;have r:=C.env.apart x y _ t.1 q.1;subst r;exact SU C.env w.1 e1)).trans e,λw e=>(q.2.2 w ((CC z').symm.trans e)).elim λu q=>⟨u,q.1,q.2.mono M⟩⟩,hlen⟩)
  refine z.elim (λr=>?_) λr=>?_
  .subst r;exact wpAny_storeName_cell C.env.kind w.2.1 t.1 t.2.1 λH'=>fin
  .subst r
   unfold storeName;rw[show env.kindOf x=aa .free from w.2.1,C.env.kind];exact wpAny_bind (wpAny_cellOf t.1 (wpAny_cellSet t.2.1 λH'=>fin))
end
inductive m6 (X:SX) (c:Cf):aY->iZ->Prop
 |next:m6 X c .next .next
 |brk:m6 X c .brk .brk
 |cont:m6 X c .cont .cont
 |ret {p:PV} {v:Value}:VR X c p v->m6 X c (.ret p) (.ret v)
noncomputable def Kx (X:SX) (env:Env) (c:Cf) (K:aY->aj->Prop) (Q:iZ->aq->Prop):Prop:= ∀ {c' l' f u},K f ⟨c'.h,l'⟩->di X env (cp env) c c' l'->m6 X c' f u->Q u c'.s
noncomputable def WS (X:SX) (O:ax) (b:Bool) (d:Nat) (env:Env) (m:RM aY) (t:Sem iZ):Prop:=∀ ⦃A c l K Q⦄,bp d A->cu X env c l->m O ⟨c.h,l⟩ K->Kx X env c K Q->aF b X.M A t Q c.s
noncomputable def m7 (X:SX) (O:ax) (b:Bool) (d:Nat) (env:Env) (P:Nat->Prop) (m:PV->RM aY) (t:Value->Sem Unit):Prop:=∀ ⦃A c l p v K Q⦄,bp d A->cu X env c l->VR X c p v->m p O ⟨c.h,l⟩ K->(∀ {c' l'},K .next ⟨c'.h,l'⟩->di X env P c c' l'->Q () c'.s)->aF b X.M A (t v) Q c.s
section
variable{X:SX}{O:ax}{b:Bool}{d:Nat}{env:Env}{nm:bg}{c c':Cf}{l l':List (Option PV)}{A:bB}{P:Nat->Prop}{p q:Pos}{x:Str}{i:Nat}{e t:Expr}{m:RM PV}
theorem Kx.on{K:aY->aj->Prop}{Q:iZ->aq->Prop}(hq:Kx X env c K Q)(N:di X env (cp env) c c' l'):Kx X env c' K Q:=λe N' r=>hq e (N.trans N') r
theorem WS.is{m:RM aY}{t t':Sem iZ}(e:t=t')(h:WS X O b d env m t'):WS X O b d env m t:=e▸h
theorem m8{t:Sem iZ}:WS X O b d env dp t:=λzy zy zy zy zy zy zy e zy=>e.elim
theorem vF{γ:Type}{o:Option γ}{m:γ->RM aY}{t:Sem iZ}(h: ∀ a,o=aa a->WS X O b d env (m a) t):WS X O b d env (jE o m) t:=by
 induction o using jP with
 |some a=>exact h a rfl
 |none=>exact m8
theorem vG{k:Bool}{m:RM aY}{t:Sem iZ}(h:k=ag->WS X O b d env m t):WS X O b d env (gq k m) t:=by
 induction k using dD with
 |true=>exact h rfl
 |false=>exact m8
theorem afE:WS X O b d env ao (eJ (.Pass p) env):= .is (arm_exec_Pass ..) λzy zy zy zy zy hA hS e hq=>av (cD (aP (hq e (.refl hS) .next)))
theorem afF:WS X O b d env (ai .brk) (eJ (.Break p) env):= .is (arm_exec_Break ..) λzy zy zy zy zy hA hS e hq=>av (cD (aP (hq e (.refl hS) .brk)))
theorem afG:WS X O b d env (ai .cont) (eJ (.Continue p) env):= .is (arm_exec_Continue ..) λzy zy zy zy zy hA hS e hq=>av (cD (aP (hq e (.refl hS) .cont)))
theorem afH:WS X O b d env (ai (.ret .none)) (eJ (.Return ae p) env):= .is (arm_exec_Return ..) λzy zy zy zy zy hA hS e hq=>av (cD (aP (hq e (.refl hS) (.ret .none))))
theorem afI(h:WE X O b d env m (eval e env) (VR X)):WS X O b d env (aZ m) (eJ (.Return (aa e) p) env):=.is (arm_exec_Return ..) λzy zy zy zy zy hA hS e hq=>av (cD (by rw[arm_evalOpt_some];exact av (h hA hS e λe N r=>aP (hq e (N.toS hS) (.ret r)))))
theorem afJ{c:RM Bool}{m₁ m₂:RM aY}{y z:List b9}(hc:WE X O b d env c (isTrue t env (eval t env)) iI)(eA:WS X O b d env m₁ (fO y env))(gz:WS X O b d env m₂ (fO z env)):WS X O b d env (bq c m₁ m₂) (eJ (.If t y z p) env):=
 .is (arm_exec_If ..) λzy zy zy zy zy hA hS e hq=>av (cD (av (hc hA hS e fun{c' a v} e N r=>by
  cases r;induction a using dD with
  |true=>exact eA hA (hS.nx N) e (hq.on (N.toS hS))
  |false=>exact gz hA (hS.nx N) e (hq.on (N.toS hS)))))
theorem afK:WS X O b d env ao (fO [] env):=λzy zy zy zy zy hA hS e hq=>aV (Ea (hq e (.refl hS) .next))
theorem afL(eA:WS X O b d env m₁ (eJ y env))(gz:WS X O b d env m₂ (fO r env)):WS X O b d env (ah m₁ m₂) (fO (y::r) env):=
 .is (execs_cons ..) λzy zy zy zy zy hA hS e hq=>av (eA hA hS e fun{c' l' f u} e N r=>by
  induction r using m6.casesOn with
  |next=>exact gz hA N.ok e (hq.on N)
  |brk=>exact aP (hq e N .brk)
  |cont=>exact aP (hq e N .cont)
  |ret hv=>exact aP (hq e N (.ret hv)))
theorem vH{f:b9->RM aY}(h: ∀ s,WS X O b d env (f s) (eJ s env)): ∀ l:List b9,WS X O b d env (blockOf f l) (fO l env)
 |[]=>afK
 |s::r=>afL (h s) (vH h r)
theorem S9(h:uz e=ag)(t:Option Expr)(l:Nat):swapsWith e t l env=pure ak:=by cases e <;> first|rfl|exact nB h
theorem afM(C:bW X env nm)(hn:uz e=ag)(h:WE X O b d env m (eval e env) (VR X)):WS X O b d env (bZ m) (eJ (.Expr e p) env):=.is (arm_exec_Expr ..) λzy zy zy zy zy hA hS e hq=>av (cD (kh (by unfold Ai;rw[C.env.kind];rfl) (by rw[S9 hn];exact av (aP (kh rfl (av (h hA hS e λe N r=>aV (wpAny_dropValue (hq e (N.toS hS) .next)))))))))
theorem CD(h1: ∀ a g s p,wG [t] (.ListComp a g s p) n env=pure ak)(h2: ∀ a g s p,wG [t] (.SetComp a g s p) n env=pure ak)(h3: ∀ a k g s p,wG [t] (.DictComp a k g s p) n env=pure ak):wG [t] e n env=pure ak:=by cases e <;> first|exact h1 .. |exact h2 .. |exact h3 .. |rfl
theorem Ta(h:noStar t=ag):wM (t::r) env=(ak,iQ t env)::wM r env:=by cases t <;> first|rfl|exact nB h
theorem CE{f:PV->RM aY}(hs:noStar t=ag)(h1:wG [t] e q.line env=pure ak)(h2:wH [t] e env=pure ae)(h:WE X O b d env m (eval e env) (VR X))(ht:m7 X O b d env (cp env) f (iQ t env)):
  WS X O b d env (λO s K=>m O s λv s=>f v O s K) (eJ (.Assign [t] e q) env):=
 .is (arm_exec_Assign ..) λzy zy zy zy zy hA hS e hq=>av (cD (by rw[h1,h2,Ta hs];exact av (aP (kh rfl (av (h hA hS e λe N r=>av (aP (av (m:=assignAll _ [iQ t env]) (ht (Q:=λzy s=>aF b X.M _ (pure Flow.next) _ s) hA (hS.nx N) r e λe N'=>aP (hq e ((N.toS hS).trans N') .next))))))))))
theorem Tb(C:bW X env nm)(hi:nameAt nm x=aa i)(hP: ∀ {a},a=env.locals\/env.cells.lookup x=aa a->P a):m7 X O b d env P (λv zy s K=>K .next ⟨s.heap,gk s.loc i v⟩) (wN env x):=λzy c zy zy zy zy zy hA hS hv e hq=>QA (aV (S2 C hi hS hv hP fun{s'} N=>hq (c':=c.cL c.h s') e N))
theorem CF(C:bW X env nm)(hi:nameAt nm x=aa i)(hP: ∀ {a},a=env.locals\/env.cells.lookup x=aa a->P a):m7 X O b d env P (λv zy s K=>K .next ⟨s.heap,gk s.loc i v⟩) (iQ (.Name x q) env):=λzy zy zy zy zy zy zy hA hS hv e hq=>by rw[arm_assign_Name];exact av (cD (Tb (O:=O) C hi hP hA hS hv e hq))
theorem yV{a:Nat}(h:a=env.locals\/env.cells.lookup x=aa a):cp env a:=h.imp id λz=>⟨x,z⟩
theorem afN(X0:b7 X)(hc:fm[k]?=aa attr)(h:WE X O b d env m (eval e env) (VR X)):m7 X O b d env P (λv O s K=>Ff X.T.gJ m k O K v s) (iQ (.Attribute e attr p) env):=λzy zy zy zy zy zy zy hA hS hv e hq=>by rw[arm_assign_Attribute];exact av (cg (h hA hS e λe N r=>av (cD (av (cg (aV (acV X0.cls hc N.sr r (hv.mono (N.mo hS.sr)) e λe N'=>Cy (hq e ((N.trans N').toS hS)))))))))
theorem Tc(h:WE X O b d env m (eval e env) (VR X))(hi:WE X O b d env mi (eval t env) (VR X)):m7 X O b d env P (λv O s K=>AS m mi O K v s) (iQ (.Subscript e t p) env):=λzy zy zy zy zy zy zy hA hS hv e hq=>by rw[arm_assign_Subscript];exact av (cg (h hA hS e λe N r=>av (cg (hi hA (hS.nx N) e λe bG kM=>av (cD (av (cg (aV (acN hA bG.sr (r.mono (bG.mo N.sr)) kM (hv.mono ((N.trans bG).mo hS.sr)) e λe N'=>Cy (hq e (((N.trans bG).trans N').toS hS)))))))))))
theorem afO(C:bW X env nm)(hi:nameAt nm x=aa i)(hn:uz e=ag)(h:WE X O b d env m (eval e env) (VR X)):WS X O b d env (aT i m) (eJ (.Assign [.Name x p] e q) env):=CE rfl (S9 hn (aa (.Name x p)) q.line) rfl h (CF C hi yV)
theorem afP(X0:b7 X)(hc:fm[k]?=aa attr)(ho:WE X O b d env m (eval t env) (VR X))(hv:WE X O b d env mv (eval e env) (VR X)):WS X O b d env (bK X.T.gJ m k mv) (eJ (.Assign [.Attribute t attr p] e q) env):=CE rfl (CD (λzy zy zy zy=>rfl) (λzy zy zy zy=>rfl) λzy zy zy zy zy=>rfl) rfl hv (afN X0 hc ho)
theorem afQ(ho:WE X O b d env m (eval t env) (VR X))(hi:WE X O b d env mi (eval j env) (VR X))(hv:WE X O b d env mv (eval e env) (VR X)):WS X O b d env (jD m mi mv) (eJ (.Assign [.Subscript t j p] e q) env):=CE rfl (CD (λzy zy zy zy=>rfl) (λzy zy zy zy=>rfl) λzy zy zy zy zy=>rfl) rfl hv (Tc ho hi)
end
section
variable{X:SX}{O:ax}{b:Bool}{d:Nat}{env:Env}{nm:bg}{c c':Cf}{l l':List (Option PV)}{A:bB}{P:Nat->Prop}{p q:Pos}{x:Str}{i:Nat}{e t:Expr}{m:RM PV}
theorem afR{k:RM Bool}{m:RM aY}{body:List b9}(hc:WE X O b d env k (isTrue t env (eval t env)) iI)(hb:WS X O b d env m (fO body env)):
  ∀ (n:Nat) ⦃A c l K Q⦄,bp d A->cu X env c l->xt k m O K n ⟨c.h,l⟩->Kx X env c K Q->iH b X.M A (.whileLoop t body [] env) Q c.s:=λn=>by
 induction n with
 |zero=>intro _ _ _ _ _ _ _ e;exact e.elim
 |succ n ih=>
  intro A c l K Q hA hS e hq;exact jK (qY (m:=whileTurn t body [] env) (av (hc hA hS e fun{c₁ a v} e N r=>by
   cases r;induction a using dD with
   |false=>exact av (m:=fO [] env) (aV (Ea (aP (hq e (N.toS hS) .next))))
   |true=>exact av (m:=fO body env) (hb hA (hS.nx N) e fun{c₂ rj f u} e bG r=>by
     have N':=(N.toS hS).trans bG;have again:xt k m O K n ⟨c₂.h,rj⟩->aF b X.M A (again (.whileLoop t body [] env)) (yw b X.M A Q) c₂.s:=λe=>aP ⟨rfl,rfl,ih hA bG.ok e (hq.on N')⟩;induction r using m6.casesOn with
     |next=>exact again e
     |cont=>exact again e
     |brk=>exact aP (hq e N' .next)
     |ret hv=>exact aP (hq e N' (.ret hv))))))
theorem afS{k:RM Bool}{m:RM aY}{body:List b9}(hc:WE X O b d env k (isTrue t env (eval t env)) iI)(hb:WS X O b d env m (fO body env)):WS X O b d env (qB k m) (eJ (.While t body [] p) env):=.is (arm_exec_While ..) λzy zy zy zy zy hA hS e hq=>av (cD (QC rfl (e.elim λn e=>afR hc hb n hA hS e hq)))
noncomputable def IJ:TT->PV->RM aY
 | .name i,v,_,s,K=>K .next ⟨s.heap,gk s.loc i v⟩
 | .sub o i,v,O,s,K=>AS o i O K v s
inductive jo (X:SX) (O:ax) (b:Bool) (d:Nat) (env:Env) (P:Nat->Prop):List TT->List (Value->Sem Unit)->Prop
 |nil:jo X O b d env P [] []
 |cons {m:TT} {t:Value->Sem Unit} {ms:List TT} {ts:List (Value->Sem Unit)}:m7 X O b d env P (IJ m) t->jo X O b d env P ms ts->jo X O b d env P (m::ms) (t::ts)
section
variable{ms pU:List TT}{ts Td:List (Value->Sem Unit)}
theorem jo.length(h:jo X O b d env P ms ts):ms.length=ts.length:=by
 induction h with
 |nil=>rfl
 |cons _ _ ih=>exact congrArg (·+1) ih
theorem jo.append(h:jo X O b d env P ms ts)(h':jo X O b d env P pU Td):jo X O b d env P (ms++pU) (ts++Td):=by
 induction h with
 |nil=>exact h'
 |cons a _ ih=>exact .cons a ih
theorem jo.reverse(h:jo X O b d env P ms ts):jo X O b d env P ms.reverse ts.reverse:=by
 induction h with
 |nil=>exact .nil
 |cons a _ ih=>rw[wc,wc];exact ih.append (.cons a .nil)
theorem aE.reverse(h:aE X c zs vs):aE X c zs.reverse vs.reverse:=by
 induction zs generalizing vs with
 |nil=>cases h;exact .nil
 |cons p l ih=>cases h with|cons a r=>rw[wc,wc];exact(ih r).append (.cons a .nil)
theorem Te(hP: ∀ {a},P a->cp env a)(h:jo X O b d env P ms ts): ∀ ⦃A c l zs vs⦄ ⦃K:aY->aj->Prop⦄ ⦃Q:Unit->aq->Prop⦄,bp d A->cu X env c l->aE X c zs vs->iu ms zs O ⟨c.h,l⟩ K->(∀ {c' l'},K .next ⟨c'.h,l'⟩->di X env P c c' l'->Q () c'.s)->aF b X.M A (assignInOrder ts vs) Q c.s:=by
 induction h with
 |nil=>
  intro A c l zs vs K Q hA hS hv e hq;induction hv using aE.casesOn with
  |nil=>exact aP (hq e (.refl hS))
  |cons=>exact e.elim
 | @cons m t ms ts hm _ ih=>
  intro A c l zs vs K Q hA hS hv e hq;induction hv using aE.casesOn with
  |nil=>cases m <;> exact e.elim
  | @cons z v zs vs hz hr=>
   have e':IJ m z O ⟨c.h,l⟩ (r6 (iu ms zs) O K):=by cases m <;> exact e
   exact av (m:=oW vs (t v)) (cg (hm hA hS hz e' λe N=>ih hA N.ok (hr.mono (N.mo hS hP)) e λe N'=>hq e (N.trans N')))
end
theorem Tf(X0:b7 X)(hA:bp d A)(S:SR X c){r n k:Nat}{zs:List PV}{vs:List Value}(ht:c.s.heap.get? r=aa (seqObj "tuple" vs.toArray k))(hv:aE X c zs vs)(hn:zs.length=n){Q:List Value->aq->Prop}(hq: ∀ {s'},Nx X c (c.cL c.h s')->aE X (c.cL c.h s') zs vs->Q vs s'):aF b X.M A (unpackItems (.ref r) n ae) Q c.s:=by rw[<- hn,hv.length];exact aV (wpAny_unpackItems_tuple (items:=vs.toArray) hA.handled ⟨_,ht,rfl,k,rfl⟩ λh' hk=>have N:=Nx.kept (t:=c.s.toks) X0 S λb o e=>hk b o (cq (ei e)) e;hq (s':={c.s with heap:=h'}) N (hv.mono (N.mo S)))
structure kP (X:SX) (O:ax) (b:Bool) (d:Nat) (env:Env) (P:Nat->Prop) (ts:List TT) (es:List Expr):Prop where
 run:jo X O b d env P ts ((wM es env).map (·.2))
 star:(wM es env).findIdx? (·.1)=ae
 len:(wM es env).length=es.length
theorem kP.Tg(h:kP X O b d env P ts es):ts.length=es.length:=by rw[h.run.length,aX,h.len]
theorem kP.nil:kP X O b d env P [] []:=⟨.nil,rfl,rfl⟩
theorem kP.cons{m:TT}{ts:List TT}{es:List Expr}(hs:noStar e=ag)(h:m7 X O b d env P (IJ m) (iQ e env))(r:kP X O b d env P ts es):kP X O b d env P (m::ts) (e::es):=by
 refine⟨?_,?_,?_⟩ <;> rw[Ta hs]
 .exact .cons h r.run
 .rw[Kl,r.star];rfl
 .exact congrArg (·+1) r.len
theorem Th(X0:b7 X)(hP: ∀ {a},P a->cp env a){ts:List TT}{es:List Expr}(h:kP X O b d env P ts es)(hA:bp d A)(hS:cu X env c l){n r k:Nat}{zs:List PV}{vs:List Value}(ht:c.s.heap.get? r=aa (seqObj "tuple" vs.toArray k))(hv:aE X c zs vs)(hn:zs.length=ts.length)
  {K:aY->aj->Prop} {Q:Unit->aq->Prop} (e:iu ts zs O ⟨c.h,l⟩ K) (hq: ∀ {c' l'},K .next ⟨c'.h,l'⟩->di X env P c c' l'->Q () c'.s):aF b X.M A (iQ (.Tuple es n p) env (.ref r)) Q c.s:=by
 rw[arm_assign_Tuple];refine av (cD ?_);unfold unpack;rw[h.star,h.len];exact av (cg (Tf X0 hA hS.sr ht hv (hn.trans h.Tg) fun{s'} N hv=>Te (c:=c.cL c.h s') hP h.run hA (hS.nx N) hv e λe N'=>hq e ((N.toS hS).trans N')))
end
theorem afT{α:Type}{k:Bool}{x y:α}(h:(bif k then aa x else ae)=aa y):x=y:=by
 induction k using dD with
 |true=>exact bD h
 |false=>exact nO h
theorem vI{α:Type}{n k:Nat}{f:n=k->Option α}{x:α}(h:sel ae f=aa x): ∃ c,f c=aa x:=(JK (n=k)).elim (λc=>⟨c,(dif_pos c).symm.trans h⟩) λc=>nO ((dif_neg c).symm.trans h)
theorem Ti(h:nameOf e=aa z):e= .Name z.1 z.2:=(vI h).elim λc=>wX (motive_1:=λe=> ∀ c:e.ctorIdx=23,wX (motive_1:=λzy=>Option (Str×Pos)) e c (λx p=>aa (x,p))=aa z->e= .Name z.1 z.2) e c (λx p c w=>bD w▸rfl) c
theorem afU(h:r8 e=aa es): ∃ k p,e= .Tuple es k p:=(vI h).elim λc=>Eu (motive_1:=λe=> ∀ c:e.ctorIdx=25,Eu (motive_1:=λzy=>Option (List Expr)) e c (λes k p=>aa es)=aa es-> ∃ k p,e= .Tuple es k p) e c (λes k p c w=>⟨k,p,congrArg (Expr.Tuple · k p) (bD w)⟩) c
theorem afV(h:Fl e=aa z): ∃ p,e= .Subscript z.1 z.2 p:=(vI h).elim λc=>Et (motive_1:=λe=> ∀ c:e.ctorIdx=21,Et (motive_1:=λzy=>Option (Expr×Expr)) e c (λo i p=>bif qD i then aa (o,i) else ae)=aa z-> ∃ p,e= .Subscript z.1 z.2 p) e c (λo i p c w=>⟨p,(afT w).symm▸rfl⟩) c
theorem CG(h:xx nm e=aa i): ∃ x p,e= .Name x p/\nameAt nm x=aa i:=(fk.mp h).elim λz q=>⟨z.1,z.2,Ti q.1,q.2⟩
theorem yW{α β:Type}{f:α->Option β}{M:List α->List β->Prop}(nil:M [] [])(cons: ∀ {a x as xs},f a=aa x->M as xs->M (a::as) (x::xs)): ∀ {l:List α} {r:List β},l.mapM f=aa r->M l r
 |[],r,h=>by cases h;exact nil
 |a::l,r,h=>by rw[List.mapM_cons] at h;exact(fk.mp h).elim λx q=>(fk.mp q.2).elim λxs w=>by have e:=bD w.2;subst e;exact cons q.1 (yW nil cons w.1)
theorem Tj{O:ax}{K:aY->aj->Prop}: ∀ {is:List Nat} {l:List PV} {s:aj},storeAll is l s (K .next)=iu (is.map .name) l O s K
 |[],[],_=>rfl
 |[],_::_,_=>rfl
 |_::_,[],_=>rfl
 |_::r,_::vs,_=>Tj (is:=r) (l:=vs)
theorem afW{K:aj->Prop}{is:List Nat}{l:List PV}{s:aj}(e:storeAll is l s K):l.length=is.length:=by
 induction is generalizing l s with
 |nil=>induction l using cw with|nil=>rfl|cons=>exact e.elim
 |cons _ r ih=>induction l using cw with|nil=>exact e.elim|cons _ vs=>exact congrArg (·+1) (ih e)
section
variable{X:SX}{O:ax}{b:Bool}{d:Nat}{env:Env}{nm:bg}{c c':Cf}{l l':List (Option PV)}{A:bB}{P:Nat->Prop}{p q:Pos}{x:Str}{i:Nat}{e t:Expr}{m:RM PV}
theorem IK(X0:b7 X)(C:bW X env nm)(hP: ∀ {a},P a->cp env a)(hL:P env.locals)(hN: ∀ x∈xA t,∀ {a},env.cells.lookup x=aa a->P a){tg:eW}(h:gZ nm t=aa tg):m7 X O b d env P (λv zy s K=>fR tg v s (K .next)) (iQ t env):=by
 have name: ∀ {x i q},nameAt nm x=aa i->(∀ {a},env.cells.lookup x=aa a->P a)->m7 X O b d env P (λv zy s K=>K .next ⟨s.heap,gk s.loc i v⟩) (iQ (.Name x q) env):=λhi hx=>CF C hi λz=>z.elim (λz=>z▸hL) hx;unfold gZ at h;unfold xA at hN;cases ht:r8 t with
 |none=>rw[ht] at h hN;exact(ee.mp h).elim λi q=>(CG q.1).elim λx w=>w.elim λp w=>by have e1:=w.1;have e2:=q.2;subst e1 e2;exact name w.2 (hN x (.head _))
 |some es=>rw[ht] at h hN;exact(afU ht).elim λk w=>w.elim λp w=>(ee.mp h).elim λis q=>by have e2:=q.2;subst w e2;have T:kP X O b d env P (is.map .name) es:=yW (M:=λes is=>(∀ x∈es.filterMap λe=>(nameOf e).map (·.1),∀ {a},env.cells.lookup x=aa a->P a)->kP X O b d env P (is.map .name) es) (λzy=> .nil) (fun{a x as xs} h1 ih hN=>(CG h1).elim λy w=>w.elim λp w=>by have e1:=w.1;subst e1;exact .cons rfl (name w.2 (hN y (.head _))) (ih λz hz=>hN z (.tail _ hz))) q.1 hN;exactλzy zy zy zy zy zy zy hA hS hv e hq=>hv.kT e fun{zs r vs m} e ht hl zy=>by have n:=(afW e).trans (aX (f:=TT.name)).symm;rw[Tj (O:=O)] at e;exact Th X0 hP T hA hS ht hl n e hq
theorem afX(C:bW X env nm)(ih: ∀ e,WE X O b d env (cE X.T nm e) (eval e env) (VR X)){es:List Expr}{ts:List TT}(h:es.mapM (r9 X.T nm)=aa ts):kP X O b d env (cp env) ts es:=
 yW (f:=r9 X.T nm) (M:=λes ts=>kP X O b d env (cp env) ts es) .nil (fun{e t es ts} h r=>by
  unfold r9 at h;cases hs:Fl e with
  |none=>rw[hs] at h;exact(ee.mp h).elim λi q=>(CG q.1).elim λx w=>w.elim λp w=>by have e1:=w.1;have e2:=q.2;subst e1 e2;exact .cons rfl (CF C w.2 yV) r
  |some z=>rw[hs] at h;exact(afV hs).elim λp w=>by have e2:=bD h;subst w e2;exact .cons rfl (Tc (ih _) (ih _)) r) h
theorem afY(X0:b7 X)(hT:kP X O b d env (cp env) ts es)(hs:wH [.Tuple es k p] e env=pure ae)(h:WE X O b d env m (eval e env) (VR X)):WS X O b d env (eD ak ts m) (eJ (.Assign [.Tuple es k p] e q) env):=CE rfl (CD (λzy zy zy zy=>rfl) (λzy zy zy zy=>rfl) λzy zy zy zy zy=>rfl) hs h λzy zy zy zy zy zy zy hA hS hv e hq=>hv.kT e λe ht hl zy=>Th X0 id hT hA hS ht hl (beq_iff_eq.mp (cQ e).1) (cQ e).2 hq
theorem afZ(C:bW X env nm)(hi:nameAt nm x=aa i)(h:WE X O b d env m (eval e env) (VR X)):WS X O b d env (aT i (AK (af i) m)) (eJ (.AugAssign (.Name x p) .Add e q) env):=
 .is (arm_exec_AugAssign ..) λzy zy l K zy hA hS e hq=>av (cD (av (SJ (O:=O) C hi (P:=E7 m O (xv i K)) hA hS e λe N r=>av (cg (h hA (hS.nx N) e fun{c₂ y ajd} e bG kM=>(r.mono (bG.mo N.sr)).kI e λe=>kM.kI e λe=>av (cD (av (BX (aV (wpAny_iadd_int
  (av (cD (av (QA (aV (S2 C hi ((hS.nx (N.trans bG)).nx (.tok bG.sr)) (.int _ _) yV fun{s'} N'=>aP (hq (c':=c₂.cL c₂.h s') e (((N.trans bG).trans (.tok bG.sr)).toS hS |>.trans N') .next)))))))))))))))))
end
noncomputable def oneAt (nm:bg) (line:Nat) (t:Expr):Option Str:=(nameOf t).bind λp=>if nm.lookup p.1==aa .local&&p.2.line==line then aa p.1 else ae
noncomputable def tf (nm:bg) (es:List Expr):List Str:=es.filterMap (oneAt nm ((es.head?.map (·.pos.line)).getD 0))
inductive CH (nm:bg) (es:List Expr):Bool->Option (List Str)->Prop
 |no:CH nm es ak ae
 |yes:(tf nm es).length=es.length->CH nm es ag (aa (tf nm es))
theorem Tn(hf: ∀ e,f e= !noStar e): ∀ (vs:List Expr),vs.any f= !vs.all noStar
 |[]=>rfl
 |e::r=>by rw[KS,List.all_cons,Tn hf r,Bool.not_and,hf]
theorem pV{α:Type}{k:Prop}[Decidable k]{x y z:α}{M:Prop}(h:(if k then x else y)=z)(f:k->x=z->M)(g: ¬ k->y=z->M):M:=by
 by_cases q:k
 .exact f q (by rw[if_pos q] at h;exact h)
 .exact g q (by rw[if_neg q] at h;exact h)
section
variable{X:SX}{O:ax}{b:Bool}{d:Nat}{env:Env}{nm:bg}{c c':Cf}{l l':List (Option PV)}{A:bB}{P:Nat->Prop}{p q:Pos}{x:Str}{i:Nat}{e t:Expr}{m:RM PV}{r:Bool}{es:List Expr}{k:Nat}
noncomputable def IM (env:Env) (nm:bg) (es:List Expr) (m:Sem (Option (List Str))) (r:Bool):Prop:= ∃ o,m=pure o/\CH nm es r o
theorem yX{m:Sem (Option (List Str))}(h:m=pure ae)(hr:aa ak=aa r):IM env nm es m r:=⟨ae,h,bD hr▸ .no⟩
theorem af0(C:bW X env nm){vs:List Expr}{k':Nat}{q':Pos}(h:AU nm es (.Tuple vs k' q')=aa r):IM env nm es (wH [.Tuple es k q] (.Tuple vs k' q') env) r:=by
 have hb:env.blockKind= .function:=by unfold Env.blockKind;rw[C.env.kind];rfl
 obtain rfl:=C.names;have e1:(λ(t:Expr)=>match t with| .Name id pos=>if env.kindOf id==aa .local&&pos.line==(es.head?.map (·.pos.line)).getD 0 then aa id else ae|_=>ae)=oneAt env.scope.names ((es.head?.map (·.pos.line)).getD 0):=funext λt=>by cases t <;> rfl
 have e2:(vs.any λ| .Starred .. =>ag|_=>ak)= !vs.all noStar:=Tn (λe=>by cases e <;> rfl) vs;have eq:wH [.Tuple es k q] (.Tuple vs k' q') env=(if(!(es.length==2||es.length==3)||vs.length != es.length||env.blockKind != .function)=ag then pure ae else if(vs.any λ| .Starred .. =>ag|_=>ak)=ag then pure ae else
  let ns:=es.filterMap λ(t:Expr)=>match t with| .Name id pos=>if env.kindOf id==aa .local&&pos.line==(es.head?.map (·.pos.line)).getD 0 then aa id else ae|_=>ae
  if(ns.length != es.length||ns.eraseDups.length != ns.length)=ag then pure ae else if vs.all (Ef 8)=ag then pure ae else if vs.all (Ec 8)=ag then wJ "assign.tuple-of-constant-expressions:order-of-the-stores" >>= λzy=>pure (aa ns) else pure (aa ns)):=rfl
 rw[eq,e1,e2,hb,show(Mb != Mb)=ak from rfl,zo];have h:(if(!(es.length==2||es.length==3)||vs.length != es.length)=ag then aa ak else if(!vs.all noStar)=ag then aa ak else if((tf env.scope.names es).length != es.length||(tf env.scope.names es).eraseDups.length != (tf env.scope.names es).length)=ag then aa ak else if vs.all (Ef 8)=ag then aa ak else if vs.all (Ec 8)=ag then ae else aa ag)=aa r:=h;exact pV h (λc h=>yX (if_pos c) h) λc1 h=>pV h (λc h=>yX ((if_neg c1).trans (if_pos c)) h) λc2 h=>pV h (λc h=>yX ((if_neg c1).trans ((if_neg c2).trans (if_pos c))) h) λc3 h=>pV h (λc h=>yX ((if_neg c1).trans ((if_neg c2).trans ((if_neg c3).trans (if_pos c)))) h) λc4 h=>pV h (λc h=>nO h) λc5 h=>⟨_,(if_neg c1).trans ((if_neg c2).trans ((if_neg c3).trans ((if_neg c4).trans (if_neg c5)))),bD h▸ .yes (bne_eq_false_iff_eq.mp (C8.mp (zl.mpr c3)).1)⟩
theorem af1(C:bW X env nm)(h:AU nm es e=aa r):IM env nm es (wH [.Tuple es k q] e env) r:=by cases e <;> first|exact af0 C h|exact yX rfl h
theorem af2(C:bW X env nm){line:Nat}{ts:List TT}(h:es.mapM (r9 X.T nm)=aa ts):(es.filterMap (oneAt nm line)).length=es.length->jo X O b d env (cp env) ts ((es.filterMap (oneAt nm line)).map λx=>wN env x):=
 yW (f:=r9 X.T nm) (M:=λes ts=>(es.filterMap (oneAt nm line)).length=es.length->jo X O b d env (cp env) ts ((es.filterMap (oneAt nm line)).map λx=>wN env x)) (λzy=> .nil) (fun{e t es ts} h ih hl=>by
  rw[Dr] at hl ⊢;cases ho:oneAt nm line e with
  |none=>rw[ho] at hl;exact absurd (hl▸List.length_filterMap_le ..) (DI _)
  |some x=>rw[ho] at hl;exact(fk.mp ho).elim λz w=>by have e1:=Ti w.1;subst e1;exact pV w.2 (λzy e2=>by have e2:=bD e2;subst e2;exact(ee.mp h).elim λi q=>q.2▸ .cons (Tb C q.1 yV) (ih (nt hl))) λzy e=>nO e) h
theorem af3(X0:b7 X)(C:bW X env nm)(ih: ∀ e,WE X O b d env (cE X.T nm e) (eval e env) (VR X))(ht:es.mapM (r9 X.T nm)=aa ts)(hr:AU nm es e=aa r):WS X O b d env (eD r ts (cE X.T nm e)) (eJ (.Assign [.Tuple es k p] e q) env):=
 (af1 (q:=p) (k:=k) C hr).elim λo w=>by
  have T:=afX C ih ht;have w1:=w.1;have w2:=w.2;clear w hr;induction w2 using CH.casesOn with
  |no=>exact afY X0 T w1 (ih e)
  |yes hl=>
   have hn:=af2 (O:=O) (b:=b) (d:=d) C ht hl;exact .is (arm_exec_Assign ..) λzy zy zy zy zy hA hS e hq=>av (cD (by
    rw[CD (t:= .Tuple es k p) (λzy zy zy zy=>rfl) (λzy zy zy zy=>rfl) λzy zy zy zy zy=>rfl,w1];exact av (aP (kh rfl (av (ih _ hA hS e fun{c' a v} e N r=>av (aP (av (m:=rule "assign.swapped-stores") (BY (r.kT e fun{zs a vs k} e ht hz zy=>
     have j8:=beq_iff_eq.mp (cQ e).1
     av (m:=unpackItems (.ref a) (tf nm es).length ae) (Tf X0 hA N.sr ht hz ((j8.trans T.Tg).trans hl.symm) fun{s'} N' hz=>av (m:=assignInOrder ((tf nm es).reverse.map λn=>wN env n) vs.reverse) (List.map_reverse▸Te (c:=c'.cL c'.h s') id hn.reverse hA ((hS.nx N).nx N') hz.reverse (cQ e).2 λe bG=>aP (hq e (((N.trans N').toS hS).trans bG) .next)))))))))))))
end
inductive iJ (X:SX) (c:Cf) (it:Nat):ik->Nat->Prop
 |dw {x step:Int} {m i:Nat}:IsRangeIter c.s.heap it (x+(i:Int)*step) ((m:Int)-(i:Int)) step->m<=3000000->iJ X c it (.fixed ((ar m).map λ(j:Nat)=>PV.int (x+(j:Int)*step))) i
 |tup {a:Addr} {vs:List Value} {m i:Nat} {xs:List PV}:c.s.heap.IsTupleIter it a i->c.s.heap.get? a=aa (seqObj "tuple" vs.toArray m)->aE X c xs vs->xs.length<=3000000->iJ X c it (.fixed xs) i
 |bytes {b:List UInt8} {t:Tok} {i:Nat}:EI c.s.heap it b.toArray t i->b.length<=3000000->iJ X c it (.fixed (b.map λc=>PV.int c.toNat)) i
 |lst {k i:Nat}:c.s.heap.IsListIter it (c.G.ad k) i->k<c.h.length->iJ X c it (.lst k) i
 |lL {k i ep:Nat} {o:Obj} {ents:Array jS} {xs:List PV}:c.s.heap.IsKeyIter it (c.G.ad k) i ents.size ep->k<c.h.length->c.G.fz k=aa o->o.ExactDict->o.data= .dict ents ep->aE X c xs (ents.toList.map (·.key))->xs.length<=3000000->iJ X c it (.fixed xs) i
noncomputable def af4:List String:=["enumerate","zip","dict_itemiterator","dict_reverseitemiterator","odict_iterator","itertools.zip_longest","itertools.pairwise"]
noncomputable def th (c:Cf) (it:Nat):Prop:= ∃ o T,c.s.heap.get? it=aa o/\o.cls= .type T/\af4.contains T=ak/\T≠ "tuple" /\T≠ "range"
inductive It (X:SX) (env:Env) (c₀ c:Cf) (it:Nat):ik->Nat->Prop
 |obj {src:ik} {i:Nat}:iJ X c it src i->fy X c it-> ¬ cp env it->c₀.s.heap.get? it=ae->It X env c₀ c it src i
 |gen {k i:Nat}:it=c.G.ad k->k<c.h.length->It X env c₀ c it (.gen k) i
section
variable{X:SX}{O:ax}{b:Bool}{d:Nat}{env:Env}{c c' c₀:Cf}{l l':List (Option PV)}{A:bB}{P:Nat->Prop}{it i:Nat}{src:ik}
theorem fy.next(h:fy X c it)(E:Ev P c c')(hP: ¬ P it):fy X c' it:=⟨h.1,λo=>o.elim λk w=>h.2.2.elim λob r=>h.2.1 ⟨k,E.own w.1 w.2 r.1⟩,h.2.2.elim λob r=>⟨ob,E.keep r.1 hP h.2.1,r.2⟩⟩
theorem iJ.mono(h:iJ X c it src i)(m:Mo c c')(hk: ∀ {ob},c.s.heap.get? it=aa ob->c'.s.heap.get? it=aa ob)(hz: ∀ {k ob},k<c.h.length->c.G.fz k=aa ob->c'.G.fz k=aa ob):iJ X c' it src i:=by
 induction h using iJ.casesOn with
 |dw h1 h2=>exact .dw (hk h1) h2
 |tup h1 h2 h3 hz=>exact .tup (h1.elim λo q=>⟨o,hk q.1,q.2⟩) (m.st h2 B4) (h3.mono m) hz
 |bytes h1 hz=>exact .bytes (h1.elim λo q=>⟨o,hk q.1,q.2⟩) hz
 |lst h1 h2=>exact .lst (m.ad h2▸h1.elim λo q=>⟨o,hk q.1,q.2⟩) (dj h2 m.le)
 |lL h1 h2 h3 h4 h5 h6 fc=>exact .lL (m.ad h2▸h1.elim λo q=>⟨o,hk q.1,q.2⟩) (dj h2 m.le) (hz h2 h3) h4 h5 (h6.mono m) fc
theorem It.next(h:It X env c₀ c it src i)(S:SR X c)(m:Mo c c')(E:Ev P c c')(hP: ¬ cp env it->c₀.s.heap.get? it=ae-> ¬ P it):It X env c₀ c' it src i:=by
 induction h using It.casesOn with
 |obj h1 h2 h3 h4=>exact .obj (h1.mono m (λe=>E.keep e (hP h3 h4) h2.2.1) E.fz) (h2.next E (hP h3 h4)) h3 h4
 |gen h1 h2=>exact .gen (h1.trans (E.ad h2).symm) (dj h2 E.le)
theorem iJ.cls(h:iJ X c it src i):th c it:=by
 induction h using iJ.casesOn with
 |dw h1=>exact⟨_,"range_iterator",h1,rfl,by decide⟩
 |tup h1=>exact h1.elim λo q=>⟨o,"tuple_iterator",q.1,q.2.1,by decide⟩
 |bytes h1=>exact h1.elim λo q=>⟨o,"bytes_iterator",q.1,q.2.1,by decide⟩
 |lst h1=>exact h1.elim λo q=>⟨o,"list_iterator",q.1,q.2.1,by decide⟩
 |lL h1=>exact h1.elim λo q=>⟨o,"dict_keyiterator",q.1,q.2.1,by decide⟩
theorem th.live(h:th c it): ∃ ob,c.s.heap.get? it=aa ob/\ ¬ cK ob:=h.elim λo q=>q.elim λT q=>⟨o,q.1,vn q.2.2.2 q.2.1⟩
noncomputable def Ks (X:SX) (env:Env) (c₀ c:Cf) (l:List (Option PV)) (it:Nat) (src:ik) (i:Nat) (K:Option PV->PH->Prop) (Q:Option Value->aq->Prop):Prop:=∀ {c' p v},K (aa p) c'.h->di X env (λa=>a=it/\c₀.s.heap.get? a=ae) c c' l->VR X c' p v->It X env c₀ c' it src (i+1)->th c' it->(noGen src=ag->i<3000000)->Mo c c'->Q (aa v) c'.s
noncomputable def Rest (c c':Cf) (it:Nat):Prop:=Mo c c'/\ ∀ {a:Nat} {ob:Obj},a≠it->c.s.heap.get? a=aa ob-> ¬ c.Own a->c'.s.heap.get? a=aa ob/\ ¬ c'.Own a
noncomputable def Kn (X:SX) (env:Env) (P:Nat->Prop) (c₀ c:Cf) (l:List (Option PV)) (it:Nat) (K:Option PV->PH->Prop) (Q:Option Value->aq->Prop):Prop:= ∀ {c'},K ae c'.h->di X env P c₀ c' l->Rest c c' it->Q ae c'.s
theorem yY{K:Option PV->PH->Prop}{Q:Option Value->aq->Prop}{p:PV}{v:Value}{H':Heap}{t:Nat}(hS:cu X env c l)(ha:fy X c it)(hf: ¬ cp env it)(hn:c₀.s.heap.get? it=ae)(hq:Ks X env c₀ c l it src i K Q)(e:K (aa p) c.h)(hs:i0 it c.s.heap H')
  (hi:Mo c (c.to H' t)->iJ X (c.to H' t) it src (i+1)) (hv:Mo c (c.to H' t)->VR X (c.to H' t) p v) (hb:i<3000000):Q (aa v) {c.s with heap:=H',toks:=t}:=
 have M:Mo c (c.to H' t):=ha.mo (s':={c.s with heap:=H',toks:=t}) hs.extBut;have L:=(hi M).cls;have N:cu X env (c.to H' t) l:=hS.move (s':={c.s with heap:=H',toks:=t}) ha hs.extBut (L.live.elim λob q=>q7 ha.1 q.1) rfl (λz=>(hf z).elim) λM=>hS.locs.mono (fun{a ob} fa e=>hs.extBut a ob (λz=>hf (z▸fa)) e) M
 hq (c':=c.to H' t) e ⟨N,.yU (s':={c.s with heap:=H',toks:=t}) (L.live.elim λob q=>⟨ob,q.1⟩) hs.extBut ⟨rfl,hn⟩,rfl⟩ (hv M) (.obj (hi M) ⟨ha.1,ha.2.1,L.live⟩ hf hn) L (λzy=>hb) M
theorem di.side{s':aq}(L:di X env P c₀ c l)(ha:fy X c it)(hf: ¬ cp env it)(hn:c₀.s.heap.get? it=ae)(hk:rR it c.s.heap s'.heap)(hg:s'.gens=c.s.gens)(ho:s'.os=c.s.os):di X env P c₀ (c.cL c.h s') l:=
 have ne: ∀ {a:Nat} {ob:Obj},c₀.s.heap.get? a=aa ob->a≠it:=fun{a ob} e z=>by subst z;exact nO (hn.symm.trans e)
 have fr:=L.ok.frame (.inl rfl);have N:cu X env (c.cL c.h s') l:=L.ok.move ha hk (fr.2.2.elim λob q=>q7 fr.1 (hk _ _ (λz=>hf (z▸ .inl rfl)) q.1)) hg (λz=>(hf z).elim) λM=>L.ok.locs.mono (fun{a ob} fa e=>hk a ob (λz=>hf (z▸fa)) e) M
 ⟨N,⟨λe p o=>hk _ _ (ne e) (L.ev.keep e p o),L.ev.ad,L.ev.own,L.ev.le,λe=>(L.ev.live e).elim λob q=>⟨ob,hk _ _ (ne e) q⟩,L.ev.fz,L.ev.gi⟩,ho.trans L.os⟩
theorem yZ{K:Option PV->PH->Prop}{Q:Option Value->aq->Prop}{H':Heap}(L:di X env P c₀ c l)(ha:fy X c it)(hf: ¬ cp env it)(hn:c₀.s.heap.get? it=ae)(hq:Kn X env P c₀ c l it K Q)(e:K ae c.h)(hk:rR it c.s.heap H'):Q ae {c.s with heap:=H'}:=hq (c':=c.cL c.h {c.s with heap:=H'}) e (L.side ha hf hn hk rfl rfl) ⟨ha.mo (s':={c.s with heap:=H'}) hk,λn e o=>⟨hk _ _ n e,o⟩⟩
theorem CI{α:Type}{l:List α}{x:α}(h:l[i]?=aa x):i<l.length:=(dF.mp h).1
theorem af5{x step:Int}{m:Nat}:((ar m).map λ(j:Nat)=>PV.int (x+(j:Int)*step))[i]?=if i<m then aa (PV.int (x+(i:Int)*step)) else ae:=by
 rw[dG];by_cases q:i<m
 .rw[if_pos q,JX q];rfl
 .rw[if_neg q,ry (by rw[fV];exact(au [.no (.t J0 J1)] (.l J1 J0)) q)];rfl
theorem To{x step:Int}:x+(i:Int)*step+step=x+((i+1:Nat):Int)*step:=by rw[JR,Int.add_mul,vV,show((1:Nat):Int)*step=step from vZ step]
theorem Tp(KO:dR X b d O){K:Option PV->PH->Prop}{Q:Option Value->aq->Prop}(hA:bp d A)(L:di X env P c₀ c l)(h:It X env c₀ c it src i)(e:xr src i O c.h K)(hn:Kn X env P c₀ c l it K Q)(hs:Ks X env c₀ c l it src i K Q):aC X.M A (ko (.ref it)) Q (λzy zy=>False) c.s:=by
 cases h with
 |gen h1 h2=>
  subst h1;exact KO.step hA L.ok.sr h2 e fun{c' o r} e N r g=>by
   induction r using ri.casesOn with
   |none=>exact hn e (L.trans (N.toS L.ok)) ⟨N.mo L.ok.sr,λzy e o=>⟨N.ev.keep e id o,λw=>w.elim λk w=>o ⟨k,N.ev.own w.1 w.2 e⟩⟩⟩
   |some hv=>exact hs e (N.toS L.ok) hv (.gen (N.ev.ad h2).symm (dj h2 N.ev.le)) (g.elim λob q=>⟨ob,"generator",N.ev.ad h2▸q.1,q.2,by decide⟩) nB (N.mo L.ok.sr)
 |obj h1 h2 h3 h4=>
  cases h1 with
  | @dw x step m _ h1 hm=>
   have e:K (if i<m then aa (PV.int (x+(i:Int)*step)) else ae) c.h:=af5▸e;by_cases q:i<m
   .rw[if_pos q] at e
    exact Lm h1 ((au [.t J0 J1] (.T (.n 0) (.s (.c J1) (.c J0)))) q) λH' hi eB=>yY L.ok h2 h3 h4 hs e eB (λzy=> .dw (by rw[<- To,JR,<- Int.sub_sub];exact hi) hm) (λzy=> .int _ _) (dj q hm)
   .rw[if_neg q] at e
    exact wpAny_pyNext_range_end hA.handled h1 ((au [.no (.t J0 J1)] (.L (.s (.c J1) (.c J0)) (.n 0))) q) λH' hk=>yZ L h2 h3 h4 hn e hk
  | @tup a vs m _ xs h1 ht hv hz=>
   have e:K xs[i]? c.h:=e;have hT:c.s.heap.IsTuple a vs.toArray:=⟨_,ht,rfl,_,rfl⟩;cases hx:xs[i]? with
   |none=>rw[hx] at e;exact wpAny_pyNext_tuple_end hA.handled h1 hT (by rw[kj];exact ry (hv.length▸Dn.mp hx)) λH' hk=>yZ L h2 h3 h4 hn e hk
   |some p=>rw[hx] at e;exact(hv.get hx).elim λv w=>wpAny_pyNext_tuple_item h1 hT (x:=v) (by rw[kj];exact w.1) λH' hi eB=>yY (t:=c.s.toks) L.ok h2 h3 h4 hs e eB (λM=> .tup hi (M.st ht B4) (hv.mono M) hz) (λM=>w.2.mono M) (dj (CI hx) hz)
  | @bytes bs t _ h1 hz=>
   have e:K (bs.map λc=>PV.int c.toNat)[i]? c.h:=e;rw[dG] at e;cases hx:bs[i]? with
   |none=>rw[hx] at e;exact KBw.next_end hA.handled h1 (by rw[kj];exact hx) λH' hk=>yZ L h2 h3 h4 hn e hk
   |some v=>rw[hx] at e;exact KBw.next_item h1 (c:=v) (by rw[kj];exact hx) λH' hi eB=>yY L.ok h2 h3 h4 hs e eB (λzy=> .bytes hi hz) (λzy=> .int _ _) (dj (CI hx) hz)
  | @lst k _ h1 hk=>
   refine kf L.ok.sr e fun{zs vs m} e1 hl hv hz e=>?_;cases hx:zs[i]? with
   |none=>rw[hx] at e;exact wpAny_pyNext_list_end hA.handled h1 (isList hl) (by rw[kj];exact ry (hv.length▸Dn.mp hx)) λH' hk=>yZ L h2 h3 h4 hn e hk
   |some p=>rw[hx] at e;exact(hv.get hx).elim λv w=>wpAny_pyNext_list_item h1 (isList hl) (x:=v) (by rw[kj];exact w.1) λH' hi eB=>yY (t:=c.s.toks) L.ok h2 h3 h4 hs e eB (λM=> .lst hi hk) (λM=>w.2.mono M) (dj (CI hx) (cG hz (by decide)))
  | @lL k _ ep o ents xs h1 hk hz h5 h6 hv fc=>
   have e:K xs[i]? c.h:=e;have hd:kg c.s.heap (c.G.ad k) ents ep:=⟨o,(L.ok.sr.fz hk hz).1,h5,h6⟩;cases hx:xs[i]? with
   |none=>rw[hx] at e;exact RI hA.handled h1 hd (by have w:=hv.length▸Dn.mp hx;rw[aX,vS] at w;exact JH w) λH' hk=>yZ L h2 h3 h4 hn e hk
   |some p=>rw[hx] at e;exact(hv.get hx).elim λv w=>by have w1:=w.1;rw[dG] at w1;exact(ee.mp w1).elim λen q=>RG h1 hd (e:=en) (by rw[<- zj];exact q.1) λH' hi eB=>yY (t:=c.s.toks) L.ok h2 h3 h4 hs e eB (λM=> .lL hi hk hz h5 h6 (hv.mono M) fc) (λM=>q.2▸w.2.mono M) (dj (CI hx) fc)
end
section
variable{X:SX}{O:ax}{b:Bool}{d:Nat}{env:Env}{nm:bg}{c c' c₀:Cf}{l l':List (Option PV)}{A:bB}{P:Nat->Prop}{it i k:Nat}{src:ik}{p:PV}{v:Value}{t:Expr}{pos:Pos}
theorem SR.freeze(S:SR X c)(eh:c.h[k]?=aa (.dict es)): ∃ G,Nx X c ⟨G,c.h.set k (.dy es),c.s⟩/\G.ad=c.G.ad:=by
 have hk:=fe eh;have xS: ∀ {ob},c.G.fz k=aa ob->False:=λz=>pL.fz ⟨_,eh,(λz=>z.elim)⟩ S z;have hn:(c.h.set k (.dy es)).length=c.h.length:=oF;have lt: ∀ {j},j<(c.h.set k (.dy es)).length->j<c.h.length:=λh=>hn▸h;refine(S.objs eh).pN λD hz=>D.obj.elim λo q=>⟨⟨c.G.ad,c.G.foot,c.G.gi,λj=>if j=k then aa o else c.G.fz j⟩,?_,rfl⟩;have fz: ∀ {j ob},c.G.fz j=aa ob->(if j=k then aa o else c.G.fz j)=aa ob:=fun{j ob} e=>(if_neg λz=>xS (z▸e)).trans e;have M:Mo c ⟨⟨c.G.ad,c.G.foot,c.G.gi,λj=>if j=k then aa o else c.G.fz j⟩,c.h.set k (.dy es),c.s⟩:=⟨λe zy=>e,λzy=>rfl,nr hn.symm⟩;refine⟨⟨fun{j x} e=>?_,λh=>S.ad (lt h),λh h'=>S.apart (lt h) (lt h'),λh=>S.above (lt h),λh=>S.kinds (lt h),S.static,S.old,S.bare,λh h'=>S.sR (lt h) (lt h'),λh=>S.ke (lt h),fun{j ob} h e=>?_⟩,⟨λe zy zy=>e,λzy=>rfl,λh f zy=>⟨lt h,f⟩,M.le,λe=>⟨_,e⟩,λzy=>fz,λzy=>rfl⟩,rfl⟩
 .by_cases hj:k=j
  .subst hj
   have e:(c.h.set k (.dy es))[k]?=aa x:=e;rw[qd hk] at e;exact bD e▸ .dy (D.mono M id) hz q.1 (if_pos rfl)
  .have e:(c.h.set k (.dy es))[j]?=aa x:=e
   rw[nk hj] at e;exact(S.objs e).mono ⟨rfl,S.ad (fe e),λzy q=>q,id,rfl,λzy=>rfl,fz⟩ M
 .by_cases hj:k=j
  .subst hj
   exact⟨((if_pos rfl).symm.trans e)▸q.1,_,qd hk,trivial⟩
  .have w:=S.fz (lt h) ((if_neg λz=>hj z.symm).symm.trans e)
   exact⟨w.1,w.2.elim λo r=>⟨o,(nk hj).trans r.1,r.2⟩⟩
noncomputable def Ki (X:SX) (env:Env) (c:Cf) (K:ik->PH->Prop) (Q:Value->aq->Prop):Prop:= ∀ {c' it src},K src c'.h->Nx X c c'->It X env c c' it src 0->Q (.ref it) c'.s
theorem y5{G:Gh}{h:PH}{K:ik->PH->Prop}{Q:Value->aq->Prop}(hS:cu X env c l)(N:Nx X c ⟨G,h,c.s⟩)(hq:Ki X env c K Q){o:Obj}(e:K src h)(hi:Mo ⟨G,h,c.s⟩ ⟨G,h,{c.s with heap:=c.s.heap.push o}⟩->iJ X ⟨G,h,{c.s with heap:=c.s.heap.push o}⟩ c.s.heap.objs.size src 0):Q (.ref c.s.heap.objs.size) {c.s with heap:=c.s.heap.push o}:=by have hk: ∀ {a ob},c.s.heap.get? a=aa ob->(c.s.heap.push o).get? a=aa ob:=λe=>cf _ e;have hn:=hS.sr.top;have off: ∀ {ob},c.s.heap.get? c.s.heap.objs.size=aa ob->False:=λe=>nO (hn.2.symm.trans e);have N2:Nx X ⟨G,h,c.s⟩ ⟨G,h,{c.s with heap:=c.s.heap.push o}⟩:=⟨N.sr.grown (s':={c.s with heap:=c.s.heap.push o}) hk (by show _<=(c.s.heap.push o).objs.size;rw[size_push'];exact km _) rfl,.grown (s':={c.s with heap:=c.s.heap.push o}) hk,rfl⟩;have I:=hi (N2.mo N.sr);exact hq (c':=⟨G,h,{c.s with heap:=c.s.heap.push o}⟩) e (N.trans N2) (.obj I ⟨hn.1,λw=>w.elim λj w=>(N.sr.kinds w.1 w.2).elim λob q=>off q.1,I.cls.live⟩ (λfa=>(hS.frame fa).2.2.elim λob q=>off q.1) hn.2)
theorem Tq(X0:b7 X){G:Gh}{h:PH}{es:List (PV×PV)}{K:ik->PH->Prop}{Q:Value->aq->Prop}(hS:cu X env c l)(N:Nx X c ⟨G,h,c.s⟩)(eh:h[k]?=aa (.dy es))(e:K (.fixed (es.map (·.1))) h)(hq:Ki X env c K Q):aC X.M A (pyIter (.ref (G.ad k))) Q (λzy zy=>False) c.s:=by
 cases N.sr.objs eh with
 |dy D hz h3 h4=>exact D.keys.elim λents w=>w.elim λep w=>w.1.elim λo q=>RB (N.sr.yI X0.mods (fe eh)) w.1 (y5 hS N hq e λM=> .lL ⟨_,eg _ rfl,rfl,rfl⟩ (fe eh) (some_inj q.1 h3▸h4) q.2.1 q.2.2 (w.2.mono M) (by rw[aX];exact cG hz (by decide)))
theorem Tr(X0:b7 X){K:ik->PH->Prop}{Q:Value->aq->Prop}(hS:cu X env c l)(hv:VR X c p v)(e:Fd p c.h K)(hq:Ki X env c K Q):aC X.M A (pyIter v) Q (λzy zy=>False) c.s:=by
 have R:Nx X c c:= .refl hS.sr;induction hv using VR.casesOn with
 | @dw x y s r t1 t2 t3 hr hk=>have z:=vv hk;exact Lv hr (Ig hk) (y5 hS R hq e λM=>by rw[Ie hk,cV];exact .dw (x:=x) (step:=s) (m:=(ij x y s).toNat) (i:=0) (by have q:=eg c.s.heap (o:={cls:= .type "range_iterator",data:= .fields #[rawInt x,rawInt (ij x y s),rawInt s]}) rfl;rw[vU z.1,show x+((0:Nat):Int)*s=x by rw[Df,Int.zero_mul,vW],Df,Int.sub_zero];exact q) (by have w:=z.2.1;exact(xi [.an (.L (.n 0) Q0) (.an (.L Q0 (.n 2000001)) (.e J0 J1)),pT J0 Q0,pT J1 Q1] (.l J0 (.n 3000000))) z (uT _) (uT _)))
 |tup ht hl hz=>exact D1 ⟨_,ht,rfl,_,rfl⟩ (y5 hS R hq e λM=> .tup ⟨_,eg _ rfl,rfl,rfl⟩ (M.st ht B4) (hl.mono M) (cG hz (by decide)))
 |bytes bs _ hz=>exact Mj (y5 hS R hq e λM=> .bytes ⟨_,eg _ rfl,rfl,rfl⟩ (cG hz (by decide)))
 | @ref k hk=>
  refine e.elim λob q=>?_;induction ob using aB.casesOn with
  |list zs=>exact(hS.sr.objs q.1).mY λhl zy zy=>wpAny_pyIter_list (isList hl) (y5 hS R hq q.2 λM=> .lst ⟨_,eg _ rfl,rfl,rfl⟩ hk)
  |dict es=>exact(hS.sr.freeze q.1).elim λG w=>by exact w.2▸Tq X0 hS w.1 (qd hk) q.2 hq
  |dy es=>exact Tq X0 hS R q.1 q.2 hq
  |gen f loc r=>
    have g: ∃ g,c.s.heap.IsGen (c.G.ad k) g:=by
     have go: ∀ {ob:Obj} {g:Nat},c.G.fz k=aa ob->vi ob g-> ∃ g,c.s.heap.IsGen (c.G.ad k) g:=λa q=>q.elim λnm q=>q.elim λqn q=>⟨_,_,nm,qn,(hS.sr.fz hk a).1,q⟩;cases hS.sr.objs q.1 with
     |gen h1=>induction h1 using GR.casesOn with|out _ a z=>exact go a z|fresh _ a z=>exact go a z|live _ a z=>exact go a z
    exact g.elim λg hg=>wpAny_pyIter_gen hg (hq q.2 R (.gen rfl hk))
  |_=>exact q.2.elim
 |_=>exact e.elim
noncomputable def CJ (t:Expr):Bool:=(nameOf t).isSome||(r8 t).isSome
theorem IP(h:th c it)(ht:CJ t=ag)(hQ:Q () c.s):aF b X.M A (Aa t (.ref it) v) Q c.s:=by
 induction t using nF with
 |Name=>exact aP hQ
 |Tuple=>
  induction v using o4 with
  |ref a=>
   exact h.elim λo q=>q.elim λT q=>av (m:=load it) (aV (l9 q.1 (by
    rw[q.2.1];induction o.data using t5 with
    |fields vs=>exact kh (by rw[show(["enumerate","zip","dict_itemiterator","dict_reverseitemiterator","odict_iterator","itertools.zip_longest","itertools.pairwise"]:List String).contains T=ak from q.2.2.1];rfl) (aP hQ)
    |_=>exact aP hQ)))
  |_=>exact aP hQ
 |_=>exact nB ht
theorem IQ{tg:eW}(h:gZ nm t=aa tg):CJ t=ag:=by
 unfold CJ;unfold gZ at h;cases q:r8 t with
 |some=>rw[Bool.or_comm];rfl
 |none=>rw[q] at h;exact(ee.mp h).elim λi w=>(fk.mp w.1).elim λz r=>by rw[r.1];rfl
noncomputable def Pf (env:Env) (c₀:Cf) (a:Nat):Prop:=cp env a\/c₀.s.heap.get? a=ae
theorem af6(h:Q .next s):aF b X.M A (again (.block [] env)) (yw b X.M A Q) s:=aP ⟨rfl,rfl,jK (av (m:=(fO [] env).onRaise (λx=> do noteFrame x env;theTreesLotGoes x)) (qY (aV (Ea (aP h)))))⟩
theorem af7(KO:dR X b d O){tg:eW}{m:RM aY}{body:List b9}(hk:CJ t=ag)(ht:m7 X O b d env (cp env) (λv zy s K=>fR tg v s (K .next)) (iQ t env))(hb:WS X O b d env m (fO body env)):
  ∀ (n i:Nat) ⦃A c l⦄ ⦃K:aY->aj->Prop⦄ ⦃Q:iZ->aq->Prop⦄,bp d A->di X env (Pf env c₀) c₀ c l->It X env c₀ c it src i->qA src tg m O K n i ⟨c.h,l⟩->(∀ {c' l' f u},K f ⟨c'.h,l'⟩->di X env (Pf env c₀) c₀ c' l'->m6 X c' f u->Q u c'.s)->iH b X.M A (.forLoop t (.ref it) body [] env) Q c.s:=λn=>by
 induction n with
 |zero=>intro _ _ _ _ _ _ _ _ _ e;exact e.elim
 |succ n ih=>
  intro i A c l K Q hA L hI e hq;exact jK (qY (m:=forTurn t (.ref it) body [] env) (av (cD (av (qY (aV
   (Tp KO hA L hI e (λe N zy=>af6 (hq e N .next)) fun{c₁ p v} e N hv IS hL zy zy=>
    av (m:=Aa t (.ref it) v) (IP hL hk (av (m:=iQ t env v) (ht (K:=λzy s=>fE m O (Fe K (qA src tg m O K n (i+1))) s) hA N.ok hv e λe bG=>av (m:=fO body env) (hb hA bG.ok e fun{eN Ts f u} e dh r=>by
     have gB:=bG.trans dh;have L':di X env (Pf env c₀) c₀ eN Ts:=(L.trans ⟨N.ok,N.ev.weaken λa ob zy q=> .inr q.2,N.os⟩).trans ⟨gB.ok,gB.ev.weaken λa ob zy q=> .inl q,gB.os⟩;have again:qA src tg m O K n (i+1) ⟨eN.h,Ts⟩->aF b X.M A (again (.forLoop t (.ref it) body [] env)) (yw b X.M A Q) eN.s:=λe=>aP ⟨rfl,rfl,ih (i+1) hA L' (IS.next N.ok.sr (gB.mo N.ok id) gB.ev λh zy=>h) e hq⟩;induction r using m6.casesOn with
     |next=>exact again e
     |cont=>exact again e
     |brk=>exact aP (hq e L' .next)
     |ret hv=>exact aP (hq e L' (.ret hv)))))))))))))
theorem IT(h:qC e=ag)(x:Value):foldedSetIterable e env x=pure x:=by cases e <;> first|rfl|exact nB h
theorem af8(X0:b7 X)(KO:dR X b d O)(C:bW X env nm){e:Expr}{body:List b9}{tg:eW}{ms:RM PV}{m:RM aY}(hs:qC e=ag)(hi:WE X O b d env ms (eval e env) (VR X))(lS:gZ nm t=aa tg)(hb:WS X O b d env m (fO body env)):
  WS X O b d env (cN ms tg m) (eJ (.For t e body [] pos) env):=
 .is (arm_exec_For ..) λzy zy zy zy zy hA hS e hq=>av (cD (av (hi hA hS e fun{c₁ a v} e N r=>by rw[IT hs];exact av (aP (av (cD (av (cg (aV (Tr X0 (hS.nx N) r e fun{c₂ it src} e bG I=>QC rfl (e.elim λn e=>af7 KO (IQ lS) (IK X0 C id (.inl rfl) (λx zy {a} h=> .inr ⟨x,h⟩) lS) hb n 0 hA (bG.toS (hS.nx N)) I e λe dh r=>hq e ((N.toS hS).trans ⟨dh.ok,dh.ev.weaken λa ob e q=>q.elim id λz=>(nO (z.symm.trans e)),dh.os⟩) r)))))))))))
end
section
variable{α:Type}{x y:Str}{v:α}{l:List (Str×α)}{names r:bg}{k:jv}{env:Env}{acc:List (Str×Addr)}{n:Nat}{a:Addr}
theorem kQ:((x,v)::l).lookup x=aa v:=by rw[jN,beq_self_eq_true]
theorem ki(h:x≠y):((y,v)::l).lookup x=l.lookup x:=by rw[jN,beq_false_of_ne h]
theorem lookup_mem{l:List (Str×α)}(h:l.lookup x=aa v):(x,v)∈l:=by
 induction l with
 |nil=>exact nO h
 |cons p l ih=>
  by_cases e:x=p.1
  .subst e;exact some_inj kQ h▸ .head _
  .exact .tail _ (ih ((ki e).symm.trans h))
theorem mem_lookup{l:List (Str×α)}(hn:(l.map (·.1)).Nodup)(h:(x,v)∈l):l.lookup x=aa v:=by
 induction l with
 |nil=>exact absurd h oE
 |cons p l ih=>
  by_cases e:(x,v)=p
  .exact e▸kQ
  .have h':=(gH.mp h).resolve_left e
   have hn:=lV.mp hn;exact(ki λz=>hn.1 (bX.mpr ⟨_,h',z⟩)).trans (ih hn.2 h')
noncomputable def ti (env:Env):List (Str×jv)->List (Str×Addr)->List (Str×Addr):=oJ id λp zy ih acc=>ih (if p.2== .free then(p.1,(env.cells.lookup p.1).getD 0)::acc else acc)
theorem Tt{names:bg}{acc:List (Str×Addr)}(h:(x,jU)∉names):(ti env names acc).lookup x=acc.lookup x:=by
 induction names generalizing acc with
 |nil=>rfl
 |cons p r ih=>
  refine(ih (acc:=if p.2== .free then(p.1,(env.cells.lookup p.1).getD 0)::acc else acc) λz=>h (.tail _ z)).trans ?_;by_cases q:(p.2== .free)=ag
  .rw[if_pos q];exact ki λe=>h (e▸beq_iff_eq.mp q▸ .head _)
  .rw[if_neg q]
theorem Tu{names:bg}{acc:List (Str×Addr)}(h:(x,jU)∈names):(ti env names acc).lookup x=aa ((env.cells.lookup x).getD 0):=by
 induction names generalizing acc with
 |nil=>cases h
 |cons p r ih=>
  by_cases q:(x,jU)∈r
  .exact ih q
  .exact(gH.mp h).resolve_right q▸(Tt q).trans kQ
theorem af9(f:Str×jv->List (Str×Addr)->Sem (ForInStep (List (Str×Addr))))(hf: ∀ n k cs,f (n,k) cs=if k== .free then(do let a <- cellOf env n;pure (.yield ((n,a)::cs))) else pure (.yield cs)):
  ∀ {names:bg} {acc:List (Str×Addr)},(∀ x,(x,jU)∈names-> ∃ c,env.cells.lookup x=aa c)->forIn names acc f=(pure (ti env names acc):Sem _):=fun{names acc} h=>by
 induction names generalizing acc with
 |nil=>exact Dz ..
 |cons p r ih=>
  have ih:=λacc=>ih (acc:=acc) λx hx=>h x (.tail _ hx);rw[zL,hf];by_cases q:(p.2== .free)=ag
  .rw[if_pos q]
   exact(h p.1 (beq_iff_eq.mp q▸ .head _)).elim λc e=>by unfold cellOf;rw[e];exact(ih _).trans (by show _=(pure (ti env r (if _ then _ else _)):Sem _);rw[if_pos q,e];rfl)
  .rw[if_neg q]
   exact(ih _).trans (by show _=(pure (ti env r (if _ then _ else _)):Sem _);rw[if_neg q])
theorem aga(h: ∀ x,(x,jU)∈scope.names-> ∃ c,env.cells.lookup x=aa c):closureFor scope env=pure (ti env scope.names []):=by unfold closureFor;exact(congrArg (λm=>m >>= λcs=>pure cs) (af9 (acc:=[]) _ (λn k cs=>by cases k <;> rfl) h)).trans rfl
theorem CK: ∀ (names:bg) (n:Nat) (acc:List (Str×Addr)),ig n names acc=ig n names []++acc
 |[],_,_=>rfl
 |(x,k)::r,n,acc=>by
  unfold ig;by_cases q:(k== .cell)=ag
  .rw[if_pos q,if_pos q,CK r (n+1) ((x,n)::acc),CK r (n+1) [(x,n)],eH];rfl
  .rw[if_neg q,if_neg q];exact CK r n acc
theorem y6: ∀ {names:bg} {n:Nat} {acc:List (Str×Addr)},(x,a)∈ig n names acc->(x,a)∈acc\/(x,t7)∈names/\n<=a
 |[],_,_,h=> .inl h
 |(y,k)::r,n,acc,h=>by
  unfold ig at h;by_cases q:(k== .cell)=ag
  .rw[if_pos q] at h
   exact(y6 h).elim (λz=>(gH.mp z).elim (λe=> .inr (by cases e;exact⟨beq_iff_eq.mp q▸ .head _,aS _⟩)) .inl) λz=> .inr ⟨.tail _ z.1,tJ z.2⟩
  .rw[if_neg q] at h
   exact(y6 h).imp id λz=>⟨.tail _ z.1,z.2⟩
theorem cellsFrom_some: ∀ {names:bg} {n:Nat} {acc:List (Str×Addr)},(x,t7)∈names\/(∃ a,acc.lookup x=aa a)-> ∃ a,(ig n names acc).lookup x=aa a
 |[],_,_,h=>h.elim (λz=>(by rcases z with⟨⟩)) id
 |(y,k)::r,n,acc,h=>by
  unfold ig;by_cases q:(k== .cell)=ag
  .rw[if_pos q]
   exact cellsFrom_some ((lT (x=y)).elim (λe=> .inr ⟨n,e▸kQ⟩) λe=>h.imp (λz=>(gH.mp z).resolve_left λw=>e (congrArg (·.1) w)) λz=>z.elim λa z=>⟨a,(ki e).trans z⟩)
  .rw[if_neg q]
   exact cellsFrom_some (h.imp (λz=>(gH.mp z).resolve_left λw=>q (by cases w;rfl)) id)
theorem Tv{l:List (Str×Addr)}(h:l.Pairwise λx y=>x.2≠y.2)(h1:(x,a)∈l)(h2:(y,a)∈l):x=y:=by
 induction l with
 |nil=>exact absurd h1 oE
 |cons _ l ih=>have h:=zG.mp h;exact(gH.mp h1).elim (λe=>(gH.mp h2).elim (λe'=>congrArg (·.1) (e.trans e'.symm)) λe'=>absurd (congrArg (·.2) e).symm (h.1 _ e')) λe=>(gH.mp h2).elim (λe'=>absurd (congrArg (·.2) e').symm (h.1 _ e)) λe'=>ih h.2 e e'
theorem IU{H:Heap}{names:bg}:CellsOk (pushCells (H.push {cls:= .type "dict",data:= .dict #[]}) names) (H.objs.size+1) (ig (H.objs.size+1) names []):=by have ok:=cellsFrom_ok names (H.push {cls:= .type "dict",data:= .dict #[]}) (H.objs.size+1) [] ⟨λzy zy hm=>((by rcases hm with⟨⟩)),zN⟩ (by rw[t6];exact aS _);rw[t6] at ok;exact ok
end
section
variable{b:Bool}{M:eR}{A:bB}{s:aq}{env:Env}
theorem agb{α:Type}{m:Sem α}{Q:Except Value α->aq->Prop}(h:aF b M A m (λa s'=>Q (.ok a) s') s):aF b M A m.attempt Q s:=λΓ p bQ hc=>by rw[Sem.wp_attempt];exact o3 M Γ m (λzy zy zy h=>h) (λzy zy zy h=>h.elim) p s (h Γ p bQ hc)
theorem agc{scope:ll}{g:Addr}{cl:List (Str×Addr)}{qual:Str}{Q:Env->aq->Prop}
  (h:Q {scope,locals:=s.heap.objs.size,globals:=g,cells:=ig (s.heap.objs.size+1) scope.names []++cl,qual,func:=ae,code:=env.code,frame:=env.frame,builtins:=env.builtins} {s with heap:=pushCells (s.heap.push {cls:= .type "dict",data:= .dict #[]}) scope.names}):aC M A (Ad scope g cl [] qual ae .none (aa env)) Q (λzy zy=>False) s:=by
 simp only[Ad,Option.isSome_some,if_true];refine wpAny_bind (wpAny_alloc ?_);refine wpAny_bind (wpAny_layCells _ (λname kind cells=>by cases hkc:kind==t7 <;> rfl) _ _ _ _ ?_);rw[CK];rw[show({s with heap:=s.heap.push {cls:= .type "dict",data:= .dict #[]}}:aq).heap.objs.size=s.heap.objs.size+1 from t6 ..];refine wpAny_bind ?_;rw[Dz];exact wpAny_pure (wpAny_pure h)
noncomputable def Tw (b:Bool) (M:eR) (A:bB) (use:Option (Value->Sem Unit)) (Q:Value->aq->Prop) (acc:Value) (C:Addr) (s':aq):Prop:=
 match use with
 |none=> ∃ m,s'.heap.Ns C m/\ ∀ h',i0 C s'.heap h'->(∃ m',h'.Ns C m')->Q acc {s' with heap:=h'}
 |some u=>aF b M A (u acc) (λzy m3=> ∃ m,m3.heap.Ns C m/\ ∀ h',i0 C m3.heap h'->(∃ m',h'.Ns C m')->Q .none {m3 with heap:=h'}) s'
theorem agd{e:Expr}{scope:ll}{pos:Pos}{Tx first:Sem Value}{g:Eg}{gs:List Eg}{cl:List (Str×Addr)}{use:Option (Value->Sem Unit)}
  {Q:Value->aq->Prop} (iV:clausesOf e=g::gs) (hs: ∀ x,foldedSetIterable g.iter env x=pure x) (age:closureFor scope env=pure cl)
  (Tz:scope.kind= .function) (hnames: ∀ x∈scope.names,x.2= .local->scope.names.lookup x.1=aa .local)
  (h:aF b M A first (λx bE=>aF b M A (pyIter x) (λit lR=>aF b M A Tx (λacc vJ=>aF b M A (Ad scope env.globals cl [] env.qual ae .none (aa env)) (λcenv TA=>iH b M A (.compStart e 0 it acc {cenv with scope:=oX scope env}) (λzy s'=>Tw b M A use Q acc cenv.locals s') TA) vJ) lR) bE) s):
  aF b M A (Af e scope env pos Tx ak first use) Q s:=by
 unfold Af;rw[age,iV];have agf: ∀ {α:Type} {t:Sem α} {a:α} {Q:α->aq->Prop} {s:aq},t=pure a->Q a s->aF b M A t Q s:=λe h=>by subst e;exact aP h
 have agg: ∀ {α:Type} {c:Prop} [Decidable c] {pos:Pos} {k:PUnit->Sem α} {Q:α->aq->Prop} {s:aq},aF b M A (k ()) Q s->aF b M A (if c then(qi pos >>= k) else k ()) Q s:=λh=>by
  split
  .exact av (cD h)
  .exact h
 refine av (lN h λx bE eA=>av (cD (av (agf (hs x) (av (cg (lN eA λit lR gz=>agg (av (lN gz λacc vJ IV=>av (aP (av (lN IV λcenv TA agh=>?_))))))))))));dsimp only;have hv: ∀ x∈(scope.names.filter λx=>(x.2== .local||x.2== .cell)&&x.1 != (".0" :Str)).reverse,x.2= .local-> Env.kindOf {cenv with scope:=oX scope env} x.1=aa .local:=λx hx hl=>lookup_relabel_local (hnames x (tF.mp (List.mem_reverse.mp hx)).1 hl);have dN: ∀ x∈(scope.names.filter λx=>(x.2== .local||x.2== .cell)&&x.1 != (".0" :Str)).reverse.drop 1++(scope.names.filter λx=>(x.2== .local||x.2== .cell)&&x.1 != (".0" :Str)).reverse.take 1,
   x.2= .local->Env.kindOf {cenv with scope:=oX scope env} x.1=aa .local:=λx hx hl=>by
  rcases fX.mp hx with h1|h1
  .exact hv x (JW h1) hl
  .exact hv x (zE h1) hl
 refine cg (av (agb (cg (QB rfl (acq agh λr s' hr=>?_)))));induction use using jP with
 |none=>obtain⟨m,hn,hr⟩:=hr;exact av (cg (aV (wpAny_comp_letGo (cenv:={cenv with scope:=oX scope env}) Tz _ s' m hv hn λh' m' IW eB=>aP (hr h' eB ⟨m',IW⟩))))
 |some u=>refine av (BY (av (cg (lN hr λzy m3 jf=>?_))));obtain⟨m,hn,jf⟩:=jf;exact av (aV (wpAny_comp_letGo (cenv:={cenv with scope:=oX scope env}) Tz _ m3 m dN hn λh' m' IW eB=>aP (jf h' eB ⟨m',IW⟩)))
end
section
variable{X:SX}{b:Bool}{d:Nat}{env:Env}{c:Cf}
theorem agi{A:bB}{it:Nat}{src:ik}{i:Nat}(h:iJ X c it src i){Q:Value->aq->Prop}(hQ:Q (.ref it) c.s):aC X.M A (pyIter (.ref it)) Q (λzy zy=>False) c.s:=by
 induction h using iJ.casesOn with
 |dw h1=>exact wpAny_pyIter_rangeiter h1 hQ
 |tup h1=>exact wpAny_pyIter_tupleiter h1 hQ
 |bytes h1=>exact KBw.pyIter_self h1 hQ
 |lst h1=>exact wpAny_pyIter_listiter h1 hQ
 |lL h1=>exact Lp h1 hQ
theorem agj(h:iJ X c it src i)
  (hR:iH b X.M A (.compLoop (.ListComp elt [⟨target,iter,ifs,0⟩] scope pos) 0 (.ref it) acc env) R c.s):iH b X.M A (.compStart (.ListComp elt [⟨target,iter,ifs,0⟩] scope pos) 0 (.ref it) acc env) R c.s:=by
 refine jK ?_;show aF b X.M A ((compStart (.ListComp elt [⟨target,iter,ifs,0⟩] scope pos) 0 (.ref it) acc env).onRaise (λx=> do noteFrame x env;qi theWindowsPlace)) _ c.s;refine qY ?_;unfold compStart;show aF b X.M A (ask >>= _) _ c.s;refine av (aV (wpAny_askSetting ?_))
 split
 .exact av (aP (aP ⟨rfl,rfl,hR⟩))
 .refine av (BY ?_)
  show aF b X.M A (qi iter.pos >>= _) _ c.s;exact av (cD (av (aV (agi h (aP ⟨rfl,rfl,hR⟩)))))
end
structure y7 (outer:bg) (scope:ll) (t it:Expr):Prop where
 kind:scope.kind= .function
 qC:qC it=ag
 nodup:(scope.names.map (·.1)).Nodup
 plain: ∀ p∈scope.names,(p.1==("__debug__" :Str))=ak/\(p.1==("__classdict__" :Str))=ak
 free: ∀ {x},(x,jU)∈scope.names-> ∃ i,nameAt outer x=aa i/\outer.lookup x≠aa .local
 IX: ∀ {x},x∈xA t->scope.names.lookup x=aa .local\/scope.names.lookup x=aa .cell
theorem agk(h:xB outer scope t it=ag):y7 outer scope t it:=by
 have h1:=bA.mp h;have h2:=bA.mp h1.1;have h3:=bA.mp h2.1;have h4:=bA.mp h3.1;have h5:=bA.mp h4.1;exact⟨beq_iff_eq.mp h5.1,h5.2,of_decide_eq_true h4.2,λp hp=>have w:=bA.mp (dS.mp h3.2 p hp);⟨TB w.1,TB w.2⟩,
  fun{x} hx=>have w:=bA.mp ((ni.mp (dS.mp h2.2 _ hx)).resolve_left ia);(zX.mp w.1).elim λi e=>⟨i,e,λz=>(ni.mp w.2).elim (λq=>(by rcases z.symm.trans (beq_iff_eq.mp q) with⟨⟩)) λq=>(by rcases z.symm.trans (beq_iff_eq.mp q) with⟨⟩)⟩,
  fun{x} hx=>(ni.mp (dS.mp h1.2 x hx)).imp beq_iff_eq.mp beq_iff_eq.mp⟩
where TB {a b:Str} (h:(a != b)=ag):(a==b)=ak:=ox _▸h
theorem IY{α:Type}{f:α->Option PV}: ∀ {l:List α} {i:Nat},eV (l.map f) i=(l[i]?).bind f
 |[],_=>rfl
 |_::_,0=>rfl
 |_::l,i+1=>IY (l:=l)
theorem agl{outer inner:bg}{i:Nat}{x:Str}{k:jv}(h:(gn outer inner)[i]?=aa (x,k)): ∃ m9,inner[i]?=aa (x,m9)/\(m9≠ .free->k=m9):=by unfold gn at h;rw[dG] at h;exact(ee.mp h).elim λp w=>pV w.2 (λq e=>⟨.free,by rw[w.1,<- iM e |>.1,<- beq_iff_eq.mp (bA.mp q).1],λz=>absurd rfl z⟩) λzy e=>⟨k,e▸w.1,λzy=>rfl⟩
theorem TC(outer inner:bg):(gn outer inner).map (·.1)=inner.map (·.1):=by unfold gn;rw[cV];exact gF λp zy=>apply_ite Prod.fst _ _ _ |>.trans (ite_self _)
theorem agm(outer inner:bg):(gn outer inner).length=inner.length:=aX ..
section
variable{X:SX}{O:ax}{b:Bool}{d:Nat}{env:Env}{nm:bg}{c c':Cf}{l l':List (Option PV)}{A:bB}{scope:ll}{t it:Expr}{x:Str}{a L:Addr}
theorem vK(C:bW X env nm)(scope:ll):(oX scope env).names=gn nm scope.names:=by obtain rfl:=C.names;unfold oX gn;rw[C.env.kind];exact gF λp zy=>by induction p using Prod.casesOn with|mk n k=>exact congrArg (λz=>if(z&&env.kindOf n==aa .cell)=ag then(n,t7) else(n,k)) (zm _)
noncomputable def jq (scope:ll) (L:Addr) (env:Env):Env:={scope:=oX scope env,locals:=L,globals:=env.globals,cells:=ig (L+1) scope.names []++ti env scope.names [],qual:=env.qual,func:=ae,code:=env.code,frame:=env.frame,builtins:=env.builtins}
theorem TF(C:bW X env nm)(H:y7 nm scope t it)(hS:cu X env c l)(hx:(x,jU)∈scope.names): ∃ j a u,nameAt nm x=aa j/\env.cells.lookup x=aa a/\c.s.heap.IsCell a u/\ ∀ v,eV l j=aa v-> ∃ u',u=aa u'/\VR X c v u':=by obtain rfl:=C.names;exact(H.free hx).elim λj w=>(Cz w.1).elim λk q=>(hS.locs.cell j x k q.1 (q.2.2.resolve_left λz=>w.2 (z▸q.2.1))).elim λa r=>r.elim λu r=>⟨j,a,u,w.1,r⟩
theorem IZ(C:bW X env nm)(H:y7 nm scope t it)(hS:cu X env c l)(x:Str)(hx:(x,jU)∈scope.names): ∃ a,env.cells.lookup x=aa a:=(TF C H hS hx).elim λj w=>w.elim λa w=>w.elim λu w=>⟨a,w.2.1⟩
theorem agn(hx:(ig (L+1) scope.names []).lookup x=aa a):(jq scope L env).cells.lookup x=aa a:=by unfold jq;rw[wa,hx];rfl
theorem ago(hn:(scope.names.map (·.1)).Nodup)(hx:(x,jU)∈scope.names):(ig (L+1) scope.names []).lookup x=ae:=by
 cases h1:(ig (L+1) scope.names []).lookup x with
 |none=>rfl
 |some c=>exact(y6 (lookup_mem h1)).elim (λz=>(by rcases z with⟨⟩)) λz=>(by rcases(mem_lookup hn z.1).symm.trans (mem_lookup hn hx) with⟨⟩)
theorem agp(hn:(scope.names.map (·.1)).Nodup)(hx:(x,jU)∈scope.names)(ha:env.cells.lookup x=aa a):(jq scope L env).cells.lookup x=aa a:=by unfold jq;rw[wa,ago hn hx,Tu hx,ha];rfl
theorem vM(hF: ∀ x,(x,jU)∈scope.names-> ∃ a,env.cells.lookup x=aa a)(h:(jq scope L env).cells.lookup x=aa a):((x,t7)∈scope.names/\(x,a)∈ig (L+1) scope.names []/\L+1<=a)\/((x,jU)∈scope.names/\env.cells.lookup x=aa a):=by
 unfold jq at h;rw[wa] at h;cases h1:(ig (L+1) scope.names []).lookup x with
 |some w=>rw[h1] at h;have e:=bD h;subst e;exact(y6 (lookup_mem h1)).elim (λz=>((by rcases z with⟨⟩))) λz=> .inl ⟨z.1,lookup_mem h1,z.2⟩
 |none=>
  rw[h1,Li] at h;by_cases q:(x,jU)∈scope.names
  .rw[Tu q] at h
   exact(hF x q).elim λw e=> .inr ⟨q,by rw[e] at h ⊢;exact h⟩
  .rw[Tt q] at h;exact nO h
theorem I6(hS:cu X env c l)(fa:cp env a):a<c.s.heap.objs.size:=(hS.frame fa).2.2.elim λob q=>ei q.1
theorem agq(C:bW X env nm)(H:y7 nm scope t it)(hS:cu X env c l):bW X (jq scope c.s.heap.objs.size env) (gn nm scope.names):=by
 have hF:=IZ C H hS;have old: ∀ {x a},env.cells.lookup x=aa a-> ¬ c.s.heap.objs.size+1<=a:=λe z=>Nat.lt_asymm (I6 hS (.inr ⟨_,e⟩)) z;exact⟨vK C scope,⟨H.kind,by unfold jq;rw[vK C,TC];exact H.nodup,C.env.globals,C.env.builtins,C.env.frame,
  λx y a hx hy=>(vM hF hx).elim (λp=>(vM hF hy).elim (λq=>Tv IU.apart p.2.1 q.2.1) λq=>(old q.2 p.2.2).elim) λp=>(vM hF hy).elim (λq=>(old p.2 q.2.2).elim) λq=>C.env.apart x y a p.2 q.2,
  λx e=>(vM hF e).elim (λp=>DI _ p.2.2) λp=>iK _ (I6 hS (.inr ⟨_,p.2⟩)),
  λp hp=>by unfold jq at hp;rw[vK C] at hp;have w:p.1∈scope.names.map (·.1):=TC nm scope.names▸bX.mpr ⟨p,hp,rfl⟩;exact(bX.mp w).elim λp' q=>q.2▸H.plain p' q.1⟩⟩
noncomputable def PT (env:Env) (t:Expr) (a:Nat):Prop:=a=env.locals\/ ∃ x∈xA t,env.cells.lookup x=aa a
theorem PT.frame(h:PT env t a):cp env a:=h.imp id λz=>z.elim λx z=>⟨x,z.2⟩
theorem TG{i:Nat}{k:jv}(h:scope.names[i]?=aa (x,k)):eV (iq l (mG nm scope.names)) i=(if k== .free then nameAt nm x else ae).bind (eV l):=by unfold iq mG;rw[cV,IY,h];rfl
structure agr (X:SX) (env ed:Env) (c c':Cf) (l':List (Option PV)) (t:Expr):Prop where
 ok:cu X ed c' l'
 nx:Nx X c c'
 frame: ∀ {a},cp ed a->cp env a\/c.s.heap.objs.size<=a
 IX: ∀ {a},PT ed t a->c.s.heap.get? a=ae
 keep: ∀ {a ob},c.s.heap.get? a=aa ob->c'.s.heap.get? a=aa ob
theorem agt(X0:b7 X)(C:bW X env nm)(H:y7 nm scope t it)(hS:cu X env c l):agr X env (jq scope c.s.heap.objs.size env) c (c.to (pushCells (c.s.heap.push {cls:= .type "dict",data:= .dict #[]}) scope.names) c.s.toks) (iq l (mG nm scope.names)) t:=by
 have hF:=IZ C H hS;have hk: ∀ b o,c.s.heap.get? b=aa o->(c.to (pushCells (c.s.heap.push {cls:= .type "dict",data:= .dict #[]}) scope.names) c.s.toks).s.heap.get? b=aa o:=λb o e=>pushCells_keeps _ _ b o (cf _ e);have ok:CellsOk (c.to (pushCells (c.s.heap.push {cls:= .type "dict",data:= .dict #[]}) scope.names) c.s.toks).s.heap (c.s.heap.objs.size+1) (ig (c.s.heap.objs.size+1) scope.names []):=IU;have pW:(c.to (pushCells (c.s.heap.push {cls:= .type "dict",data:= .dict #[]}) scope.names) c.s.toks).s.heap.Ns c.s.heap.objs.size λzy=>ae:=(Heap.Ns.new c.s.heap (.type "dict")).keeps (pushCells_keeps _ _);have N:Nx X c (c.to (pushCells (c.s.heap.push {cls:= .type "dict",data:= .dict #[]}) scope.names) c.s.toks):= .kept X0 hS.sr hk;have hO: ∀ {a},(c.to (pushCells (c.s.heap.push {cls:= .type "dict",data:= .dict #[]}) scope.names) c.s.toks).Own a->c.Own a:=id;generalize c.to (pushCells (c.s.heap.push {cls:= .type "dict",data:= .dict #[]}) scope.names) c.s.toks=c' at hk ok pW N hO ⊢;have M:=N.mo hS.sr;have none_: ∀ {a:Nat},c.s.heap.objs.size<=a->c.s.heap.get? a=ae:=λh=>oZ h;have fr: ∀ {a},cp (jq scope c.s.heap.objs.size env) a->cp env a\/(c.s.heap.objs.size<=a/\ ∃ ob,c'.s.heap.get? a=aa ob/\ ¬ cK ob):=λfa=>fa.elim (λe=> .inr ⟨nr e.symm,e▸IF pW⟩) λw=>w.elim λx e=>(vM hF e).elim (λp=> .inr ⟨tJ p.2.2,IG (ok.empty x _ p.2.1).1⟩) λp=> .inl (.inr ⟨x,p.2⟩);have TH: ∀ {i:Nat} {x:Str} {k:jv},(jq scope c.s.heap.objs.size env).scope.names[i]?=aa (x,k)-> ∃ m9:jv,scope.names[i]?=aa (x,m9)/\(m9≠jU->k=m9):=λe=>by unfold jq at e;rw[vK C] at e;exact agl e
 have no: ∀ {i x k v} {P:Prop},scope.names[i]?=aa (x,k)->k≠ .free->eV (iq l (mG nm scope.names)) i=aa v->P:=fun{i x k v P} e f z=>by rw[TG e,if_neg λw=>f (beq_iff_eq.mp w)] at z;exact nO z
 refine⟨⟨N.sr,⟨⟨_,pW,λi x v e1 e2=>(TH e1).elim λk w=>?_⟩,λi x k e1 e2=>(TH e1).elim λm9 w=>?_,?_⟩,fun{a} fa=>?_⟩,N,λfa=>(fr fa).imp id (·.1),λpa=>?_,λe=>hk _ _ e⟩
 .by_cases q:k= .free
  .subst q
   have e1:(oX scope env).names[i]?=aa (x,.local):=e1;rw[vK C] at e1;unfold gn at e1;rw[dG,w.1] at e1;exact pV (bD e1) (λzy e=>(by rcases e with⟨⟩)) λzy e=>(by rcases e with⟨⟩)
  .exact no w.1 q e2
 .have hm:(x,m9)∈scope.names:=kY w.1
  by_cases q:m9= .free
  .subst q
   exact(TF C H hS hm).elim λj r=>r.elim λa r=>r.elim λu r=>⟨a,u,agp H.nodup hm r.2.1,IH r.2.2.1 λe=>hk _ _ e,λv e=>by rw[TG w.1,if_pos (beq_self_eq_true _),r.1] at e;exact(r.2.2.2 v e).elim λu' z=>⟨u',z.1,z.2.mono M⟩⟩
  .have e:=w.2 q
   subst e;have e:=e2.resolve_right q;subst e;exact(cellsFrom_some (n:=c.s.heap.objs.size+1) (acc:=[]) (.inl hm)).elim λa z=>⟨a,ae,agn z,(ok.empty x a (lookup_mem z)).1,λv e=>no w.1 q e⟩
 .unfold iq mG jq
  rw[vK C,agm,aX,aX]
 .exact(fr fa).elim (λz=>have w:=hS.frame z;(hS.nx N).frame z) λz=>⟨cG hS.sr.old z.1,λo=>(hO o).elim λk w=>(hS.sr.kinds w.1 w.2).elim λob q=>(nO ((none_ z.1).symm.trans q.1)),z.2⟩
 .exact pa.elim (λe=>none_ (nr e.symm)) λw=>w.elim λx w=>(vM hF w.2).elim (λp=>none_ (tJ p.2.2)) λp=>(H.IX w.1).elim (λz=>(by rcases z.symm.trans (mem_lookup H.nodup p.1) with⟨⟩)) λz=>(by rcases z.symm.trans (mem_lookup H.nodup p.1) with⟨⟩)
end
section
variable{X:SX}{O:ax}{b:Bool}{d:Nat}{env:Env}{nm:bg}{c c' c₀:Cf}{l l':List (Option PV)}{A:bB}{P:Nat->Prop}{it D:Nat}{src:ik}{acc:List PV}
theorem TJ: ∀ {ts:List Expr} {A:bB} {s:aq} {Q:Bool->aq->Prop},Q ak s->aF b X.M A (forIn ts ak λc r=>if r=ag then do let ok <- isTrue c env (eval c env);pure (zq ok) else pure (zq r)) Q s
 |[],_,_,_,h=>aP h
 |t::ts,A,s,Q,h=>by rw[zL];exact av (kh rfl (aP (TJ h)))
theorem agu(h:m4 X O b d env ms ts):WE X O b d env (bP ms) (forIn ts ag λc r=>if r=ag then do let ok <- isTrue c env (eval c env);pure (zq ok) else pure (zq r)) iI:=by
 induction h with
 |nil=>exactλzy zy zy zy zy hA hS e hq=>aP (hq e (.refl hS.sr) rfl)
 | @cons m t ms ts hm _ ih=>
  intro _ _ _ _ _ hA hS e hq;rw[zL];exact av (H5 rfl (av (hm hA hS e fun{c' a v} e N r=>aP (by
   cases r;induction a using dD with
   |true=>exact ih hA (hS.nx N) e (hq.on N)
   |false=>exact TJ (hq e N rfl)))))
structure Acc (X:SX) (env:Env) (c:Cf) (D:Nat) (acc:List PV):Prop where
 side:fy X c D
 frame: ¬ cp env D
 at_: ∃ us m,c.s.heap.get? D=aa (seqObj "list" us.toArray m)/\aE X c acc us
theorem Acc.next(h:Acc X env c D acc)(m:Mo c c')(E:Ev P c c')(hP: ¬ P D):Acc X env c' D acc:=⟨h.side.next E hP,h.frame,h.at_.elim λus w=>w.elim λk w=>⟨us,k,E.keep w.1 hP h.side.2.1,w.2.mono m⟩⟩
theorem Acc.rest(h:Acc X env c D acc)(R:Rest c c' it)(hD:D≠it):Acc X env c' D acc:=h.side.2.2.elim λob q=>have w:=R.2 hD q.1 h.side.2.1;⟨⟨h.side.1,w.2,ob,w.1,q.2⟩,h.frame,h.at_.elim λus w=>w.elim λk w=>⟨us,k,(R.2 hD w.1 h.side.2.1).1,w.2.mono R.1⟩⟩
theorem agv{us:List Value}{m:Nat}{v:Value}{s:aq}(e:s.heap.get? D=aa (seqObj "list" us.toArray m))(hz:us.length<=16000000){Q:Value->aq->Prop}
  (hQ: ∀ {H' m'},H'.get? D=aa (seqObj "list" (us++[v]).toArray m')->i0 D s.heap H'->Q .none {s with heap:=H'}):aC X.M A (call (.builtin "list.append") [.ref D,v]) Q (λzy zy=>False) s:=by
 have g:=tM e (·.push v);rw[Dv] at g;exact lh D6 ⟨_,e,rfl⟩ entry_list_append (wpAny_bind (m:=rL D (·.push v)) (rH (hz:=by rw[dJ,sV];exact(aw [.l J0 (.n 16000000)] (.l J0 (.n 16777216))) hz) e rfl (wpAny_pure ⟨.none,rfl,hQ g (lq s.heap D (i9 (·.push v)))⟩))) (args_list_append _ _)
noncomputable def gC (c₀:Cf) (a:Nat):Prop:=c₀.s.heap.get? a=ae
theorem Acc.push(h:Acc X env c D acc)(hS:cu X env c l){p:PV}{v:Value}(hv:VR X c p v)(hz:acc.length<=16000000){Q:Value->aq->Prop}(hq: ∀ {c'},c'.h=c.h->di X env (λa=>a=D) c c' l->Acc X env c' D (acc++[p])->Mo c c'->Q .none c'.s):aC X.M A (call (.builtin "list.append") [.ref D,v]) Q (λzy zy=>False) c.s:=
 h.at_.elim λus w=>w.elim λm w=>agv w.1 (w.2.length▸hz) fun{H' m'} g hs=>
  have nw: ∃ ob,H'.get? D=aa ob/\ ¬ cK ob:=⟨_,g,vo⟩;have N:di X env (λa=>a=D) c (c.to H' c.s.toks) l:=⟨hS.move (s':={c.s with heap:=H'}) h.side hs.extBut (q7 h.side.1 g) rfl (λzy=>nw) λM=>hS.locs.mono (λfa e=>hs.extBut _ _ (λz=>h.frame (z▸fa)) e) M,.yU (s':={c.s with heap:=H'}) ⟨_,g⟩ hs.extBut rfl,rfl⟩;have M:Mo c (c.to H' c.s.toks):=h.side.mo (s':={c.s with heap:=H'}) hs.extBut
  hq (c':=c.to H' c.s.toks) rfl N ⟨⟨h.side.1,h.side.2.1,nw⟩,h.frame,_,m',g,(w.2.mono M).append (.cons (hv.mono M) .nil)⟩ M
theorem agw(X0:b7 X)(KO:dR X b d O)(C:bW X env nm){elt t iter:Expr}{ifs:List Expr}{scope:ll}{pos:Pos}{tg:eW}{mi:List (RM Bool)}{me:RM PV}(hg:noGen src=ag)(lS:gZ nm t=aa tg)(hi:m4 X O b d env mi ifs)(he:WE X O b d env me (eval elt env) (VR X))
  (hD:gC c₀ D) (d8:it≠D) (hPT: ∀ {a},PT env t a->gC c₀ a):
  ∀ (n i:Nat) ⦃A c l acc⦄ ⦃K:List PV->aj->Prop⦄ ⦃Q:iZ->aq->Prop⦄,bp d A->di X env (gC c₀) c₀ c l->It X env c₀ c it src i->Acc X env c D acc->acc.length<=i->nU src tg (bP mi) me O K n i acc ⟨c.h,l⟩-> (∀ {c' l' zs},K zs ⟨c'.h,l'⟩->di X env (gC c₀) c₀ c' l'->Acc X env c' D zs->Q .next c'.s)->iH b X.M A (.compLoop (.ListComp elt [⟨t,iter,ifs,0⟩] scope pos) 0 (.ref it) (.ref D) env) Q c.s:=λn=>by
 induction n with
 |zero=>intro _ _ _ _ _ _ _ _ _ _ _ _ e;exact e.elim
 |succ n ih=>
  intro i A c l acc K Q hA L hI I7 hl e hq;have hT:m7 X O b d env (PT env t) (λv zy s K=>fR tg v s (K .next)) (iQ t env):=IK X0 C PT.frame (.inl rfl) (λx hx {a} h=> .inr ⟨x,hx,h⟩) lS;refine jK (qY (m:=compTurn (.ListComp elt [⟨t,iter,ifs,0⟩] scope pos) 0 (.ref it) (.ref D) env) ?_);rw[compTurn_list];refine av (cD (av (aV (Tp KO hA L hI e (fun{c'} e N R=>aP (hq e N (I7.rest R λz=>d8 z.symm))) fun{c₁ p v} e N hv IS hL hb agx=>?_))))
  .have agy:=I7.next agx N.ev λz=>d8 z.1.symm
   refine av (m:=Aa t (.ref it) v) (IP hL (IQ lS) (av (m:=iQ t env v) (hT (K:=λzy s=>fE (bP mi) O (kz me O (λv s=>nU src tg (bP mi) me O K n (i+1) (acc++[v]) s) (nU src tg (bP mi) me O K n (i+1) acc)) s) hA N.ok hv e fun{c₂ rj} e bG=>av (agu hi hA bG.ok e fun{eN a v} e dh r=>?_))));have nc:di X env (gC c₀) c₀ eN rj:=((L.trans ⟨N.ok,N.ev.weaken λa ob zy q=>q.2,N.os⟩).trans ⟨bG.ok,bG.ev.weaken λa ob zy q=>hPT q,bG.os⟩).trans (dh.toS bG.ok);have gB:=bG.trans (dh.toS bG.ok);have TK:=gB.mo N.ok PT.frame;have y8:=IS.next N.ok.sr TK gB.ev λh zy z=>h z.frame;have TL:=agy.next TK gB.ev λz=>I7.frame z.frame;cases r;induction a using dD with
   |false=>exact kh rfl (aP ⟨rfl,rfl,ih (i+1) hA nc y8 TL (nq hl) e hq⟩)
   |true=>exact H5 rfl (av (av (he hA nc.ok e fun{TM p v} e tj r=>
     have agz:=TL.next (tj.mo nc.ok.sr) tj.ev id
     av (aV (agz.push (nc.ok.nx tj) r (by have w:=hb hg;omega) fun{vN} eh oq CL agA=>aP (aP ⟨rfl,rfl,ih (i+1) hA ((nc.trans (tj.toS nc.ok)).trans ⟨oq.ok,oq.ev.weaken λa ob zy q=>q▸hD,oq.os⟩) ((y8.next nc.ok.sr (tj.mo nc.ok.sr) tj.ev λzy zy=>id).next tj.sr agA oq.ev λzy zy=>d8) CL (by rw[bb];exact Lf hl) (eh▸e) hq⟩))))))
end
section
variable{X:SX}{O:ax}{b:Bool}{d:Nat}{env ed:Env}{nm:bg}{c c' c₀:Cf}{l l':List (Option PV)}{A:bB}{D:Nat}{zs:List PV}
theorem TN(S:SR X c)(E:Ev (gC c₀) c₀ c)(hs:fy X c D)(hn:gC c₀ D){o:aB}(ho:Mo c (c.add D (λa=>a=D) ae ae o c.s)->OR X (c.add D (λa=>a=D) ae ae o c.s) c.h.length o):
  SR X (c.add D (λa=>a=D) ae ae o c.s)/\Ev (λzy=>False) c₀ (c.add D (λa=>a=D) ae ae o c.s)/\VR X (c.add D (λa=>a=D) ae ae o c.s) (.ref c.h.length) (.ref D)/\ ∀ {a},(c.add D (λa=>a=D) ae ae o c.s).Own a->a=D\/c.Own a:=by
 refine⟨S.adopt (F:=λa=>a=D) (g:=ae) (z:=ae) (λe=>e) rfl (λe=>e▸⟨⟨hs.1,hs.2.1⟩,hs.2.2⟩) (aS _) (λzy=>rfl) S.bare nO ho nO,(E.adopt (F:=λa=>a=D) (λe=>e) λe=>e▸hn).weaken λa ob e q=>(nO ((show c₀.s.heap.get? a=ae from q).symm.trans e)),?_,fun{a} ow=>ow.elim λk w=>?_⟩
 .have r:=VR.ref (X:=X) (c:=c.add D (λa=>a=D) ae ae o c.s) (k:=c.h.length) (by show _<(c.h++[o]).length;rw[bb];exact k8 _)
  rw[show(c.add D (λa=>a=D) ae ae o c.s).G.ad c.h.length=D from if_pos rfl] at r;exact r
 .have f:(if k=c.h.length thenλa=>a=D else c.G.foot k) a:=w.2
  exact(HO w.1).elim (λh=> .inr ⟨k,h,by rw[if_neg (cq h)] at f;exact f⟩) λh=> .inl (by rw[if_pos h] at f;exact f)
noncomputable def Kc (X:SX) (env:Env) (c:Cf) (l:List (Option PV)) (P:PV->aj->Prop) (R:Cf->Value->Nat->Prop):Prop:=∀ {c' r v L},P r ⟨c'.h,l⟩->Nx X c c'->VR X c' r v->fy X c' L-> ¬ cp env L->gC c L->(∃ m,c'.s.heap.Ns L m)->R c' v L
theorem TO(X0:b7 X)(KO:dR X b d O)(C:bW X env nm){elt t iter:Expr}{ifs:List Expr}{scope:ll}{pos:Pos}{tg:eW}{rk me:RM PV}{mi:List (RM Bool)}{use:Option (Value->Sem Unit)}(hc:xB nm scope t iter=ag)
  (ht:gZ (gn nm scope.names) t=aa tg) (hit:WE X O b d env rk (eval iter env) (VR X)) (hi: ∀ ed,bW X ed (gn nm scope.names)->m4 X O b d ed mi ifs) (he: ∀ ed,bW X ed (gn nm scope.names)->WE X O b d ed me (eval elt ed) (VR X))
  {P:PV->aj->Prop} {Q:Value->aq->Prop} (hA:bp d A) (hS:cu X env c l) (e:da rk (mG nm scope.names) tg (bP mi) me O ⟨c.h,l⟩ P) (hq:Kc X env c l P λc' v L=>Tw b X.M A use Q v L c'.s):
  aF b X.M A (Af (.ListComp elt [⟨t,iter,ifs,0⟩] scope pos) scope env (firstIterPos [⟨t,iter,ifs,0⟩] pos) (newList []) (firstAsync [⟨t,iter,ifs,0⟩]) (firstIter [⟨t,iter,ifs,0⟩] env) use) Q c.s:=by
 have H:=agk hc;refine agd (g:=⟨t,iter,ifs,0⟩) (gs:=[]) rfl (λx=>IT H.qC x) (aga (IZ C H hS)) H.kind (λx hx hk=>mem_lookup H.nodup (show(x.1,NameKind.local)∈scope.names from hk▸hx)) ?_;rw[arm_firstIter_cons];refine hit hA hS e fun{c₁ a v} e dg r=>?_;have pP:=hS.nx dg;refine aV (Tr X0 pP r e fun{c₂ it src} e bG I=>aV (wD ?_ (show(0:Nat)<=_ from cz _)));have sZ: ∀ a o,c₂.s.heap.get? a=aa o->(c₂.to (c₂.s.heap.push (seqObj "list" ([]:List Value).toArray 0)) c₂.s.toks).s.heap.get? a=aa o:=λa o e=>cf _ e;have dh:Nx X c₂ (c₂.to (c₂.s.heap.push (seqObj "list" ([]:List Value).toArray 0)) c₂.s.toks):= .kept X0 bG.sr sZ;have hD:(c₂.to (c₂.s.heap.push (seqObj "list" ([]:List Value).toArray 0)) c₂.s.toks).s.heap.get? c₂.s.heap.objs.size=aa (seqObj "list" ([]:List Value).toArray 0):=eg _ rfl;have hO: ∀ {a},(c₂.to (c₂.s.heap.push (seqObj "list" ([]:List Value).toArray 0)) c₂.s.toks).Own a->c₂.Own a:=id;show aF b X.M A _ _ (c₂.to (c₂.s.heap.push (seqObj "list" ([]:List Value).toArray 0)) c₂.s.toks).s;have e:(∃ n,nU src tg (bP mi) me O (xu P l) n 0 [] ⟨(c₂.to (c₂.s.heap.push (seqObj "list" ([]:List Value).toArray 0)) c₂.s.toks).h,iq l (mG nm scope.names)⟩)/\noGen src=ag:=⟨e.2,e.1⟩;generalize c₂.to (c₂.s.heap.push (seqObj "list" ([]:List Value).toArray 0)) c₂.s.toks=eN at sZ dh hD hO e ⊢;have yN:=(pP.nx bG).nx dh;have Z:=agt X0 C H yN;have C':=agq C H yN;refine aV (agc ?_);show iH b X.M A (.compStart (.ListComp elt [⟨t,iter,ifs,0⟩] scope pos) 0 (.ref it) (.ref c₂.s.heap.objs.size) (jq scope eN.s.heap.objs.size env)) _ (eN.to (pushCells (eN.s.heap.push {cls:= .type "dict",data:= .dict #[]}) scope.names) eN.s.toks).s;have e:(∃ n,nU src tg (bP mi) me O (xu P l) n 0 [] ⟨(eN.to (pushCells (eN.s.heap.push {cls:= .type "dict",data:= .dict #[]}) scope.names) eN.s.toks).h,iq l (mG nm scope.names)⟩)/\noGen src=ag:=e;generalize eN.to (pushCells (eN.s.heap.push {cls:= .type "dict",data:= .dict #[]}) scope.names) eN.s.toks=TM at Z e ⊢;have I8: ∀ {a:Nat},c₂.s.heap.get? a=ae->gC c₁ a:=fun{a} h=>tK.mpr λob q=>(bG.ev.live q).elim λyA q'=>nO (h.symm.trans q');have nD:c₂.s.heap.get? c₂.s.heap.objs.size=ae:=oZ (aS _);have I9:c₂.s.heap.objs.size<eN.s.heap.objs.size:=ei hD;have TP: ∀ {a},cp (jq scope eN.s.heap.objs.size env) a->a<eN.s.heap.objs.size->cp env a:=λfa h=>(Z.frame fa).resolve_right λz=>ic z h;have agB:Ev (gC c₁) c₁ TM:=((bG.trans dh).trans Z.nx).ev.weaken λzy zy zy q=>q.elim;have aD:fy X eN c₂.s.heap.objs.size:=⟨bG.sr.old,λo=>(hO o).elim λk w=>(bG.sr.kinds w.1 w.2).elim λob q=>(nO (nD.symm.trans q.1)),_,hD,vo⟩;have aD4:=aD.next Z.nx.ev id;cases I with
 |gen=>exact nB e.2
 |obj h1 h2 h3 h4=>
  have TQ:it<c₂.s.heap.objs.size:=h2.2.2.elim λob q=>ei q.1;have CM:=dh.trans Z.nx;have I4:=h1.mono (CM.mo bG.sr) (λe=>CM.ev.keep e id h2.2.1) CM.ev.fz;refine agj I4 (e.1.elim λn e'=>agw X0 KO C' (c₀:=c₁) e.2 ht (hi _ C') (he _ C') (I8 nD) (cq TQ) (λpa=>I8 (tK.mpr λob q=>nO ((Z.IX pa).symm.trans (sZ _ _ q)))) n 0 hA ⟨Z.ok,agB,((bG.trans dh).trans Z.nx).os⟩
   (.obj I4 (h2.next CM.ev id) (λfa=>h3 (TP fa (Nat.lt_trans TQ I9))) h4)
   ⟨aD4,λfa=>((pP.nx bG).frame (TP fa I9)).2.2.elim λob q=>(nO (nD.symm.trans q.1)),[],0,Z.keep hD,.nil⟩ (aS _) e' fun{vN aje zs} e oq CL=>?_)
  have W:=TN (o:= .list zs) oq.ok.sr oq.ev CL.side (I8 nD) λM=>CL.at_.elim λus w=>w.elim λm w=> .list (by rw[show(vN.add _ _ ae ae (.list zs) vN.s).G.ad vN.h.length=c₂.s.heap.objs.size from if_pos rfl];exact w.1) (w.2.mono M) (iL.mp (cQ e).1);have fL:=oq.ok.frame (.inl rfl);exact hq (c':=vN.add _ _ ae ae (.list zs) vN.s) (cQ e).2 (dg.trans ⟨W.1,W.2.1,oq.os⟩) W.2.2.1 ⟨fL.1,λo=>(W.2.2.2 o).elim (λz=>dK I9 z) fL.2.1,fL.2.2⟩ (λfa=>iK _ (I6 yN fa)) (tK.mpr λob q=>(((dg.trans bG).trans dh).ev.live q).elim λyA q'=>iK _ (ei q')) (oq.ok.locs.ns.elim λm q=>⟨m,q.1⟩)
theorem agC(X0:b7 X)(KO:dR X b d O)(C:bW X env nm){elt t iter:Expr}{ifs:List Expr}{scope:ll}{pos:Pos}{tg:eW}{rk me:RM PV}{mi:List (RM Bool)}(hc:xB nm scope t iter=ag)
  (ht:gZ (gn nm scope.names) t=aa tg) (hit:WE X O b d env rk (eval iter env) (VR X)) (hi: ∀ ed,bW X ed (gn nm scope.names)->m4 X O b d ed mi ifs) (he: ∀ ed,bW X ed (gn nm scope.names)->WE X O b d ed me (eval elt ed) (VR X)):
  WE X O b d env (da rk (mG nm scope.names) tg (bP mi) me) (eval (.ListComp elt [⟨t,iter,ifs,0⟩] scope pos) env) (VR X):=
 .is (arm_eval_ListComp ..) λzy zy zy zy zy hA hS e hq=>TO (use:=ae) X0 KO C hc ht hit hi he hA hS e fun{c' r v L} e N rv aL fL nL ns=>ns.elim λm hn=>⟨m,hn,λh' hs zy=>
  have W:=(N.toS hS:di X env (λzy=>False) _ c' _).side (s':={c'.s with heap:=h'}) aL fL nL hs.extBut rfl rfl
  hq (c':=c'.cL c'.h {c'.s with heap:=h'}) e ⟨W.ok.sr,W.ev,W.os⟩ (rv.mono (aL.mo hs.extBut))⟩
theorem agD(X0:b7 X)(KO:dR X b d O)(C:bW X env nm){elt t iter:Expr}{ifs:List Expr}{scope:ll}{pos p q:Pos}{tg:eW}{rk me:RM PV}{mi:List (RM Bool)}{x:Str}{i:Nat}(hx:nameAt nm x=aa i)
  (hu:Nq nm x p (.ListComp elt [⟨t,iter,ifs,0⟩] scope pos)=ag) (hc:xB nm scope t iter=ag)
  (ht:gZ (gn nm scope.names) t=aa tg) (hit:WE X O b d env rk (eval iter env) (VR X)) (hi: ∀ ed,bW X ed (gn nm scope.names)->m4 X O b d ed mi ifs) (he: ∀ ed,bW X ed (gn nm scope.names)->WE X O b d ed me (eval elt ed) (VR X)):
  WS X O b d env (aT i (da rk (mG nm scope.names) tg (bP mi) me)) (eJ (.Assign [.Name x p] (.ListComp elt [⟨t,iter,ifs,0⟩] scope pos) q) env):=
 have hsw:swapsWith (.ListComp elt [⟨t,iter,ifs,0⟩] scope pos) (aa (.Name x p)) q.line env=pure ag:=congrArg pure (show(env.blockKind== .function&&env.kindOf x==aa .local&&p.line==pos.line&& !(scope.names.any λ(n,k)=>n==x&&(k== .local||k== .cell)))=ag by
  have hb:(env.blockKind== .function)=ag:=by unfold Env.blockKind;rw[C.env.kind];rfl
  rw[hb,Dd];obtain rfl:=C.names;exact hu)
 .is (exec_Assign_Name_used _ _ _ _ hsw) λzy zy zy K zy hA hS e hq=>av (cD (av (m:=Af _ _ _ _ _ _ _ (aa (iQ (.Name x p) env)) >>= λzy=>pure ()) (av (TO (use:=aa (iQ (.Name x p) env)) (P:=xv i K) X0 KO C hc ht hit hi he hA hS e fun{c' r v L} e N rv aL fL nL ns=>CF (O:=O) C hx yV hA (hS.nx N) rv e fun{Ja Sw} e N'=>ns.elim λm hn=>⟨m,hn.elim λo w=>w.elim λes w=>w.elim λep w=>⟨o,es,ep,N'.ev.keep w.1 fL aL.2.1,w.2⟩,λh' hs zy=>aP (aP (hq (c':=Ja.cL Ja.h {Ja.s with heap:=h'}) e (((N.toS hS).trans N').side (aL.next N'.ev fL) fL nL hs.extBut rfl rfl) .next))⟩))))
end
inductive tm (X:SX) (O:ax) (b:Bool) (d:Nat) (env:Env):List (RM PV×RM PV)->List (Sem Value×Sem Value)->Prop
 |nil:tm X O b d env [] []
 |cons {m₁ m₂:RM PV} {vB s9:Sem Value} {ms:List (RM PV×RM PV)} {ts:List (Sem Value×Sem Value)}:WE X O b d env m₁ vB (VR X)->WE X O b d env m₂ s9 (VR X)->tm X O b d env ms ts->tm X O b d env ((m₁,m₂)::ms) ((vB,s9)::ts)
inductive y9 (X:SX) (c:Cf):List (PV×PV)->List (Value×Value)->Prop
 |nil:y9 X c [] []
 |cons {p q:PV} {u v:Value} {l:List (PV×PV)} {vs:List (Value×Value)}:VR X c p u->VR X c q v->y9 X c l vs->y9 X c ((p,q)::l) ((u,v)::vs)
section
variable{X:SX}{O:ax}{b:Bool}{d:Nat}{env:Env}{nm:bg}{c c' c₀:Cf}{l l':List (Option PV)}{A:bB}{p:Pos}
theorem agE(h:tm X O b d env ms ts): ∀ ⦃A c l es⦄ ⦃K:PV->aj->Prop⦄ ⦃Q:List (Value×Value)->aq->Prop⦄,bp d A->cu X env c l->pPairs ms es O ⟨c.h,l⟩ K->
  (∀ {c' zs vs},pPairs [] (es++zs) O ⟨c'.h,l⟩ K->Nx X c c'->y9 X c' zs vs->zs.length=ts.length->Q vs c'.s)->aF b X.M A (evalPairs ts) Q c.s:=by
 induction h with
 |nil=>exactλzy zy zy es zy zy hA hS e hq=>aP (hq (zs:=[]) ((jr es).symm▸e) (.refl hS.sr) .nil rfl)
 | @cons m₁ m₂ vB s9 ms ts eA gz _ ih=>intro _ _ _ es _ _ hA hS e hq;rw[evalPairs];exact av (eA hA hS e fun{c₁ x u} e dg pQ=>av (cg (gz hA (hS.nx dg) e fun{c₂ y v} e bG kM=>av (cg (ih hA ((hS.nx dg).nx bG) e fun{eN zs vs} e dh r hl=>aP (hq (zs:=(x,y)::zs) (by rw[List.append_cons];exact e) ((dg.trans bG).trans dh) (.cons ((pQ.mono (bG.mo dg.sr)).mono (dh.mo bG.sr)) (kM.mono (dh.mo bG.sr)) r) (congrArg (·+1) hl)))))))
theorem VR.agF{x:PV}{v:Value}{M:PV->Value->Prop}(h:VR X c x v)(e:keyKind x=2)(f: ∀ {s t},M (.str s) (.str s t)):M x v:=by
 induction h using VR.casesOn with
 |str=>exact f
 |tup=>exact(HQ _).elim (λz=>nN rfl (z.symm.trans e)) λz=>nN rfl (z.symm.trans e)
 |_=>exact nN rfl e
theorem agG{l:List (PV×PV)}{vs:List (Value×Value)}(h:y9 X c l vs):(l.all λe=>keyKind e.1==2)=ag-> ∀ {es:List (PV×PV)} {acc:List (Str×Value)},KV X c PV.str es acc->
  ∃ bl,Carries (pK X) vs bl/\KV X c PV.str (l.foldl (λes e=>dput es e.1 e.2) es) (merged acc bl)/\bl.length=l.length:=by
 induction h with
 |nil=>exactλzy es acc hc=>⟨[],trivial,hc,rfl⟩
 | @cons p q u v l vs a w _ ih=>intro hk es acc hc;have hk:=bA.mp hk;refine a.agF (M:=λp u=> ∃ bl,Carries (pK X) ((u,v)::vs) bl/\KV X c PV.str (l.foldl (λes e=>dput es e.1 e.2) (dput es p q)) (merged acc bl)/\bl.length=l.length+1) (beq_iff_eq.mp hk.1) fun{x t}=>(ih hk.2 (hc.put encStr (k:=x) w)).elim λbl z=>⟨(x,v)::bl,⟨?_,rfl,z.1⟩,z.2.1,congrArg (·+1) z.2.2⟩;exact beq_self_eq_true x
theorem TR: ∀ (l es:List (PV×PV)),(l.foldl (λes e=>dput es e.1 e.2) es).length<=es.length+l.length
 |[],_=>aS _
 |e::l,es=>cG (TR l _) (by have w:=HW es e.1 e.2;rw[fW];exact(az [.l J0 (.a J1 Y1)] (.l (.a J0 J2) (.a J1 (.a J2 Y1)))) w)
theorem TS{D:Nat}{H:Heap}(h:H.get? D=aa {cls:= .type "dict",data:= .dict #[]}):H.DictOf (pK X) D []:=⟨_,#[],0,h,⟨rfl,rfl,rfl⟩,rfl,λe he=>absurd he (C5 e),.nil,KQ⟩
theorem tm.agH(hf: ∀ {m t},WE X O b d env m t (VR X)->WE X O b d env m (f t) (VR X))(h:dQ X O b d env ms (cW ks env))(h':dQ X O b d env pU (cW vs env))(hl:ks.length=vs.length):
  ∃ ts,(evalEachOpt (ks.map aa) env).zip ((cW vs env).map f)=ts.map (λp=>(aa p.1,p.2))/\ts.length=ks.length/\tm X O b d env (ms.zip pU) ts:=by
 induction ks generalizing ms pU vs with
 |nil=>cases h;exact⟨[],rfl,rfl,.nil⟩
 |cons k ks ih=>
  induction vs using cw with
  |nil=>exact nN rfl hl
  |cons v vs=>
   rw[rF] at h h';cases h with
   |cons a r=>cases h' with|cons a' r'=>exact(ih r r' (nt hl)).elim λts w=>⟨(eval k env,f (eval v env))::ts,by rw[gG,arm_evalEachOpt_cons,rF,gG,zH,w.1];rfl,congrArg (·+1) w.2.1,.cons a (hf a') w.2.2⟩
theorem agI: ∀ {ks:List (Option Expr)} {g6:List Expr},ks.mapM id=aa g6->ks=g6.map aa:=λh=>yW (f:=id) (M:=λ(ks:List (Option Expr)) g6=>ks=g6.map aa) rfl (fun{a x as xs} e r=>by rw[show a=aa x from e,r];rfl) h
theorem TU(S:SR X c)(E:Ev (gC c₀) c₀ c)(ho:c.s.os=c₀.s.os)(hs:fy X c D)(hn:gC c₀ D)(hd:c.s.heap.DictOf (pK X) D bl)(hk:KV X c PV.str es bl)(hz:es.length<=1000000)
  (e:P (.ref c.h.length) ⟨c.h++[.dict es],l⟩) (hq:Ke X c₀ l P (VR X) Q):Q (.ref D) c.s:=
 have W:=TN (o:= .dict es) S E hs hn λM=> .dict (DR.mono (a:=D) M (fun{ob} e=>by rw[show(c.add D (λa=>a=D) ae ae (.dict es) c.s).G.ad c.h.length=D from if_pos rfl];exact e) (.str hk hd)) hz
 hq (c':=c.add D (λa=>a=D) ae ae (.dict es) c.s) e ⟨W.1,W.2.1,ho⟩ W.2.2.1
theorem agJ(X0:b7 X){ks:List (Option Expr)}{g6 vs:List Expr}{ms pU:List (RM PV)}(hk:ks.mapM id=aa g6)(hl:g6.length=vs.length)(hz:g6.length<=15)(eA:dQ X O b d env ms (cW g6 env))(gz:dQ X O b d env pU (cW vs env)):
  WE X O b d env (j1 (ms.zip pU)) (eval (.Dict ks vs p) env) (VR X):=
 .is (arm_eval_Dict ..) λA c l P Q hA hS e hq=>by
  rw[agI hk];refine(tm.agH (f:=λv=> do let x <- v;qi p;pure x) (fun{m t} h zy zy zy zy zy hA hS e hq=>av (h hA hS e λe N r=>av (cD (aP (hq e N r))))) eA gz hl).elim λts w=>?_;rw[w.1];have w2:=w.2.2;generalize ms.zip pU=mm at w2 e;refine av (cD ?_);have sZ: ∀ a o,c.s.heap.get? a=aa o->(c.to (c.s.heap.push {cls:= .type "dict",data:= .dict #[]}) c.s.toks).s.heap.get? a=aa o:=λa o e=>cf _ e;have dh:Nx X c (c.to (c.s.heap.push {cls:= .type "dict",data:= .dict #[]}) c.s.toks):= .kept X0 hS.sr sZ;have hD:(c.to (c.s.heap.push {cls:= .type "dict",data:= .dict #[]}) c.s.toks).s.heap.get? c.s.heap.objs.size=aa {cls:= .type "dict",data:= .dict #[]}:=eg _ rfl;have nD:gC c c.s.heap.objs.size:=oZ (aS _);have aD:fy X (c.to (c.s.heap.push {cls:= .type "dict",data:= .dict #[]}) c.s.toks) c.s.heap.objs.size:=⟨hS.sr.old,λo=>o.elim λk w=>(hS.sr.kinds w.1 w.2).elim λob q=>(nO (nD.symm.trans q.1)),_,hD,yD ⟨rfl,rfl,rfl⟩⟩;cases hw:ts with
  |nil=>subst hw;cases w2;exact aV (t:=newDict) (l8 (TU (c:=c.to (c.s.heap.push {cls:= .type "dict",data:= .dict #[]}) c.s.toks) dh.sr (dh.ev.weaken λzy zy zy q=>q.elim) rfl aD nD (TS hD) .nil (cz _) e hq) (cz _))
  |cons t0 ts0=>rw[<- hw,dictDisplay_pairs ts (by rw[hw];nofun) (by rw[w.2.1];exact(aw [.l J0 (.n 15)] (.t J0 (.n 17))) hz)];unfold subDict;refine av (av (aV (wpAny_alloc (av (cg (iteInduction (motive:=λt=>aF b X.M A t _ _) (λzy=>av (agE w2 (c:=c.to (c.s.heap.push {cls:= .type "dict",data:= .dict #[]}) c.s.toks) hA (hS.nx dh) e fun{c₁ zs us} e dg r hl=>?_)) λz=>absurd (show ts.length<=15 by rw[w.2.1];exact hz) z))))));have a1:=aD.next dg.ev id;refine(agG r (cQ e).1 .nil).elim λbl z=>cg (av (aV (wpAny_storeAll us bl [] c₁.s _ z.1 (TS (dg.ev.keep hD id aD.2.1)) (by rw[sV,z.2.2,hl,w.2.1,Dx];exact(aw [.l J0 (.n 15)] (.l (.a Y0 J0) (.n 16777216))) hz) λH' hm hs=>aP (aP (aP ?_)))));have lv: ∃ ob,H'.get? c.s.heap.objs.size=aa ob/\ ¬ cK ob:=hm.elim λo w=>w.elim λzy w=>w.elim λzy w=>⟨o,w.1,yD w.2.1⟩;have T:=(hS.nx (dh.trans dg)).move (s':={c₁.s with heap:=H',toks:=c₁.s.toks+us.length}) a1 hs.extBut (lv.elim λzy q=>q7 a1.1 q.1) rfl (λzy=>lv) λM=>(hS.nx (dh.trans dg)).locs.mono (fun{a ob} fa e=>hs.extBut _ _ (λq=>(hS.frame fa).2.2.elim λob w=>by subst q;exact nO (nD.symm.trans w.1)) e) M;exact TU (c:=c₁.to H' (c₁.s.toks+us.length)) T.sr (((dh.trans dg).ev.weaken λzy zy zy q=>q.elim).trans (.yU (s':={c₁.s with heap:=H',toks:=c₁.s.toks+us.length}) (lv.elim λob q=>⟨ob,q.1⟩) hs.extBut nD)) (dh.trans dg).os ⟨a1.1,a1.2.1,lv⟩ nD hm (z.2.1.mono (a1.mo (s':={c₁.s with heap:=H',toks:=c₁.s.toks+us.length}) hs.extBut)) (cG (TR ..) (by rw[hl,w.2.1,Dx];exact(aw [.l J0 (.n 15)] (.l (.a Y0 J0) (.n 1000000))) hz)) (cQ e).2 hq
end
theorem Jb(h:xo l s=aa k):l[k]?=aa s:=by unfold xo at h;exact(List.findIdx?_eq_some_iff_getElem.mp h).elim λhl q=>by rw[eQ hl];exact congrArg aa (beq_iff_eq.mp q.1)
structure gE (X:SX):Prop where
 x:b7 X
 g:vD X
 f:yT X
structure tn (X:SX) (O:ax) (b:Bool) (d:Nat) (c:mH):Prop where
 e: ∀ {env nm},bW X env nm-> ∀ e,WE X O b d env (c.e nm e) (eval e env) (VR X)
 t: ∀ {env nm},bW X env nm-> ∀ e,WE X O b d env (c.t nm e) (isTrue e env (eval e env)) iI
section
variable{X:SX}{O:ax}{b:Bool}{d:Nat}{env:Env}{nm:bg}{k:mH}{p:Pos}
theorem ot(h: ∀ e,WE X O b d env (f e) (eval e env) (VR X)): ∀ es,dQ X O b d env (es.map f) (cW es env)
 |[]=> .nil
 |e::es=>by rw[rF];exact .cons (h e) (ot h es)
theorem za(h: ∀ e,WE X O b d env (f e) (isTrue e env (eval e env)) iI): ∀ es,m4 X O b d env (es.map f) es
 |[]=> .nil
 |e::es=> .cons (h e) (za h es)
theorem TV(h: ∀ e,WE X O b d env (f e) (eval e env) (VR X))(o:Option Expr):WE X O b d env (pe (o.map f)) (wK (wO o env)) yR:=by
 induction o using jP with
 |none=>exact ae4
 |some e=>exact ae5 (h e)
theorem agK(K:gE X)(KO:dR X b d O)(ih:tn X O b d k)(C:bW X env nm):WE X O b d env (Nu k nm elt g scope) (eval (.ListComp elt [g] scope p) env) (VR X):=by
 induction g using LN with
 |mk t it ifs a=>
  refine m5 λh=>?_
  .have h:=bA.mp h
   obtain rfl:=beq_iff_eq.mp h.1;exact vE λtg ht=>agC K.x KO C h.2 ht (ih.e C it) (λed C'=>za (ih.t C') ifs) λed C'=>ih.e C' elt
theorem agL(ih:tn X O b d k)(C:bW X env nm):WE X O b d env (Ny k nm v i) (eval (.Subscript v i p) env) (VR X):=by
 induction i using nF with
 |Slice lo hi st q=>
  refine m5 λh=>?_
  .obtain rfl:=oP.mp h
   exact ae6 (ih.e C v) (TV (ih.e C) lo) (TV (ih.e C) hi)
 |_=>exact ae3 rfl (ih.e C v) (ih.e C _)
theorem agM(K:gE X)(KO:dR X b d O)(ih:tn X O b d k)(C:bW X env nm)(h1:args.all noStar=ag)(h2:args.length<30):WE X O b d env (Nv X.T nm x (args.map (k.e nm))) (eval (.Call (.Name x q) args [] p) env) (VR X):=
 m5 λhg=>by
  cases h:X.T.glob.lookup x with
  |some id=>exact afp K.g K.f KO C hg h h1 (fY h2) (ot (ih.e C) args)
  |none=>exact vE λc hc=>afo K.x K.g KO C hg hc h h1 (fY h2) (ot (ih.e C) args)
theorem step_call(K:gE X)(KO:dR X b d O)(ih:tn X O b d k)(C:bW X env nm)(h1:args.all noStar=ag)(h2:args.length<30):WE X O b d env (Nw X.T k nm p (args.map (k.e nm)) f) (eval (.Call f args [] p) env) (VR X):=by
 induction f using nF with
 |Name x q=>exact agM K KO ih C h1 h2
 |Attribute o m q=>exact m5 λh=>vE λi hi=>afD K.x K.f KO (bA.mp h).1 (Jb hi) (bA.mp h).2 h1 h2 (ih.e C o) (ot (ih.e C) args)
 |_=>exact jn
end
theorem agN{ops:List fZ}{es:List Expr}{ts:List (Sem Value)}(h:An ops es=ak)(h1:ops.length=es.length)(h2:es.length=ts.length):markedEach ops es ts=ts:=by
 induction ops generalizing es ts with
 |nil=>unfold markedEach;rfl
 |cons op ops ih=>
  induction es using cw with
  |nil=>exact nN rfl h1
  |cons e es=>
   induction ts using cw with
   |nil=>exact nN rfl h2
   |cons t ts=>
    induction ops using cw with
    |nil=>obtain rfl:=rt.mp (nt h1).symm;obtain rfl:=rt.mp (nt h2).symm;exact congrArg (·::[]) (show markedBehindIn op e t=t by unfold markedBehindIn;rw[show behindInMarks op e=ak from h])
    |cons=>exact congrArg (t:: ·) (ih h (nt h1) (nt h2))
section
variable{X:SX}{O:ax}{b:Bool}{d:Nat}{env:Env}{nm:bg}{k:mH}{p:Pos}{l:Expr}{ops:List fZ}{rs:List Expr}{m:RM PV}{ms:List (RM PV)}
theorem agO(h:xC ops rs=ag):ops≠[]/\ops.length=rs.length/\An ops rs=ak:=
 have h1:=bA.mp h;have h2:=bA.mp h1.1
 ⟨λe=>by subst e;exact(nB h2.1),beq_iff_eq.mp h2.2,(ox _).mp h1.2⟩
theorem agP{α:Type}{k:Bool}{m:RM Bool}{t:Sem α}{R:Cf->PV->α->Prop}(h:k=ag->WE X O b d env (fo m) t R):WE X O b d env (fo (gq k m)) t R:=by
 induction k using dD with
 |true=>exact h rfl
 |false=>exact jn
theorem TX{M:List fZ->List Expr->List (RM PV)->Prop}(hr:dQ X O b d env ms (cW rs env))(h:xC ops rs=ag)(f: ∀ {op ops r rs m ms},WE X O b d env m (eval r env) (VR X)->dQ X O b d env ms (cW rs env)->ops.length=(cW rs env).length->An (op::ops) (r::rs)=ak->(op::ops).length=(r::rs).length->M (op::ops) (r::rs) (m::ms)):M ops rs ms:=by
 have w:=agO h;induction ops using cw with
 |nil=>exact absurd rfl w.1
 |cons op ops=>
  induction rs using cw with
  |nil=>exact nN rfl w.2.1
  |cons r rs=>
   rw[rF] at hr;cases hr with
   |cons a q=>exact f a q (by rw[te];exact nt w.2.1) w.2.2 w.2.1
theorem marks{op:fZ}{r:Expr}{A:Type}{f:List (Sem Value)->A}(h:An (op::ops) (r::rs)=ak)(hl:(op::ops).length=(r::rs).length):f (markedEach (op::ops) (r::rs) (cW (r::rs) env))=f (eval r env::cW rs env):=by rw[agN h hl (te _).symm,rF]
theorem agQ(X0:b7 X)(hl:WE X O b d env m (eval l env) (VR X))(hr:dQ X O b d env ms (cW rs env))(h:xC ops rs=ag):WE X O b d env (fo (aK m (ops.zip ms))) (eval (.Compare l ops rs p) env) (VR X):=TX (M:=λops rs ms=>WE X O b d env (fo (aK m (ops.zip ms))) (eval (.Compare l ops rs p) env) (VR X)) hr h λa q hz hm hn=> .is (arm_eval_Compare ..) λzy zy zy zy zy hA hS e hq=>av (hl hA hS e fun{c' x v} e N r=>by rw[marks (f:=compareChain p v _) hm hn];exact aeU X0 a q hz hA (hS.nx N) r e λe N' z=>hq e (N.trans N') (z▸ .bool _))
theorem agR(X0:b7 X)(hl:WE X O b d env m (eval l env) (VR X))(hr:dQ X O b d env ms (cW rs env))(h:xC ops rs=ag):WE X O b d env (aK m (ops.zip ms)) (isTrue (.Compare l ops rs p) env whole) iI:=TX (M:=λops rs ms=>WE X O b d env (aK m (ops.zip ms)) (isTrue (.Compare l ops rs p) env whole) iI) hr h λa q hz hm hn=> .is (arm_isTrue_Compare ..) λzy zy zy zy zy hA hS e hq=>av (hl hA hS e fun{c' x v} e N r=>by rw[marks (f:=testChain p v _) hm hn];exact aeV X0 a q hz hA (hS.nx N) r e λe N' z=>hq e (N.trans N') z)
theorem agS(K:gE X)(KO:dR X b d O)(ih:tn X O b d k)(C:bW X env nm)(e:Expr):WE X O b d env (Nz X.T k nm e) (eval e env) (VR X):=by
 induction e using nF with
 |Constant=>exact aeN
 |Name=>exact afc C K.g
 |BinOp=>exact aeO (ih.e C _) (ih.e C _)
 |UnaryOp op=>induction op using Mf with|USub=>exact aeP (ih.e C _)|_=>exact jn
 |BoolOp op vs p=>induction vs using cw with
  |nil=>exact jn
  |cons x vs=>induction vs using cw with
   |nil=>exact jn
   |cons y vs=>induction vs using cw with
    |nil=>induction op using Lx with|And=>exact aeQ (ih.e C _) (ih.e C _)|Or=>exact aeR (ih.e C _) (ih.e C _)
    |cons=>exact jn
 |IfExp=>exact aeT (ih.t C _) (ih.e C _) (ih.e C _)
 |Compare=>exact agP λh=>agQ K.x (ih.e C _) (ot (ih.e C) _) h
 |Tuple=>exact m5 λh=>ae1 K.x h (ot (ih.e C) _)
 |List=>exact m5 λh=>ae2 h (ot (ih.e C) _)
 |Dict=>exact vE λg6 hk=>m5 λh=>have w:=bA.mp h;agJ K.x hk (beq_iff_eq.mp w.1) (of_decide_eq_true w.2) (ot (ih.e C) _) (ot (ih.e C) _)
 |ListComp elt gs=>induction gs using cw with
  |nil=>exact jn
  |cons g gs=>induction gs using cw with|nil=>exact agK K KO ih C|cons=>exact jn
 |Attribute=>exact m5 λh=>vE λi hi=>ae7 K.x h (Jb hi) (ih.e C _)
 |Subscript=>exact agL ih C
 |Call f args ks=>induction ks using cw with|nil=>exact m5 λh=>step_call K KO ih C (bA.mp h).1 (of_decide_eq_true (bA.mp h).2)|cons=>exact jn
 |_=>exact jn
theorem agT(K:gE X)(ih:tn X O b d k)(C:bW X env nm)(e:Expr):WE X O b d env (stepT k nm e) (isTrue e env (eval e env)) iI:=by
 induction e using nF with
 |UnaryOp op=>induction op using Mf with|Not=>exact aeW (ih.t C _)|_=>exact jn
 |BoolOp op vs p=>induction op using Lx with|And=>exact .is (arm_isTrue_BoolOp ..) (aeX (za (ih.t C) _))|Or=>exact .is (arm_isTrue_BoolOp ..) (aeY (za (ih.t C) _))
 |IfExp=>exact jn
 |Compare=>exact m5 λh=>agR K.x (ih.e C _) (ot (ih.e C) _) h
 |_=>exact aeZ rfl (ih.e C _)
theorem vO(K:gE X)(KO:dR X b d O): ∀ n,tn X O b d (cmp X.T n)
 |0=>⟨λzy zy=>jn,λzy zy=>jn⟩
 |n+1=>⟨λC=>agS K KO (vO K KO n) C,λC=>agT K (vO K KO n) C⟩
end
section
variable{X:SX}{O:ax}{b:Bool}{d:Nat}{env:Env}{nm:bg}{p:Pos}
theorem kS(K:gE X)(KO:dR X b d O)(C:bW X env nm)(e:Expr):WE X O b d env (cE X.T nm e) (eval e env) (VR X):=(vO K KO qE).e C e
theorem agU(h:k=ag->WS X O b d env (aT i m) t):WS X O b d env (aT i (gq k m)) t:=by
 induction k using dD with
 |true=>exact h rfl
 |false=>exact m8
theorem agV(h: ∀ a,o=aa a->WS X O b d env (aT i (m a)) t):WS X O b d env (aT i (jE o m)) t:=by
 induction o using jP with
 |some a=>exact h a rfl
 |none=>exact m8
theorem agW(K:gE X)(KO:dR X b d O)(C:bW X env nm):WS X O b d env (Fm X.T nm v (.Name x q)) (eJ (.Assign [.Name x q] v p) env):=by
 refine vG λh=>vF λi hi=>?_;cases hn:uz v with
 |true=>exact afO C hi hn (kS K KO C v)
 |false=>
  rw[hn] at h;induction v using nF with
  |ListComp elt gs scope vp=>
   have k:=vO (d:=d) K KO 99;induction gs using cw with
   |nil=>exact m8
   |cons g gs=>induction gs using cw with
    |cons=>exact m8
    |nil=>induction g using LN with|mk t it ifs a=>refine agU λh2=>?_;have h2:=bA.mp h2;obtain rfl:=beq_iff_eq.mp h2.1;exact agV λtg ht=>agD K.x KO C hi h h2.2 ht (k.e C it) (λed C'=>za (k.t C') ifs) λed C'=>k.e C' elt
  |SetComp=>exact nB h
  |DictComp=>exact nB h
  |_=>exact nT hn
theorem agX(K:gE X)(KO:dR X b d O)(C:bW X env nm):WS X O b d env (Fm X.T nm v t) (eJ (.Assign [t] v p) env):=by
 induction t using nF with
 |Name=>exact agW K KO C
 |Attribute=>exact vF λi hi=>afP K.x (Jb hi) (kS K KO C _) (kS K KO C _)
 |Subscript=>exact vG λzy=>afQ (kS K KO C _) (kS K KO C _) (kS K KO C _)
 |Tuple=>exact vF λtt ht=>vF λr hr=>af3 K.x C (kS K KO C) ht hr
 |_=>exact m8
theorem agY(K:gE X)(KO:dR X b d O)(C:bW X env nm):WS X O b d env (NA X.T nm op v t) (eJ (.AugAssign t op v p) env):=vG λh=>vF λi hi=>by obtain rfl:=beq_iff_eq.mp h;exact(CG hi).elim λx w=>w.elim λq w=>by have e:=w.1;subst e;exact afZ C w.2 (kS K KO C _)
theorem agZ(K:gE X)(KO:dR X b d O)(C:bW X env nm)(ih: ∀ s,WS X O b d env (c s) (eJ s env))(s:b9):WS X O b d env (NB X.T nm c s) (eJ s env):=by
 induction s using Stmt.casesOn with
 |Expr=>exact vG λh=>afM C h (kS K KO C _)
 |Assign ts=>induction ts using cw with
  |nil=>exact m8
  |cons t ts=>induction ts using cw with|nil=>exact agX K KO C|cons=>exact m8
 |AugAssign=>exact agY K KO C
 |Return v=>induction v using jP with|none=>exact afH|some=>exact afI (kS K KO C _)
 |If=>exact afJ ((vO K KO qE).t C _) (vH ih _) (vH ih _)
 |While t x y=>
  refine vG λh=>?_
  .obtain rfl:=rA.mp h
   exact afS ((vO K KO qE).t C _) (vH ih _)
 |For t it x y=>
  refine vG λh=>?_
  .have h:=bA.mp h
   obtain rfl:=rA.mp h.1;exact vF λtg ht=>af8 K.x KO C h.2 (kS K KO C _) ht (vH ih _)
 |Continue=>exact afG
 |Break=>exact afF
 |Pass=>exact afE
 |_=>exact m8
theorem TY(K:gE X)(KO:dR X b d O)(C:bW X env nm): ∀ n s,WS X O b d env (cS X.T nm n s) (eJ s env)
 |0,_=>m8
 |n+1,s=>agZ K KO C (TY K KO C n) s
theorem TZ(K:gE X)(KO:dR X b d O)(C:bW X env nm)(l:List b9):WS X O b d env (cB X.T nm l) (fO l env):=vH (TY K KO C qE) l
end
section
variable{prog:fB}{w:ef}{A:bB}{h:Heap}{g:Array oV}{d:Drawn}{t:Nat}{os:OsState}{b:Bool}
variable{nm q:Str}{C N:Addr}{bs:List Value}{sn:List Str}{sub:List Value}{col:Option Bool}{dd:Option Addr}{k0 k1 k2 k3 k5:Option Value}
theorem ag0(id:String)(args:Args):(bR prog w).den (.builtin id args)=(match oU mf id with|some b=>b args|none=>wJ ((Ee id "#data").getD id)):=rfl
theorem ag1{rest:List Value}(hC:h.get? C=aa (tR nm q C N bs [.type "object"] ag sn sub ak col dd k0 k1 k2 k3 k5 "object.__new__")):
  aC (bR prog w) A (rM (.ref C) ⟨rest,[]⟩) (λfin s'=>fin= .again (.call (.builtin "type.__call__") ⟨.ref C::rest,[]⟩)/\s'=⟨h,g,d,t,os⟩) (λzy zy=>False) ⟨h,g,d,t,os⟩:=by
 have f1:=tc_lookup;have f2:=tc_bind (.ref C);have hT:(⟨h,g,d,t,os⟩:aq).TypeIs (.ref C) "type" :=⟨_,hC,rfl⟩
 repeat (any_goals (first|assumption|with_reducible refine wpAny_loadPart_at hC ?_|wp_step))
 exact⟨rfl,rfl⟩
theorem ag2(hC:h.get? C=aa (tR nm q C N bs [.type "object"] ag sn sub ak col dd k0 k1 k2 k3 k5 "object.__new__")):
  aC (bR prog w) A (mroOf (.ref C)) (λl s'=>l.isEmpty=ak/\s'=⟨h,g,d,t,os⟩) (λzy zy=>False) ⟨h,g,d,t,os⟩:=by
 repeat (any_goals (first|assumption|with_reducible refine wpAny_loadPart_at hC ?_|wp_step))
 exact⟨rfl,rfl⟩
theorem ag3{rest:List Value}{mN:Str->Option Value}{fI:Addr}(hC:h.get? C=aa (tR nm q C N bs [.type "object"] ag sn sub ak col dd k0 k1 k2 k3 k5 "object.__new__"))(hn:h.Ns N mN)(hi:mN "__init__" =aa (.ref fI)):
  aC (bR prog w) A (call (.builtin "object.__new__") (.ref C::rest) []) (λv s'=>v= .ref (h.objs.size+1)/\s'=⟨(h.push {cls:= .type "dict",data:= .dict #[]}).push {cls:= .ref C,dict:=aa h.objs.size,data:= .plain},g,d,t,os⟩) (λzy zy=>False) ⟨h,g,d,t,os⟩:=by
 refine wpAny_call ?_;refine codeAny_call_builtin_code (Es _ EB.quiet) (wpAny_check_obj_new EB hC ?_);refine codeAny_obj_new EB hC hn hi ?_;exact⟨rfl,rfl⟩
theorem ag4{rest:List Value}{mN:Str->Option Value}{fI:Addr}{oI:Obj}{Q:Value->aq->Prop}
  (hC:h.get? C=aa (tR nm q C N bs [.type "object"] ag sn sub ak col dd k0 k1 k2 k3 k5 "object.__new__")) (hn:h.Ns N mN) (hi:mN "__init__" =aa (.ref fI))
  (hfI:h.get? fI=aa oI) (hfc:oI.cls= .type "function")
  (hq:aF b (bR prog w) (A.under (.builtin "type.__call__" ⟨.ref C::rest,[]⟩)) (call (.ref fI) (.ref (h.objs.size+1)::rest)) (λr s'=>r= .none/\Q (.ref (h.objs.size+1)) s') ⟨(h.push {cls:= .type "dict",data:= .dict #[]}).push {cls:= .ref C,dict:=aa h.objs.size,data:= .plain},g,d,t,os⟩):
  aF b (bR prog w) A (call (.ref C) rest) Q ⟨h,g,d,t,os⟩:=by
 refine yv (jK ?_);show aF b _ A.in1 (rM (.ref C) ⟨rest,[]⟩) _ _;refine aV (ma (ag1 hC) (λfin s' q=>?_) λzy zy q=>q);obtain⟨rfl,rfl⟩:=q;have hc:iH b (bR prog w) A (.call (.builtin "type.__call__") ⟨.ref C::rest,[]⟩) (λf s'=>match f with| .ret v=>Q v s'|_=>False) ⟨h,g,d,t,os⟩:=?_
 .exact⟨rfl,rfl,hc⟩
 refine jK ?_;show aF b _ A.in1 (do tP "type.__call__" ⟨.ref C::rest,[]⟩;again (.builtin "type.__call__" ⟨.ref C::rest,[]⟩)) _ _;refine av (aV (wpAny_check_type_call_sub hC (aP ⟨Es _ (by decide +kernel),?_,?_⟩)))
 .show Em.contains "type.__call__" =ak
  decide +kernel
 refine jK ?_;rw[ag0,entry_typeCall];show aF b _ _ (Builtin.«type.__call__» ⟨.ref C::rest,[]⟩) _ _;unfold Builtin.«type.__call__»;have ag5:mroOf (.type "object")=pure [.type "object"]:=by kernel_rfl
 have d9:ie (.type "object") "__init__" =pure (aa (.builtin "object.__init__")):=by rw[iO,iN];kernel_rfl
 show aF b _ _ (mroOf (.ref C) >>= _) _ _;refine av (aV (ma (ag2 hC) (λl s' q=>?_) λzy zy q=>q));obtain⟨q,rfl⟩:=q;rw[if_neg (by rw[q];exact ia)];refine av (aV (wpAny_madeBy_exc hC ?_));refine av (aP ?_);refine av (cg (aV (ma (ag3 hC hn hi) (λv s' q=>?_) λzy zy q=>q)));obtain⟨rfl,rfl⟩:=q;have Jc:=cf {cls:= .ref C,dict:=aa h.objs.size,data:= .plain} (cf {cls:= .type "dict",data:= .dict #[]} hC);have T1:=cf {cls:= .ref C,dict:=aa h.objs.size,data:= .plain} (cf {cls:= .type "dict",data:= .dict #[]} hfI);have T3:((h.push {cls:= .type "dict",data:= .dict #[]}).push {cls:= .ref C,dict:=aa h.objs.size,data:= .plain}).Ns N mN:=hn.elim λo q=>q.elim λes q=>q.elim λep q=>⟨o,es,ep,cf _ (cf _ q.1),q.2⟩;have oa:((h.push {cls:= .type "dict",data:= .dict #[]}).push {cls:= .ref C,dict:=aa h.objs.size,data:= .plain}).get? (h.objs.size+1)=aa {cls:= .ref C,dict:=aa h.objs.size,data:= .plain}:=by heap_get
 generalize hH:(h.push {cls:= .type "dict",data:= .dict #[]}).push {cls:= .ref C,dict:=aa h.objs.size,data:= .plain}=H at Jc T1 T3 oa hq ⊢;have bN: ∀ {A:bB},aC (bR prog w) A (isInstance (.ref (h.objs.size+1)) (.ref C)) (λr s'=>r=ag/\s'=⟨H,g,d,t,os⟩) (λzy zy=>False) ⟨H,g,d,t,os⟩:=fun{A}=>by
  have hcC:(Av C::[lu "object"]).contains (.ref C)=ag:=by simp
  unfold isInstance
  repeat (first|with_reducible refine wpAny_loadPart_at oa ?_|(with_reducible refine wpAny_isSubtype_exc Jc ?_;rw[hcC])|wp_step)
  exact⟨rfl,rfl⟩
 refine av (aV (ma bN (λr s' q=>?_) λzy zy q=>q));obtain⟨rfl,rfl⟩:=q;simp only[Bool.not_true,C9,if_false];refine av (cg ?_);unfold callSpecial?;have sp: ∀ {A:bB},aC (bR prog w) A (specialOf (.ref (h.objs.size+1)) "__init__") (λr s'=>r=aa (.ref fI)/\s'=⟨H,g,d,t,os⟩) (λzy zy=>False) ⟨H,g,d,t,os⟩:=fun{A}=>by
  unfold specialOf
  repeat (first|with_reducible refine wpAny_loadPart_at oa ?_|wp_step)
  show aC _ _ (ie (.ref C) _) _ _ _;refine wpAny_typeLookup_exc Jc T3 ag5 d9 ?_;rw[hi];exact⟨rfl,rfl⟩
 refine av (aV (ma sp (λr s' q=>?_) λzy zy q=>q));obtain⟨rfl,rfl⟩:=q;refine cg (av ?_);unfold bindSpecial;refine aV (wpAny_bind (Ah (T:= "function") ⟨_,T1,hfc⟩ ?_));rw[if_pos (by decide)];refine wpAny_pure (av (lN hq λr s' q=>?_));obtain⟨rfl,hQ⟩:=q;refine aP ?_;show aF b _ _ (if(eT != eT)=ag then _ else _) _ _;rw[if_neg (by decide)];exact aP hQ
end
section
variable{α:Type}{M:eR}{A:bB}{s:aq}{n x:Str}{v d:Value}{l acc:List (Str×Value)}{ps:List Str}{look:Str->Option Value}{kindOf:Str->Option jv}
theorem ajf{l:List (Str×α)}{a:α}{o:Option α}:((x,a)::l).lookup n=if n=x then aa a else l.lookup n:=by
 by_cases e:n=x
 .rw[if_pos e];exact e▸kQ
 .rw[if_neg e];exact ki e
theorem Jd(f:Str×Value->List (Str×Value)->Sem (ForInStep (List (Str×Value))))(hf: ∀ n d slots,f (n,d) slots=if(slots.lookup n).isNone then pure (.yield (slots++[(n,d)])) else pure (.yield slots)):
  ∀ (l acc:List (Str×Value)),∃ r,forIn l acc f=(pure r:Sem _)/\ ∀ n,r.lookup n=(acc.lookup n).or (l.lookup n)
 |[],acc=>⟨acc,Dz ..,λn=>(Option.or_none ..).symm⟩
 |(x,d)::l,acc=>by
  rw[zL,hf];cases q:acc.lookup x with
  |none=>exact(Jd f hf l (acc++[(x,d)])).elim λr w=>⟨r,w.1,λn=>by
    rw[w.2,wa,Option.or_assoc];by_cases e:n=x
    .subst e;rw[q,kQ,kQ];rfl
    .rw[ki e,ki e];rfl⟩
  |some v=>exact(Jd f hf l acc).elim λr w=>⟨r,w.1,λn=>by
    rw[w.2];by_cases e:n=x
    .subst e;rw[q];rfl
    .rw[ki e]⟩
theorem ag6{ps:List Str}{vs:List Value}{k:Nat}(hk:k<=vs.length)(h:n∈ps.take k):((ps.zip vs).lookup n).isNone=ak:=by
 induction ps generalizing vs k with
 |nil=>rw[DA] at h;exact absurd h oE
 |cons p ps ih=>
  induction k using ju with
  |zero=>exact absurd h oE
  |succ k=>
   induction vs using cw with
   |nil=>exact absurd hk (Nat.not_succ_le_zero _)
   |cons v vs=>
    rw[zH];by_cases e:n=p
    .subst e;rw[kQ];rfl
    .rw[ki e];exact ih (DF hk) ((gH.mp h).resolve_left e)
theorem ag7(f:Str×Value->List (Str×Value)->Sem (ForInStep (List (Str×Value))))(hf: ∀ n d slots,f (n,d) slots=if(slots.lookup n).isNone then pure (.yield (slots++[(n,d)])) else pure (.yield slots))(h: ∀ r,(∀ n,r.lookup n=(acc.lookup n).or (l.lookup n))->Q r s):aC M A (forIn l acc f) Q E s:=(Jd f hf l acc).elim λr w=>w.1▸wpAny_pure (h r w.2)
theorem ag8{vals dz:List Value}{r':List (Str×Value)}(h3:dz.length<=ps.length)(w: ∀ n,r'.lookup n=((ps.zip vals).lookup n).or (((ps.drop (ps.length-(dz.drop (dz.length-ps.length)).length)).zip (dz.drop (dz.length-ps.length))).lookup n)):
  (ps.filterMap λn=>(r'.lookup n).map (n,·))=ps.filterMap λn=>(jF ps vals dz n).map (n,·):=by
 rw[DG h3,tG] at w;exact congrArg (ps.filterMap ·) (funext λn=>by rw[w];rfl)
theorem ag9{vals dz:List Value}(h2:ps.length<=vals.length+dz.length)(h3:dz.length<=ps.length):(ps.take (ps.length-(dz.drop (dz.length-ps.length)).length)).filter (λn=>((ps.zip vals).lookup n).isNone)=[]:=List.filter_eq_nil_iff.mpr λn hn=>by rw[DG h3,tG] at hn;rw[ag6 (Nat.sub_le_iff_le_add.mpr h2) hn];exact ia
theorem aha{fd:qh}{fS:List Arg}{ds:List Expr}{vals dz:List Value}{E:Value->aq->Prop}{Q:List (Str×Value)->aq->Prop}(hp:fd.params=⟨[],fS,ae,[],[],ae,ds⟩)
  (hd: ∀ {Q:Option (Array Value)->aq->Prop},(∀ {r},(r.getD #[]).toList=dz->Q r s)->aC M A (seqItems? fd.defaults) Q E s) (h1:vals.length<=(fS.map (·.arg)).length) (h2:(fS.map (·.arg)).length<=vals.length+dz.length) (h3:dz.length<=(fS.map (·.arg)).length)
  (hQ:Q ((fS.map (·.arg)).filterMap λn=>(jF (fS.map (·.arg)) vals dz n).map (n,·)) s):aC M A (bindArgs fd ⟨vals,[]⟩) Q E s:=by
 induction fd using FuncData.casesOn with
 |mk nm qn pr bd sc gl cl df kd dc pm an co ct bu=>have hp:pr=⟨[],fS,ae,[],[],ae,ds⟩:=hp;subst hp;exact wpAny_bind (wpAny_pure (wpAny_bind (hd fun{r} q=>dT (C7.mpr (.inl (decide_eq_false (ic h1)))) (dT (by subst q;exact congrArg (λl=> !List.isEmpty l) (ag9 (ps:=fS.map (·.arg)) h2 h3)) (wpAny_bind (ag7 _ (λzy zy zy=>rfl) λr' w=>wpAny_bind (wpAny_pure (wpAny_pure (by subst q;exact(congrArg (λl=>Q (l.filterMap λn=>(r'.lookup n).map (n,·)) s) (jr (fS.map (·.arg)))).mpr ((congrArg (Q · s) (ag8 (ps:=fS.map (·.arg)) h3 w)).mpr hQ))))))))))
theorem ahb{vals dz:List α}{v:α}(h:jF ps vals dz n=aa v):n∈ps:=by
 unfold jF at h;cases h1:(ps.zip vals).lookup n with
 |some w=>exact(KN (lookup_mem h1)).1
 |none=>rw[h1,Li] at h;exact JW (KN (lookup_mem h)).1
theorem zb: ∀ ps:List Str,((ps.filterMap λn=>(look n).map (n,·)).map (·.1)).Sublist ps
 |[]=> .slnil
 |p::ps=>by
  rw[Dr];induction look p using jP with
  |none=>exact(zb ps).cons _
  |some v=>exact(zb ps).cons₂ _
theorem ahc(h:x∉ps):(ps.filterMap λn=>(look n).map (n,·)).lookup x=ae:=by
 cases e:(ps.filterMap λn=>(look n).map (n,·)).lookup x with
 |none=>rfl
 |some v=>exact absurd ((zb ps).subset (bX.mpr ⟨_,lookup_mem e,rfl⟩)) h
theorem T4: ∀ {ps:List Str},ps.Nodup->(∀ v,look x=aa v->x∈ps)->(ps.filterMap λn=>(look n).map (n,·)).lookup x=look x
 |[],_,hm=>by
  cases e:look x with
  |none=>rfl
  |some v=>exact(by rcases hm v e with⟨⟩)
 |p::ps,hn,hm=>by
  have hn:=lV.mp hn;rw[Dr];by_cases z:x=p
  .subst z
   cases h:look x with
   |none=>exact ahc hn.1
   |some v=>exact kQ
  .have ih:=T4 (ps:=ps) hn.2 λv e=>(gH.mp (hm v e)).resolve_left z
   induction look p using jP with
   |none=>exact ih
   |some v=>exact(ki z).trans ih
theorem T5{l:List (Str×Value)}(h:x∉l.map (·.1)):l.lookup x=ae:=by
 cases e:l.lookup x with
 |none=>rfl
 |some v=>exact absurd (bX.mpr ⟨_,lookup_mem e,rfl⟩) h
theorem T6(hx:kindOf x=aa .local): ∀ {binds:List (Str×Value)} {m:Str->Option Value},(binds.map (·.1)).Nodup->bindL kindOf binds m x=(binds.lookup x).or (m x)
 |[],m,_=>rfl
 |(n,v)::r,m,hn=>by
  have hn:=lV.mp hn;unfold bindL;rw[T6 hx hn.2];by_cases z:x=n
  .subst z
   rw[T5 hn.1,kQ,hx];exact if_pos rfl
  .rw[ki z]
   by_cases w:kindOf n=aa .local
   .rw[if_pos w];exact congrArg _ (if_neg z)
   .rw[if_neg w]
theorem T7(hx:kindOf x≠aa .local): ∀ {binds:List (Str×Value)} {m:Str->Option Value},(binds.map (·.1)).Nodup->bindC kindOf binds m x=(binds.lookup x).or (m x)
 |[],m,_=>rfl
 |(n,v)::r,m,hn=>by
  have hn:=lV.mp hn;unfold bindC;rw[T7 hx hn.2];by_cases z:x=n
  .subst z
   rw[T5 hn.1,kQ,if_neg hx];exact if_pos rfl
  .rw[ki z]
   by_cases w:kindOf n=aa .local
   .rw[if_pos w]
   .rw[if_neg w];exact congrArg _ (if_neg z)
end
inductive FR (X:SX) (c:Cf):Option PV->Option Value->Prop
 |none:FR X c ae ae
 |some {p:PV} {v:Value}:VR X c p v->FR X c (aa p) (aa v)
section
variable{X:SX}{c:Cf}{x:Str}
theorem T8{ps:List Str}{l:List PV}{vs:List Value}(h:aE X c l vs):FR X c ((ps.zip l).lookup x) ((ps.zip vs).lookup x):=by
 induction ps generalizing l vs with
 |nil=>exact .none
 |cons q ps ih=>
  induction h using aE.casesOn with
  |nil=>exact .none
  |cons hp hr=>
   rw[zH,zH];by_cases z:x=q
   .subst z;rw[kQ,kQ];exact .some hp
   .rw[ki z,ki z];exact ih hr
theorem ahd(h:aE X c l vs)(hd:aE X c ds dz):FR X c (jF ps l ds x) (jF ps vs dz x):=by
 unfold jF;rw[hd.length];have h1:=T8 (ps:=ps) (x:=x) h;generalize (ps.zip l).lookup x=a,(ps.zip vs).lookup x=b at h1;induction h1 using FR.casesOn with
 |none=>exact T8 hd
 |some hv=>exact .some hv
end
inductive DV:PV->Value->Prop
 |int (i:Int) (t:Tok):DV (.int i) (.int i t)
 |bytes (b:List UInt8) (t:Tok):b.length<=1000000->DV (.bytes b) (.bytes b.toArray t)
inductive rl:List PV->List Value->Prop
 |nil:rl [] []
 |cons {p:PV} {v:Value} {l:List PV} {vs:List Value}:DV p v->rl l vs->rl (p::l) (v::vs)
inductive tq (X:SX) (v:Value) (l:List PV):Prop
 |none:l=[]->v= .none->tq X v l
 |some {a:Addr} {vs:List Value} {m:Nat}:v= .ref a->X.bC.get? a=aa (seqObj "tuple" vs.toArray m)->rl l vs->tq X v l
structure FnAt (X:SX) (id:Nat) (params:List Str) (de:List PV) (names:bg) (body:List b9) (gen:Bool) (o:Obj) (fd:qh):Prop where
 obj:X.bC.get? (X.fv id)=aa o
 cls:o.cls= .type "function"
 data:o.data= .func fd
 hnames:fd.scope.names=names
 kind:fd.scope.kind= .function
 hgen:fd.scope.isGenerator=gen
 co:fd.scope.isCoroutine=ak
 hbody:fd.body= .stmts body
 globals:fd.globals=jQ
 builtins:fd.builtins=rJ
 closure:fd.closure=[]
 code:X.bC.CodeRec fd.code fd.qualname
 hparams: ∃ fS ds,fd.params=⟨[],fS,ae,[],[],ae,ds⟩/\fS.map (·.arg)=params
 hdflts:tq X fd.defaults de
 nodup:(names.map (·.1)).Nodup
 plain: ∀ p∈names,(p.1==("__debug__" :Str))=ak/\(p.1==("__classdict__" :Str))=ak
 kinds: ∀ p∈names,p.2≠ .free
 pnames: ∀ x∈params,names.lookup x=aa .local\/names.lookup x=aa .cell
 pnodup:params.Nodup
structure Made (X:SX) (c:Cf) (names:bg) (loc:List (Option PV)) (env:Env) (H':Heap) (tk:Nat):Prop where
 cx:bW X env names
 co:env.scope.isCoroutine=ak
 at_:di X env (gC c) c (c.to H' tk) loc
 fresh: ∀ {a},cp env a->gC c a
 keep: ∀ {a ob},c.s.heap.get? a=aa ob->H'.get? a=aa ob
section
variable{X:SX}{c:Cf}{id:Nat}{params:List Str}{de xs:List PV}{names:bg}{body:List b9}{gen:Bool}{o:Obj}{fd:qh}{vs:List Value}{loc:List (Option PV)}{A:bB}
theorem rl.T9(h:rl l vs):aE X c l vs:=by
 induction h with
 |nil=>exact .nil
 |cons a _ ih=>exact .cons (by induction a using DV.casesOn with|int i t=>exact .int i t|bytes c t hz=>exact .bytes c t hz) ih
theorem tq.get{v:Value}(h:tq X v de)(S:SR X c): ∃ dz,rl de dz/\ ∀ {Q:Option (Array Value)->aq->Prop},(∀ {r},(r.getD #[]).toList=dz->Q r c.s)->aC X.M A (seqItems? v) Q (λzy zy=>False) c.s:=by
 induction h using tq.casesOn with
 |none e1 e2=>subst e1 e2;exact⟨[],.nil,λf=>wpAny_pure (f rfl)⟩
 | @some a us m e1 e2 e3=>subst e1;exact⟨us,e3,λf=>Ac (S.static _ _ e2) rfl (f rfl)⟩
theorem FR.el(h:FR X c q w)(e:q=aa p): ∃ u,w=aa u/\VR X c p u:=by
 induction h using FR.casesOn with
 |none=>exact nO e
 |some hv=>exact⟨_,rfl,bD e▸hv⟩
theorem ahe(X0:b7 X)(F:FnAt X id params de names body gen o fd)(S:SR X c)(hx:aE X c xs vs)(hb:sb names params de xs=aa loc){β:Type}{rest:Env->Sem β}{Q:β->aq->Prop}(hQ: ∀ {env H' tk},Made X c names loc env H' tk->aC X.M A (rest env) Q (λzy zy=>False) {c.s with heap:=H',toks:=tk}):
  aC X.M A (bindArgs fd ⟨vs,[]⟩) (λbinds bE=>aC X.M A (Ad fd.scope fd.globals fd.closure binds (fd.qualname++ ".<locals>.") (aa (X.fv id)) fd.code ae fd.builtins >>= rest) Q (λzy zy=>False) bE) (λzy zy=>False) c.s:=
 pV hb (λq e=>(F.hdflts.get (A:=A) S).elim λdz w=>F.hparams.elim λfS p=>p.elim λds p=>by
  have e:=bD e;subst e;have hl:=hx.length;have hd:=(w.1.T9 (X:=X) (c:=c)).length;have hn:=F.hnames;subst hn;refine aha p.1 w.2 (by rw[p.2,<- hl];exact q.1) (by rw[p.2,<- hl,<- hd];exact q.2.1) (by rw[p.2,<- hd];exact q.2.2) ?_;rw[p.2];have Je:((params.filterMap λn=>(jF params vs dz n).map (n,·)).map (·.1)).Nodup:=(zb params).nodup F.pnodup;have qS: ∀ x,(params.filterMap λn=>(jF params vs dz n).map (n,·)).lookup x=jF params vs dz x:=λx=>T4 F.pnodup λv e=>ahb e;have pG: ∀ x∈params.filterMap λn=>(jF params vs dz n).map (n,·),x.1∈params:=λx hx=>(zb params).subset (bX.mpr ⟨x,hx,rfl⟩);generalize (params.filterMap λn=>(jF params vs dz n).map (n,·))=binds at Je qS pG ⊢;rw[F.closure];refine wpAny_bind (wpAny_newFunctionEnv_cells F.kind (λx mK=>(F.pnames _ (pG x mK)).imp (λz=>z) λz=>⟨z,zX.mpr (cellsFrom_some (.inl (lookup_mem z)))⟩) λenv he s' x=>x.toInCall.done.elim λH' y=>y.elim λtk y=>?_);have ye:=y.1;subst ye;have pW:=x.toInCall.ns;have iV:=x.cell;clear x;subst he;have cm: ∀ {y a},(ig (c.s.heap.objs.size+1) fd.scope.names []).lookup y=aa a->(y,t7)∈fd.scope.names/\c.s.heap.objs.size+1<=a:=λe=>(y6 (lookup_mem e)).resolve_left λz=>(by rcases z with⟨⟩);have N:Nx X c (c.to H' tk):= .kept X0 S y.2;have M:=N.mo S;have fr: ∀ {a},cp (newEnv fd.scope c.s.heap.objs.size fd.globals (ig (c.s.heap.objs.size+1) fd.scope.names []) (fd.qualname++ ".<locals>.") (aa (X.fv id)) fd.code ae fd.builtins) a->c.s.heap.objs.size<=a/\ ∃ ob,H'.get? a=aa ob/\ ¬ cK ob:=λfa=>fa.elim (λe=>e▸⟨aS _,IF pW⟩) λz=>z.elim λy e=>⟨tJ (cm e).2,IG (iV y _ e)⟩;have at_: ∀ {i y k v},fd.scope.names[i]?=aa (y,k)->eV (fd.scope.names.map λp=>jF params xs de p.1) i=aa v-> ∃ u,jF params vs dz y=aa u/\VR X (c.to H' tk) v u:=λe1 e2=>by rw[IY,e1] at e2;exact(ahd (hx.mono M) w.1.T9).el e2
  refine hQ ⟨⟨rfl,F.kind,F.nodup,F.globals,F.builtins,rfl,λx y a h1 h2=>Tv (IU (H:=c.s.heap)).apart (lookup_mem h1) (lookup_mem h2),λy e=>DI _ (cm e).2,F.plain⟩,F.co,
   ⟨⟨N.sr,⟨⟨_,pW,λi y v e1 e2=>(at_ e1 e2).elim λu z=>⟨u,?_,z.2⟩⟩,λi y k e1 e2=>?_,aX ..⟩,λfa=>⟨cG S.old (fr fa).1,λo=>o.elim λk z=>(S.kinds z.1 z.2).elim λob q=>ic (fr fa).1 (ei q.1),(fr fa).2⟩⟩,N.ev.weaken λzy zy zy q=>q.elim,rfl⟩,
   λfa=>oZ (fr fa).1,λe=>y.2 _ _ e⟩
  .rw[T6 (mem_lookup F.nodup (kY e1)) Je,qS,z.1];rfl
  .have hm:=kY e1
   have hk:=e2.resolve_right λz=>F.kinds _ hm z;subst hk;exact(cellsFrom_some (n:=c.s.heap.objs.size+1) (acc:=[]) (.inl hm)).elim λa z=>⟨a,_,z,iV y a z,λv e3=>(at_ e1 e3).elim λu r=>⟨u,by rw[T7 (λq=>have q':fd.scope.names.lookup y=aa NameKind.local:=q;(by rcases(mem_lookup F.nodup hm).symm.trans q' with⟨⟩)) Je,qS,r.1];rfl,r.2⟩⟩) λzy e=>nO e
end
theorem ahf{β:Type}{M:eR}{A:bB}{s:aq}{cd:Value}{q nm:Str}{jp:Str->Sem β}{E:Value->aq->Prop}{Q:β->aq->Prop}(h:s.heap.CodeRec cd q)(hQ:aC M A (jp q) Q E s):aC M A (match cd with
  | .none=>pure nm >>= jp
  |c=>field c 1 >>= λv=>match v with
   | .str q _=>pure q >>= jp
   |_=>pure nm >>= jp) Q E s:=
 h.elim λc w=>w.elim λo w=>w.elim λus w=>w.elim λt w=>by have e:=w.1;subst e;exact wpAny_bind (m:=field (.ref c) 1) (Aj w.2.1 w.2.2.1 w.2.2.2 (wpAny_bind (wpAny_pure hQ)))
theorem ahg(ho:s.heap.get? a=aa o)(hd:o.data= .func fd)(h:aC M A (callFunction a fd args) Q E s):aC M A (rM (.ref a) args) Q E s:=by
 induction o using Obj.casesOn with
 |mk cls dict data slots=>have hd:data= .func fd:=hd;subst hd;exact wpAny_bind (m:=load a) (l9 ho h)
section
variable{X:SX}{O:ax}{b:Bool}{d:Nat}{c:Cf}{id:Nat}{params:List Str}{de xs:List PV}{names:bg}{body:List b9}{gen:Bool}{o:Obj}{fd:qh}{vs:List Value}{loc:List (Option PV)}{A:bB}
theorem bp.deeper(h:bp (d+1) A):bp d (A.deeper env):=⟨h.handled,h.guards,by have:=h.depth;show A.depth+1+_<=_;exact(au [.l (.a J0 (.m 3 (.a J1 Y1))) (.n 990)] (.l (.a (.a J0 Y1) (.m 3 J1)) (.n 990))) this,by have:=h.units;show A.units+3+_<=_;exact(au [.l (.a J0 (.m 40 (.a J1 Y1))) (.n 9000)] (.l (.a (.a J0 (.n 3)) (.m 40 J1)) (.n 9000))) this⟩
theorem bp.CN(h:bp (d+1) A):A.in1.depth<Ae:=by have:=h.depth;show A.depth<_;rw[show Ae=1000 from rfl];exact(au [.l (.a J0 (.m 3 (.a J1 Y1))) (.n 990)] (.t J0 (.n 1000))) this
noncomputable def callEnd (gen:Bool) (nm qn:Str) (code:Code):Sem fA:=match gen,ak with|false,ak=>again code|true,ak=> do ret (<- newGenerator code nm qn)|false,ag=> do ret (<- newCoroutine code nm qn)|true,ag=> do ret (<- newAsyncGenerator code nm qn)
theorem Ua(X0:b7 X)(F:FnAt X id params de names body gen o fd)(hL:X.bC.NoLimit)(hd:A.depth<Ae)(S:SR X c)(hx:aE X c xs vs)(hb:sb names params de xs=aa loc){Q:fA->aq->Prop}
  (hq: ∀ {env H' tk},Made X c names loc env H' tk->aC X.M A (callEnd gen fd.name fd.qualname (.func body env)) Q (λzy zy=>False) {c.s with heap:=H',toks:=tk}):aC X.M A (rM (.ref (X.fv id)) ⟨vs,[]⟩) Q (λzy zy=>False) c.s:=by
 refine ahg (S.static _ _ F.obj) F.data (ahf (F.code.keeps S.static) ?_);refine wpAny_bind (ahe X0 F S hx hb fun{env H' tk} Md=>wpAny_bind (wpAny_enterFrame (hL.keeps λb ob e=>Md.keep (S.static b ob e)) hd ?_));rw[F.hbody,F.hgen,F.co];exact hq Md
theorem ahh(K:gE X)(KO:dR X b d O)(F:FnAt X id params de names body ak o fd)(hL:X.bC.NoLimit):kO X b (d+1) (.ref (X.fv id)) (λxs h K=> ∃ loc,sb names params de xs=aa loc/\cB X.T names body O ⟨h,loc⟩ (aW K)):=
 λA c xs vs K' Q hA S hx e hq=>e.elim λloc e=>yv (jK (aV (t:=rM (.ref (X.fv id)) ⟨vs,[]⟩) (Ua K.x F hL hA.CN S hx e.1 fun{env H' tk} Md=>wpAny_pure ⟨rfl,rfl,jK (A:=A) (av (m:=point) (Qz (av (m:=(fO body env).onRaise (leaving env)) (qY (TZ K KO Md.cx body hA.deeper Md.at_.ok (e.2) fun{c' l' f u} e N r=>by
  have N':Nx X c c':=⟨N.ok.sr,(Md.at_.ev.trans (N.ev.weaken λa ob zy fa=>Md.fresh fa)).weaken λa ob e z=>(nS (e.symm.trans z)),N.os⟩;induction r using m6.casesOn with
  |next=>exact aP (hq e N' .none)
  |brk=>exact e.elim
  |cont=>exact e.elim
  |ret hv=>exact aP (hq e N' hv))))))⟩)))
end
section
variable{X:SX}{O:ax}{b:Bool}{d:Nat}{c:Cf}{id:Nat}{params:List Str}{de xs:List PV}{names:bg}{body:List b9}{gen:Bool}{o:Obj}{fd:qh}{vs:List Value}{loc:List (Option PV)}{A:bB}
theorem CO{a:Nat}{F:Nat->Prop}{g:Option Nat}{z:Option Obj}{o:aB}{s':aq}:(c.add a F g z o s').G.ad c.h.length=a:=if_pos rfl
theorem Ub{a:Nat}{F:Nat->Prop}{g:Option Nat}{z:Option Obj}{o:aB}{s':aq}:(c.add a F g z o s').G.foot c.h.length=F:=if_pos rfl
theorem Jf{a:Nat}{F:Nat->Prop}{g:Option Nat}{z:Option Obj}{o:aB}{s':aq}:VR X (c.add a F g z o s') (.ref c.h.length) (.ref a):=by have vr:=VR.ref (X:=X) (c:=c.add a F g z o s') (k:=c.h.length) (by show _<(c.h++[_]).length;rw[bb];exact k8 _);rw[CO] at vr;exact vr
noncomputable def pY (g:Nat) (nm qn:Value):Obj:={cls:= .type "generator",data:= .fields #[.int g 0,nm,qn]}
theorem ahi: ¬ cK (pY g nm qn):=vn (T:= "generator") (by decide) rfl
theorem ahj{env:Env}{H':Heap}{tk yH:Nat}{nm qn:Value}{K:PV->PH->Prop}{Q:Value->aq->Prop}(S:SR X c)(Md:Made X c names loc env H' tk)(he:X.T.ents[id]?=aa (.fn params de names body ag))(e:K (.ref c.h.length) (c.h++[.gen id loc ae]))(hq:Kv X c K Q):
  Q (.ref H'.objs.size) {c.s with gens:=c.s.gens.push (.fresh (.func body env)),toks:=yH,heap:=H'.push (pY c.s.gens.size nm qn)}:=by
 have hk: ∀ {a ob},H'.get? a=aa ob->(H'.push (pY c.s.gens.size nm qn)).get? a=aa ob:=λe=>cf _ e;have hg:(H'.push (pY c.s.gens.size nm qn)).get? H'.objs.size=aa (pY c.s.gens.size nm qn):=eg _ rfl;generalize H'.push (pY c.s.gens.size nm qn)=ahk at hk hg ⊢;have nn:H'.get? H'.objs.size=ae:=oZ (aS _);have fr:=fun{a} (fa:cp env a)=>Md.at_.ok.frame fa;have W:=S.add (a:=H'.objs.size) (F:=λz=>z=H'.objs.size\/cp env z) (g:=aa c.s.gens.size) (z:=aa (pY c.s.gens.size nm qn)) (o:= .gen id loc ae) (s':={c.s with gens:=c.s.gens.push (.fresh (.func body env)),toks:=yH,heap:=ahk}) (λe=>hk (Md.keep e)) (.inl rfl)
  (λhb=>hb.elim (λz=>z▸⟨⟨Md.at_.ok.sr.old,tK.mpr λob q=>nO (nn.symm.trans (Md.keep q))⟩,_,hg,ahi⟩) λfa=>⟨⟨(fr fa).1,Md.fresh fa⟩,(fr fa).2.2.elim λob q=>⟨ob,hk q.1,q.2⟩⟩)
  (by show _<=(c.s.gens.push _).size;rw[C6];exact km _) (fun{i} hi=>by show(c.s.gens.push _)[i]?=_;rw[Array.getElem?_push_lt hi,vR hi]) (S.bare.push rfl)
  (λe=>bD e▸⟨aS _,by show _<(c.s.gens.push _).size;rw[C6];exact k8 _⟩)
  (λM=> .gen (.fresh (env:=env) (names:=names) (body:=body) (g:=c.s.gens.size) (ob:=pY c.s.gens.size nm qn) (if_pos rfl) (if_pos rfl) ⟨_,_,rfl,rfl,rfl⟩ Array.getElem?_push_size
   ⟨⟨params,de,he⟩,Md.cx.names,Md.cx.env,Md.co,λa fa=>⟨(congrFun Ub a).mpr (.inr fa),λz=>(fr fa).2.2.elim λob q=>by rw[z.trans CO] at q;exact nO (nn.symm.trans q.1)⟩⟩
   (Md.at_.ok.locs.mono (λzy e=>hk e) ⟨λe st=>hk e,M.ad,M.le⟩)))
  (λe=>bD e▸⟨hg,trivial⟩)
 exact hq (c':=c.add H'.objs.size (λz=>z=H'.objs.size\/cp env z) (aa c.s.gens.size) (aa (pY c.s.gens.size nm qn)) (.gen id loc ae) _) e ⟨W.1,W.2,rfl⟩ Jf
theorem ahl(X0:b7 X)(F:FnAt X id params de names body ag o fd)(hL:X.bC.NoLimit)(he:X.T.ents[id]?=aa (.fn params de names body ag)):kO X b (d+1) (.ref (X.fv id)) (λxs h K=> ∃ loc,sb names params de xs=aa loc/\uq (.gen id loc ae) h K):=λA c xs vs K' Q hA S hx e hq=>e.elim λloc e=>yv (jK (aV (t:=rM (.ref (X.fv id)) ⟨vs,[]⟩) (Ua X0 F hL hA.CN S hx e.1 fun{env H' tk} Md=>wpAny_bind (m:=newGenerator (.func body env) fd.name fd.qualname) (wpAny_bind (wpAny_newGen (wpAny_bind (wpAny_mkText (wpAny_bind (wpAny_mkText (l8 (wpAny_pure (ahj S Md he e.2 hq)) (by size_fits)))))))))))
end
inductive pZ (H:Heap) (a N:Nat):Prop
 |mk {nm q:Str} {bs:List Value} {sn:List Str} {sub:List Value} {col:Option Bool} {dd:Option Addr} {k0 k1 k2 k3 k5:Option Value}:H.get? a=aa (tR nm q a N bs [.type "object"] ag sn sub ak col dd k0 k1 k2 k3 k5 "object.__new__")->pZ H a N
inductive zd (X:SX) (z init:Nat):Prop
 |mk {N:Addr} {mN:Str->Option Value} {oI:Obj}:z<13->pZ X.bC (X.C z) N->X.bC.Ns N mN->mN "__init__" =aa (.ref (X.fv init))->X.bC.get? (X.fv init)=aa oI->oI.cls= .type "function" ->zd X z init
section
variable{X:SX}{O:ax}{b:Bool}{d:Nat}{c:Cf}{id z init:Nat}{xs:List PV}{vs:List Value}{A:bB}
theorem bp.make(h:bp (d+1) A):bp d (A.under (.builtin "type.__call__" ⟨.ref a::args,[]⟩)):=⟨h.handled,h.guards,by rw[depth_under_make];have:=h.depth;exact(au [.l (.a J0 (.m 3 (.a J1 Y1))) (.n 990)] (.l (.a (.a J0 Y1) (.m 3 J1)) (.n 990))) this,by rw[units_under_make];have:=h.units;exact(au [.l (.a J0 (.m 40 (.a J1 Y1))) (.n 9000)] (.l (.a (.a J0 Y1) (.m 40 J1)) (.n 9000))) this⟩
theorem ahm(hz:z<13)(S:SR X c){s':aq}(hk: ∀ {a ob},c.s.heap.get? a=aa ob->s'.heap.get? a=aa ob)(h1:s'.heap.get? (c.s.heap.objs.size+1)=aa {cls:= .ref (X.C z),dict:=aa c.s.heap.objs.size,data:= .plain})(h0:s'.heap.get? c.s.heap.objs.size=aa {cls:= .type "dict",data:= .dict #[]})(hg:s'.gens=c.s.gens):
  SR X (c.add (c.s.heap.objs.size+1) (λa=>a=c.s.heap.objs.size+1\/a=c.s.heap.objs.size) ae ae (.inst z []) s')/\Ev (λzy=>False) c (c.add (c.s.heap.objs.size+1) (λa=>a=c.s.heap.objs.size+1\/a=c.s.heap.objs.size) ae ae (.inst z []) s'):=
 S.add hk (.inl rfl) (λhb=>hb.elim (λe=>e▸⟨⟨nq S.old,oZ (km _)⟩,_,h1,λq=>q.1.elim (λe=>Mg e) λe=>Mg e⟩) λe=>e▸⟨S.top,_,h0,yD ⟨rfl,rfl,rfl⟩⟩) (hg▸aS _) (λzy=>hg▸rfl) (hg▸S.bare) nO (λM=> .inst (d:=c.s.heap.objs.size) (mA:=λzy=>ae) ⟨_,(congrArg s'.heap.get? CO).trans h1,rfl,(λzy e=>wW e),rfl,λe=>Le _ (e.trans CO).symm,Heap.Ns1.of_empty ⟨_,#[],_,h0,rfl,λe he=>absurd he (C5 e),λzy=>rfl⟩⟩ ((congrFun Ub _).mpr (.inr rfl)) ⟨(λzy zy=>nO),(λzy zy=>nO)⟩ hz (λzy zy=>nO)) nO
theorem ahn(F:zd X z init)(hv:X.fv id=X.C z)(hI:kO X b d (.ref (X.fv init)) (O.call init)):kO X b (d+1) (.ref (X.fv id)) (λxs h K=>O.call init (.ref h.length::xs) (h++[.inst z []]) (xE h.length K)):=
 λA c xs vs K' Q hA S hx e hq=>by
  induction F using zd.casesOn with
  |mk lt l f2 f3 f4 f5=>
  induction l using pZ.casesOn with
  |mk f1=>
  rw[hv];refine ag4 (S.static _ _ f1) (f2.keeps S.static) f3 (S.static _ _ f4) f5 ?_;have oa:((c.s.heap.push {cls:= .type "dict",data:= .dict #[]}).push {cls:= .ref (X.C z),dict:=aa c.s.heap.objs.size,data:= .plain}).get? (c.s.heap.objs.size+1)=aa {cls:= .ref (X.C z),dict:=aa c.s.heap.objs.size,data:= .plain}:=by heap_get
  have W:=ahm (z:=z) (s':={c.s with heap:=(c.s.heap.push {cls:= .type "dict",data:= .dict #[]}).push {cls:= .ref (X.C z),dict:=aa c.s.heap.objs.size,data:= .plain}}) lt S (λe=>cf _ (cf _ e)) oa (cf _ (Heap.get?_push_at rfl rfl)) rfl;exact hI hA.make W.1 (.cons Jf (hx.mono (W.2.HN S))) e fun{c' r v} e N rv=>⟨rv.kN (M:=λv=>v= .none) (cQ e).1 rfl,hq (cQ e).2 ⟨N.sr,W.2.trans N.ev,N.os⟩ (Jf.mono (N.mo W.1))⟩
end
section
open Sem (wp)
section
variable{M:eR}{A:bB}{c:Code}{fs:List oY}{s:aq}{Φ:End->aq->Prop}{env:Env}
theorem ze{α:Type}{m:Sem α}{K:α->Sem fA}{H:Value->Sem fA}{gd:Bool->Bool}{lv:List Value->List Value}(h:aC M (A.over c fs) m (λa s'=>dr M A c (K a) fs s' Φ) (λzy zy=>False) s):
  dr M A c (m.wrap K H gd lv) fs s Φ:=by
 rintro Γ p rfl bQ;exact runs_wrap_of_wp K H gd lv m (h (Γ.over fs) p (bQ.over fs)) (λa p' s' h'=>h' Γ p' rfl bQ) (λx p' s' h'=>h'.elim)
theorem Uc(hq:c'.quiet=ag)(hc:dr M A c' (M.den c') fs s Φ):dr M A c (.pure (.again c')) fs s Φ:=by rintro Γ p rfl bQ;obtain⟨e,s',hr,he⟩:=hc (Γ.goto c') p rfl (bQ.goto c');exact⟨e,s',Runs.head (c₁:=c') (λzy zy x=> .again hq x) hr,he⟩
theorem aho(hc: ∀ p,dr M A c' (M.den c') (.ret k h g l c p []::fs) s Φ):dr M A c (.call c' h g l k) fs s Φ:=by rintro Γ p rfl bQ;obtain⟨e,s',hr,he⟩:=hc p (Γ.goto c') p rfl (bQ.goto c');exact⟨e,s',runs_call_seg hr,he⟩
theorem ahp(r:qk)(hk:dr M A c₁ (k r) fs s Φ):dr M A c (leafOf r) (.ret k h g l c₁ ahq kp::fs) s Φ:=by rintro Γ p rfl bQ;obtain⟨e,s',hr,he⟩:=hk (Γ.goto c₁) ahq rfl (bQ.goto c₁);exact⟨e,s',Runs.pop r hr,he⟩
theorem ahr(r:qk)(h:Φ (.ret r) s):dr M A c (leafOf r) [] s Φ:=by rintro Γ p rfl _;exact⟨.ret r,s,Runs.leaf r,h⟩
theorem Ue{p':Pos}{k:Unit->Sem fA}(h:dr M A c (k ()) fs s Φ):dr M A c (.at p' k) fs s Φ:=ze (m:=qi p') (K:=k) (H:= .raise) (gd:=id) (lv:=id) (Ag h)
theorem ahs{l:List Value}{k:Unit->Sem fA}(h:dr M A c (k ()) fs s Φ):dr M A c (.point l k) fs s Φ:=ze (m:=point) (K:=k) (H:= .raise) (gd:=id) (lv:=λzy=>l) (wpAny_point h)
theorem qa{α β:Type}{m:Sem α}{f:α->Sem β}{K:β->Sem fA}{H:Value->Sem fA}{gd:Bool->Bool}{lv:List Value->List Value}(h:aC M (A.over c fs) m (λa s'=>dr M A c ((f a).wrap K H gd lv) fs s' Φ) (λzy zy=>False) s):
  dr M A c ((m >>= f).wrap K H gd lv) fs s Φ:=by
 rw[w7,t9];exact ze h
noncomputable abbrev Goes (M:eR) (c:Code) (fs:List oY) (k:Resume->Sem fA) (t:Sem fA):Prop:= ∀ A' s' (CP:End->aq->Prop),dr M A' c t fs s' CP->dr M A' c (k (.send .none)) fs s' CP
theorem aht{e:Expr}{yp pos:Pos}{K:iZ->Sem fA}{H:Value->Sem fA}{gd:Bool->Bool}{lv:List Value->List Value}(ka:splitAtGen fs=ae)(GO:gd ak=ak)(Jg:env.scope.isCoroutine=ak)(hi:Ai env=ak)
  (h:aC M (A.over c fs) (eval e env) (λv s'=> ∀ l p k,Goes M c fs k (K .next)->Φ (.susp v ak l k c p fs) s') (λzy zy=>False) s):
  dr M A c ((eJ (.Expr (.Yield (aa e) yp) pos) env).wrap K H gd lv) fs s Φ:=by
 rw[exec_Expr env _ pos hi rfl];show dr M A c (.at pos λzy=>((eval e env >>= λv=>(qi yp >>= λzy=>yieldOut env v)) >>= λx=>dropValue (.Yield (aa e) yp) pos x).wrap K H gd lv) fs s Φ;have hy: ∀ v,yieldOut env v=yieldValue v:=λv=>by simp only[yieldOut,Jg,C9,if_false]
 simp only[hy];refine Ue ?_;rw[w7,w7,t9,t9];refine ze (ma h (λv s' h'=>?_) λzy zy x=>x);refine Ue ?_;rintro Γ p rfl bQ;refine⟨_,s',Runs.yield' fs ka,?_⟩;show Φ (.susp v (gd ak) _ _ Γ.code p fs) s';rw[GO];exact h' _ p _ (λA' m3 CP hx=>hx)
end
section
variable{prog:fB}{w:ef}{A:bB}{fs:List oY}{s:aq}{Φ:End->aq->Prop}{env:Env}
noncomputable abbrev ahu (M:eR) (c:Code) (fs:List oY) (Φ:End->aq->Prop):Value->aq->Prop:=λv s=> ∀ l p k,Goes M c fs k (.pure (.again c))->Φ (.susp v ak l k c p fs) s
theorem ahv{t e:Expr}{it:Nat}{dP:List b9}(hy: ∃ yp ep,dP=[.Expr (.Yield (aa e) yp) ep])(F:B3 (bR prog w) (.forLoop t (.ref it) dP [] env) fs)(Jg:env.scope.isCoroutine=ak)(hi:Ai env=ak)
  (h:aC (bR prog w) (A.over (.forLoop t (.ref it) dP [] env) fs) (ko (.ref it)) (λr bE=>match r with
   |none=>Φ (.ret (.ok (.ret .none))) bE
   |some v=>aC (bR prog w) (A.over (.forLoop t (.ref it) dP [] env) fs) (Aa t (.ref it) v) (λzy lR=>aC (bR prog w) (A.over (.forLoop t (.ref it) dP [] env) fs) (iQ t env v) (λzy vJ=>aC (bR prog w) (A.over (.forLoop t (.ref it) dP [] env) fs) (eval e env) (ahu (bR prog w) (.forLoop t (.ref it) dP [] env) fs Φ) (λzy zy=>False) vJ) (λzy zy=>False) lR) (λzy zy=>False) bE) (λzy zy=>False) s):
  dr (bR prog w) A (.forLoop t (.ref it) dP [] env) ((bR prog w).den (.forLoop t (.ref it) dP [] env)) fs s Φ:=by
 obtain⟨yp,ep,rfl⟩:=hy;show dr (bR prog w) A _ ((forTurn t (.ref it) [.Expr (.Yield (aa e) yp) ep] [] env).onRaise (λx=> do noteFrame x env;theTreesLotGoes x)) fs s Φ;unfold forTurn;rw[Mc];refine qa (Ag (qa (wpAny_onRaise (ma h (λr bE eA=>?_) λzy zy q=>q.elim))));induction r using jP with
 |none=>refine Uc rfl ?_;exact F.leaf A bE Φ _ eA
 |some v=>refine qa (ma eA (λzy lR gz=>qa (ma gz (λzy vJ IV=>?_) λzy zy q=>q)) λzy zy q=>q);rw[w7,t9,Ab];exact aht F.split rfl Jg hi IV
theorem ahw{t e:Expr}{it:Nat}{dP:List b9}{body:List b9}{k:qk->Sem fA}{l:List Value}{p:Pos}{d:Nat}(hA:bp (d+1) A):
  bp d (A.over (.forLoop t (.ref it) dP [] env) [.ret k ae ak l (.func body env) p []]):=by
 refine⟨?_,?_,?_,?_⟩
 .show(marksOver [Frame.ret k ae ak l (.func body env) p []] (A.handled,A.handled)).1=ae
  rw[hA.handled];rfl
 .unfold Lw
  dsimp only;rw[hA.guards];rfl
 .have:=hA.depth
  show A.depth+1+0+_<=_;exact(au [.l (.a J0 (.m 3 (.a J1 Y1))) (.n 990)] (.l (.a (.a (.a J0 Y1) Y0) (.m 3 J1)) (.n 990))) this
 .have:=hA.units
  show A.units+3+0+_<=_;exact(au [.l (.a J0 (.m 40 (.a J1 Y1))) (.n 9000)] (.l (.a (.a (.a J0 (.n 3)) Y0) (.m 40 J1)) (.n 9000))) this
end
end
section
open Sem (wp)
section
variable{prog:fB}{w:ef}{A:bB}{s:aq}{Φ:End->aq->Prop}
noncomputable def Ug (M:eR) (A:bB) (gs:oV) (s:aq) (Φ:End->aq->Prop):Prop:=match gs with| .fresh c=>dr M A c (M.den c) [] s Φ| .suspended k _ c _ fs _=>dr M A c (k (.send .none)) fs s Φ|_=>False
theorem ahx(hg:s.gens[g]?=aa gs)(ou:Ug M A gs (s.setGen g .running) Φ)
  (hq: ∀ e s',Φ e s'->e.quiet=ag/\aC M A (k e.result) Q E (s'.setGen g e.genState)):aC M A (.resume g (.send .none) l k) Q E s:=by
 intro Γ p bQ;rw[Sem.wp_resume];have hB: ∀ c,(Γ.wake c p).Woken A:=λc=>bQ.wake c p;induction gs using L4 with
 |fresh c=>obtain⟨nh,bE,hr,he⟩:=ou (Γ.wake c p) p rfl (hB c);obtain⟨q1,q2⟩:=hq nh bE he;exact⟨_,_,by unfold Wakes;rw[hg];exact⟨nh,bE,hr,q1,rfl,rfl⟩,q2 Γ p bQ⟩
 |suspended m9 ajg c₀ ahy ajh cl=>obtain⟨nh,bE,hr,he⟩:=ou (Γ.wake c₀ p) ahy rfl (hB c₀);obtain⟨q1,q2⟩:=hq nh bE he;exact⟨_,_,by unfold Wakes;rw[hg];exact⟨nh,bE,hr,q1,rfl,rfl⟩,q2 Γ p bQ⟩
 |running=>exact ou.elim
 |finished=>exact ou.elim
noncomputable def zf (g:Nat) (Q:Option Value->aq->Prop):End->aq->Prop
 | .ret r,s'=>r= .ok (.ret .none)/\ ∀ H',(∀ b o,s'.heap.get? b=aa o->H'.get? b=aa o)->Q ae {s'.setGen g .finished with heap:=H'}
 | .susp v gd l k c p fs,s'=>gd=ak/\fs.any EC=ak/\Q (aa v) (s'.setGen g (.suspended k l c p fs (gd||fs.any EC)))
theorem Uh{a:Addr}{g:Nat}{gs:oV}{Q:Option Value->aq->Prop}(hh:A.handled=ae)(hl:s.heap.NoLimit)(ahz:A.depth<Ae)(hg:s.heap.IsGen a g)(vk:s.gens[g]?=aa gs)
  (ou:Ug (bR prog w) A.in1 gs (s.setGen g .running) (zf g Q)):aC (bR prog w) A (ko (.ref a)) Q (λzy zy=>False) s:=by
 unfold ko;refine wpAny_bind (wF (wC (name:=jw "__next__") hg.typeIs slot_gen_next (lh slot_gen_next hg.typeIs entry_gen_next ?_ (args_gen_next _))));show aC _ _ (LG (.ref a) (.send .none)) _ _ s;unfold LG;refine wpAny_bind (wpAny_holding (wpAny_genNumber hg (wpAny_bind (wpAny_genState vk ?_))));induction gs using L4 with
 |running=>exact ou.elim
 |finished=>exact ou.elim
 |_=>
  refine wpAny_bind (wpAny_roomToWake hl ahz ?_);show aC _ _ (.resume g (.send .none) [] _) _ _ s;refine ahx (Φ:=zf g Q) vk ou λe bE he=>?_;induction e using End.casesOn with
  |ret r=>obtain⟨rfl,hp⟩:=he;refine⟨rfl,?_⟩;show aC _ _ (tW (.type "StopIteration") [] >>= _) _ _ _;refine wpAny_bind ?_;simp only[tW,newTuple];refine wpAny_bind (l8 ?_ (by size_fits));refine wpAny_bind (m:=tQ _ _) (iP (a:=eT) (by first|rfl|(simp only[tQ];rfl)) ?_);refine l8 ?_ (by size_fits);simp only[raiseNew];refine wpAny_bind (wpAny_bind (Eh ?_));rw[show A.in1.handled=ae from hh];refine El ?_;refine wpAny_bind (rG (T:= "StopIteration") (b:=ag) ⟨_,eg _ rfl,rfl⟩ Ed ?_);exact wpAny_pure (hp _ λb o hb=>cf _ (cf _ hb))
  |susp v gd l k c p fs=>obtain⟨h1,h2,hq⟩:=he;refine⟨by simp[End.quiet,h1,h2],?_⟩;exact wpAny_pure ⟨v,rfl,wpAny_pure hq⟩
theorem ahA{it:Addr}{x left step:Int}{Q:Option Value->aq->Prop}(hh:A.handled=ae)(hit:IsRangeIter s.heap it x left step)(ahB:left<=0)
  (hQ: ∀ h',(∀ b o,s.heap.get? b=aa o->h'.get? b=aa o)->Q ae {s with heap:=h'}):aC (bR prog w) A (ko (.ref it)) Q (λzy zy=>False) s:=by
 have hT:s.TypeIs (.ref it) "range_iterator" :=⟨_,hit,rfl⟩;unfold ko;refine wpAny_bind (wF (wC (name:=jw "__next__") hT LQ (lh LQ hT F.entry_range_iterator_next ?_ (F.args_range_iterator_next_1 _))));show aC _ _ (field (.ref it) 0 >>= _) _ _ s;refine wpAny_bind (Aj hit rfl (x:=rawInt x) rfl ?_);show aC _ _ (field (.ref it) 1 >>= _) _ _ s;refine wpAny_bind (Aj hit rfl (x:=rawInt left) rfl ?_);show aC _ _ (field (.ref it) 2 >>= _) _ _ s;refine wpAny_bind (Aj hit rfl (x:=rawInt step) rfl ?_);show aC _ _ (if left<=0 then _ else _) _ _ s;rw[if_pos ahB];refine wpAny_bind (wL ?_);refine wpAny_bind ?_;show aC _ _ (tW (.type "StopIteration") [] >>= _) _ _ _;refine wpAny_bind ?_;simp only[tW,newTuple];refine wpAny_bind (l8 ?_ (by size_fits));refine wpAny_bind (m:=tQ _ _) (iP (a:=eT) (by first|rfl|(simp only[tQ];rfl)) ?_);refine l8 ?_ (by size_fits);simp only[raiseNew];refine wpAny_bind (Eh ?_)
 first|rw[show A.in1.handled=ae from hh]|rw[hh]
 refine wpAny_bind (wpAny_pure (El ?_));refine wpAny_bind (rG (T:= "StopIteration") (b:=ag) ⟨_,eg _ rfl,rfl⟩ Ed ?_);exact wpAny_pure (hQ _ λb o hb=>cf _ (cf _ hb))
end
end
noncomputable def Cf.swap (c:Cf) (k:Nat) (F:Nat->Prop) (o:aB) (g:Nat) (st:oV):Cf:=⟨⟨c.G.ad,λj=>if j=k then F else c.G.foot j,c.G.gi,c.G.fz⟩,c.h.set k o,c.s.setGen g st⟩
section
variable{X:SX}{c c₀ c':Cf}{k g:Nat}{F P:Nat->Prop}{o:aB}{st:oV}{env:Env}{l:List (Option PV)}{f:Nat}{ob:Obj}{names:bg}{body:List b9}
theorem qb:(c.swap k F o g st).G.foot k=F:=if_pos rfl
theorem qc(h:j≠k):(c.swap k F o g st).G.foot j=c.G.foot j:=if_neg h
theorem zg:(c.swap k F o g st).h.length=c.h.length:=oF
theorem CQ:Mo c (c.swap k F o g st):=⟨λe zy=>e,λzy=>rfl,nr zg.symm⟩
theorem Ui(h:(c.swap k F o g st).Own a):F a\/ ∃ j,j<c.h.length/\j≠k/\c.G.foot j a:=h.elim λj w=>(lT (j=k)).elim (λq=> .inl (by have w:=w.2;rw[q,qb] at w;exact w)) λq=> .inr ⟨j,zg▸w.1,q,qc q▸w.2⟩
theorem SR.swap(S:SR X c)(hk:k<c.h.length)(hc:vj o)(oi:c.G.gi k=aa g)(iC:tN #[st])(Jh:F (c.G.ad k))
  (hF: ∀ {a},F a->X.bC.objs.size<=a/\(∀ {j},j<c.h.length->j≠k-> ¬ c.G.foot j a)/\ ∃ ob,c.s.heap.get? a=aa ob/\ ¬ cK ob) (ho:OR X (c.swap k F o g st) k o):SR X (c.swap k F o g st):=by
 have lt: ∀ {j},j<(c.swap k F o g st).h.length->j<c.h.length:=λh=>zg▸h;refine⟨fun{j x} e=>?_,fun{j} h=>?_,fun{i j b} hi hj fi fj=>?_,fun{j b} h hf=>?_,fun{j b} h hf=>?_,S.static,S.old,λy hy=>?_,λh h'=>S.sR (lt h) (lt h'),λh e=>?_,fun{j ob} h e=>?_⟩
 .by_cases q:k=j
  .subst q
   have e:(c.h.set k o)[k]?=aa x:=e;rw[qd hk] at e;exact bD e▸ho
  .have e:(c.h.set k o)[j]?=aa x:=e
   rw[nk q] at e;exact(S.objs e).mono ⟨rfl,S.ad (fe e),λzy q=>q,λz=>(congrFun (qc (eI q)) _).mpr z,rfl,fun{g'} z=>Array.getElem?_setIfInBounds_ne λ(w:g=g')=>q (S.sR hk (fe e) oi (by rw[w];exact z)),id⟩ CQ
 .by_cases q:j=k
  .subst q;rw[qb];exact Jh
  .rw[qc q];exact S.ad (lt h)
 .by_cases q:i=k
  .subst q
   rw[qb] at fi;by_cases q':j=i
   .exact q'.symm
   .rw[qc q'] at fj;exact((hF fi).2.1 (lt hj) q' fj).elim
  .rw[qc q] at fi
   by_cases q':j=k
   .subst q';rw[qb] at fj;exact((hF fj).2.1 (lt hi) q fi).elim
   .rw[qc q'] at fj;exact S.apart (lt hi) (lt hj) fi fj
 .by_cases q:j=k
  .subst q;rw[qb] at hf;exact(hF hf).1
  .rw[qc q] at hf;exact S.above (lt h) hf
 .by_cases q:j=k
  .subst q;rw[qb] at hf;exact(hF hf).2.2
  .rw[qc q] at hf;exact S.kinds (lt h) hf
 .exact(Array.mem_or_eq_of_mem_setIfInBounds hy).elim (S.bare y) λz=>z▸iC _ (zk.mpr rfl)
 .exact dj (S.ke (lt h) e) (nr Array.size_setIfInBounds.symm)
 .have w:=S.fz (lt h) e
  by_cases q:k=j
  .subst q;exact⟨w.1,o,qd hk,hc⟩
  .exact⟨w.1,w.2.elim λx r=>⟨x,(nk q).trans r.1,r.2⟩⟩
theorem Ev.fold(E:Ev P c₀ c)(hk:k<c₀.h.length)(hP: ∀ {a},P a->c₀.G.foot k a\/gC c₀ a)(hF: ∀ {a},F a->c₀.G.foot k a\/gC c₀ a):Ev (λzy=>False) c₀ (c.swap k F o g st):=⟨fun{a ob} e zy hO=>E.keep e (λp=>(hP p).elim (λz=>hO ⟨k,hk,z⟩) λz=>nS (e.symm.trans z)) hO,E.ad,fun{j a ob} hj hf e=>(lT (j=k)).elim (λq=>by subst q;rw[qb] at hf;exact⟨hk,(hF hf).resolve_right λz=>nS (e.symm.trans z)⟩) λq=>by rw[qc q] at hf;exact E.own (zg▸hj) hf e,cG E.le (nr zg.symm),E.live,E.fz,E.gi⟩
theorem Ji(S:SR X c)(hk:k<c.h.length)(ha:c.G.foot k a):X.bC.objs.size<=a/\(∀ {j},j<c.h.length->j≠k-> ¬ c.G.foot j a)/\ ∃ ob,c.s.heap.get? a=aa ob/\ ¬ cK ob:=⟨S.above hk ha,λhj sT z=>sT (S.apart hj hk z ha),S.kinds hk ha⟩
theorem Uj(S:SR X c)(hk:k<c.h.length)(oi:c.G.gi k=aa g)(BD:c.G.fz k=aa ob)(ho:vi ob g)(hE:sQ X c.G k f env names body)(hL:mX X c env l):
  cu X env (c.swap k (λa=>a=c.G.ad k) (.gen f [] ae) g .running) l:=
 ⟨S.swap hk trivial oi (λy hy=>zk.mp hy▸rfl) rfl (λe=>e▸Ji S hk (S.ad hk)) (.gen (.out oi BD ho)),hL.mono (λzy q=>q) CQ,fun{a} fa=>⟨S.above hk (hE.foot a fa).1,λo=>(Ui o).elim (hE.foot a fa).2 λw=>w.elim λj w=>w.2.1 (S.apart w.1 hk w.2.2 (hE.foot a fa).1),S.kinds hk (hE.foot a fa).1⟩⟩
end
structure vP (X:SX) (c₀:Cf) (k f g:Nat) (env:Env) (names:bg) (body pre:List b9) (t src e:Expr) (ob:Obj):Prop where
 lt:k<c₀.h.length
 gi:c₀.G.gi k=aa g
 fz:c₀.G.fz k=aa ob
 obj:vi ob g
 ent:sQ X c₀.G k f env names body
 parts:nV body=aa (pre,t,src,e)
 foot:c₀.G.foot k (c₀.G.ad k)
noncomputable def Kg (X:SX) (c:Cf) (k:Nat) (K:Option PV->PH->Prop) (Q:Option Value->aq->Prop):Prop:= ∀ {c' o r},K o c'.h->Nx X c c'->ri X c' o r->(∃ ob,c'.s.heap.get? (c.G.ad k)=aa ob/\ob.cls= .type "generator")->Q r c'.s
section
variable{X:SX}{O:ax}{d:Nat}{env:Env}{names:bg}{body pre:List b9}{t src e:Expr}{f k g:Nat}{ob:Obj}{c c' c₀:Cf}{l l':List (Option PV)}{A:bB}{it:Nat}{tg:eW}{K:Option PV->PH->Prop}{Q:Option Value->aq->Prop}
theorem ahC{x step:Int}{m:Nat}:((ar (m+1)).map λ(j:Nat)=>PV.int (x+(j:Int)*step))=PV.int x::(ar m).map λ(j:Nat)=>PV.int ((x+step)+(j:Int)*step):=by rw[v7,gG,cV];exact congr (congrArg List.cons (congrArg PV.int (by rw[Df,Int.zero_mul,vW]))) (gF λj zy=>congrArg PV.int (by show x+((j+1:Nat):Int)*step=_;rw[<- To,vV,vV,Int.add_comm step]))
theorem vP.kept(R:vP X c₀ k f g env names body pre t src e ob)(E:Ev P c₀ c):k<c.h.length/\c.G.gi k=aa g/\c.G.fz k=aa ob/\c.G.ad k=c₀.G.ad k:=⟨dj R.lt E.le,(E.gi R.lt).trans R.gi,E.fz R.lt R.fz,E.ad R.lt⟩
theorem Uk(R:vP X c₀ k f g env names body pre t src e ob){F P:Nat->Prop}{o:aB}{st:oV}{x:Option PV}{r:Option Value}(S:SR X c)(E:Ev P c₀ c)(CR:c.s.os=c₀.s.os)(hc:vj o)(iC:tN #[st])(Jh:F (c.G.ad k))(hP: ∀ {a},P a->c₀.G.foot k a\/gC c₀ a)(hF: ∀ {a},F a->c₀.G.foot k a\/gC c₀ a)
  (hF': ∀ {a},F a->X.bC.objs.size<=a/\(∀ {j},j<c.h.length->j≠k-> ¬ c.G.foot j a)/\ ∃ ob,c.s.heap.get? a=aa ob/\ ¬ cK ob) (ho:OR X (c.swap k F o g st) k o) (hr:ri X (c.swap k F o g st) x r) (e:K x (c.h.set k o)) (hq:Kg X c₀ k K Q):Q r (c.s.setGen g st):=
 have w:=R.kept E
 hq (c':=c.swap k F o g st) e ⟨S.swap w.1 hc w.2.1 iC Jh hF' ho,E.fold R.lt hP hF,CR⟩ hr (R.obj.elim λnm q=>q.elim λqn q=>⟨ob,w.2.2.2▸(S.fz w.1 w.2.2.1).1,q.1⟩)
theorem ri.ahD{F:Nat->Prop}{o:aB}{st:oV}{x:PV}{v:Value}(h:VR X c x v):ri X (c.swap k F o g st) (aa x) (aa v):= .some (h.mono CQ)
theorem Ul(K0:gE X)(KO:dR X ak d O){dP:List b9}{fs:List oY}{x step:Int}{left:Nat}(hA:bp (d+1) A)(R:vP X c₀ k f g env names body pre t src e ob)(L:di X env (λa=>cp env a\/a=it) c₀ c l)(hy: ∃ yp ep,dP=[.Expr (.Yield (aa e) yp) ep])(F:B3 X.M (.forLoop t (.ref it) dP [] env) fs)
  (hI:fy X c it) (hf: ¬ cp env it) (hIF:c₀.G.foot k it\/gC c₀ it) (hit:IsRangeIter c.s.heap it x (left:Int) step) (lS:gZ names t=aa tg) (hp:nW tg (cE X.T names e) O f k l ((ar left).map λ(j:Nat)=>PV.int (x+(j:Int)*step)) c.h K) (hq:Kg X c₀ k K Q):
  dr X.M A (.forLoop t (.ref it) dP [] env) (X.M.den (.forLoop t (.ref it) dP [] env)) fs c.s (zf g Q):=by
 have om:bp d (A.over (.forLoop t (.ref it) dP [] env) fs):=F.room A d hA;have Cx:bW X env names:=⟨R.ent.names,R.ent.ok⟩;have hP: ∀ {a},(cp env a\/a=it)->c₀.G.foot k a\/gC c₀ a:=fun{a} p=>p.elim (λfa=> .inl (R.ent.foot a fa).1) λz=>z▸hIF;have w:=R.kept L.ev;refine ahv hy F R.ent.co (by unfold Ai;rw[R.ent.ok.kind];rfl) ?_;induction left using ju with
 |zero=>
  exact ahA om.handled hit (Int.le_refl _) λH' hk=>⟨rfl,λUm qq=>
   have N:Nx X c (c.to Um c.s.toks):= .kept K0.x L.ok.sr λb o e=>qq b o (hk b o e)
   Uk (c:=c.to Um c.s.toks) (F:=λa=>a=c.G.ad k) (o:= .gen f [] ae) R N.sr (L.ev.trans (N.ev.weaken λzy zy zy q=>q.elim)) L.os trivial (λy hy=>zk.mp hy▸rfl) rfl hP (λe=> .inl (e▸w.2.2.2▸R.foot)) (λe=>e▸Ji N.sr w.1 (N.sr.ad w.1)) (.gen (.out w.2.1 w.2.2.1 R.obj)) .none hp hq⟩
 |succ m=>
  rw[ahC] at hp;refine Lm hit (aw [] (.T (.n 0) (.c (.a J0 Y1)))) λH' dC hs=>?_;have CS:th (c.to H' (c.s.toks+1)) it:=⟨_,"range_iterator",dC,rfl,by decide⟩;have dg:di X env (λa=>cp env a\/a=it) c (c.to H' (c.s.toks+1)) l:=⟨L.ok.move (s':={c.s with heap:=H',toks:=c.s.toks+1}) hI hs.extBut (CS.live.elim λob q=>q7 hI.1 q.1) rfl (λz=>(hf z).elim) λM=>L.ok.locs.mono (fun{a ob} fa e=>hs.extBut a ob (λz=>hf (z▸fa)) e) M,.yU (s':={c.s with heap:=H',toks:=c.s.toks+1}) (CS.live.elim λob q=>⟨ob,q.1⟩) hs.extBut (.inr rfl),rfl⟩;have Un:fy X (c.to H' (c.s.toks+1)) it:=⟨hI.1,hI.2.1,CS.live⟩;refine yu (IP (c:=c.to H' (c.s.toks+1)) CS (IQ lS) ?_);refine yu (IK (b:=ak) (O:=O) K0.x Cx (P:=cp env) id (.inl rfl) (λx zy {a} h=> .inr ⟨x,h⟩) lS (K:=λzy s=>fE (cE X.T names e) O (AW f k _ K) s) om dg.ok (.int _ _) hp fun{c₂ rj} rm bG=>yu (kS K0 KO Cx e om bG.ok rm fun{eN v aji} ahE dh Iw=>λl p kk ou=>⟨rfl,F.QQ,?_⟩));have gB:=bG.trans (dh.toS bG.ok);have y8:=Un.next gB.ev hf;have E:=(L.ev.trans dg.ev).trans (gB.ev.weaken λzy zy zy=> .inl);have w':=R.kept E;have itk:IsRangeIter eN.s.heap it (x+step) (m:Int) step:=(show(((m+1:Nat):Int)-1)=(m:Int) by exact aw [] (.E (.s (.c (.a J0 Y1)) (.n 1)) (.c J0)))▸gB.ev.keep dC hf Un.2.1;exact Uk (F:=λa=>a=eN.G.ad k\/cp env a\/a=it) (o:= .gen f rj (aa ((ar m).map λ(j:Nat)=>PV.int ((x+step)+(j:Int)*step)))) R gB.ok.sr E ((gB.os.trans dg.os).trans L.os) trivial (λy hy=>by rw[zk.mp hy,F.QQ];rfl) (.inl rfl) hP (λh=>h.elim (λz=> .inl (z▸w'.2.2.2▸R.foot)) hP)
   (fun{a} h=>h.elim (λz=>z▸Ji gB.ok.sr w'.1 (gB.ok.sr.ad w'.1)) λh=>
    have q:fy X eN a:=h.elim (λfa=>gB.ok.frame fa) λz=>z▸y8
    ⟨q.1,λhj zy z=>q.2.1 ⟨_,hj,z⟩,q.2.2⟩)
   (.gen (.live (it:=it) (left:=m) (x:=x+step) (step:=step) w'.2.1 w'.2.2.1 R.obj (Array.getElem?_setIfInBounds_self_of_lt (gB.ok.sr.ke w'.1 w'.2.1)) ⟨R.ent.ent,R.ent.names,R.ent.ok,R.ent.co,λa fa=>⟨(congrFun qb a).mpr (.inr (.inl fa)),λz=>(R.ent.foot a fa).2 (z.trans w'.2.2.2)⟩⟩ R.parts hy F ou ((congrFun qb it).mpr (.inr (.inr rfl))) (λz=>y8.2.1 ⟨k,w'.1,by rw[z];exact gB.ok.sr.ad w'.1⟩) hf itk rfl (gB.ok.locs.mono (λzy q=>q) CQ)))
   (.ahD Iw) ahE hq
end
theorem ahF(h:Fo v=aa e): ∃ p,v= .Yield (aa e) p:=(vI h).elim λc=>Ew (motive_1:=λv=> ∀ c:v.ctorIdx=13,Ew (motive_1:=λzy=>Option Expr) v c (λo p=>o)=aa e-> ∃ p,v= .Yield (aa e) p) v c (λo p c w=>⟨p,congrArg (Expr.Yield · p) w⟩) c
theorem ahG(h:NC s=aa e): ∃ p q,s= .Expr (.Yield (aa e) p) q:=(vI h).elim λc=>EE (motive_2:=λs=> ∀ c:s.ctorIdx=24,EE (motive_2:=λzy=>Option Expr) s c (λv q=>Fo v)=aa e-> ∃ p q,s= .Expr (.Yield (aa e) p) q) s c (λv q c w=>(ahF w).elim λp w=>⟨p,q,congrArg (Stmt.Expr · q) w⟩) c
theorem ahH(h:AV l=aa e): ∃ p q,l=[.Expr (.Yield (aa e) p) q]:=by
 induction l using cw with
 |nil=>exact nO h
 |cons s l=>
  induction l using cw with
  |nil=>exact(ahG h).elim λp w=>w.elim λq w=>⟨p,q,congrArg (·::[]) w⟩
  |cons=>exact nO h
theorem ahI(h:Fp s=aa x): ∃ yp ep fp,s= .For x.1 x.2.1 [.Expr (.Yield (aa x.2.2) yp) ep] [] fp:=
 (vI h).elim λc=>EF (motive_2:=λs=> ∀ c:s.ctorIdx=9,EF (motive_2:=λzy=>Option (Expr×Expr×Expr)) s c (λt it b o zy=>bif o.isEmpty then(AV b).map λe=>(t,it,e) else ae)=aa x-> ∃ yp ep fp,s= .For x.1 x.2.1 [.Expr (.Yield (aa x.2.2) yp) ep] [] fp) s c (λt it b o p c h=>by
  induction o using cw with
  |nil=>refine(ee.mp (show(AV b).map (λe=>(t,it,e))=aa x from h)).elim λe w=>(ahH w.1).elim λyp z=>z.elim λep z=>?_;have w':=w.2;subst z w';exact⟨yp,ep,p,rfl⟩
  |cons=>exact nO h) c
theorem Uo: ∀ {body pre:List b9} {x:Expr×Expr×Expr},nV body=aa (pre,x)-> ∃ yp ep fp,body=pre++[.For x.1 x.2.1 [.Expr (.Yield (aa x.2.2) yp) ep] [] fp]
 |[],_,_,h=>nO h
 |[s],pre,x,h=>(ee.mp (show(Fp s).map (λx=>([],x))=aa (pre,x) from h)).elim λy w=>by have e:=iM w.2;exact e.1▸e.2▸(ahI w.1).elim λyp z=>z.elim λep z=>z.elim λfp z=>⟨yp,ep,fp,congrArg (·::[]) z⟩
 |s::s'::r,pre,x,h=>(ee.mp (show(nV (s'::r)).map (λx=>(s::x.1,x.2))=aa (pre,x) from h)).elim λy w=>by have e:=iM w.2;exact e.1▸e.2▸(Uo w.1).elim λyp z=>z.elim λep z=>z.elim λfp z=>⟨yp,ep,fp,congrArg (s:: ·) z⟩
theorem Up{env:Env}{H:Value->Sem fA}{gd:Bool->Bool}{lv:List Value->List Value}: ∀ (l r:List b9) (K:iZ->Sem fA),
  (fO (l++r) env).wrap K H gd lv=(fO l env).wrap (λf=>match f with| .next=>(fO r env).wrap K H gd lv|f=>K f) H gd lv
 |[],r,K=>rfl
 |s::l,r,K=>by
  rw[wg,Ab,Ab];exact Me _ _ _ (λf=>by
   induction f using Flow.casesOn with
   |next=>exact Up l r K
   |_=>rfl) (λzy=>rfl)
section
variable{X:SX}{O:ax}{d:Nat}{env:Env}{names:bg}{body pre:List b9}{t src ex:Expr}{f k g:Nat}{ob:Obj}{c c' c₀:Cf}{l:List (Option PV)}{A:bB}{K:Option PV->PH->Prop}{Q:Option Value->aq->Prop}{T:eK}{ps:List Str}{ds:List PV}{h:PH}{rest:Option (List PV)}
theorem ahJ(h1:T.ents[f]?=aa (.fn ps ds names body ag))(h2:nV body=aa (pre,t,src,ex))(e:nX T O f k l (aa xs) h K): ∃ tg,gZ names t=aa tg/\nW tg (cE T names ex) O f k l xs h K:=by
 unfold nX at e;rw[h1] at e;dsimp only at e;rw[h2] at e;dsimp only at e;cases ht:gZ names t with
 |none=>rw[ht] at e;exact e.elim
 |some tg=>rw[ht] at e;exact⟨tg,rfl,e⟩
theorem ahK(h1:T.ents[f]?=aa (.fn ps ds names body ag))(h2:nV body=aa (pre,t,src,ex))(e:nX T O f k l ae h K): ∃ tg,gZ names t=aa tg/\cB T names pre O ⟨h,l⟩ (xD (cE T names src) tg (cE T names ex) O f k K):=by
 unfold nX at e;rw[h1] at e;dsimp only at e;rw[h2] at e;dsimp only at e;cases ht:gZ names t with
 |none=>rw[ht] at e;exact e.elim
 |some tg=>rw[ht] at e;exact⟨tg,rfl,e⟩
theorem ahL(h1:T.ents[f]?=aa (.fn ps ds names body ag))(e:nX T O f k l rest h K): ∃ pre t src ex,nV body=aa (pre,t,src,ex):=by
 unfold nX at e;rw[h1] at e;dsimp only at e;cases hp:nV body with
 |none=>rw[hp] at e;exact e.elim
 |some p=>exact⟨p.1,p.2.1,p.2.2.1,p.2.2.2,rfl⟩
theorem bp.ahM{body:List b9}(hA:bp (d+1) A):bp d (A.over (.func body env) []):=by
 refine⟨?_,?_,?_,?_⟩
 .show(marksOver [] (A.handled,A.handled)).1=ae
  rw[hA.handled];rfl
 .unfold Lw
  dsimp only;rw[hA.guards];rfl
 .have:=hA.depth
  show A.depth+0+1+_<=_;exact(au [.l (.a J0 (.m 3 (.a J1 Y1))) (.n 990)] (.l (.a (.a (.a J0 Y0) Y1) (.m 3 J1)) (.n 990))) this
 .have:=hA.units
  show A.units+0+3+_<=_;exact(au [.l (.a J0 (.m 40 (.a J1 Y1))) (.n 9000)] (.l (.a (.a (.a J0 Y0) (.n 3)) (.m 40 J1)) (.n 9000))) this
theorem ahN{T:eK}{nm:bg}{e:Expr}{s:aj}{K:PV->aj->Prop}(h:cE T nm e O s K):qC e=ag:=by cases e <;> first|rfl|exact h.elim
theorem ahO(K0:gE X)(KO:dR X ak d O)(hA:bp (d+1) A)(S:SR X c)(hk:k<c.h.length){it:Nat}{kk:Resume->Sem fA}{fs:List oY}{dP:List b9}{x step:Int}{left:Nat}{tg:eW}
  (R:vP X c k f g env names body pre t src ex ob) (hy: ∃ yp ep,dP=[.Expr (.Yield (aa ex) yp) ep]) (F:B3 X.M (.forLoop t (.ref it) dP [] env) fs)
  (a8: ∀ A s (Φ:End->aq->Prop),dr X.M A (.forLoop t (.ref it) dP [] env) (.pure (.again (.forLoop t (.ref it) dP [] env))) fs s Φ->dr X.M A (.forLoop t (.ref it) dP [] env) (kk (.send .none)) fs s Φ)
  (a9:c.G.foot k it) (a10:it≠c.G.ad k) (a11: ¬ cp env it) (hit:IsRangeIter c.s.heap it x (left:Int) step) (hL:mX X c env l) (lS:gZ names t=aa tg)
  (hp:nW tg (cE X.T names ex) O f k l ((ar left).map λ(j:Nat)=>PV.int (x+(j:Int)*step)) (c.h.set k (.gen f [] ae)) K) (hq:Kg X c k K Q):dr X.M A (.forLoop t (.ref it) dP [] env) (kk (.send .none)) fs (c.s.setGen g .running) (zf g Q):=
 have hS:=Uj S hk R.gi R.fz R.obj R.ent hL;have E:Ev (λzy=>False) c (c.swap k (λa=>a=c.G.ad k) (.gen f [] ae) g .running):=(Ev.refl (λzy=>False) c).fold hk (λq=>q.elim) λe=> .inl (e▸S.ad hk)
 a8 _ _ _ (Uc rfl (Ul (c:=c.swap k (λa=>a=c.G.ad k) (.gen f [] ae) g .running) K0 KO hA R ⟨hS,E.weaken λzy zy zy q=>q.elim,rfl⟩ hy F ⟨S.above hk a9,λo=>(Ui o).elim a10 λw=>w.elim λj w=>w.2.1 (S.apart w.1 hk w.2.2 a9),S.kinds hk a9⟩ a11 (.inl a9) hit lS hp hq))
theorem ahP(K0:gE X)(KO:dR X ak d O)(hA:bp (d+1) A)(S:SR X c)(hk:k<c.h.length){tg:eW}(R:vP X c k f g env names body pre t src ex ob)(hL:mX X c env l)(lS:gZ names t=aa tg)
  (hp:cB X.T names pre O ⟨c.h.set k (.gen f [] ae),l⟩ (xD (cE X.T names src) tg (cE X.T names ex) O f k K)) (hq:Kg X c k K Q):dr X.M A (.func body env) (X.M.den (.func body env)) [] (c.s.setGen g .running) (zf g Q):=by
 have hS:=Uj S hk R.gi R.fz R.obj R.ent hL;have E:Ev (λzy=>False) c (c.swap k (λa=>a=c.G.ad k) (.gen f [] ae) g .running):=(Ev.refl (λzy=>False) c).fold hk (λq=>q.elim) λe=> .inl (e▸S.ad hk);have Cx:bW X env names:=⟨R.ent.names,R.ent.ok⟩;have Uq:bp d (A.over (.func body env) []):=hA.ahM;refine(Uo R.parts).elim λyp w=>w.elim λep w=>w.elim λfp hbody=>?_;show dr X.M A (.func body env) (.point [] λzy=>((fO body env).onRaise (leaving env)) >>= _) [] _ _;refine ahs ?_;rw[Mc,w7,t9];rw[Me (fO body env) _ _ (K':=λf=> .pure (.done (.ret (match f with| .ret v=>v|_=> .none))))
  (H':=λe=>(leaving env e).wrap (λzy=> .raise e) .raise id id) (λf=>by cases f <;> rfl)
  (λe=>by rw[Sem.bind_eq_wrap,t9];rfl)]
 rw[hbody,Up,<- hbody];refine ze (yu (TZ K0 KO Cx pre (c:=c.swap k (λa=>a=c.G.ad k) (.gen f [] ae) g .running) Uq hS hp fun{c₁ IC fl u} nh dg pQ=>?_));induction pQ using m6.casesOn with
 |brk=>exact nh.elim
 |cont=>exact nh.elim
 |ret=>exact nh.elim
 |next=>
  show dr X.M A (.func body env) ((fO [.For t src [.Expr (.Yield (aa ex) yp) ep] [] fp] env).wrap _ _ _ _) [] c₁.s _;rw[Ab,arm_exec_For];refine qa (Ag (qa (yu (kS K0 KO Cx src Uq dg.ok nh fun{c₂ v w} rm bG kM=>?_))));rw[IT (ahN nh)];refine qa (wpAny_pure (qa (Ag (qa (wpAny_holding ?_)))));induction kM using VR.casesOn with
  | @dw ra rb rs r t1 t2 t3 hr m2=>have z:=vv m2;have tr:=dg.trans (bG.toS dg.ok);refine Lv hr (Ig m2) ?_;have hit:=eg c₂.s.heap (o:={cls:= .type "range_iterator",data:= .fields #[rawInt ra,rawInt (ij ra rb rs),rawInt rs]}) rfl;have dh:Nx X c₂ (c₂.to (c₂.s.heap.push {cls:= .type "range_iterator",data:= .fields #[rawInt ra,rawInt (ij ra rb rs),rawInt rs]}) c₂.s.toks):= .kept K0.x tr.ok.sr λzy zy e=>cf _ e;have hO: ∀ {a},(c₂.to (c₂.s.heap.push {cls:= .type "range_iterator",data:= .fields #[rawInt ra,rawInt (ij ra rb rs),rawInt rs]}) c₂.s.toks).Own a->c₂.Own a:=id;have rm:nW tg (cE X.T names ex) O f k IC (jB ra rb rs) (c₂.to (c₂.s.heap.push {cls:= .type "range_iterator",data:= .fields #[rawInt ra,rawInt (ij ra rb rs),rawInt rs]}) c₂.s.toks).h K:=rm;have nc:th (c₂.to (c₂.s.heap.push {cls:= .type "range_iterator",data:= .fields #[rawInt ra,rawInt (ij ra rb rs),rawInt rs]}) c₂.s.toks) c₂.s.heap.objs.size:=⟨_,"range_iterator",hit,rfl,by decide⟩;have hit:IsRangeIter (c₂.to (c₂.s.heap.push {cls:= .type "range_iterator",data:= .fields #[rawInt ra,rawInt (ij ra rb rs),rawInt rs]}) c₂.s.toks).s.heap c₂.s.heap.objs.size ra (ij ra rb rs) rs:=hit;show dr X.M A (.func body env) (.call (.forLoop t (.ref c₂.s.heap.objs.size) [.Expr (.Yield (aa ex) yp) ep] [] env) ae ak [] _) [] (c₂.to (c₂.s.heap.push {cls:= .type "range_iterator",data:= .fields #[rawInt ra,rawInt (ij ra rb rs),rawInt rs]}) c₂.s.toks).s _;generalize c₂.to (c₂.s.heap.push {cls:= .type "range_iterator",data:= .fields #[rawInt ra,rawInt (ij ra rb rs),rawInt rs]}) c₂.s.toks=eN at dh hO rm nc hit ⊢;have Jj:c₂.s.heap.get? c₂.s.heap.objs.size=ae:=oZ (aS _);have Jk:=tr.trans (dh.toS tr.ok);rw[Ie m2,cV] at rm;refine aho λp=>Ul K0 KO hA (left:=(ij ra rb rs).toNat) R ⟨Jk.ok,(E.weaken λzy zy zy q=>q.elim).trans (Jk.ev.weaken λzy zy zy=> .inl),Jk.os⟩ ⟨yp,ep,rfl⟩ ⟨rfl,rfl,λA' s' CP c' hΦ=>ahp (.ok .next) (ahr (.ok (.ret .none)) hΦ),λA' d' om=>ahw (e:=ex) om⟩ ⟨tr.ok.sr.old,λo=>(hO o).elim λj w=>(tr.ok.sr.kinds w.1 w.2).elim λob q=>(nO (Jj.symm.trans q.1)),nc.live⟩ (λfa=>(tr.ok.frame fa).2.2.elim λob q=>nO (Jj.symm.trans q.1)) (.inr (tK.mpr λob q=>(tr.ev.live q).elim λyA q'=>nO (Jj.symm.trans q'))) (by rw[vU z.1];exact hit) lS rm hq
  |_=>exact rm.elim
theorem ahQ(K0:gE X)(Ur:X.bC.NoLimit)(KO:dR X ak d O):SP X (d+2) (Fs O X.T):=
 λk A c K Q hA S hk e hq=>e.elim λo w=>by
  induction o using aB.casesOn with
  |gen f loc rest=>
   have om:bp (d+1) A.in1:=hA.in1;have e:=w.2;cases S.objs w.1 with
   |gen h1=>
    induction h1 using GR.casesOn with
    |out=>exact absurd rfl e.1
    |fresh a1 a2 a3 a4 a5 a6=>refine a5.ent.elim λps q=>q.elim λds q=>(ahL q e.2).elim λpre r=>r.elim λt r=>r.elim λsrc r=>r.elim λex r=>(ahK q r e.2).elim λtg z=>?_;exact Uh hA.handled (Ur.keeps S.static) hA.CN (a3.elim λnm q=>q.elim λqn q=>⟨_,nm,qn,(S.fz hk a2).1,q⟩) a4 (ahP K0 KO om S hk ⟨hk,a1,a2,a3,a5,r,S.ad hk⟩ a6 z.1 z.2 hq)
    |live a1 a2 a3 a4 a5 a6 a7 a8 a9 b1 b2 b3 b4 b5 b6=>subst b5;refine a5.ent.elim λps q=>q.elim λds q=>(ahJ q a6 e.2).elim λtg z=>?_;exact Uh hA.handled (Ur.keeps S.static) hA.CN (a3.elim λnm q=>q.elim λqn q=>⟨_,nm,qn,(S.fz hk a2).1,q⟩) a4 (ahO K0 KO om S hk ⟨hk,a1,a2,a3,a5,a6,S.ad hk⟩ a7 a8 a9 b1 b2 b3 b4 b6 z.1 z.2 hq)
  |_=>exact w.2.elim
end
structure Jl (X:SX):Prop where
 nolimit:X.bC.NoLimit
 fns: ∀ {id params de names body gen},X.T.ents[id]?=aa (.fn params de names body gen)-> ∃ o fd,FnAt X id params de names body gen o fd
 cls: ∀ {id z init},X.T.ents[id]?=aa (.cls z init)->X.fv id=X.C z/\zd X z init
section
variable{X:SX}{b:Bool}{d e:Nat}{f:Value}{m m':List PV->HC PV}{O:ax}
theorem kO.le(h:kO X b d f m)(he:d<=e):kO X b e f m:=λzy zy zy zy zy zy hA=>h (hA.le he)
theorem kO.of(h:kO X b d f m)(he: ∀ {xs h K},m' xs h K->m xs h K):kO X b d f m':=λzy zy zy zy zy zy hA S hx e=>h hA S hx (he e)
theorem Us{T:eK}{id:Nat}{params:List Str}{de:List PV}{names:bg}{body:List b9}{gen:Bool}{xs:List PV}{h:PH}{K:PV->PH->Prop}(he:T.ents[id]?=aa (.fn params de names body gen))(e:callC T O id xs h K): ∃ loc,sb names params de xs=aa loc/\bif gen then uq (.gen id loc ae) h K else cB T names body O ⟨h,loc⟩ (aW K):=by
 unfold callC at e;rw[he] at e;dsimp only at e;cases hb:sb names params de xs with
 |none=>rw[hb] at e;exact e.elim
 |some loc=>rw[hb] at e;exact⟨loc,rfl,e⟩
theorem ahR{T:eK}{id z init:Nat}{xs:List PV}{h:PH}{K:PV->PH->Prop}(he:T.ents[id]?=aa (.cls z init))(e:callC T O id xs h K):O.call init (.ref h.length::xs) (h++[.inst z []]) (xE h.length K):=by unfold callC at e;rw[he] at e;exact e
theorem ahS{T:eK}{id:Nat}{xs:List PV}{h:PH}{K:PV->PH->Prop}(he:T.ents[id]?=ae)(e:callC T O id xs h K):False:=by unfold callC at e;rw[he] at e;exact e
theorem Jm(K:gE X)(F:Jl X): ∀ (n:Nat) (b:Bool),dR X b (2*n) (xF X.T n b)
 |0,b=>⟨λzy zy zy zy zy zy zy zy zy zy e=>e.elim,rfl,λzy zy zy zy zy zy zy zy e=>e.elim⟩
 |n+1,b=>by
  have KO:=Jm K F n b;refine⟨λid=>?_,rfl,ahQ K F.nolimit (Jm K F n ak)⟩;refine kO.le (d:=2*n+1) ?_ (km _);cases he:X.T.ents[id]? with
  |none=>exactλzy zy zy zy zy zy zy zy zy e=>(ahS he e).elim
  |some en=>
   induction en using j2.casesOn with
   |fn params de names body gen=>
    exact(F.fns he).elim λo w=>w.elim λfd Fn=>by
     induction gen using dD with
     |false=>exact(ahh K KO Fn F.nolimit).of λe=>Us he e
     |true=>exact(ahl K.x Fn F.nolimit he).of λe=>Us he e
   |cls z init=>exact(ahn (F.cls he).2 (F.cls he).1 (KO.call init)).of λe=>ahR he e
theorem ahT(K:gE X)(F:Jl X)(n:Nat)(b:Bool):dR X b (2*n) (run X.T n b):=Ft▸Jm K F n b
end
theorem CT(h:sP v=aa n):v= .type n:=by
 induction v using o4 with
 |type=>exact congrArg _ (bD h)
 |_=>exact nO h
theorem ahU(h:QD v=aa p):DV p v:=by
 induction v using o4 with
 |int i t=>exact bD h▸ .int i t
 |bytes b t=>
  have w:iY b.size 1000000=ag/\PV.bytes b.toList=p:=by
   have h:(bif iY b.size 1000000 then aa (PV.bytes b.toList) else ae)=aa p:=h;cases q:iY b.size 1000000 with
   |true=>rw[q] at h;exact⟨rfl,bD h⟩
   |false=>rw[q] at h;exact nO h
  exact w.2▸ .bytes b.toList t (iL.mp w.1)
 |_=>exact nO h
theorem Ut: ∀ {l:List Value} {ps:List PV},HA l=aa ps->rl ps l
 |[],ps,h=>bD h▸ .nil
 |v::r,ps,h=>(fk.mp h).elim λp w=>(ee.mp w.2).elim λl z=>z.2▸ .cons (ahU w.1) (Ut z.1)
theorem CU{α:Type}{k:Bool}{x:Option α}{y:α}(h:(bif k then x else ae)=aa y):k=ag/\x=aa y:=by
 induction k using dD with
 |true=>exact⟨rfl,h⟩
 |false=>exact nO h
section
variable{X:SX}{K:Lk}{H:Heap}
theorem ahV(h:HB d=aa vs): ∃ m,d= .seq vs.toArray m:=by
 induction d using t5 with
 |seq xs m=>exact⟨m,congrArg (Data.seq · m) (vT.mp (bD h))⟩
 |_=>exact nO h
theorem Uu{o:Obj}{a:Value}{d:Data}{s:Array (Option Value)}(h1:o.cls=a)(h2:o.data=d)(h3:o.slots=s):o=⟨a,o.dict,d,s⟩:=by subst h1 h2 h3;rfl
theorem ahW(h1:sP o.cls=aa "tuple")(h2:HB o.data=aa vs)(h3:o.dict=ae)(h4:lb o.slots.size 0=ag): ∃ m,o=seqObj "tuple" vs.toArray m:=(ahV h2).elim λm e=>⟨m,(Uu (CT h1) e (JF (tI h4))).trans (by rw[h3])⟩
theorem ahX(KX:kc K X.bC)(h:QI K v=aa t)(ht:t.1=aa "tuple"):tq X v t.2:=by
 induction v using o4 with
 |none=>exact bD h▸ .none rfl rfl
 |ref a=>refine oy λno=>(fk.mp h).elim λo w=>?_;have w2:=CU w.2;have q:=bA.mp w2.1;refine(fk.mp w2.2).elim λvs z=>(ee.mp z.2).elim λl y=>(ahW ((congrArg Prod.fst y.2).trans ht) z.1 (oP.mp q.1) q.2).elim λm e=>no (.some rfl ((KX w.1).trans (congrArg aa e)) (Ut (y.1.trans (congrArg aa (congrArg Prod.snd y.2)))))
 |_=>exact nO h
theorem rn{α:Type}{o:Option α}{p:α->Bool}(h:o.any p=ag): ∃ x,o=aa x/\p x=ag:=by
 induction o using jP with
 |none=>exact nB h
 |some x=>exact⟨x,rfl,h⟩
theorem Jn(h:yx v=aa a):v= .ref a:=by
 induction v using o4 with
 |ref=>exact congrArg _ (bD h)
 |_=>exact nO h
theorem Uv(h:BZ v=aa q): ∃ t,v= .str q t:=by
 induction v using o4 with
 |str s t=>exact⟨t,congrArg (Value.str · t) (bD h)⟩
 |_=>exact nO h
theorem ahY(h:QG v=aa q):v= .fields q:=by
 induction v using t5 with
 |fields=>exact congrArg _ (bD h)
 |_=>exact nO h
theorem ahZ(h:QE v=aa q):v= .func q:=by
 induction v using t5 with
 |func=>exact congrArg _ (bD h)
 |_=>exact nO h
theorem ah0(h:QF v=aa q):v= .cls q:=by
 induction v using t5 with
 |cls=>exact congrArg _ (bD h)
 |_=>exact nO h
theorem ah1(h:HD v=aa q): ∃ es ep,v= .dict es ep/\q=es.toList:=by
 induction v using t5 with
 |dict es ep=>exact⟨es,ep,rfl,(bD h).symm⟩
 |_=>exact nO h
theorem ah2(h:bodyOf v=aa q):v= .stmts q:=by
 induction v using FuncBody.casesOn with
 |stmts=>exact congrArg _ (bD h)
 |_=>exact nO h
theorem ah3(h:QH p=aa fS): ∃ ds,p=⟨[],fS,ae,[],[],ae,ds⟩:=by
 have w:=CU h;have w1:=bA.mp w.1;have w2:=bA.mp w1.1;have w3:=bA.mp w2.1;have w4:=bA.mp w3.1;induction p using Arguments.casesOn with
 |mk a1 a2 a3 a4 a5 a6 a7=>obtain rfl:=rA.mp w4.1;obtain rfl:=oP.mp w4.2;obtain rfl:=rA.mp w3.2;obtain rfl:=rA.mp w2.2;obtain rfl:=oP.mp w1.2;obtain rfl:=bD w.2;exact⟨a7,rfl⟩
theorem ah4(KX:kc K H)(h:codeOk K fd=ag):H.CodeRec fd.code fd.qualname:=(rn h).elim λoc w=>(fk.mp w.1).elim λa z=>(rn w.2).elim λvs y=>(rn y.2).elim λq x=>(fk.mp x.1).elim λv u=>(Uv u.2).elim λt e=>⟨a,oc,vs,t,Jn z.1,KX z.2,ahY y.1,by rw[u.1,e,sEq_iff.mp x.2]⟩
noncomputable def CV:List Str->Bool
 |[]=>ag
 |x::r=> !(r.any (sEq x))&&CV r
theorem Jo: ∀ {l:List Str},CV l=ag->l.Nodup
 |[],_=> .nil
 |x::r,h=>have w:=bA.mp h;lV.mpr ⟨λz=>(nB (((ox _).mp w.1).symm.trans (tE.mpr ⟨x,z,sEq_iff.mpr rfl⟩))),Jo w.2⟩
noncomputable def Uw:jv->Bool
 | .local=>ag
 | .cell=>ag
 |_=>ak
noncomputable def ah5:jv->Bool
 | .free=>ak
 |_=>ag
noncomputable def CW (x:Str):bg->Option jv
 |[]=>ae
 |p::r=>bif sEq x p.1 then aa p.2 else CW x r
theorem Jp(x:Str): ∀ l:bg,CW x l=l.lookup x
 |[]=>rfl
 |(y,k)::r=>by rw[jN,Hy,<- Jp x r];show(bif sEq x y then aa k else CW x r)=_;cases sEq x y <;> rfl
noncomputable def Jq (ps:List Str) (names:bg):Bool:=CV (names.map (·.1))&&names.all (λp=> !sEq p.1 ("__debug__" :Str)&& !sEq p.1 ("__classdict__" :Str)&&ah5 p.2)&&ps.all (λx=>(CW x names).any Uw)&&CV ps
noncomputable def ah6:Option j2->Bool
 |some (.fn p _ n _ _)=>Jq p n
 |_=>ak
theorem ah7(h:Uw k=ag):k= .local\/k= .cell:=by cases k <;> first|exact .inl rfl|exact .inr rfl|exact nB h
theorem ah8(KX:kc K X.bC){id:Nat}{v:B1}(h:HF K (X.fv id)=aa (HG v))(hs:Jq v.1 v.2.2.1=ag): ∃ o fd,FnAt X id v.1 v.2.1 v.2.2.1 v.2.2.2.1 v.2.2.2.2 o fd:=
 oy λno=>(fk.mp h).elim λo w=>(fk.mp w.2).elim λfd w2=>(fk.mp w2.2).elim λb' w3=>(fk.mp w3.2).elim λfS w4=>(fk.mp w4.2).elim λdf w5=>by
  have c:=CU w5.2;have c1:=bA.mp c.1;have c2:=bA.mp c1.1;have c3:=bA.mp c2.1;have c4:=bA.mp c3.1;have s1:=bA.mp hs;have s2:=bA.mp s1.1;have s3:=bA.mp s2.1;have e:=iM (bD c.2);have f:=iM e.1;have f2:=iM f.2;have e2:=e.2;subst e2;have plain: ∀ p∈fd.scope.names,(p.1==("__debug__" :Str))=ak/\(p.1==("__classdict__" :Str))=ak:=λp hp=>have z:=bA.mp (bA.mp (dS.mp s3.2 p hp)).1;⟨Hz z.1,Hz z.2⟩
  have kinds: ∀ p∈fd.scope.names,p.2≠ .free:=λp hp q=>by have z:=(bA.mp (dS.mp s3.2 p hp)).2;rw[q] at z;exact nB z
  exact no ⟨o,fd,{obj:=KX w.1,cls:=CT f.1,data:=ahZ w2.1,hnames:=rfl,kind:=f2.2,hgen:=rfl,co:=(ox _).mp c4.1,hbody:=ah2 w3.1,globals:=tI c4.2,builtins:=tI c3.2,closure:=rA.mp c2.2,code:=ah4 KX c1.2,hparams:=(ah3 w4.1).elim λds z=>⟨fS,ds,z,rfl⟩,hdflts:=ahX KX w5.1 f2.1,nodup:=Jo s3.1,plain:=plain,kinds:=kinds,pnames:=λx hx=>(rn (dS.mp s2.2 x hx)).elim λk z=>(ah7 z.2).imp (λq=>by rw[<- Jp,z.1,q]) λq=>by rw[<- Jp,z.1,q],pnodup:=Jo s1.2}⟩
end
theorem ah9(x:Str)(v:Value):v.isStr x=isKey x v:=by
 induction v using o4 with
 |str s t=>exact Hy s x
 |_=>rfl
theorem Ux(x:Str): ∀ l:List jS,(l.find? λe=>e.key.isStr x).map (·.val)=yz x l
 |[]=>rfl
 |e::r=>by rw[zK,ah9,<- show(bif isKey x e.key then aa e.val else yz x r)=yz x (e::r) from rfl,<- Ux x r];cases isKey x e.key <;> rfl
theorem Uy{H:Heap}{K:Lk}(KX:kc K H){N:Nat}(h:nsOk K N=ag):H.Ns N (lO K N):=(rn h).elim λl w=>(fk.mp w.1).elim λo z=>(ah1 z.2).elim λes y=>y.elim λep y=>⟨o,es,ep,KX z.1,y.1,λe he=>(zX.mp (dS.mp w.2 e (y.2▸C4.mpr he))).elim λs q=>(Uv q).elim λt q=>⟨s,t,q⟩,λx=>by unfold lO QK nsFind findBy;rw[w.1,Option.getD_some,y.2,<- Ux,Array.find?_toList]⟩
theorem aia(h:HH v=aa n):v=aa (.builtin n):=by
 induction v using jP with
 |none=>exact nO h
 |some v=>induction v using o4 with|builtin=>exact congrArg (λn=>aa (Value.builtin n)) (bD h)|_=>exact nO h
theorem aib(h:QL l=aa x):l=[.ref x.1,.type x.2]:=by
 induction l using cw with
 |nil=>exact nO h
 |cons u l=>induction l using cw with
  |nil=>exact nO h
  |cons v l=>induction l using cw with|cons=>exact nO h|nil=>exact(fk.mp (show((yx u).bind λa=>(sP v).map λt=>(a,t))=aa x from h)).elim λa w=>(ee.mp w.2).elim λt z=>by rw[<- z.2,Jn w.1,CT z.1]
inductive Jr (l:List (Option Value)) (n:String):Prop
 |mk {k0 k1 k2 k3 k5:Option Value}:l=[k0,k1,k2,k3,aa (.builtin n),k5]->Jr l n
theorem aic(h:QM l=aa n):Jr l n:=by
 induction l using cw with
 |nil=>exact nO h
 |cons k0 l=>induction l using cw with
  |nil=>exact nO h
  |cons k1 l=>induction l using cw with
   |nil=>exact nO h
   |cons k2 l=>induction l using cw with
    |nil=>exact nO h
    |cons k3 l=>induction l using cw with
     |nil=>exact nO h
     |cons k4 l=>induction l using cw with
      |nil=>exact nO h
      |cons k5 l=>induction l using cw with|cons=>exact nO h|nil=>exact .mk (by rw[aia (show HH k4=aa n from h)])
theorem aid{c:ClassData}{m:List Value}{N:Addr}(h1:c.mro=m)(h2:c.ns=N)(h3:c.hasDict=ag)(h4:c.abstract=ak)(h5:c.hasDel=ak):c=⟨c.name,c.bases,m,N,c.qualname,ag,c.slotNames,c.subclasses,ak,c.collection,ak⟩:=by cases c;subst h1 h2 h3 h4 h5;rfl
theorem Js{H:Heap}{K:Lk}(KX:kc K H){a N:Nat}(h:HI K a=aa (HJ N)):pZ H a N:=
 (fk.mp h).elim λo w=>(fk.mp w.2).elim λcd w2=>(fk.mp w2.2).elim λmt w3=>(fk.mp w3.2).elim λnw w4=>by
  have c:=CU w4.2;have c1:=bA.mp c.1;have c2:=bA.mp c1.1;have c3:=bA.mp c2.1;have e:=iM (bD c.2);have f:=iM e.1;have f2:=iM f.2;induction aic w4.1 using Jr.casesOn with
  |mk z=>
  have hm:=aib w3.1;rw[tI c3.1,f2.1] at hm;rw[f2.2] at z;have hc:=aid hm e.2 c3.2 ((ox _).mp c2.2) ((ox _).mp c1.2);exact .mk ((KX w.1).trans (congrArg aa (Uu (CT f.1) ((ah0 w2.1).trans (congrArg Data.cls hc)) (vT.mp z))))
theorem Jt(h:B2 v a=ag):v=aa (.ref a):=(rn h).elim λb w=>(fk.mp w.1).elim λu z=>by rw[z.1,Jn z.2,tI w.2]
theorem aie(h:QN v=aa i): ∃ t,v= .int i t:=by
 induction v using o4 with
 |int j t=>exact⟨t,congrArg (EG · t) (bD h)⟩
 |_=>exact nO h
theorem aif:T.ents.length=98:=by kernel_rfl
theorem aih:(ar 13).map (λc=>T.ents[85+c]?)=(ar 13).map λc=>aa (.cls c (sd c)):=by kernel_rfl
theorem aii:(ar 85).all (λi=>ah6 T.ents[i]?)=ag:=by kernel_rfl
theorem aij:T.glob.all (λp=>iY p.2 45||(iY 85 p.2&&iY p.2 97))=ag:=by kernel_rfl
theorem Uz:T.meths.all (λp=>iY p.2.2 84)=ag:=by kernel_rfl
theorem aik:(ar 13).all (λc=>iY (sd c) 84)=ag:=by kernel_rfl
theorem ail:(ar 13).map (λi=>kG (85+i))=(ar 13).map qZ:=by kernel_rfl
theorem UA:fm.length=37:=by kernel_rfl
theorem aim:gY.all Cg=ag:=by kernel_rfl
theorem ain:T.meths.all (λt=>(ar 37).all λa=> !((fm[a]?).any λx=>(gY[t.2.1]?).any (sEq x))||T.gJ.contains (t.1,a))=ag:=by kernel_rfl
theorem aio:xw.map (λp=>Ej p.1)=xw.map λp=>aa (yS p.2):=by kernel_rfl
theorem aip:xw.all (λp=> !sEq p.1 ("__name__" :Str))=ag:=by kernel_rfl
theorem aiq(h:c<13):T.ents[85+c]?=aa (.cls c (sd c)):=tD.mp aih c (fh.mpr h)
theorem UB(h:i<85): ∃ p d n b g,T.ents[i]?=aa (.fn p d n b g)/\Jq p n=ag:=by
 have w:=dS.mp aii i (fh.mpr h);cases e:T.ents[i]? with
 |none=>rw[e] at w;exact nB w
 |some x=>
  rw[e] at w;induction x using j2.casesOn with
  |fn p d n b g=>exact⟨p,d,n,b,g,rfl,w⟩
  |cls=>exact nB w
theorem UC(h:T.ents[i]?=aa x):i<85\/ ∃ c,c<13/\i=85+c/\x= .cls c (sd c):=(jt i 85).imp id λh1=>by have h2:=aif▸(dF.mp h).1;have h3:i=85+(i-85):=(K8 h1).symm;have h4:i-85<13:=(au [.t J0 (.n 98),.e J0 (.a (.n 85) J1),pB J1 J0 (.n 85)] (.t J1 (.n 13))) h2 h3 (uB _ _);exact⟨i-85,h4,h3,some_inj h ((congrArg (T.ents[·]?) h3).trans (aiq h4))⟩
noncomputable def ro (prog:fB) (w:ef) (bC:Heap) (mb:Str->Option Value) (K:Lk):SX:=⟨prog,w,bC,qZ,lO K jQ,mb,T,kG⟩
section
variable{prog:fB}{w:ef}{bC:Heap}{mb:Str->Option Value}{K:Lk}
theorem UD(KX:kc K bC)(ck:pJ K)(h:i<85): ∃ p d n b g,T.ents[i]?=aa (.fn p d n b g)/\ ∃ o fd,FnAt (ro prog w bC mb K) i p d n b g o fd:=(UB h).elim λp q=>q.elim λd q=>q.elim λn q=>q.elim λb q=>q.elim λg q=>⟨p,d,n,b,g,q.1,ah8 (X:=ro prog w bC mb K) (v:=(p,d,n,b,g)) KX ((ck.fns h).trans (by rw[q.1];rfl)) q.2⟩
theorem UE(prog:fB)(w:ef)(mb:Str->Option Value)(KX:kc K bC)(ck:pJ K)(h:i<85): ∃ o fd,bC.get? (kG i)=aa o/\o.cls= .type "function" /\o.data= .func fd:=(UD (prog:=prog) (w:=w) (mb:=mb) KX ck h).elim λp q=>q.elim λd q=>q.elim λn q=>q.elim λb q=>q.elim λg q=>q.2.elim λo q=>q.elim λfd F=>⟨o,fd,F.obj,F.cls,F.data⟩
theorem UG(h:nR T.meths c m=aa f): ∃ t∈T.meths,t.1=c/\t.2.1=m/\t.2.2=f:=(ee.mp h).elim λt w=>have q:=bA.mp (show(t.1==c&&t.2.1==m)=ag from List.find?_some (p:=λt:Nat×Nat×Nat=>t.1==c&&t.2.1==m) w.1);⟨t,List.mem_of_find?_eq_some w.1,beq_iff_eq.mp q.1,beq_iff_eq.mp q.2,w.2⟩
theorem UH(KX:kc K bC)(ck:pJ K)(hc:c<13):mZ (ro prog w bC mb K) c/\zd (ro prog w bC mb K) c (sd c):=by
 have h1:=bA.mp (ck.AA hc);have h2:=bA.mp h1.1;have h3:=bA.mp h2.1;have h4:=bA.mp h3.1;have h5:=bA.mp h4.1;have h6:=bA.mp h5.1;have pW:=Uy KX h6.1;have fn: ∀ {i},i<85-> ∃ o,bC.get? (kG i)=aa o/\o.cls= .type "function" :=λh=>(UE prog w mb KX ck h).elim λo q=>q.elim λfd q=>⟨o,q.1,q.2.1⟩;have hi:=fn (zS (iL.mp (dS.mp aik c (fh.mpr hc))));have l:=Js KX (ck.cls hc);refine⟨?_,hi.elim λo y=> .mk hc l pW (Jt h1.2) y.1 y.2⟩;induction l using pZ.casesOn with
 |mk z=>
  refine .mk z pW (oP.mp h6.2) (oP.mp h5.2) (oP.mp h4.2) (fun{a name} ha iV=>?_) fun{m f} hm=>(UG hm).elim λt y=>?_
  .have w:=dS.mp h3.2 a (fh.mpr (UA▸(dF.mp ha).1))
   have iV:T.gJ.contains (c,a)=ak:=iV;rw[iV,ha] at w;exact oP.mp w
  .have w:=dS.mp h2.2 t y.1
   have y1:=y.2.1;have y2:=y.2.2.1;have y3:=y.2.2.2;subst y1 y2 y3;rw[Nat.beq_refl] at w;refine(rn w).elim λx v=>⟨x,v.1,Jt v.2,fn (zS (iL.mp (dS.mp Uz t y.1))),⟨_,Ri (dS.mp aim x (kY v.1))⟩,λa ha=>?_⟩;have u:=dS.mp (dS.mp ain t y.1) a (fh.mpr (UA▸(dF.mp ha).1));rw[ha,v.1,show((aa x).any λy=>(aa x).any (sEq y))=ag from sEq_iff.mpr rfl] at u;exact u
theorem air{X:SX}{a:Nat}{o:Obj}{fd:qh}(ho:X.bC.get? a=aa o)(hd:o.data= .func fd):td X (.ref a) .frame:=by intro s hs;exact afi (hs _ _ ho) hd
theorem ais{X:SX}{a:Nat}{o:Obj}{cd:ClassData}(ho:X.bC.get? a=aa o)(ht:o.cls= .type "type")(hd:o.data= .cls cd):td X (.ref a) .machine:=by intro s hs b A Q hq;unfold keeperOf;refine aV (wpAny_bind (l9 (hs _ _ ho) ?_));rw[hd];exact wpAny_bind (gU ⟨o,hs _ _ ho,ht⟩ tc_lookup (wpAny_pure (by rw[if_pos (beq_self_eq_true _)];exact hq)))
theorem UI(h:c<13):kG (85+c)=qZ c:=tD.mp ail c (fh.mpr h)
theorem CX{α:Type}{x:Str}{v:α}: ∀ {l:List (Str×α)},l.lookup x=aa v->(x,v)∈l:=lookup_mem
theorem ait(KX:kc K bC)(ck:pJ K)(Ju:bC.NoLimit)(hb:bC.Ns rJ mb)(Jv: ∀ x:Str,x≠ "__name__" ->mb x=Ej x)(hm:jR<bC.objs.size)(hl: ∃ (a:Nat) (o:Obj),bC.get? a=aa o/\a+1=bC.objs.size):
  gE (ro prog w bC mb K)/\Jl (ro prog w bC mb K):=by
 have g1:=bA.mp ck.gl;have g2:=bA.mp g1.1;have g3:=bA.mp g2.1;have UJ: ∀ {i},i<85->td (ro prog w bC mb K) (.ref (kG i)) .frame:=λh=>(UE prog w mb KX ck h).elim λo q=>q.elim λfd q=>air q.1 q.2.2;refine⟨⟨⟨λc hc=>(UH KX ck hc).1,hm,hl⟩,⟨Uy KX g3.1,hb,fun{x i} hx=>?_,fun{x id} hx=>Jt (dS.mp g2.2 _ (CX hx)),fun{x c} hx hn=>?_⟩,⟨fun{x id} hx=>?_,fun{c m f} hf=>?_⟩⟩,Ju,fun{id params de names body gen} he=>?_,fun{id z init} he=>?_⟩
 .exact(rn (dS.mp g3.2 _ (CX hx))).elim λj w=>(fk.mp w.1).elim λv y=>(aie y.2).elim λt e=>⟨t,y.1.trans (by rw[e,beq_iff_eq.mp w.2])⟩
 .have hm:=CX hx
  exact⟨oP.mp (dS.mp g1.2 _ hm),(Jv x λe=>nB ((Hz (dS.mp aip _ hm)).symm.trans (beq_iff_eq.mpr e))).trans (tD.mp aio _ hm)⟩
 .refine(ni.mp (dS.mp aij _ (CX hx))).elim (λh=>⟨.frame,.inr rfl,UJ (zR (iL.mp h) (by decide))⟩) λh=>?_
  have h:=bA.mp h;have h1:=iL.mp h.1;have h2:=iL.mp h.2;have h3:id=85+(id-85):=(K8 h1).symm;have h4:id-85<13:=(au [.l J0 (.n 97),.e J0 (.a (.n 85) J1),pB J1 J0 (.n 85)] (.t J1 (.n 13))) h2 h3 (uB _ _);induction Js KX (ck.cls h4) using pZ.casesOn with
  |mk z=>
  refine⟨.machine,.inl rfl,?_⟩;have e:kG id=qZ (id-85):=by rw[h3];exact(UI h4).trans (congrArg qZ (Nat.add_sub_cancel_left ..).symm)
  show td _ (.ref (kG id)) .machine;rw[e];exact ais (X:=ro prog w bC mb K) z rfl rfl
 .exact(UG hf).elim λt y=>y.2.2.2▸UJ (zS (iL.mp (dS.mp Uz t y.1)))
 .exact(UC he).elim (λh=>(UD KX ck h).elim λp q=>q.elim λd q=>q.elim λn q=>q.elim λb q=>q.elim λg q=>by have e:=j2.fn.inj (some_inj q.1 he);obtain⟨rfl,rfl,rfl,rfl,rfl⟩:=e;exact q.2) λw=>w.elim λc w=>(by rcases w.2.2 with⟨⟩)
 .exact(UC he).elim (λh=>(UB h).elim λp q=>q.elim λd q=>q.elim λn q=>q.elim λb q=>q.elim λg q=>(by rcases some_inj q.1 he with⟨⟩)) λw=>w.elim λc w=>by have e:=j2.cls.inj w.2.2;have h:=w.2.1;obtain⟨rfl,rfl⟩:=e;subst h;exact⟨UI w.1,(UH KX ck w.1).2⟩
end
section
set_option tactic.hygienic true
theorem aiu:bp (2*40) wQ:=⟨rfl,rfl,by decide +kernel,by decide +kernel⟩
theorem aiv{X:SX}{s:aq}(hX:X.bC=s.heap)(hg:s.gens= #[]):SR X ⟨⟨λzy=>0,λzy zy=>False,λzy=>ae,λzy=>ae⟩,[],s⟩ where
 objs e:=nO e
 ad hk:=absurd hk (dm _)
 apart hj:=absurd hj (dm _)
 above hk:=absurd hk (dm _)
 kinds hk:=absurd hk (dm _)
 static b o e:=hX▸e
 old:=hX▸aS _
 bare:=λi e=>absurd (show i∈(#[]:Array oV) from hg▸e) (C5 i)
 sR hj:=absurd hj (dm _)
 ke hk:=absurd hk (dm _)
 fz hk:=absurd hk (dm _)
theorem pZ.lt(h:pZ H (qZ 0) N):jR<H.objs.size:=by
 induction h using pZ.casesOn with
 |mk h=>exact Nat.lt_trans (by decide) (ei h)
theorem aiw:T.glob.lookup ("law" :Str)=aa Fu:=by kernel_rfl
section
variable{prog:fB}{w:ef}{bE:aq}{mg mb:Str->Option Value}{K:Lk}
theorem aix(KX:kc K bE.heap)(ck:pJ K)(hgl:bE.heap.Ns jQ mg)(Ju:bE.heap.NoLimit)(hb:bE.heap.Ns rJ mb)(Jv: ∀ x:Str,x≠ "__name__" ->mb x=Ej x)
  (hl: ∃ (a:Nat) (o:Obj),bE.heap.get? a=aa o/\a+1=bE.heap.objs.size) (hg:bE.gens= #[]) (hnm:nm=("law" :Str)) (hfa:mg nm=aa (.ref fa)) (hL:bE.heap.IsList L vs.toArray) (hi:l7 vs l) (hlen:l.length<=1000000)
  (hr:Fv l) (hq: ∀ s':aq,(∀ b o,bE.heap.get? b=aa o->s'.heap.get? b=aa o)->s'.os=bE.os->tN s'.gens->Q (.bool ag) s'):aF ag (bR prog w) wQ (call (.ref fa) [.ref L]) Q bE:=by
 have hm:jR<bE.heap.objs.size:=(Js KX (ck.cls (c:=0) (by decide))).lt;have A:=ait (prog:=prog) (w:=w) KX ck Ju hb Jv hm hl;have e:=Heap.Ns.agree hgl A.1.g.ns nm;rw[hfa,hnm,A.1.g.defs aiw] at e;have e:=Mh (bD e);subst e;exact(ahT A.1 A.2 40 ag).call Fu (c:=⟨⟨λzy=>0,λzy zy=>False,λzy=>ae,λzy=>ae⟩,[],bE⟩) aiu (aiv rfl hg) (.cons (.j0 hL hi hlen) .nil) hr fun{c' r v} e N rv=>by subst e;cases rv;exact hq c'.s N.sr.static N.os N.sr.bare
theorem aiy(h:layAllW R cl P ord [.list xs] s=aa (vs,s')): ∃ (a:Nat) (o:Obj),s'.heap.get? a=aa o/\a+1=s'.heap.objs.size:=by
 rw[layAllW] at h
 split at h
 .rename_i a ha
  rw[layW] at ha
  split at ha
  .rename_i r hr
   obtain rfl:=bD ha;rw[layAllW] at h;cases h;exact⟨r.2.heap.objs.size,_,eg _ rfl,(t6 _ _).symm⟩
  .cases ha
 .cases h
end
end
end
end EJ.Internal
namespace Jw
section
local macro_rules | `(tactic| omega) => `(tactic| lia)
open PySem PySem.W PyProof.Rows EJ.Internal
set_option maxHeartbeats 16000000
set_option pp.deepTerms false
set_option pp.deepTerms.threshold 4
noncomputable def Jx (st:jV->nz->Option (jV×nz)) (ok:nz->Bool) (ih:jV->nz->Option jV) (s:jV) (t:nz):Option jV:=Bool.rec (Bool.rec ae (Option.rec ae (Prod.rec ih) (st s t)) (ok t)) (aa s) (through t)
noncomputable def Jy (st:jV->nz->Option (jV×nz)) (ok:nz->Bool):Nat->jV->nz->Option jV:=oO (λzy zy=>ae) λzy=>Jx st ok
theorem aiz{tb:String->Option Builtin}{p:fB}{w:ef}{Jz:Nat}{ann:Option Value}{n:Nat}{s s':jV}{t:nz}(h:Jy (stepT (denote tb) p w) (stepOk Jz ann) n s t=aa s'):topRun tb p w Jz ann n s.abs t=aa s'.abs:=by
 induction n generalizing s t with
 |zero=>exact nO h
 |succ n ih=>
  change Jx _ _ (Jy _ _ n) s t=_ at h;unfold Jx at h;unfold topRun;cases ht:through t with
  |true=>rw[ht] at h;obtain rfl:=bD h;rfl
  |false=>
   rw[ht] at h;cases hk:stepOk Jz ann t with
   |false=>rw[hk] at h;exact nO h
   |true=>
    rw[hk] at h;cases hs:stepT (denote tb) p w s t with
    |none=>rw[hs] at h;exact nO h
    |some r=>obtain⟨lR,s9⟩:=r;rw[hs] at h;rw[stepT_spec hs];exact ih h
noncomputable abbrev UK:=PySem.W.Fast.tw10156331382660048174 (PySem.W.Fast.tw11892475500146522536 PySem.W.Fast.tw14364793385576792824)
noncomputable abbrev UL:=PySem.W.Fast.tw6613529449190102663
noncomputable abbrev UM:=PySem.W.Fast.tw4187177175401517315
theorem aiA:stepT (denote Ao)=UK:=by rw[PySem.W.Fast.te10156331382660048174,PySem.W.Fast.te11892475500146522536,PySem.W.Fast.te14364793385576792824]
theorem aiB:stepOk=UL:=PySem.W.Fast.te6613529449190102663
theorem aiC:openSeen=UM:=PySem.W.Fast.te4187177175401517315
noncomputable def UN:List Obj->Nat->BT->BT
 |[],_,t=>t
 |o::l,i,t=>UN l (i+1) (t.ins i o)
noncomputable def T0 (P:Params):BT:=UN (jy P).objs.toList 0 .nil
noncomputable def S0 (w:ef) (os:OsState):jV:=⟨T0 w.params,11,(jy w.params).life,tu [],w8,w9,os⟩
theorem aiD(P:Params):absHeap (T0 P) 11 (jy P).life=jy P:=by kernel_rfl
noncomputable def CY (s:jV) (a:Nat):Option Obj:=match Nat.blt a s.n with|true=>(s.tree.get a).bind alive|false=>ae
theorem aiE(s:jV):kc (CY s) s.abs.heap:=fun{a o} e=>by
 unfold CY at e;cases h:Nat.blt a s.n with
 |false=>rw[h] at e;exact nomatch e
 |true=>rw[h] at e;exact(fk.mp e).elim λo' w=>(abs_get (Nat.blt_eq.mp h) w.1).trans w.2
noncomputable def vL {β:Type} (g:Nat->β):Nat->Nat->List β
 |0,_=>[]
 |n+1,i=>g i::vL g n (i+1)
theorem CZ{β:Type}(g:Nat->β): ∀ n i,vL g n i=(wj i n).map g
 |0,_=>rfl
 |n+1,i=>by rw[List.range'_succ,gG,<- CZ g n (i+1)];rfl
abbrev Al:=List (Option HE)×List (Option ((Option String×String×String)×Nat))×List Bool×Bool
noncomputable def JA (K:Lk):Al:=((wj 0 85).map λi=>HF K (kG i),(wj 0 13).map λc=>HI K (qZ c),(wj 0 13).map λc=>QO K c,QP K)
noncomputable def JB:Al:=(vL (λi=>(QJ T.ents[i]?).map HG) 85 0,vL (λc=>aa (HJ (pI c))) 13 0,vL (λzy=>ag) 13 0,ag)
theorem aiF{K:Lk}(e:JA K=JB):pJ K:=by
 unfold JA JB at e;rw[CZ,CZ,CZ] at e;have e1:=iM e;have e2:=iM e1.2;have e3:=iM e2.2;have m {i n:Nat} (h:i<n):i∈wj 0 n:=by rw[List.mem_range'_1];exact(au [.t J0 J1] (.an (.l Y0 J0) (.t J0 (.a Y0 J1)))) h
 exact⟨λh=>tD.mp e1.1 _ (m h),λh=>tD.mp e2.1 _ (m h),λh=>tD.mp e3.1 _ (m h),e3.2⟩
def YP(_:ef)(h:Heap):Prop:= ∃ K:Lk,kc K h/\pJ K
theorem aiG{p q:fB}{loose:List nv}{Xt:aq->Bool}{N:Nat}{g0:Bool}
  (bo: ∀ w:ef,(fencedOpening Ao p w N).map (λs=>(s.heap,s.gens,s.drawn,s.toks))=aa (jy w.params,tu [],w8,w9))
  (z: ∀ w:ef,((jy w.params).isNs jQ&&(tu []:Array oV).size==0,(jy w.params).objs.size)=(ag,11))
  (ev: ∀ w:ef,(λos=>(Jy (UK p w) (UL 11 ((jy w.params).nsMap jQ "__annotations__")) N (S0 w os) (topStub p)).map λs=>((staticsOk (Eb p.main.body) (jy w.params) s.abs.heap&&namesBound p s.abs.heap&&gensDone s.abs&&laidKept (jy w.params) s.abs.heap),UM q loose (Eb p.main.body) Xt g0 s.abs,JA (CY s)))=λzy=>aa (ag,openGood q loose,JB)):LeftO p q loose Xt (λs=> ∃ K:Lk,kc K s.heap/\pJ K) (λzy=>True) N g0:=λw=>by
 have ev:=ev w;rw[<- aiA,<- aiB,<- aiC] at ev;obtain⟨⟨h,gs,d,k,os⟩,e,e'⟩:=ee.mp (bo w);obtain⟨rfl,rfl,rfl,rfl⟩:h=jy w.params/\gs=tu []/\d=w8/\k=w9:=by simpa using e'
 obtain⟨z1,z2⟩:=iM (z w);obtain⟨s,r,l⟩:=ee.mp (congrFun ev os);obtain⟨l1,l⟩:=iM l;obtain⟨l2,l3⟩:=iM l;have r:=aiz r;have t:topFrom Ao p w N ⟨jy w.params,tu [],w8,w9,os⟩=aa s.abs:=by
  unfold topFrom;dsimp only;rw[z1,z2];have:(S0 w os).abs=⟨jy w.params,tu [],w8,w9,os⟩:=by unfold S0 SharedT.abs;dsimp only;rw[aiD]
  rw[<- this,r];show(match staticsOk (Eb p.main.body) (jy w.params) s.abs.heap&&namesBound p s.abs.heap&&gensDone s.abs&&laidKept (jy w.params) s.abs.heap with|true=>_|false=>_)=_;rw[l1]
 unfold openEnds;rw[e];show(topFrom Ao p w N _).map _=_;rw[t];exact congrArg aa (DW l2 (eq_true ⟨CY s,aiE s,aiF l3⟩))
noncomputable def qv:fB:=view tZ [103]
noncomputable def UO:List nv:=tZ.boundNames.filter λx=>x != ("law" :nv)
theorem lft:LeftO tZ qv UO (λzy=>ag) (λs=> ∃ K:Lk,kc K s.heap/\pJ K) (λzy=>True) 14134:=aiG (boot_open (by kernel_rfl) (by kernel_rfl) (λs=>by kernel_rfl)) (λw=>by kernel_rfl) (λw=>by kernel_rfl)
section
open PySem.Calls
theorem aiH:Clear (⟨.builtin "claim.caller" {},ae,ae,[],ae⟩:Ctx):=⟨by show Em.contains "claim.caller" =ak;decide +kernel,λx hx=>absurd hx (oE)⟩
theorem aiI{M:eR}{t:Sem fA}{R:qk->aq->Prop}{s:aq}(h:aF ag M wQ t (λfin s'=> ∃ f,fin= .done f/\R (.ok f) s') s)(p:Pos):
  Sem.wp M ⟨.builtin "claim.caller" {},ae,ae,[],ae⟩ t (Sem.finPost M ⟨.builtin "claim.caller" {},ae,ae,[],ae⟩ R) (λe zy s'=>R (.error e) s') p s:=by
 refine o3 M _ t (λfin p' s' h'=>?_) (λzy zy zy h'=>h'.elim) p s (h _ p caller_in λzy=>aiH);obtain⟨f,rfl,hf⟩:=h';exact hf
theorem aiJ{prog:fB}{w:ef}{t:Sem fA}{s:aq}{R:qk->aq->Prop}(aiK:s.asleep)
  (h:aF ag (bR prog w) wQ t (λfin s'=> ∃ f,fin= .done f/\(R (.ok f) s'/\leftWithCleanup s'.gens=ak)) s):
  ∃ n r s' m3,runN (denote mf) prog w n s ⟨t,.builtin "claim.caller" {},default,[]⟩= .halted (Ap r) s'/\ schedN (denote mf) prog w n (.single s ⟨t,.builtin "claim.caller" {},default,[]⟩)= .halted (Ap r) s'/\s'.forget=m3.forget/\R r m3:=by
 obtain⟨n,r,bE,lR,hs,hn,JC,hR⟩:=wp_halts_full (M:=bR prog w) (R:=R) aiK (aiI (R:=λr s'=>R r s'/\leftWithCleanup s'.gens=ak) h default);exact⟨n,r,lR,bE,hn,hs,JC,hR⟩
abbrev WalkL(q:fB)(loose:List nv)(XP:(nv->Option Value)->Heap->Prop)(YP:ef->Heap->Prop)(r:RowW)(d:DefRec)(vQ:List (nv×PySem.Expr))(run:Value->List Value->Sem Value):Prop:=
 ∀ (w:ef) (fC bE:aq) (mg mb:nv->Option Value),Ground q loose r.records XP w fC mg mb bE.heap->YP w bE.heap-> ∀ (a:Addr) (o:Obj) (pm cd doc dV kV:Value),bE.heap.get? a=aa o->
  o.data= .func {docDef d.name d.params d.body d.scope pm cd doc with defaults:=dV,kwdefaults:=kV}->bE.heap.CodeRec cd d.name->Dflts mg bE.heap d.params vQ dV kV->mg d.name=aa (.ref a)->bE.gens= #[]->
  ∀ (args:List WData) (vals:List Value) (as:List Addr),r.claim.pre args=ag->WData.layableAll args=ag->ReadsAllW r.records (classAt fC.heap) bE.heap vals args as->WellAll w.params bE.heap vals args->(∀ a∈as,(a==jR)=ak)->Laid r.records w fC bE args vals as-> aF ag (bR r.prog w) wQ (run (.ref a) vals) (λv s'=>GoodWG r.claim (classAt fC.heap) (ExcName.means fC.heap) args bE (.ok (.ret v)) s') bE
theorem PySem.W.holds_open{r:OpenRow}{q:fB}{loose:List nv}{Xt:aq->Bool}{XP:(nv->Option Value)->Heap->Prop}{α:Type}{Yf:aq->α}{Ya:ef->α}{YP:ef->Heap->Prop}{d:DefRec}{vQ:List (nv×PySem.Expr)}{N:Nat}
  (left:LeftO r.prog q loose Xt Yf Ya N) (hY: ∀ w s,Yf s=Ya w->YP w s.heap) (hYk: ∀ w h h',YP w h->(∀ b o,h.get? b=aa o->h'.get? b=aa o)->YP w h')
  (hX: ∀ s,Xt s=ag->XP (s.heap.nsMap jQ) s.heap) (hXk: ∀ mg h h',XP mg h->(∀ b o,h.get? b=aa o->h'.get? b=aa o)->XP mg h')
  (C1:defOf q r.name=aa (d,vQ)) (hp:r.prog.theDef r.name=aa (d.params,d.body,d.scope)) (hk:kwWritten? d.params.kwonlyargs d.params.kw_defaults=aa vQ) (hRf: ∀ s,Xt s=ag->RecFacts r.records s.heap) (mO:(!r.writes||r.records.isEmpty)=ag)
  (k1:r.wellSaid=ag) (ok:(chainsOk q&&opensWell r.prog&&(frees r.toRowW&&r.within.isEmpty))=ag) (hb:r.prog.bare) (hw:r.toRowW.promised)
  (call:WalkL q loose XP YP r.toRowW d vQ λf vs=>PySem.call f vs):r.Holds:=by
 obtain⟨ok,k5⟩:=bA.mp ok;obtain⟨UP,o1⟩:=bA.mp ok;obtain⟨k5,k6⟩:=bA.mp k5;obtain⟨HZ,hu,ha,hap,hm⟩:=frees_parts k5;have hi:=ident_freeW hu ha hap;have hwi:r.toRowW.claim.within=[]:=rA.mp k6;refine⟨k1,hw,⟨hb,o1,by show r.makers.map _=[];rw[hm];rfl⟩,hw.witness,λw=>⟨(left.behind hX UP w).1,λs' eB=>?_⟩⟩;refine oy λno=>?_;obtain⟨fC,hf,hg0,s,hT,hz,C2,hg,kW,y⟩:=(left.behind (XP:=λmg h=>XP mg h/\RecFacts r.records h) (λs hs=>⟨hX s hs,hRf s hs⟩) UP w).2 s' eB;have G0:Ground q loose [] XP w s (s.heap.nsMap jQ) (s.heap.nsMap rJ) s.heap:=⟨kW.T,kW.B,kW.D,kW.TE,kW.TD,kW.W,kW.X.1,kW.cls,kW.has,kW.apart,kW.once,kW.K⟩;have RF:=kW.X.2;refine no ⟨fC,hf,hg0,s,hT,λn hn=>?_,RF.1,RF.2.1,?_⟩
 .clear no
  obtain rfl:n=r.name:=by split at hn <;> simp_all
  exact pinned_of_view hg G0 C1 hp hk
 clear no;have C2:s.gens= #[]:=JF (beq_iff_eq.mp C2);have G:Ground q loose r.records XP w s _ _ s.heap:=RF.ground G0;intro args g7 C3 ord UQ;refine oy λno=>?_;obtain⟨⟨vs,bE⟩,zh⟩:=zX.mp (layAllW_isSome (P:=w.params) (ord:=ord) G.has args r.args s (pre_splitW g7).1);have keeps:=layAllW_keeps _ _ _ zh;have sG:=layAllW_rest _ _ _ zh;obtain⟨as,JD,pG,hold⟩:=reads_layAllW UQ _ _ _ zh C3 bE.heap (λzy zy e=>e);have L:Laid r.records w s bE args vs as:=⟨⟨ord,UQ,zh⟩,JD,pG,hold,keeps,sG.1.trans C2,sG.2.2.1⟩;have JE:=G.keeps hXk keeps;obtain⟨a,o,pm,cd,doc,dV,kV,h1,h2,h3,h4,h5⟩:=JE.fn C1;have hn:defOf q r.name=aa (d,vQ):=C1;have h:=call w s bE _ _ JE (hYk _ _ _ (hY w s y) keeps) a o pm cd doc dV kV h2 h3 h4 h5 (defOf_name C1▸h1) L.gens args vs as g7 C3 L.reads L.well (L.low G.low) L;obtain⟨k,res,lR,vJ,aiL,aiM,JC,sq,CR,m1⟩:=aiJ (prog:=r.prog) (w:=w) (t:= do match <- nsGet mainNs r.name with
   |some f=> do ret (<- PySem.call f vs)
   |none=>wJ "claim.caller:no-such-global") (s:=bE)
  (R:=λres s'=>r.toRowW.claim.Ends s args vs bE res s'/\s'.os=s.os/\(r.writes=ag->namesKept r.prog r.keeps s.heap s'.heap/\ ∀ x∈r.records,∀ a,classAt s.heap x.1=aa a->recordClass s'.heap a x.1 (x.2.map (·.1))=ag))
  (Shared.asleep_of_life sG.2.2.2 hz)
  (av (aV (wpAny_nsGet JE.T.g (by rw[h1];refine av (lN h λv s' g=>aP ⟨_,rfl,?_⟩);have z:=g.laid (c:=r.toRowW.claim) HZ hwi hi L;exact⟨⟨z.1,z.2.1,λq=>⟨namesKept_of hT hg r.keeps keeps g.2.1.old,noTable mO q⟩⟩,leftWithCleanup_false_of_bare z.2.2⟩))))
 obtain⟨eh,_,_,eo,_⟩:=Shared.forget_eq JC;have sq:=sq.congr eh;rw[<- eo] at CR;rw[<- eh] at m1;have aiN:lR.heap.life=s.heap.life:=(runN_life _ _ _ aiL).trans sG.2.2.2;refine no ⟨vs,bE,zh,k,_,lR,aiM,sq.imp (λh=>h.elim λv h=>⟨v,congrArg Ap h.1,h.2.1,h.2.2.1,h.2.2.2.1,λb o y zy=>h.2.2.2.2.1 b o y,h.2.2.2.2.2⟩) (λh=>h.elim λe h=>h.elim λob h=>h.elim λcls h=>⟨e,ob,cls,congrArg Ap h.1,h.2.1,h.2.2.1,h.2.2.2.1,h.2.2.2.2.1,λb o y zy=>h.2.2.2.2.2 b o y⟩),(λzy i x hx=>by rw[C2] at hx;exact nomatch hx),m1,by rw[aiN],Shared.rest_eq CR⟩
end
section
set_option tactic.hygienic true
theorem aiO:looksOpen tZ=ag:=(cT (cT (cT (cT (cT (by decide +kernel) (by decide +kernel)) (by decide +kernel)) (by decide +kernel)) (by decide +kernel)) (by decide +kernel))
theorem aiP:wV.row.partSaid=ag:=(cT (cT (cT (cT (cT (cT (cT (cT (cT (cT (cT (cT (cT aiO (by decide +kernel)) (by decide +kernel)) (by decide +kernel)) (by decide +kernel)) (by decide +kernel)) (by decide +kernel)) (by decide +kernel)) (by decide +kernel)) (by decide +kernel)) (by decide +kernel)) (by decide +kernel)) (by decide +kernel)) (by decide +kernel))
theorem aiQ:wV.row.wellSaid=ag:=(cT (cT aiP (by decide +kernel)) (by decide +kernel))
theorem aiR:wV.wellSaid=ag:=(cT (cT (cT (cT (cT (cT (cT (cT (cT (cT (cT (cT (cT (cT (cT (cT (cT (cT aiQ (by decide +kernel)) (by decide +kernel)) (by decide +kernel)) (by decide +kernel)) (by decide +kernel)) (by decide +kernel)) (by decide +kernel)) (by decide +kernel)) (by decide +kernel)) (by decide +kernel)) (by decide +kernel)) (by decide +kernel)) (by decide +kernel)) (by decide +kernel)) (by decide +kernel)) (by decide +kernel)) (by decide +kernel)) (by decide +kernel))
theorem aiS:tZ.tablesWhole=ag:=by decide +kernel
theorem aiT(P: ∀ l:List Int,l.length<=63->Fv l):wV.Holds:=by
 w_on
 refine holds_law aiR λajj=>?_;refine Jw.PySem.W.holds_open (q:=qv) (loose:=UO) (XP:=λzy zy=>True) (YP:=YP) lft (λw s e=>of_eq_true e) (λw h h' y k=>y.elim λK z=>⟨K,λe=>k _ _ (z.1 e),z.2⟩) (λzy zy=>trivial) (λzy zy zy zy zy=>trivial) (by rfl) (by rfl) (by rfl) (λs zy=>recFacts_nil rfl) (by rfl) (by first|assumption|decide +kernel) (by decide +kernel) ⟨rfl,rfl,rfl,rfl,rfl,aiS⟩ ?hw ?hc
 case hw=>w_witness2
 case hc=>
  intro w fC bE mg mb G Y fa o pm cd doc dV kV ho hd' RH hD hmg hg args vals as g7 C3 JD hwl jc L;obtain⟨K,KX,ck⟩:=Y;refine Ground.open G ?_;intro T B D TE TW
  wrow_args g7 C3 JD hwl jc
  rename_i l j4 n6 hs3 hs4 hs5 a1 a2 A vs a3 hA hs6 hs7 hs8 hI hs9 hlen ajk;have hl:l.length<=63:=by omega
  refine aix KX ck T.g T.nolimit T.b T.builtins (let⟨_,_,q⟩:=L.laid;aiy q) hg (by rfl) hmg hA hI (by omega) (P l hl) λs' h1 h2 h3=>?_;exact⟨.inl ⟨_,.bool ag,[],rfl,λzy=>rfl,.bool ag,by wrow_post,λzy=>⟨.nil,λzy h=>nomatch h⟩⟩,.of_keep h1,h2,h3⟩
end
end
end Jw
theorem PySem.Challenge.cw_ok0154_01_holds : PySem.Challenge.rw_ok0154_01.Holds :=
 Jw.aiT λl zy=>EJ.Internal.aco l
