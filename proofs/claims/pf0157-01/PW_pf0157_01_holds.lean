import PyProof.Rows.All
import PyProof.Rules
import PyProof.AttrMissHeap
import PyProof.TupleIter
import PyProof.ToksMono
import PyProof.SumWalk
import PyProof.StrLoop
import PyProof.StrWalks
import PyProof.CompFree
import PyProof.DictRoads
import PyProof.DictCalls
import PyProof.DictTruth
import PyProof.DictCompW
import PyProof.DictIter
import PyProof.DictRoadsH
import PyProof.EnumFor
import PyProof.EnumStmt
import PyProof.Draws
import PyProof.IsRules
import PyProof.RangeIter
import PyProof.WalksMore
import PyProof.LetGo
import PyProof.ListIndexNeg
import PyProof.ListRange
import PyProof.WalkInts
import PyProof.Rows.Tup
import PyProof.Rows.TupSub
import PyProof.ZipIter
import PyProof.Rows.Exc
import PyProof.Rows.AttrNodeAny
import PyProof.SliceMore
import PyProof.RulesAssignMore
import PyProof.Rows.TupTab
import PyProof.SetRoads
import PyProof.Rows.SetFrom
import OpenK.KMake
import OpenK.KWalk
import KE.KxBytes
import KE.BytesMake
import KE.KUnpack
import KE.KBytesWalk
import KE.KBytesCut
import KE.KDictSum
import KE.KEqDict
import KE.KItemsList
import KE.KNestM
import Wide.FinOn
import OpenK.AllK
import Wide.All
import PySem.Challenge.RW_pf0157_01
set_option tactic.hygienic false
set_option Elab.async false
set_option linter.all false
set_option genInjectivity false
set_option genSizeOf false
set_option maxRecDepth 1000000
set_option maxHeartbeats 0
open And renaming intro->jb
open Array renaming length_toList->aN,getElem?_toList->bx,getElem?_eq_none_iff->eF,size->fK,getElem?_eq_some_iff->fN,toList_append->fR,mem_toList_iff->mG,replicate->m6,getElem?_eq_getElem->o6,toList_push->pH,size_push->qE,toArray_toList->sy,size_append->vJ
open Array.Mem renaming val->rW
open Bool renaming rec->af,false->aj,true->H,and_eq_true->aP,false_ne_true->bY,or_eq_true_iff->cz,and_eq_true_iff->cM,not_eq_true'->gv,or_eq_false_iff->iy,false_eq_true->kF,casesOn->lA,true_or->oi,or_false->pY
open Eq renaming trans->bR,symm->gG
open ForInStep renaming yield->dK
open Int renaming natCast_nonneg->cj,ofNat->dQ,le_trans->eu,not_lt->kI,not_ofNat_neg->lF,toNat_natCast->lG,fdiv_eq_ediv_of_nonneg->oZ,ofNat_le->qH,add_le_add_right->tC,sub_le_sub_right->tD,add_le_add->tF,lt_of_le_of_lt->vM
open List renaming mem_cons_of_mem->aD,mem_cons_self->aE,all_eq_true->aL,rec->aQ,mem_cons->aT,not_mem_nil->aU,getElem?_eq_getElem->bA,lookup_cons->bJ,getElem?_eq_some_iff->bZ,mem_of_getElem?→cW,isEmpty_iff->cX,length_append->cY,getD_eq_getElem?_getD->cZ,map_cons->dI,forIn_cons->dO,mem_singleton->eH,length_map->eL,zip_cons_cons->fC,length->fW,any_cons->gj,nodup_cons->gA,mem_filter->gC,mem_map->gJ,contains_iff_mem->g9,drop_eq_getElem_cons->iu,all_cons->iC,nodup_nil->iI,length_cons->iJ,length_eq_zero_iff->iK,any_eq_true->iM,pairwise_cons->iV,forIn_nil->jz,not_lt->jA,length_drop->jG,map_map->jI,getElem?_eq_none_iff->jK,map_append->kc,getElem?_map->lu,take_append_drop->l8,getElem_mem->mu,mem_reverse->mz,mem_of_getLast?→mW,mem_append->ni,getElem_of_mem->nD,filterMap_cons->nH,map_congr_left->nJ,size_toArray->pI,cons_append->qt,filter_eq_nil_iff->qD,append_nil->qL,map->sR,drop_eq_nil_iff->sS,drop_drop->sU,zip_nil_right->vC,take_succ_eq_append_getElem->wR,pairwise_map->wU,range'_succ->xS
open List.Perm renaming eq_of_pairwise->yx
open Nat renaming beq->ak,le_of_ble_eq_true->aB,add->aG,le_trans->aI,lt_of_lt_of_le->aR,ne_of_beq_eq_false->aX,le_refl->br,not_lt->bC,blt->bE,lt_succ_self->bM,eq_of_beq_eq_true->bN,ble->bO,ne_of_lt->cg,blt_eq->cD,lt_succ_of_lt->cI,mul->cJ,le_of_eq->cV,le_add_right->d9,sub->ez,beq_refl->fy,one_lt_succ_succ->fG,le_of_add_left_le->f7,rec->gw,div->gy,le_of_lt->gQ,le_succ->gW,ne_of_gt->iA,zero_le->iB,lt_of_le_of_lt->iZ,le_of_add_right_le->i0,sub_add_cancel->i6,mod->jo,succ_pos->jL,add_le_add_left->jR,add_assoc->j8,lt_irrefl->j9,not_lt_zero->ku,lt_of_succ_lt_succ->lC,ble_eq_true_of_le->mw,sub_eq_zero_of_le->mC,le_of_not_lt->mE,zero_add->oB,le_of_lt_succ->pZ,succ_add_eq_add_succ->p7,le_of_succ_le_succ->qK,div_add_mod->rV,le_add_left->rX,sub_le_iff_le_add->sr,lt_succ_of_le->xD,le_succ_of_le->xE,sub_pos_of_lt->xG,sub_sub_self->yq,mod_eq_of_lt->yr,zero_lt_succ->yy,mod_two_eq_zero_or_one->BN
open Ne renaming symm->rU
open Option renaming some->O,none->aq,rec->aA,isNone_iff_eq_none->cQ,none->oW,map_eq_some_iff->qu,isSome_iff_exists->A3
open Option.some renaming inj->aF
open Prod renaming fst->eG
open PyProof renaming noPylong_of_log2->oY
open PyProof.Rows renaming call_len_slot->xR
open PyProof.Rows.F renaming plain_set_update_loop->i8,entry_set_update_loop->p5
open PySem renaming wpAny_bind->au,wpAny_pure->av,NameKind->aM,DictEntry->bf,builtinLookup_eq_fast->bz,wpAny_call_entry->bH,wpAny_holding->bP,wpAny_specialOf->bU,Env->dj,wpAny_seqItems->dz,Fin->dD,wpAny_callSpecial?_slot->dW,wpAny_newObj_type->dZ,wpAny_rule->fm,wpAny_isInstance->fL,wpAny_field->fO,wpAny_mono->f5,wpAny_of_eq->gb,size_pos_of_not_empty->gn,wpAny_truthy_bool->gK,wpAny_dictEntries->gM,mainGlobals->ic,codeAny_builtin->iG,wpAny_pyIter_list->iH,wpAny_load->jc,wpAny_typeOf->jd,wpAny_setField_rec->je,sizeLine->jr,ExceptHandler->lg,wpAny_updateSeq->ly,sysModules->lD,wpAny_pyIter_tuple->lI,FuncData->mF,wpAny_setField->mH,recursionLimit->mJ,wpAny_notOrdered_dict->nj,TriplesOk->nC,entryFor_of_tree->nI,theTreesLotGoes->oX,wpAny_tupleItemsOf->p6,fastTable_eq_tree->qF,behindInMarks->qI,wpAny_attempt->qJ,seqItems?→sC,storeAll->sE,bm_if_true->tH,wpAny_ite_split->uc,wpAny_dictEpoch->uf,wpAny_point->vI,wpAny_letTemporaryGo->vK,IsRangeIter->vL,wpAny_newTuple->vN,noteFrame->wO,seqIndex?→wQ,wpAny_standAt->xQ,slot_dict_contains->yt,wpAny_sequenceKey->Aw,slot_dict_getitem->Ax,wpAny_collect_seq->Az,wpAny_setState_of->AA,wpAny_askSetting->BO,wpAny_lookBehind->BP
open PySem.Around renaming under_plainId->jq
open PySem.Builtin.Bytes renaming buffer?→gD,joined->kJ,ownRelease->vO,slotIsOwn->wV,exportsOf->wW
open PySem.Builtin.Dict renaming showsAll->kh,pendingCount->mX
open PySem.Builtin.List renaming listSameRef->nk,listTooLong->nq,listExtendWith->uo,listFitsIndex->vA
open PySem.Builtin.Range renaming rangeSize->cK,small->p8,rangeFitsLong->ug
open PySem.Builtin.SmallTypes renaming nextOf->dJ
open PySem.Challenge renaming pw_pf0157_01->kH
open PySem.Code renaming quiet_builtin->vD
open PySem.Const renaming casesOn->lW
open PySem.Data renaming casesOn->jJ
open PySem.Expr renaming casesOn->aS
open PySem.F renaming slot_tuple_iterator_next->fX,called_set->jS,slot_list_extend->k9,slot_dict_keyiterator_next->ow,args_tuple_iterator_next_1->oA,entry_tuple_iterator_next->o7,slot_list_getattribute->qz,slot_zip_getattribute->qM,args_object_init_2->um,plain_extend_loop->vP,plainAttrs_list->yw,slot_dict_iter->Ay
open PySem.Flow renaming next->qp
open PySem.Heap renaming get?_push_of_some->az,get?_push_size->aJ,lt_size->bh,get?_update_self->bD,size_push->bI,get?_update_other->dG,SameBut->gk,size_update->jF,objs->jH,ExtBut->mU,get?_push_ne->pJ
open PySem.Heap.SameBut renaming update->gm
open PySem.NameKind renaming casesOn->dm,free->lH
open PySem.Obj renaming mapSeq->eS,mapBytearray->g6,data_mapFields->i7,isFreed_of_fields->sD,cls_mapFields->xF
open PySem.PyData renaming int->jZ,keyHash->k7
open PySem.ScopeKind renaming casesOn->m5
open PySem.Sem renaming wp_mono->pX
open PySem.Shared renaming heap->fU,TypeIs->iz,asleep_of_life->qG
open PySem.Stmt renaming casesOn->fc
open PySem.Str renaming ofString->bX
open PySem.Value renaming type->cU,none->dY,casesOn->fE,ref->gu,int->gO,bytes->iS,builtin->ud
open PySem.W renaming emptyDict->eT,instObj->fH,typeIs_bytes->kg,boot_o_0->sG,kas_sort->vH
open PySem.W.BT renaming get_ins->pG
open PySem.W.Fast renaming tw11892475500146522536->AB,tw14364793385576792824->AE,tw8437177126325714943->A2
open Std.Legacy.Range renaming forIn_eq_forIn_range'->iL,size->oj
open UInt8 renaming toNat->bS,ofNat->su
open PySem
noncomputable section
namespace Mine
section
theorem zB {motive:Bool->Prop} (t:Bool) («false»:motive Bool.false) («true»:motive Bool.true):motive t:=af «false» «true» t
theorem zO {α:Type} {motive:Option α->Prop} (t:Option α) (none:motive .none) (some:∀a,motive (.some a)):motive t:=aA none some t
theorem zL {α:Type} {motive:List α->Prop} (t:List α) (nil:motive []) (cons:∀a l,motive (a::l)):motive t:=aQ nil (λa l h=>cons a l) t
theorem BQ {α:Type} {motive:List α->Prop} (t:List α) (zero:motive []) (one:∀a,motive [a]) (more:∀a b l,motive (a::b::l)):motive t:=zL t zero λa l=>zL (motive:=λl=>motive (a::l)) l (one a) (more a)
theorem Vs {α:Type} {motive:List α->Prop} (t:List α) (zero:motive []) (one:∀a,motive [a]) (two:∀a b,motive [a,b]) (more:∀a b c l,motive (a::b::c::l)):motive t:=BQ t zero one λa b l=>zL (motive:=λl=>motive (a::b::l)) l (two a b) (more a b)
theorem zN {motive:Nat->Prop} (t:Nat) (zero:motive 0) (succ:∀n,motive (n+1)):motive t:=gw zero (λn h=>succ n) t
theorem nn {a b:Nat} {p:Prop} (h:a=b) (k:ak a b=aj):p:=absurd h (aX k)
theorem nG {p:Prop} (k:¬¬p):p:=Classical.byContradiction k
theorem ff {p:Prop} (h:aj=H):p:=Bool.noConfusion h
section
variable {a b c d e f g i:Bool} {p:Prop}
theorem e2 (h:(a&&b)=H) (k:a=H->b=H->p):p:=k (cM.mp h).1 (cM.mp h).2
theorem e3 (h:(a&&b&&c)=H) (k:a=H->b=H->c=H->p):p:=e2 h λh1 h2=>e2 h1 λj l=>k j l h2
theorem e4 (h:(a&&b&&c&&d)=H) (k:a=H->b=H->c=H->d=H->p):p:=e2 h λh1 h2=>e3 h1 λj l n=>k j l n h2
theorem e5 (h:(a&&b&&c&&d&&e)=H) (k:a=H->b=H->c=H->d=H->e=H->p):p:=e2 h λh1 h2=>e4 h1 λj l n o=>k j l n o h2
theorem e6 (h:(a&&b&&c&&d&&e&&f)=H) (k:a=H->b=H->c=H->d=H->e=H->f=H->p):p:=e2 h λh1 h2=>e5 h1 λj l n o q=>k j l n o q h2
theorem e7 (h:(a&&b&&c&&d&&e&&f&&g)=H) (k:a=H->b=H->c=H->d=H->e=H->f=H->g=H->p):p:=e2 h λh1 h2=>e6 h1 λj l n o q r=>k j l n o q r h2
theorem e8 (h:(a&&b&&c&&d&&e&&f&&g&&i)=H) (k:a=H->b=H->c=H->d=H->e=H->f=H->g=H->i=H->p):p:=e2 h λh1 h2=>e7 h1 λj l n o q r t=>k j l n o q r t h2
end
theorem eN {α:Type} {l:List α} {p:List α->Prop} (h:l.isEmpty=H) (k:p []):p l:=cX.mp h▸k
theorem eO {α:Type} {l:Option α} {p:Option α->Prop} (h:l.isNone=H) (k:p aq):p l:=cQ.mp h▸k
theorem uq {α:Type} {f:α->Bool} {p:List α->Prop} (j:p []) (n:∀x l,f x=H->p l->p (x::l)):∀{l:List α},l.all f=H->p l:=by
 intro l
 induction l with
 |nil=>
  intro _;exact j
 |cons x l o=>
  intro h;exact e2 (show(f x&&l.all f)=H from h) λh1 h2=>n x l h1 (o h2)
theorem mK {a b:Bool} (h:(a&&b)=H):a=H/\b=true:=cM.mp h
theorem fz {a b:Bool} (h:a=H) (k:b=H):(a&&b)=true:=cM.mpr ⟨h,k⟩
theorem bT {b x:Bool} (h:(af aj x b:Bool)=H):b=H/\x=true:=by
 cases b with
 |true=>exact⟨rfl,h⟩
 |false=>exact ff h
theorem bF {b x:Bool} (h:(af x aj b:Bool)=H):b=aj/\x=true:=by
 cases b with
 |false=>exact⟨rfl,h⟩
 |true=>exact ff h
theorem fn {α:Type} {a:α} {p:Prop} (h:(none:Option α)=some a):p:=nomatch h
theorem sn {α:Type} {a:α} {p:Prop} (h:some a=(none:Option α)):p:=nomatch h
theorem ft {p:Prop} (h:H=aj):p:=Bool.noConfusion h
section
variable {M:Model} {A:Around} {α:Type} {a b:Sem α} {Q:α->Shared->Prop} {E:Value->Shared->Prop} {s:Shared}
theorem Zc {c:Prop} {d:Decidable c} (h:c) (k:wpAny M A a Q E s):wpAny M A (@ite _ c d a b) Q E s:=by rw [if_pos h];exact k
theorem NQ {c:Prop} {d:Decidable c} (h:¬c) (k:wpAny M A b Q E s):wpAny M A (@ite _ c d a b) Q E s:=by rw [if_neg h];exact k
theorem NI {d:Decidable (aj=H)} (k:wpAny M A b Q E s):wpAny M A (@ite _ (aj=H) d a b) Q E s:=by rw [if_neg bY];exact k
end
@[elab_as_elim] theorem U {α:Sort _} {a b:α} {motive:α->Prop} (h:a=b) (k:motive b):motive a:=h▸k
@[elab_as_elim] theorem cL {α:Sort _} {a b:α} {motive:α->Prop} (h:b=a) (k:motive b):motive a:=h▸k
@[elab_as_elim] theorem HF {α:Sort _} {motive:α->Prop} {c:Prop} {d:Decidable c} {a b:α} (h1:c->motive a) (h2:¬c->motive b):motive (@ite α c d a b):=if h:c then U (if_pos h) (h1 h) else U (if_neg h) (h2 h)
theorem kj {P:Nat->Prop} {n:Nat} (h:∀s,s<n->P s) (k:P n) (s:Nat) (j:s<n+1):P s:=(Nat.lt_succ_iff_lt_or_eq.mp j).elim (h s) λe=>e▸k
theorem nab {x:Int} {k:Nat} (h:x.natAbs<=k): -(k:Int)<=x/\x<=k:=⟨Int.neg_le_of_neg_le (eu (Int.natAbs_neg x▸Int.le_natAbs (a:= -x)) (qH.mpr h)),eu Int.le_natAbs (qH.mpr h)⟩
theorem JG {a b:Int} (q:a<b):0<=b-a-1:=Int.sub_nonneg_of_le (Int.sub_pos_of_lt q)
theorem Rc {a b:Int} (q:0<=b-a-1):a<b:=Int.lt_of_sub_pos (Int.le_of_sub_nonneg q)
theorem sw3 {n d v:Nat} (h:n-d<=v):n-v<=d:=Nat.sub_le_iff_le_add'.mpr (sr.mp h)
theorem sw1 {v d n:Nat} (hv:v<=n) (h:d<=n):v-(n-d)=d-(n-v):=(congrArg (· -(n-d)) (yq hv)).symm.trans ((Nat.sub_right_comm n (n-v) (n-d)).trans (congrArg (· -(n-v)) (yq h)))
theorem sw2 {n v d:Nat} (hv:v<=n) (hm:n-d<=v):n=v+(d-(d-(n-v))):=((congrArg (v+ ·) (yq (sw3 hm))).trans (Nat.add_sub_of_le hv)).symm
theorem iW {h:Prop} {j:Prop} {p2:Prop} (l:h) (h1:j) (h2:p2):h/\j/\p2:=⟨l,⟨h1,h2⟩⟩
theorem qN {h:Prop} {j:Prop} {l:Prop} {p3:Prop} (n:h) (h1:j) (h2:l) (o:p3):h/\j/\l/\p3:=⟨n,⟨h1,⟨h2,o⟩⟩⟩
theorem A4 {h:Prop} {j:Prop} {l:Prop} {n:Prop} {p4:Prop} (o:h) (h1:j) (h2:l) (q:n) (r:p4):h/\j/\l/\n/\p4:=⟨o,⟨h1,⟨h2,⟨q,r⟩⟩⟩⟩
theorem yC {h:Type} {j:Prop} {l:h->Prop} {n:h->Prop} (o:j) (a0:h) (h1:l a0) (h2:n a0):j/\∃a0,l a0/\n a0:=⟨o,⟨a0,⟨h1,h2⟩⟩⟩
theorem Dc {h:Type} {j:Prop} {l:h->Prop} {n:h->Prop} {o:h->Prop} (q:j) (a0:h) (h1:l a0) (h2:n a0) (r:o a0):j/\∃a0,l a0/\n a0/\o a0:=⟨q,⟨a0,⟨h1,⟨h2,r⟩⟩⟩⟩
theorem bV {h:Type} {j:h->Prop} {l:h->Prop} (a0:h) (n:j a0) (h1:l a0):∃a0,j a0/\l a0:=⟨a0,⟨n,h1⟩⟩
theorem f9 {h:Type} {j:h->Prop} {l:h->Prop} {n:h->Prop} (a0:h) (o:j a0) (h1:l a0) (h2:n a0):∃a0,j a0/\l a0/\n a0:=⟨a0,⟨o,⟨h1,h2⟩⟩⟩
theorem qO {h:Type} {j:h->Prop} {l:h->Prop} {n:h->Prop} {o:h->Prop} (a0:h) (q:j a0) (h1:l a0) (h2:n a0) (r:o a0):∃a0,j a0/\l a0/\n a0/\o a0:=⟨a0,⟨q,⟨h1,⟨h2,r⟩⟩⟩⟩
theorem gf {j l:Type} {n:j->Prop} {o:j->Prop} {q:j->l->Prop} (h:j) (r:n h) (h1:o h) (a1:l) (h2:q h a1):∃h,n h/\o h/\∃a1,q h a1:=⟨h,⟨r,⟨h1,⟨a1,h2⟩⟩⟩⟩
theorem Ve {j l:Type} {n:j->l->Prop} (h:j) (a1:l) (o:n h a1):∃h,∃a1,n h a1:=⟨h,⟨a1,o⟩⟩
theorem m7 {j l:Type} {n:j->l->Prop} {o:j->l->Prop} (h:j) (a1:l) (q:n h a1) (h1:o h a1):∃h,∃a1,n h a1/\o h a1:=⟨h,⟨a1,⟨q,h1⟩⟩⟩
theorem j0 {j l:Type} {n:j->l->Prop} {o:j->l->Prop} {q:j->l->Prop} (h:j) (a1:l) (r:n h a1) (h1:o h a1) (h2:q h a1):∃h,∃a1,n h a1/\o h a1/\q h a1:=⟨h,⟨a1,⟨r,⟨h1,h2⟩⟩⟩⟩
theorem lJ {j l:Type} {n:j->l->Prop} {o:j->l->Prop} {q:j->l->Prop} {r:j->l->Prop} (h:j) (a1:l) (t:n h a1) (h1:o h a1) (h2:q h a1) (u:r h a1):∃h,∃a1,n h a1/\o h a1/\q h a1/\r h a1:=⟨h,⟨a1,⟨t,⟨h1,⟨h2,u⟩⟩⟩⟩⟩
theorem lX {j l:Type} {n:j->l->Prop} {o:j->l->Prop} {q:j->l->Prop} {r:j->l->Prop} {t:j->l->Prop} (h:j) (a1:l) (u:n h a1) (h1:o h a1) (h2:q h a1) (v:r h a1) (w:t h a1):∃h,∃a1,n h a1/\o h a1/\q h a1/\r h a1/\t h a1:=⟨h,⟨a1,⟨u,⟨h1,⟨h2,⟨v,w⟩⟩⟩⟩⟩⟩
theorem uu {l n o:Type} {q:l->n->o->Prop} {r:l->n->o->Prop} {t:l->n->o->Prop} {u:l->n->o->Prop} (h:l) (j:n) (a2:o) (v:q h j a2) (h1:r h j a2) (h2:t h j a2) (w:u h j a2):∃h,∃j,∃a2,q h j a2/\r h j a2/\t h j a2/\u h j a2:=⟨h,⟨j,⟨a2,⟨v,⟨h1,⟨h2,w⟩⟩⟩⟩⟩⟩
theorem uv {n o q r:Type} {t:n->o->q->r->Prop} {u:n->o->q->r->Prop} {v:n->o->q->r->Prop} {w:n->o->q->r->Prop} (h:n) (j:o) (l:q) (a3:r) (x:t h j l a3) (h1:u h j l a3) (h2:v h j l a3) (y:w h j l a3):∃h,∃j,∃l,∃a3,t h j l a3/\u h j l a3/\v h j l a3/\w h j l a3:=⟨h,⟨j,⟨l,⟨a3,⟨x,⟨h1,⟨h2,y⟩⟩⟩⟩⟩⟩⟩
theorem jf {q r t u v w x:Type} {y:q->r->t->u->v->w->x->Prop} {z:q->r->t->u->v->w->x->Prop} {B:q->r->t->u->v->w->x->Prop} {C:q->r->t->u->v->w->x->Prop} {D:q->r->t->u->v->w->x->Prop} {F:q->r->t->u->v->w->x->Prop} {G:q->r->t->u->v->w->x->Prop} (h:q) (j:r) (l:t) (a3:u) (n:v) (o:w) (a6:x) (I:y h j l a3 n o a6) (h1:z h j l a3 n o a6) (h2:B h j l a3 n o a6) (J:C h j l a3 n o a6) (K:D h j l a3 n o a6) (L:F h j l a3 n o a6) (P:G h j l a3 n o a6):∃h,∃j,∃l,∃a3,∃n,∃o,∃a6,y h j l a3 n o a6/\z h j l a3 n o a6/\B h j l a3 n o a6/\C h j l a3 n o a6/\D h j l a3 n o a6/\F h j l a3 n o a6/\G h j l a3 n o a6:=⟨h,⟨j,⟨l,⟨a3,⟨n,⟨o,⟨a6,⟨I,⟨h1,⟨h2,⟨J,⟨K,⟨L,P⟩⟩⟩⟩⟩⟩⟩⟩⟩⟩⟩⟩⟩
theorem aC {j l:Prop} {P:Prop} (h:j/\l) (k:l->j->P):P:=k h.2 h.1
theorem gc {j l:Prop} {P:Prop} (h:j/\l) (k:j->l->P):P:=k h.1 h.2
theorem iO {j l n:Prop} {P:Prop} (h:j/\l/\n) (k:n->j->l->P):P:=k h.2.2 h.1 h.2.1
theorem fF {n:Type} {l:n->Prop} {P:Prop} (h:∃j,l j) (k:∀j,l j->P):P:=h.elim λj o=>k j o
theorem aK {q:Type} {l n:q->Prop} {P:Prop} (h:∃j,l j/\n j) (k:∀j,n j->l j->P):P:=h.elim λj o=>k j o.2 o.1
theorem dN {q:Type} {l n:q->Prop} {P:Prop} (h:∃j,l j/\n j) (k:∀j,l j->n j->P):P:=h.elim λj o=>k j o.1 o.2
theorem jB {r:Type} {n o q:r->Prop} {P:Prop} (h:∃j,n j/\o j/\q j) (k:∀j,n j->o j->q j->P):P:=h.elim λj l=>k j l.1 l.2.1 l.2.2
theorem HG {r t:Type} {n o:r->t->Prop} {P:Prop} (h:∃j l,n j l/\o j l) (k:∀j l,n j l->o j l->P):P:=h.elim λj u=>u.elim λl q=>k j l q.1 q.2
theorem dF {r:Type} {l:Prop} {n o:r->Prop} {P:Prop} (h:l/\∃j,n j/\o j) (k:∀j,o j->l->n j->P):P:=(h.2).elim λj q=>k j q.2 h.1 q.1
theorem sV {u v:Type} {o q r t:u->v->Prop} {P:Prop} (h:∃j l,o j l/\q j l/\r j l/\t j l) (k:∀j l,o j l->q j l->r j l->t j l->P):P:=h.elim λj w=>w.elim λl n=>k j l n.1 n.2.1 n.2.2.1 n.2.2.2
theorem oK {t u:Type} {o q r:t->u->Prop} {P:Prop} (h:∃j l,o j l/\q j l/\r j l) (k:∀j l,q j l->o j l->r j l->P):P:=h.elim λj v=>v.elim λl n=>k j l n.2.1 n.1 n.2.2
theorem Zd {x y z:Type} {q r t u v w:x->y->z->Prop} {P:Prop} (h:∃j l n,q j l n/\r j l n/\t j l n/\u j l n/\v j l n/\w j l n) (k:∀j l n,q j l n->r j l n->t j l n->u j l n->v j l n->w j l n->P):P:=h.elim λj B=>B.elim λl C=>C.elim λn o=>k j l n o.1 o.2.1 o.2.2.1 o.2.2.2.1 o.2.2.2.2.1 o.2.2.2.2.2
theorem fJ {x y z:Type} {q r t u v w:x->y->z->Prop} {P:Prop} (h:∃j l n,q j l n/\r j l n/\t j l n/\u j l n/\v j l n/\w j l n) (k:∀j l n,u j l n->q j l n->r j l n->t j l n->v j l n->w j l n->P):P:=h.elim λj B=>B.elim λl C=>C.elim λn o=>k j l n o.2.2.2.1 o.1 o.2.1 o.2.2.1 o.2.2.2.2.1 o.2.2.2.2.2
theorem gR {t:Type} {n:Prop} {o q r:t->Prop} {P:Prop} (h:n/\∃j,o j/\q j/\r j) (k:∀j,r j->n->o j->q j->P):P:=(h.2).elim λj l=>k j l.2.2 h.1 l.1 l.2.1
theorem fh {j l n:Prop} {P:Prop} (h:j/\l/\n) (k:l->j->n->P):P:=k h.2.1 h.1 h.2.2
theorem z04 {j l n o:Prop} {P:Prop} (h:j/\l/\n/\o) (k:j->l->n->o->P):P:=k h.1 h.2.1 h.2.2.1 h.2.2.2
theorem qP {j l n o:Prop} {P:Prop} (h:j/\l/\n/\o) (k:o->j->l->n->P):P:=k h.2.2.2 h.1 h.2.1 h.2.2.1
theorem Sk {o q:Type} {n:o->q->Prop} {P:Prop} (h:∃j l,n j l) (k:∀j l,n j l->P):P:=h.elim λj r=>r.elim λl t=>k j l t
theorem Rd {j l n:Prop} {P:Prop} (h:j/\l/\n) (k:j->l->n->P):P:=k h.1 h.2.1 h.2.2
theorem nK {r t:Type} {n o:r->t->Prop} {P:Prop} (h:∃j l,n j l/\o j l) (k:∀j l,o j l->n j l->P):P:=h.elim λj u=>u.elim λl q=>k j l q.2 q.1
theorem Sl {t:Type} {n o q r:t->Prop} {P:Prop} (h:∃j,n j/\o j/\q j/\r j) (k:∀j,n j->o j->q j->r j->P):P:=h.elim λj l=>k j l.1 l.2.1 l.2.2.1 l.2.2.2
theorem cG {r:Type} {n o q:r->Prop} {P:Prop} (h:∃j,n j/\o j/\q j) (k:∀j,q j->n j->o j->P):P:=h.elim λj l=>k j l.2.2 l.1 l.2.1
theorem HJ {v w:Type} {o q r t u:v->w->Prop} {P:Prop} (h:∃j l,o j l/\q j l/\r j l/\t j l/\u j l) (k:∀j l,o j l->q j l->r j l->t j l->u j l->P):P:=h.elim λj x=>x.elim λl n=>k j l n.1 n.2.1 n.2.2.1 n.2.2.2.1 n.2.2.2.2
theorem yD {j l n o q r:Prop} {P:Prop} (h:j/\l/\n/\o/\q/\r) (k:r->j->l->n->o->q->P):P:=k h.2.2.2.2.2 h.1 h.2.1 h.2.2.1 h.2.2.2.1 h.2.2.2.2.1
theorem vQ {t u:Type} {o q r:t->u->Prop} {P:Prop} (h:∃j l,o j l/\q j l/\r j l) (k:∀j l,o j l->q j l->r j l->P):P:=h.elim λj v=>v.elim λl n=>k j l n.1 n.2.1 n.2.2
theorem kK {t u:Type} {o q r:t->u->Prop} {P:Prop} (h:∃j l,o j l/\q j l/\r j l) (k:∀j l,r j l->o j l->q j l->P):P:=h.elim λj v=>v.elim λl n=>k j l n.2.2 n.1 n.2.1
theorem Vt {q r t:Type} {o:q->r->t->Prop} {P:Prop} (h:∃j l n,o j l n) (k:∀j l n,o j l n->P):P:=h.elim λj u=>u.elim λl v=>v.elim λn w=>k j l n w
theorem qQ {t:Type} {n o q r:t->Prop} {P:Prop} (h:∃j,n j/\o j/\q j/\r j) (k:∀j,o j->n j->q j->r j->P):P:=h.elim λj l=>k j l.2.1 l.1 l.2.2.1 l.2.2.2
theorem ju {r:Type} {n o q:r->Prop} {P:Prop} (h:∃j,n j/\o j/\q j) (k:∀j,o j->n j->q j->P):P:=h.elim λj l=>k j l.2.1 l.1 l.2.2
theorem uw {r:Type} {l:Prop} {n o:r->Prop} {P:Prop} (h:l/\∃j,n j/\o j) (k:∀j,n j->l->o j->P):P:=(h.2).elim λj q=>k j q.1 h.1 q.2
theorem jM {u v:Type} {o q r t:u->v->Prop} {P:Prop} (h:∃j l,o j l/\q j l/\r j l/\t j l) (k:∀j l,q j l->o j l->r j l->t j l->P):P:=h.elim λj w=>w.elim λl n=>k j l n.2.1 n.1 n.2.2.1 n.2.2.2
theorem tL {w x:Type} {o q r t u v:w->x->Prop} {P:Prop} (h:∃j l,o j l/\q j l/\r j l/\t j l/\u j l/\v j l) (k:∀j l,v j l->o j l->q j l->r j l->t j l->u j l->P):P:=h.elim λj y=>y.elim λl n=>k j l n.2.2.2.2.2 n.1 n.2.1 n.2.2.1 n.2.2.2.1 n.2.2.2.2.1
theorem vR {j l n o q:Prop} {P:Prop} (h:j/\l/\n/\o/\q) (k:q->j->l->n->o->P):P:=k h.2.2.2.2 h.1 h.2.1 h.2.2.1 h.2.2.2.1
theorem iX {v w:Type} {o q r t u:v->w->Prop} {P:Prop} (h:∃j l,o j l/\q j l/\r j l/\t j l/\u j l) (k:∀j l,u j l->o j l->q j l->r j l->t j l->P):P:=h.elim λj x=>x.elim λl n=>k j l n.2.2.2.2 n.1 n.2.1 n.2.2.1 n.2.2.2.1
theorem pK {v w x y:Type} {q r t u:v->w->x->y->Prop} {P:Prop} (h:∃j l n a3,q j l n a3/\r j l n a3/\t j l n a3/\u j l n a3) (k:∀j l n a3,u j l n a3->q j l n a3->r j l n a3->t j l n a3->P):P:=h.elim λj z=>z.elim λl B=>B.elim λn C=>C.elim λa3 o=>k j l n a3 o.2.2.2 o.1 o.2.1 o.2.2.1
theorem ux {u v:Type} {o q r t:u->v->Prop} {P:Prop} (h:∃j l,o j l/\q j l/\r j l/\t j l) (k:∀j l,t j l->o j l->q j l->r j l->P):P:=h.elim λj w=>w.elim λl n=>k j l n.2.2.2 n.1 n.2.1 n.2.2.1
theorem oM {j l n o q r t:Prop} {P:Prop} (h:j/\l/\n/\o/\q/\r/\t) (k:t->j->l->n->o->q->r->P):P:=k h.2.2.2.2.2.2 h.1 h.2.1 h.2.2.1 h.2.2.2.1 h.2.2.2.2.1 h.2.2.2.2.2.1
theorem Rf {n t:Type} {o q:n->Prop} {r:n->t->Prop} {P:Prop} (h:∃j,o j/\q j/\∃a3,r j a3) (k:∀j a3,o j->q j->r j a3->P):P:=h.elim λj l=>(l.2.2).elim λa3 u=>k j a3 l.1 l.2.1 u
theorem pM {t:Type} {n o q r:t->Prop} {P:Prop} (h:∃j,n j/\o j/\q j/\r j) (k:∀j,q j->n j->o j->r j->P):P:=h.elim λj l=>k j l.2.2.1 l.1 l.2.1 l.2.2.2
theorem uy {j l n o:Prop} {P:Prop} (h:j/\l/\n/\o) (k:l->j->n->o->P):P:=k h.2.1 h.1 h.2.2.1 h.2.2.2
theorem yE {j l n o q r:Prop} {P:Prop} (h:j/\l/\n/\o/\q/\r) (k:n->j->l->o->q->r->P):P:=k h.2.2.1 h.1 h.2.1 h.2.2.2.1 h.2.2.2.2.1 h.2.2.2.2.2
theorem p9 {z B C:Type} {r t u v w x y q:z->B->C->Prop} {P:Prop} (h:∃j l n,r j l n/\t j l n/\u j l n/\v j l n/\w j l n/\x j l n/\y j l n/\q j l n) (k:∀j l n,q j l n->r j l n->t j l n->u j l n->v j l n->w j l n->x j l n->y j l n->P):P:=h.elim λj D=>D.elim λl F=>F.elim λn o=>k j l n o.2.2.2.2.2.2.2 o.1 o.2.1 o.2.2.1 o.2.2.2.1 o.2.2.2.2.1 o.2.2.2.2.2.1 o.2.2.2.2.2.2.1
theorem yF {u v:Type} {o q r t:u->v->Prop} {P:Prop} (h:∃j l,o j l/\q j l/\r j l/\t j l) (k:∀j l,o j l->r j l->q j l->t j l->P):P:=h.elim λj w=>w.elim λl n=>k j l n.1 n.2.2.1 n.2.1 n.2.2.2
theorem Ze {j l n o q r t u v:Prop} {P:Prop} (h:j/\l/\n/\o/\q/\r/\t/\u/\v) (k:j->l->n->o->q->r->t->u->v->P):P:=k h.1 h.2.1 h.2.2.1 h.2.2.2.1 h.2.2.2.2.1 h.2.2.2.2.2.1 h.2.2.2.2.2.2.1 h.2.2.2.2.2.2.2.1 h.2.2.2.2.2.2.2.2
section
variable {M:Model} {A:Around} {α β:Type} {m:Sem α} {k:α->Sem β} {Q:β->Shared->Prop} {E:Value->Shared->Prop} {s s':Shared} {a:α}
theorem bq (h:∀{Q:α->Shared->Prop},Q a s'->wpAny M A m Q E s) (c:wpAny M A (k a) Q E s'):wpAny M A (m>>=k) Q E s:=au (h c)
theorem bp (c:wpAny M A (k a) Q E s):wpAny M A (pure a>>=k) Q E s:=au (av c)
end
end
section
open PySem.W PySem.Calls PyProof.Rows
section
def Sm (l:List Obj):Nat->BT->BT:=aQ (λu_ t=>t) (λo u_ ih i t=>ih (aG i 1) (t.ins i o)) l
def Rg (P:Params):BT:=Sm (boot_heap P).objs.toList 0 .nil
noncomputable def P0:Program:=kH
end
end
section
open PyProof.Rows PySem.Calls PySem.W
section
noncomputable def pick (u v:Option Obj):Option Obj:=match v with
 |some o=>(match alive o with|some o'=>O o'|none=>u)
 |none=>u
def nM (x:Nat->Option Obj) (T:BT) (n:Nat) (life:Life):Heap:=⟨((List.range n).map λa=>(pick (x a) (T.get a)).getD default).toArray,life⟩
theorem nN (h:alive o=O o'):o'=o:=by
 revert h;rcases o with⟨c,d,dt,sl⟩
 rcases dt<;>first|exact λh=>fn h|exact λh=>(aF h).symm
theorem eU {o} (h:alive o=O o):pick u (O o)=O o:=by unfold pick;simp only [h]
variable {x:Nat->Option Obj}
theorem uz T n life a:(nM x T n life).objs[a]? =if a<n then O ((pick (x a) (T.get a)).getD default) else none:=by
 refine U (List.getElem?_toArray) (U lu ?_);by_cases h:a<n
 .refine U (List.getElem?_range h) (U (if_pos h) ?_);rfl
 .rw [List.getElem?_eq_none (U List.length_range (mE h)),if_neg h];rfl
theorem A5 T n life:(nM x T n life).objs.size=n:=U pI (U (eL ..) (U List.length_range rfl))
theorem JH {a:Nat} (g:T.get a=O o) (b:alive o=O o) (c:alive (f o)=O (f o)):nM x (T.set a f) n life=(nM x T n life).update a f:=by
 have:(nM x (T.set a f) n life).objs=((nM x T n life).objs.modify a f):=by
  apply Array.ext_getElem?;intro i;refine U (Array.getElem?_modify) (U (uz ..) (U (uz ..) (U (BT.get_set ..) ?_)));by_cases e:i=a
  .subst e;refine U (if_pos rfl) (U (if_pos rfl) (U g ((?_:(if i<n then O ((pick (x i) (O (f o))).getD default) else aq)=_))));refine U (eU b) (U (eU c) ?_);by_cases h:i<n
   .refine U (if_pos h) (U (if_pos h) ?_);rfl
   .refine U (if_neg h) (U (if_neg h) ?_);rfl
  .exact U (if_neg e) (U (if_neg (rU e)) rfl)
 exact congrArg (Heap.mk · life) this
theorem JI (g:((T.ins n o).get n).isSome=H) (a:alive o=O o):nM x (T.ins n o) (n+1) life=(nM x T n life).push o:=by
 have:(nM x (T.ins n o) (n+1) life).objs=((nM x T n life).objs.push o):=by
  apply Array.ext_getElem?;intro i;refine U (Array.getElem?_push) (U (uz ..) (U (uz ..) (U (A5 ..) (U (pG o T n g ..) ?_))));by_cases e:i=n
  .refine cL e ?_;refine U (if_pos (bM _)) (U (if_pos rfl) (U (if_pos rfl) (U (eU a) ?_)));rfl
  .refine U (if_neg e) (U (if_neg e) ?_);by_cases h:i<n
   .exact U (if_pos h) (U (if_pos (cI h)) rfl)
   .exact U (if_neg h) (U (if_neg (by lia)) rfl)
 exact congrArg (Heap.mk · life) this
theorem uA (h:a<n) (g:T.get a=O o) (b:alive o=O o):(nM x T n life).get? a=O o:=by
 unfold Heap.get?;refine U (uz ..) (U (if_pos h) (U g (U (eU b) ((?_:(match O o with|some ⟨_,_,.freed,_⟩=>aq|o=>o)=O o)))));obtain⟨c,d,e,f⟩:=o;rcases e<;>first|rfl|exact fn b
def mY (x:Nat->Option Obj) (s:SharedT):Shared:=⟨nM x s.tree s.n s.life,s.gens,s.drawn,s.toks,s.os⟩
set_option backward.match.sparseCases false in
noncomputable def Vf (s:SharedT) (t:Thread):Bool:=match t.cur with
 | .update a _ f _=>(match s.tree.get a with|some o=>(alive (f o)).isSome|none=>aj)
 | .alloc o _=>(alive o).isSome
 | .loadIfAlive _ _=>aj
 |_=>H
theorem uB (h:(alive o).isSome=H):alive o=O o:=by
 induction q:alive o using zO with
 |none=>rw [q] at h;exact ff h
 |some o'=>exact U (nN q) rfl
section
variable {den:Code->Sem Fin} {p:Program} {w:World}
theorem Dd {drawn} {os} {code} {stack}
 (h1:∀a q k,cur≠.load a q k) (h2:∀a q f k,cur≠.update a q f k) (c:∀o k,cur≠.alloc o k) (d:∀a k,cur≠.loadIfAlive a k)
 (h:(match step den p w ⟨{},gens,drawn,toks,os⟩ ⟨cur,code,pos,stack⟩ with
  | .go s' t'=>O ((⟨T,n,life,s'.gens,s'.drawn,s'.toks,s'.os⟩:SharedT),t')
  | .halt _ _=>aq)=O (s',t')):
 step den p w ⟨nM x T n life,gens,drawn,toks,os⟩ ⟨cur,code,pos,stack⟩= .go (mY x s') t':=by
 cases q:step den p w ⟨{},gens,drawn,toks,os⟩ ⟨cur,code,pos,stack⟩ with
 |halt o s=>rw [q] at h;exact fn h
 |go s₀ b=>rw [q] at h;cases h;exact step_heap h1 h2 c d q
theorem ER (hk:Vf s t=H) (h:stepT den p w s t=O (s',t')):step den p w (mY x s) t= .go (mY x s') t':=by
 obtain⟨T,n,c,d,b,i,os⟩:=s;obtain⟨m,j,pos,stack⟩:=t
 induction m using PySem.Sem.casesOn with
 |load a q k=>
  induction e:bE a n using zB with
  |false=>simp only [stepT,e] at h;exact fn h
  |true=>
   induction g:T.get a using zO with
   |none=>simp only [stepT,e,g] at h;exact fn h
   |some o=>
    induction l:alive o using zO with
    |none=>simp only [stepT,e,g,l] at h;exact fn h
    |some o'=>
     obtain rfl:=nN l;simp only [stepT,e,g,l] at h;cases h;refine(?_:step den p w ⟨nM x T n c,d,b,i,os⟩ ⟨.load a q k,j,pos,stack⟩=_);simp only [step,uA (aB e) g l];rfl
 |update a q f k=>
  induction e:bE a n using zB with
  |false=>simp only [stepT,e] at h;exact fn h
  |true=>
   induction g:T.get a using zO with
   |none=>simp only [stepT,e,g] at h;exact fn h
   |some o=>
    induction l:alive o using zO with
    |none=>simp only [stepT,e,g,l] at h;exact fn h
    |some o'=>
     obtain rfl:=nN l;have hk:(match T.get a with|some o=>(alive (f o)).isSome|none=>aj)=true:=hk;rw [g] at hk;simp only [stepT,e,g,l] at h;cases h;refine(?_:step den p w ⟨nM x T n c,d,b,i,os⟩ ⟨.update a q f k,j,pos,stack⟩= .go ⟨nM x (T.set a f) n c,d,b,i,os⟩ _);refine U (JH g l (uB hk)) ?_;simp only [step,uA (aB e) g l,Option.isSome_some,if_true]
 |alloc o k=>
  induction e:((T.ins n o).get n).isSome using zB with
  |false=>simp only [stepT,e] at h;exact fn h
  |true=>
   simp only [stepT,e] at h;cases h;refine(?_:step den p w ⟨nM x T n c,d,b,i,os⟩ ⟨.alloc o k,j,pos,stack⟩= .go ⟨nM x (T.ins n o) (n+1) c,d,b,i,os⟩ _);refine U (JI e (uB hk)) ?_;simp only [step,A5]
 |loadIfAlive a k=>exact ff hk
 |_=>exact Dd (by intros;intro e;injection e) (by intros;intro e;injection e) (by intros;intro e;injection e) (by intros;intro e;injection e) h
end
def AF (tb:String->Option Builtin) (p:Program) (w:World) (n₀:Nat) (ann:Option Value) (b:Nat):Nat->SharedT->Thread->Option (Flow×SharedT×Code×Pos)
 |0,_,_=>aq
 |n+1,s,t=>match endAt b t with
  |some f=>O (f,s,t.code,t.pos)
  |none=>match stepOk n₀ ann t&&Vf s t with
   |false=>aq
   |true=>match stepT (denote tb) p w s t with
    |some (s',t')=>AF tb p w n₀ ann b n s' t'
    |none=>aq
set_option tactic.hygienic true in
theorem De {n₀ m:Nat} {P:Addr} (hm:m<=n₀) (b:m<=P) (h:stepOk n₀ (O (.ref P)) t=H):stepOk m ann t=true:=by
 unfold stepOk at h⊢;rw [aP] at h⊢;refine⟨h.1, ?_⟩;have h:=h.2;revert h;rcases t.cur<;>intro h<;>try exact h
 case update a q f k=>
  simp only [Bool.or_eq_true,Nat.ble_eq,beq_iff_eq] at h⊢;rcases h with((q|q)|q)|q
  .exact .inl (.inl (.inl (aI hm q)))
  .exact .inl (.inl (.inr q))
  .exact .inl (.inr q)
  .injection q with q;injection q with q;subst q;exact .inl (.inl (.inl b))
set_option tactic.hygienic true in
theorem NR (hm:m<=n₀) (A:m<=P):∀{n} {s s'} {t} {f} {c} {q},AF tb p w n₀ (O (.ref P)) b n s t=O (f,s',c,q)->
 segRun tb p w m ann b n (mY x s) t=O (f,mY x s',c,q)/\∀d o,d<n₀->d≠mainNs->d≠cStatics->d≠P->(mY x s).heap.get? d=O o->(mY x s').heap.get? d=O o:=by
 intro n
 induction n with
 |zero=>
  intro _ _ _ _ _ _ h;exact fn h
 |succ n B=>
  intro s s' t f c q h;unfold AF at h;unfold segRun
  induction he:endAt b t using zO with
  |some x=>rw [he] at h;cases h;exact⟨rfl,λg g g g g g e=>e⟩
  |none=>
   rw [he] at h
   induction hk:stepOk n₀ (O (.ref P)) t&&Vf s t using zB with
   |false=>rw [hk] at h;exact fn h
   |true=>
    rw [hk] at h;obtain⟨hk,hx⟩:=cM.mp hk
    induction i:stepT (denote tb) p w s t using zO with
    |none=>rw [i] at h;exact fn h
    |some r=>
     obtain⟨l,u⟩:=r;rw [i] at h;have e:=ER (x:=x) hx i;obtain⟨C,D⟩:=B h;refine U (De hm A hk) (U e (⟨C,λd o h1 h2 v z j=>D d o h1 h2 v z (U (PySem.step_heap (denote tb) p w _ _ _ _ e) ?_)⟩));have hk:=(cM.mp hk).2;revert hk;rcases t.cur<;>intro hk<;>try exact j
     case update a q f k=>
      have:d≠a:=by
       rintro rfl;simp only [Bool.or_eq_true,Nat.ble_eq,beq_iff_eq] at hk;rcases hk with((q|q)|q)|q
       .exact absurd h1 (bC.mpr q)
       .exact h2 q
       .exact v q
       .injection q with q;injection q with q;exact z q.symm
      exact(Heap.get?_update_ne _ _ _ _ this).trans j
     case alloc y k=>exact az y j
end
end
section
set_option backward.match.sparseCases false
structure V where
 t:Nat
 s:Nat
 n:Nat
 l:List Nat
 xs:List V
structure aeu where
 t:Nat
 c:Nat
 fs:List (Nat×V)
 xs:List V
 kvs:List (V×V)
 bs:List Nat
inductive TR where
 |nil
 |node (v:Option aeu) (l r:TR)
structure HT where
 old:Nat->TR
 cur:TR
 xH:Nat
structure aev where
 l:HT
 n:Nat
structure Env where
 loc:List (Nat×V)
 out:List (Nat×V)
structure Res where
 ρ:Env
 v:V
 h:aev
section
noncomputable def dc:V:=⟨0,0,0,[],[]⟩
def vBool (b:Bool):V:=⟨1,0,af 0 1 b,[],[]⟩
noncomputable def aW (n:Nat):V:=⟨2,0,n,[],[]⟩
noncomputable def qS (n:Nat):V:=⟨2,1,n,[],[]⟩
noncomputable def vStr (l:List Nat):V:=⟨3,0,0,l,[]⟩
noncomputable def fq (l:List Nat):V:=⟨4,0,0,l,[]⟩
noncomputable def dM (xs:List V):V:=⟨5,0,0,[],xs⟩
noncomputable def bQ (n:Nat):V:=⟨6,0,n,[],[]⟩
noncomputable def bL (n:Nat):V:=⟨7,0,n,[],[]⟩
noncomputable def jg (n:Nat):V:=⟨8,0,n,[],[]⟩
noncomputable def BR (n:Nat):V:=⟨9,0,n,[],[]⟩
noncomputable def NS (n:Nat):V:=⟨10,0,n,[],[]⟩
noncomputable def uC (c:Nat) (fs:List (Nat×V)):aeu:=⟨0,c,fs,[],[],[]⟩
noncomputable def bK (xs:List V):aeu:=⟨1,0,[],xs,[],[]⟩
noncomputable def yG (xs:List V):aeu:=⟨8,0,[],xs,[],[]⟩
noncomputable def d7 (kvs:List (V×V)) (c:Nat):aeu:=⟨2,c,[],[],kvs,[]⟩
def cnt (c:Nat) (old new:List (V×V)):Nat:=aG c (ez (aQ 0 (λu_ u_ ih=>aG ih 1) new) (aQ 0 (λu_ u_ ih=>aG ih 1) old))
noncomputable def yH (bs:List Nat):aeu:=⟨3,0,[],[],[],bs⟩
noncomputable def ES (a b c d:Nat):aeu:=⟨5,0,[],[],[],[a,b,c,d]⟩
noncomputable def uD (xs:List V) (c d:Nat):aeu:=⟨7,0,[],xs,[],[c,d]⟩
noncomputable def qT:aeu:=⟨6,0,[],[],[],[]⟩
def dU (v:V):Int:=af (Int.negOfNat v.n) (dQ v.n) (ak v.s 0)
def mD (i:Int):V:=Int.rec (λn=>aW n) (λn=>qS (aG n 1)) i
def TR.get (t:TR):Nat->Option aeu:=TR.rec (λu_=>aq) (λv u_ u_ gl gr i=>af (af (gl (gy (ez i 1) 2)) (gr (gy (ez i 1) 2)) (ak (jo i 2) 0)) v (ak i 0)) t
def TR.one (o:aeu) (n:Nat):Nat->TR:=gw (λu_=> .nil) (λu_ ih i=>af (af (.node aq (ih (gy (ez i 1) 2)) .nil) (.node aq .nil (ih (gy (ez i 1) 2))) (ak (jo i 2) 0)) (.node (O o) .nil .nil) (ak i 0)) n
def TR.ins (o:aeu) (t:TR):Nat->TR:=TR.rec (λi=>TR.one o 30 i) (λv l r il ir i=>af (af (.node v (il (gy (ez i 1) 2)) r) (.node v l (ir (gy (ez i 1) 2))) (ak (jo i 2) 0)) (.node (O o) l r) (ak i 0)) t
def upd (f:Nat->TR) (j:Nat) (t:TR):Nat->TR:=λi=>af (f i) t (ak i j)
def HT.get (t:HT) (i:Nat):Option aeu:=af (TR.get (t.old (gy i 16384)) (jo i 16384)) (TR.get t.cur (jo i 16384)) (ak (gy i 16384) t.xH)
def HT.ins (o:aeu) (t:HT) (i:Nat):HT:=af ⟨upd t.old (gy i 16384) (TR.ins o (t.old (gy i 16384)) (jo i 16384)),t.cur,t.xH⟩ ⟨t.old,TR.ins o t.cur (jo i 16384),t.xH⟩ (ak (gy i 16384) t.xH)
def HT.jump (d:Bool) (t:HT):HT:=⟨upd t.old t.xH (af t.cur .nil d),.nil,aG t.xH 1⟩
def find {α:Type} (x:Nat) (l:List (Nat×α)):Option α:=aQ aq (λp u_ ih=>af ih (O p.2) (ak x p.1)) l
def setIn {α:Type} (x:Nat) (v:α) (l:List (Nat×α)):List (Nat×α):=aQ [(x,v)] (λp r ih=>af (p::ih) ((x,v)::r) (ak x p.1)) l
def app {α:Type} (x y:List α):List α:=aQ y (λa u_ ih=>a::ih) x
def len {α:Type} (x:List α):Nat:=aQ 0 (λu_ u_ ih=>aG ih 1) x
def sW {α:Type} (x:List α):Nat->Option α:=aQ (λu_=>aq) (λa u_ ih i=>af (ih (ez i 1)) (O a) (ak i 0)) x
def ET {α:Type} (v:α) (x:List α):Nat->List α:=aQ (λu_=>[]) (λa r ih i=>af (a::ih (ez i 1)) (v::r) (ak i 0)) x
def kM {α β:Type} (f:α->β) (x:List α):List β:=aQ [] (λa u_ ih=>f a::ih) x
def yI {α:Type} (x:List α):Nat->List α:=aQ (λu_=>[]) (λa u_ ih i=>af (a::ih (ez i 1)) [] (ak i 0)) x
def Df {α:Type} (x:List α):Nat->List α:=aQ (λu_=>[]) (λa r ih i=>af (ih (ez i 1)) (a::r) (ak i 0)) x
def isNil {α:Type} (x:List α):Bool:=aQ H (λu_ u_ u_=>aj) x
noncomputable def repl (n:Nat):List Nat:=gw [] (λu_ ih=>0::ih) n
def gg (ρ:Env) (x:Nat) (v:V):Env:=⟨setIn x v ρ.loc,ρ.out⟩
def JJ (l:List Nat):Nat:=aQ 0 (λc u_ ih=>aG c (cJ 128 ih)) l
def nm (s:Str):Nat:=JJ s.cps.toList
def qU (l:List Nat):Bool:=aQ H (λc u_ ih=>af aj (af aj ih (bE 2 c)) (bE c 128)) l
def aY (s:Str):Bool:=qU s.cps.toList
def aZ (x:Nat) (l:List (Str×aM)):Option aM:=aQ aq (λp u_ ih=>af ih (O p.2) (ak x (nm p.1))) l
def qv (x:List Nat):List Nat->Bool:=aQ (λy=>isNil y) (λa u_ ih y=>aQ aj (λb y u_=>af aj (ih y) (ak a b)) y) x
def NU (x:List Nat):List Nat->Bool:=aQ (λy=>af H aj (isNil y)) (λa u_ ih y=>aQ aj (λb y u_=>af (bE a b) (ih y) (ak a b)) y) x
def AG (a b:V):Bool:=af aj (ak a.n b.n) (ak a.s b.s)
def wX (a b:V):Bool:=af (af (af (bE b.n a.n) H (ak b.s 0)) aj (ak a.s 0)) (bE a.n b.n) (ak (aG a.s b.s) 0)
def Zf (a b:Bool):Bool:=af (af H aj b) b a
def allInts (xs:List V):Bool:=aQ H (λv u_ ih=>af aj ih (ak v.t 2)) xs
def Gp (x:List V):List V->Option Bool:=aQ (λy=>aQ (O H) (λu_ u_ u_=>aq) y)
 (λa x' ih y=>aQ aq (λb y' u_=>af aq (af aq (af (af aq (af aq (O aj) (allInts y')) (allInts x')) (ih y') (AG a b)) (ak b.t 2)) (ak a.t 2)) y) x
def xK (x:List V):List V->Option Bool:=aQ (λy=>aQ (O aj) (λu_ u_ u_=>aq) y)
 (λa x' ih y=>aQ aq (λb y' u_=>af aq (af aq (af (af aq (af aq (O (wX a b)) (allInts y')) (allInts x')) (ih y') (AG a b)) (ak b.t 2)) (ak a.t 2)) y) x
def BS (a b:V):Option Bool:=af aq
 (af (af (af (af aq (Gp a.xs b.xs) (ak a.t 5)) (O (qv a.l b.l)) (ak a.t 4)) (O (qv a.l b.l)) (ak a.t 3)) (O (AG a b)) (ak a.t 2)) (ak a.t b.t)
def Sn (a b:V):Option Bool:=af aq
 (af (af (af aq (af aq (xK a.xs b.xs) (ak (len a.xs) (len b.xs))) (ak a.t 5)) (O (NU a.l b.l)) (ak a.t 3)) (O (wX a b)) (ak a.t 2)) (ak a.t b.t)
def HK (a b:V):Option Bool:=af aq
 (af (af aq (O (NU a.l b.l)) (ak a.t 3)) (O (wX a b)) (ak a.t 2)) (ak a.t b.t)
def isKey (a:V):Bool:=af (af (af (af aj (allInts a.xs) (ak a.t 5)) H (ak a.t 4)) H (ak a.t 3)) H (ak a.t 2)
def iT (k:V) (d:List (V×V)):Option (Option V):=aQ (af aq (O aq) (isKey k)) (λp u_ ih=>aA aq (λb=>af ih (O (O p.2)) b) (BS k p.1)) d
def dput (k v:V) (d:List (V×V)):Option (List (V×V)):=aQ (af aq (O [(k,v)]) (isKey k))
 (λp r ih=>aA aq (λb=>af (aA aq (λr'=>O (p::r')) ih) (O ((p.1,v)::r)) b) (BS k p.1)) d
def uE (f:V->V->Option Bool) (x:List V):List V->Option Bool:=aQ (λy=>O (isNil y))
 (λa u_ ih y=>aQ (O aj) (λb y' u_=>aA aq (λt=>aA aq (λu=>O (af aj u t)) (ih y')) (f a b)) y) x
def JK (f:V->V->Option Bool) (m:List (V×V)) (x:List (V×V)):Option Bool:=aQ (O H)
 (λp u_ ih=>aA aq (λo=>aA (O aj) (λu=>aA aq (λt=>aA aq (λu=>O (af aj u t)) ih) (f p.2 u)) o) (iT p.1 m)) x
def Zg (f:V->V->Option Bool) (a b:aeu):Option Bool:=af aq
 (af aq (af (O aj) (uE f a.xs b.xs) (ak (len a.xs) (len b.xs))) (ak a.t 1)) (ak a.t b.t)
def HL (t:Nat) (x:List (V×V)):Bool:=aQ H (λp u_ u_=>ak p.1.t t) x
def Rh (f:V->V->Option Bool) (a b:aeu):Option Bool:=af aq
 (af (af aq (af (O aj) (JK f b.kvs a.kvs) (ak (len a.kvs) (len b.kvs))) (af aj (HL 3 b.kvs) (HL 3 a.kvs)))
  (af (O aj) (JK f b.kvs a.kvs) (ak (len a.kvs) (len b.kvs))) (af aj (HL 2 b.kvs) (HL 2 a.kvs))) (ak b.t 2)
def plainT (t:Nat):Bool:=af (af (ak t 5) H (ak t 2)) H (ak t 0)
def o8 (h:aev) (n:Nat):V->V->Option Bool:=gw (λu_ u_=>aq) (λu_ ih a b=>af
 (af aq (af aq (O aj) (plainT b.t)) (plainT a.t))
 (af (af (af (af (af (af (af aq
  (aA aq (λx=>aA aq (λy=>Zg ih x y) (HT.get h.l b.n)) (HT.get h.l a.n)) (ak a.t 6))
  (uE ih a.xs b.xs) (ak a.t 5))
  (O (qv a.l b.l)) (ak a.t 4))
  (O (qv a.l b.l)) (ak a.t 3))
  (O (AG a b)) (ak a.t 2))
  (O (ak a.n b.n)) (ak a.t 1))
  (O H) (ak a.t 0))
 (ak a.t b.t)) n
def vS (n:Nat):Int->Int->List V:=gw (λu_ u_=>[]) (λu_ ih a c=>mD a::ih (Int.add a c) c) n
def NV (n:Nat):Nat->List V:=gw (λu_=>[]) (λu_ ih a=>aW a::ih (aG a 1)) n
def vU (a b c:Int):Nat:=af (af 0 ((a-b-c-1).fdiv (-c)).toNat (decide (c<0))) ((b-a+c-1).fdiv c).toNat (decide (0<c))
noncomputable def small (v:V):Bool:=bO v.n 1000000000000
def xT (a b:V):Option (List V):=af aq (af aq (af aq (af aq
 (af (O (vS (vU (dU a) (dU b) 1) (dU a) 1)) (O (NV (ez b.n a.n) a.n)) (ak (aG a.s b.s) 0)) (small b)) (small a)) (ak b.t 2)) (ak a.t 2)
def JL (a b c:V):Option (List V):=af aq (af aq (af aq (af aq (af aq (af aq (af (O (vS (vU (dU a) (dU b) (dU c)) (dU a) (dU c))) aq (ak c.n 0)) (small c)) (small b)) (small a)) (ak c.t 2)) (ak b.t 2)) (ak a.t 2)
def xU (args:List V):Option (List V):=match args with
 |[b]=>xT (aW 0) b
 |[a,b]=>xT a b
 |[a,b,c]=>JL a b c
 |_=>aq
def EU (lt:V->V->Bool) (x:V) (l:List V):List V:=aQ [x] (λy r ih=>af (y::ih) (x::y::r) (lt x y)) l
def oN (lt:V->V->Bool) (l:List V):List V:=aQ [] (λx u_ ih=>EU lt x ih) l
def Ri (a b:V):Bool:=NU a.l b.l
def Dg (lim:Nat) (v:V):Option Nat:=af aq (af aq (af aq (O v.n) (bE v.n lim)) (ak v.s 0)) (ak v.t 2)
def BU (l:List V):Option (List Nat):=aQ (O []) (λv u_ ih=>aA aq (λn=>aA aq (λl=>O (n::l)) ih) (Dg 256 v)) l
def qA (t:Nat) (l:List V):Bool:=aQ H (λv u_ ih=>af aj ih (ak v.t t)) l
def qa (l:List V):Bool:=aQ H (λv u_ ih=>af aj (af (af aj ih (allInts v.xs)) aj (isNil v.xs)) (ak v.t 5)) l
def uF (lt:Nat->Nat->Option Bool) (t:PySem.W.KasT (Array Nat)):Option (Array Nat):=PySem.W.KasT.rec (λa=>O a) (λi j u_ ih=>aA aq (λb=>ih b) (lt i j)) t
def JM (l:List V):Option (List V):=af aq (aA aq (λp=>O (kM (λi=>aA dc (λv=>v) (sW l i)) p.toList)) (uF (λi j=>aA aq (λa=>aA aq (λb=>Sn a b) (sW l j)) (sW l i)) (vH (len l)))) (qa l)
def Rj (l:List V):Option (List V):=af aq (af (af (af (JM l) (O l) (bO (len l) 1)) (O (oN Ri l)) (qA 3 l)) (O (oN wX l)) (qA 2 l)) (bE (len l) 64)
def uG (f:V->V->Bool) (x:V) (l:List V):Bool:=aQ aj (λy u_ ih=>af ih H (f y x)) l
def sEq (a b:V):Bool:=qv a.l b.l
def Vu (x:V) (l:List V):Option Bool:=af (af aq (af aq (O (uG sEq x l)) (qA 3 l)) (ak x.t 3)) (af aq (O (uG AG x l)) (qA 2 l)) (ak x.t 2)
def EV (x:V) (l:List V):Nat->Option Nat:=aQ (λu_=>aq) (λy u_ ih n=>af (ih (aG n 1)) (O n) (qv y.l x.l)) l
def Dh (t:Nat) (l:List V):Option (List Nat):=aQ (O []) (λv u_ ih=>af aq (aA aq (λr=>O (app v.l r)) ih) (ak v.t t)) l
def pairOf (v:V):Option (V×V):=af aq (match v.xs with|[a,b]=>O (a,b)|_=>aq) (ak v.t 5)
def NW (l:List V):Nat->Option Nat:=aQ (λn=>O n) (λv u_ ih n=>af aq (af aq (ih (aG n v.n)) (ak v.s 0)) (ak v.t 2)) l
def Gq (gt:Bool) (l:List V):V->Option V:=aQ (λm=>O m) (λx u_ ih m=>af aq (af (ih m) (ih x) (af (wX x m) (wX m x) gt)) (ak x.t 2)) l
def bestOf (gt:Bool) (l:List V):Option V:=aQ aq (λx r u_=>af aq (Gq gt r x) (ak x.t 2)) l
def yJ (i:V) (n:Nat):Option Nat:=af aq (af (af aq (O (ez n i.n)) (bO i.n n)) (af aq (O i.n) (bE i.n n)) (ak i.s 0)) (ak i.t 2)
def bound (n d:Nat) (i:V):Option Nat:=af (af aq (af (O (ez n i.n)) (O (af n i.n (bO i.n n))) (ak i.s 0)) (ak i.t 2)) (O d) (ak i.t 0)
def JN {α:Type} (xs:List α) (lo hi:V):Option (List α):=aA aq (λa=>aA aq (λb=>O (yI (Df xs a) (ez b a))) (bound (len xs) (len xs) hi)) (bound (len xs) 0 lo)
def isNone (a:V):Option Bool:=af (af (af (af (af aq (O aj) (ak a.t 6)) (O aj) (ak a.t 5)) (O aj) (ak a.t 4)) (O aj) (ak a.t 2)) (O H) (ak a.t 0)
abbrev M (α:Type):=aev->(α->aev->Option Res)->Option Res
abbrev Ap:=V->List V->M V
structure XE where
 f:Ap->Env->M V
structure XT where
 f:Ap->Env->M Bool
structure XL where
 f:Ap->Env->M (List V)
structure XP where
 f:Ap->Env->M (List (V×V))
structure XA where
 f:Ap->Env->V->aev->(Env->aev->Option Res)->Option Res
def jump (d:Bool) (h:aev) (k:aev->Option Res):Option Res:=af aq (k ⟨HT.jump d h.l,cJ 16384 (aG h.l.xH 1)⟩) (bO h.n (cJ 16384 (aG h.l.xH 1)))
def lift {α:Type} (x:Option α):M α:=λh k=>aA aq (λa=>k a h) x
def oLe (o:aeu):Bool:=bO (aG (len o.xs) (aG (len o.kvs) (aG (len o.bs) (len o.fs)))) 1000000
def new (o:aeu):M V:=λh k=>af aq (k (bQ h.n) ⟨HT.ins o h.l h.n,aG h.n 1⟩) (oLe o)
def put (i:Nat) (o:aeu):M V:=λh k=>af aq (k dc ⟨HT.ins o h.l i,h.n⟩) (oLe o)
def kB (l:List Nat):M V:=λh k=>af aq (k (fq l) h) (bO (len l) 1000000)
def kS (l:List Nat):M V:=λh k=>af aq (k (vStr l) h) (bO (len l) 1000000)
def kT (l:List V):M V:=λh k=>af aq (k (dM l) h) (bO (len l) 1000000)
def look (v:V):M aeu:=λh k=>af aq (aA aq (λo=>k o h) (HT.get h.l v.n)) (ak v.t 6)
def gS (v:V):M (List V):=λh k=>look v h λo h=>af aq (k o.xs h) (ak o.t 1)
def EW (v:V):M (List V):=λh k=>look v h λo h=>af (af aq (k o.xs h) (ak o.t 8)) (k o.xs h) (ak o.t 1)
def items (v:V):M (List V):=λh k=>af (look v h λo h=>af (af aq (k (kM eG o.kvs) h) (ak o.t 2)) (k o.xs h) (ak o.t 1)) (k v.xs h) (ak v.t 5)
structure Src where
 t:Nat
 xs:List V
 i:Nat
 n:Nat
 k:Nat
 c:Nat
structure It where
 t:Nat
 a:Src
 b:Src
 n:Nat
structure XI where
 f:Ap->Env->M It
noncomputable def dR (xs:List V):Src:=⟨0,xs,0,0,0,0⟩
noncomputable def gp (i k:Nat):Src:=⟨1,[],i,0,k,0⟩
noncomputable def rY (i n k c:Nat):Src:=⟨2,[],i,n,k,c⟩
noncomputable def gh (a:Src):It:=⟨0,a,a,0⟩
def yK (i:Nat):It:=⟨1,dR [],dR [],i⟩
noncomputable def vV (n:Nat) (a:Src):It:=⟨2,a,a,n⟩
def m8 (a:Src) (h:aev) (ke:Option Res) (ki:V->Src->Option Res):Option Res:=af
 (aA aq (λo=>af
  (af aq (af aq (af aq (af aq (aA ke (λx=>ki x.1 (rY a.i a.n (aG a.k 1) a.c)) (sW o.kvs a.k)) (ak o.c a.c)) (ak (len o.kvs) a.n)) (ak o.t 2)) (ak a.t 2))
  (af aq (aA ke (λx=>ki x (gp a.i (aG a.k 1))) (sW o.xs a.k)) (ak o.t 1)) (ak a.t 1)) (HT.get h.l a.i))
 (aQ ke (λx r u_=>ki x (dR r)) a.xs) (ak a.t 0)
def Gr (i:Nat) (h:aev) (ke:aev->Option Res) (ki:V->aev->Option Res):Option Res:=aA aq (λo=>af aq (match o.bs with
 |[a,b,c,d]=>aA aq (λp=>af aq (aA aq (λq=>af aq (aA (ke ⟨HT.ins qT h.l i,h.n⟩) (λx=>aA (ke ⟨HT.ins qT h.l i,h.n⟩) (λy=>ki (dM [x,y]) ⟨HT.ins (ES a (aG b 1) c (aG d 1)) h.l i,h.n⟩) (sW q.xs d)) (sW p.xs b)) (ak q.t 1)) (HT.get h.l c)) (ak p.t 1)) (HT.get h.l a)
 |_=>aq) (ak o.t 5)) (HT.get h.l i)
def vW (a:It) (h:aev) (ke:aev->Option Res) (ki:V->It->aev->Option Res):Option Res:=af
 (af (m8 a.a h (ke h) λx c=>ki (dM [aW a.n,x]) (vV (aG a.n 1) c) h) (Gr a.n h ke λv h=>ki v a h) (ak a.t 1))
 (m8 a.a h (ke h) λx c=>ki x (gh c) h) (ak a.t 0)
def JO (v:V):M It:=λh k=>af (af (af
 (look v h λo h=>af (af aq (k (gh (rY v.n (len o.kvs) 0 o.c)) h) (ak o.t 2)) (k (gh (gp v.n 0)) h) (ak o.t 1))
 (k (gh (dR (kM (λc=>vStr [c]) v.l))) h) (ak v.t 3))
 (k (gh (dR (kM aW v.l))) h) (ak v.t 4))
 (k (gh (dR v.xs)) h) (ak v.t 5)
def truth (v:V):M Bool:=λh k=>af (af (af
 (look v h λo h=>af (af aq (af (af aq (k (af H aj (isNil o.kvs)) h) (HL 3 o.kvs)) (k (af H aj (isNil o.kvs)) h) (HL 2 o.kvs)) (ak o.t 2)) (k (af H aj (isNil o.xs)) h) (ak o.t 1))
 (k (af H aj (isNil v.xs)) h) (ak v.t 5))
 (k (af H aj (ak v.n 0)) h) (ak v.t 2))
 (k (af H aj (ak v.n 0)) h) (ak v.t 1)
def with1 (args:List V) (f:V->Option Res):Option Res:=aQ aq (λv r u_=>af aq (f v) (isNil r)) args
def with2 (args:List V) (f:V->V->Option Res):Option Res:=aQ aq (λv r u_=>with1 r (f v)) args
def Vv (args:List V):M V:=λh k=>with1 args λv=>af (af (af
 (look v h λo h=>af (af (af aq (k (aW (len o.bs)) h) (ak o.t 3)) (k (aW (len o.kvs)) h) (ak o.t 2)) (k (aW (len o.xs)) h) (ak o.t 1))
 (k (aW (len v.l)) h) (ak v.t 3)) (k (aW (len v.l)) h) (ak v.t 4)) (k (aW (len v.xs)) h) (ak v.t 5)
def NX (args:List V):M V:=λh k=>with1 args λv=>af
 (look v h λo h=>af (af aq (kB o.bs h k) (ak o.t 3)) (lift (BU o.xs) h λl h=>kB l h k) (ak o.t 1))
 (lift (Dg 1000 v) h λn h=>kB (repl n) h k) (ak v.t 2)
def So (args:List V):M V:=λh k=>af aq (new (yH []) h k) (isNil args)
def NY (args:List V):M V:=λh k=>with1 args λv=>af (gS v h λxs h=>kT xs h k) (kT v.xs h k) (ak v.t 5)
def Sp (args:List V):M V:=λh k=>with1 args λv=>items v h λl h=>new (bK l) h k
def Di (acc x y:V):M V:=λh k=>look acc h λo h=>af aq (lift (dput x y o.kvs) h λkvs h=>put acc.n (d7 kvs (cnt o.c o.kvs kvs)) h k) (ak o.t 2)
def vX (acc:V) (l:List (V×V)):M V:=λh k=>(aQ (λh=>k acc h) (λp u_ ih h=>Di acc p.1 p.2 h λu_ h=>ih h) l:aev->Option Res) h
def xV (acc:V) (k:V->aev->Option Res) (n:Nat):Src->aev->Option Res:=gw (λu_ u_=>aq) (λu_ ih a h=>m8 a h (k acc h) λv c=>lift (pairOf v) h λp h=>Di acc p.1 p.2 h λu_ h=>ih c h) n
def Sq (args:List V):M V:=λh k=>with1 args λv=>look v h λo h=>af
 (af aq (new (d7 [] 0) h λacc h=>xV acc k 2000 (gp v.n 0) h) (ak o.t 1))
 (af aq (af aq (new (d7 [] 0) h λacc h=>vX acc o.kvs h k) (bO (len o.kvs) 8)) (HL 3 o.kvs)) (ak o.t 2)
def JP (args:List V):M V:=λh k=>with1 args λv=>items v h λl h=>lift (Rj l) h λl h=>new (bK l) h k
def Vw (args:List V):M V:=λh k=>with1 args λv=>gS v h λl h=>lift (NW l 0) h λn h=>af aq (k (aW n) h) (bO n 1000000000000)
def BV (gt:Bool) (args:List V):M V:=λh k=>match args with
 |[v]=>af (gS v h λl h=>lift (bestOf gt l) h k) (lift (bestOf gt v.xs) h k) (ak v.t 5)
 |[a,b]=>lift (bestOf gt [a,b]) h k
 |_=>aq
def Vx (args:List V):M V:=λh k=>with1 args λv=>af aq (k (aW v.n) h) (ak v.t 2)
def Vy (args:List V):M V:=λh k=>with1 args λv=>af (af aq (k (aW v.n) h) (ak v.t 1)) (k v h) (ak v.t 2)
def Vz (args:List V):M V:=λh k=>with1 args λv=>lift (Dg 128 v) h λc h=>kS [c] h k
def VA (args:List V):M V:=λh k=>with1 args λv=>af aq (match v.l with|[c]=>k (aW c) h|_=>aq) (ak v.t 3)
def JQ:List (Nat×(List V->M V)):=[(0,Vv),(2,NX),(3,So),(4,NY),(5,Sp),(6,Sq),(8,JP),(11,Vw),(12,BV H),(13,BV aj),(14,Vx),(15,Vy),(16,Vz),(17,VA)]
def BW (n:Nat) (args:List V):M V:=λh k=>aA aq (λf=>f args h k) (find n JQ)
def BX (v:V) (o:aeu) (args:List V):M V:=λh k=>with1 args λx=>af aq (put v.n (bK (app o.xs [x])) h k) (ak o.t 1)
def xW (v:V) (o:aeu) (args:List V):M V:=λh k=>with1 args λx=>af (af aq (af aq (put v.n (yH (app o.bs x.l)) h k) (ak x.t 4)) (ak o.t 3))
 (gS x h λys h=>put v.n (bK (app o.xs ys)) h k) (ak o.t 1)
def Ss (_:V) (o:aeu) (args:List V):M V:=λh k=>with2 args λx d=>af aq (lift (iT x o.kvs) h λr h=>aA (k d h) (λx=>k x h) r) (ak o.t 2)
def qV (v:V) (o:aeu) (args:List V):M V:=λh k=>with2 args λx d=>af aq
 (lift (iT x o.kvs) h λr h=>aA (lift (dput x d o.kvs) h λkvs h=>put v.n (d7 kvs (cnt o.c o.kvs kvs)) h λu_ h=>k d h) (λx=>k x h) r) (ak o.t 2)
def EX (v:V) (args:List V):M V:=λh k=>with1 args λx=>af aq (af aq (af aq (lift (EV x v.xs 0) h λn h=>k (aW n) h) (qA 3 v.xs)) (ak x.t 3)) (ak v.t 5)
def Gs (v:V) (args:List V):M V:=λh k=>with1 args λx=>af aq (gS x h λl h=>
 af (af aq (lift (Dh 4 l) h λs h=>kB s h k) (ak v.t 4)) (lift (Dh 3 l) h λs h=>kS s h k) (ak v.t 3)) (isNil v.l)
noncomputable def Rk (_:V) (_:aeu) (_:List V):M V:=λu_ u_=>aq
noncomputable def Rl (_:V) (_:List V):M V:=λu_ u_=>aq
def VB (x y:V):M V:=λh k=>af (af (af
 (gS x h λxs h=>gS y h λys h=>new (bK (app xs ys)) h k)
 (af aq (af (af (kT (app x.xs y.xs) h k) aq (isNil y.xs)) aq (isNil x.xs)) (ak y.t 5)) (ak x.t 5))
 (af aq (kB (app x.l y.l) h k) (ak y.t 4)) (ak x.t 4))
 (af aq (af (k (mD (Int.add (dU x) (dU y))) h) (k (aW (aG x.n y.n)) h) (ak (aG x.s y.s) 0)) (ak y.t 2)) (ak x.t 2)
def NZ (x y:V) (f:Option Res):Option Res:=af aq (af aq (af aq (af aq f (bO y.n 18446744073709551615)) (bO x.n 18446744073709551615)) (ak y.t 2)) (ak x.t 2)
def JR (x y:V) (f:Option Res):Option Res:=NZ x y (af aq f (ak (aG x.s y.s) 0))
def JS (x y:V) (f:Option Res):Option Res:=af aq (af aq f (ak y.t 2)) (ak x.t 2)
def VC (x y:V):M V:=λh k=>JS x y (af (k (mD (Int.sub (dU x) (dU y))) h) (af (k (qS (ez y.n x.n)) h) (k (aW (ez x.n y.n)) h) (bO y.n x.n)) (ak (aG x.s y.s) 0))
noncomputable def BY (x:V):Bool:=bO x.n 18446744073709551615
def VD (x y:V):M V:=λh k=>JS x y (af aq (af (k (mD (Int.mul (dU x) (dU y))) h) (k (aW (cJ x.n y.n)) h) (ak (aG x.s y.s) 0)) (af (BY y) H (BY x)))
def VE (x y:V):M V:=λh k=>JS x y (af aq (af aq (af (k (aW (gy x.n y.n)) h) aq (ak y.n 0)) (ak (aG x.s y.s) 0)) (BY y))
def VG (x y:V):M V:=λh k=>JS x y (af (af (k (mD (Int.fmod (dU x) (dU y))) h) (k (aW (jo x.n y.n)) h) (ak (aG x.s y.s) 0)) aq (ak y.n 0))
def VH (x y:V):M V:=λh k=>JR x y (af aq (af aq (k (aW (Nat.pow x.n y.n)) h) (bE y.n 64)) (bE x.n 64))
def VI (x y:V):M V:=λh k=>JR x y (af aq (k (aW (cJ x.n (Nat.pow 2 y.n))) h) (bE y.n 1000))
def VJ (x y:V):M V:=λh k=>JR x y (af aq (k (aW (gy x.n (Nat.pow 2 y.n))) h) (bE y.n 1000))
def VK (x y:V):M V:=λh k=>NZ x y (af (k (mD (Builtin.bitAnd (dU x) (dU y))) h) (k (aW (Nat.land x.n y.n)) h) (ak (aG x.s y.s) 0))
def bOr (x y:V):M V:=λh k=>JR x y (k (aW (Nat.lor x.n y.n)) h)
def Yp (x v:V):M Bool:=λh k=>af (look v h λo h=>af (af aq (lift (iT x o.kvs) h λr h=>k (aA aj (λu_=>H) r) h) (ak o.t 2)) (lift (Vu x o.xs) h k) (ak o.t 1))
 (lift (Vu x v.xs) h k) (ak v.t 5)
def neg (b:Bool):Bool:=af H aj b
def JA (a b:V):M Bool:=λh k=>af (lift (o8 h 60 a b) h k) (look a h λo h=>af (lift (o8 h 60 a b) h k) (look b h λo' h=>lift (Rh (o8 h 60) o o') h k) (ak o.t 2)) (ak a.t 6)
def Rm (a b:V):M Bool:=λh k=>JA a b h λx h=>k (neg x) h
def cLt (a b:V):M Bool:=lift (Sn a b)
def Zh (a b:V):M Bool:=lift (HK b a)
def cLe (a b:V):M Bool:=λh k=>lift (Sn b a) h λx h=>k (neg x) h
def cGe (a b:V):M Bool:=λh k=>lift (HK a b) h λx h=>k (neg x) h
def cIs (a b:V):M Bool:=λh k=>af aq (lift (isNone a) h k) (ak b.t 0)
def JT (a b:V):M Bool:=λh k=>af aq (lift (isNone a) h λx h=>k (neg x) h) (ak b.t 0)
def JU (a b:V):M Bool:=λh k=>Yp a b h λx h=>k (neg x) h
def Rn (v i:V):M V:=λh k=>af
 (look v h λo h=>af (af aq (lift (iT i o.kvs) h λr h=>lift r h k) (ak o.t 2)) (lift (yJ i (len o.xs)) h λj h=>lift (sW o.xs j) h k) (ak o.t 1))
 (lift (yJ i (len v.xs)) h λj h=>lift (sW v.xs j) h k) (ak v.t 5)
def Sv (v lo hi:V):M V:=λh k=>af (EW v h λxs h=>lift (JN xs lo hi) h λl h=>new (bK l) h k) (lift (JN v.l lo hi) h λb h=>kB b h k) (ak v.t 4)
def Ro (v i x:V):M V:=λh k=>look v h λo h=>af (af aq (lift (dput i x o.kvs) h λkvs h=>put v.n (d7 kvs (cnt o.c o.kvs kvs)) h k) (ak o.t 2))
 (lift (yJ i (len o.xs)) h λj h=>put v.n (bK (ET x o.xs j)) h k) (ak o.t 1)
def attr (v:V) (n:Nat):M V:=λh k=>look v h λo h=>af aq (lift (find n o.fs) h k) (ak o.t 0)
def setAt (v:V) (n:Nat) (x:V) (cs:List (Nat×Nat)):M V:=λh k=>look v h λo h=>af aq (aA aq (λu_=>put v.n (uC o.c (setIn n x o.fs)) h k) (find o.c cs)) (ak o.t 0)
noncomputable def fu:XE:=⟨λu_ u_ u_ u_=>aq⟩
noncomputable def xC (v:V):XE:=⟨λu_ u_ h k=>k v h⟩
def qB (x:Nat):XE:=⟨λu_ ρ h k=>aA aq (λv=>k v h) (find x ρ.loc)⟩
def Dj (x:Nat):XE:=⟨λu_ ρ h k=>aA aq (λv=>k v h) (find x ρ.out)⟩
noncomputable def yL (f:V->V->M V) (a b:XE):XE:=⟨λr ρ h k=>a.f r ρ h λx h=>b.f r ρ h λy h=>f x y h k⟩
def Rp (JV:Bool) (a b:XE):XE:=⟨λr ρ h k=>a.f r ρ h λx h=>truth x h λt h=>af (k x h) (b.f r ρ h k) (Zf t JV)⟩
def VL (t:XT) (a b:XE):XE:=⟨λr ρ h k=>t.f r ρ h λx h=>af (b.f r ρ h k) (a.f r ρ h k) x⟩
def BZ (f:V->V->M Bool) (a b:XE):XE:=⟨λr ρ h k=>a.f r ρ h λx h=>b.f r ρ h λy h=>f x y h λt h=>k (vBool t) h⟩
noncomputable def ko:XL:=⟨λu_ u_ h k=>k [] h⟩
noncomputable def dS (e:XE) (l:XL):XL:=⟨λr ρ h k=>e.f r ρ h λv h=>l.f r ρ h λvs h=>k (v::vs) h⟩
noncomputable def kP (f:XE) (l:XL):XE:=⟨λr ρ h k=>f.f r ρ h λg h=>l.f r ρ h λvs h=>r g vs h k⟩
def B0 (a:XE):XE:=⟨λr ρ h k=>a.f r ρ h λv h=>gS v h λl h=>with1 l λv=>af aq (af aq (k (aW 1) h) (allInts v.xs)) (ak v.t 5)⟩
def B3 (acc:V) (k:V->aev->Option Res) (n:Nat):Nat->aev->Option Res:=gw (λu_ u_=>aq) (λu_ ih i h=>aA aq (λo=>af aq (match o.bs with
 |[c,d]=>aA aq (λq=>af aq (aQ (k acc ⟨HT.ins qT h.l i,h.n⟩) (λx r u_=>aA (k acc ⟨HT.ins qT h.l i,h.n⟩) (λy=>Di acc x y ⟨HT.ins (uD r c (aG d 1)) h.l i,h.n⟩ λu_ h=>ih i h) (sW q.xs d)) o.xs) (ak q.t 1)) (HT.get h.l c)
 |_=>aq) (ak o.t 7)) (HT.get h.l i)) n
def yM (a b:XE):XE:=⟨λr ρ h k=>a.f r ρ h λx h=>b.f r ρ h λy h=>af aq (gS y h λu_ h=>new (uD x.xs y.n 0) h λz h=>look z h λo h=>af aq (new (d7 [] 0) h λacc h=>B3 acc k 2000 z.n h) (ak o.t 7)) (ak x.t 5)⟩
def vY (o:XE) (l':XL):XE:=⟨λr ρ h k=>o.f r ρ h λov h=>look ov h λo h=>af aq (l'.f r ρ h λvs h=>lift (xU vs) h λl h=>look ov h λo h=>af aq (put ov.n (bK (app o.xs l)) h k) (ak o.t 1)) (ak o.t 1)⟩
def xJ (d:Bool) (a:XE):XE:=⟨λr ρ h k=>jump aj h λh=>a.f r ρ h λv h=>jump d h λh=>k v h⟩
structure OF where
 f:V->aeu->List V->M V
 ok:Nat->Bool
structure VF where
 f:V->List V->M V
 ok:Nat->Bool
def Dk (o:XE) (x:Nat) (ms:List (Nat×Nat)) (fo:OF) (fv:VF) (l:XL):XE:=⟨λr ρ h k=>o.f r ρ h λov h=>
 af (af aq (l.f r ρ h λvs h=>fv.f ov vs h k) (fv.ok ov.t))
  (look ov h λo h=>af (af aq (l.f r ρ h λvs h=>look ov h λo' h=>af aq (fo.f ov o' vs h k) (ak o'.t o.t)) (fo.ok o.t))
   (aA (aA aq (λg=>l.f r ρ h λvs h=>r (bL g) (ov::vs) h k) (find o.c ms)) (λu_=>aq) (find x o.fs)) (ak o.t 0)) (ak ov.t 6)⟩
def Rq (o:XE) (x:Nat):XE:=⟨λr ρ h k=>o.f r ρ h λov h=>attr ov x h k⟩
def VM (o i:XE):XE:=⟨λr ρ h k=>o.f r ρ h λov h=>i.f r ρ h λiv h=>Rn ov iv h k⟩
def Sw (o lo hi:XE):XE:=⟨λr ρ h k=>o.f r ρ h λov h=>lo.f r ρ h λa h=>hi.f r ρ h λb h=>Sv ov a b h k⟩
def wY (l:XL):XE:=⟨λr ρ h k=>l.f r ρ h λvs h=>new (bK vs) h k⟩
def B4 (l:XL):XE:=⟨λr ρ h k=>l.f r ρ h λvs h=>kT vs h k⟩
noncomputable def VN:XP:=⟨λu_ u_ h k=>k [] h⟩
noncomputable def Rr (a b:XE) (l:XP):XP:=⟨λr ρ h k=>a.f r ρ h λx h=>b.f r ρ h λy h=>l.f r ρ h λvs h=>k ((x,y)::vs) h⟩
noncomputable def VO:XP:=⟨λu_ u_ u_ u_=>aq⟩
def JW (l:XP):XE:=⟨λr ρ h k=>new (d7 [] 0) h λacc h=>l.f r ρ h λvs h=>vX acc vs h k⟩
def turns (r:Ap) (tgt:XA) (ifs:XT) (use:Env->M V) (k:aev->Option Res) (n:Nat):It->Env->aev->Option Res:=
 gw (λu_ u_ u_=>aq) (λu_ ih it ρ h=>vW it h k λv it h=>tgt.f r ρ v h λρ h=>ifs.f r ρ h λb h=>af (ih it ρ h) (use ρ h λu_ h=>ih it ρ h) b) n
def compEnv (ρ:Env):Env:=⟨[],app ρ.loc ρ.out⟩
def pN (elt:XE) (r:Ap) (acc:V) (ρ:Env):M V:=λh k=>elt.f r ρ h λa h=>look acc h λo h=>af aq (put acc.n (bK (app o.xs [a])) h k) (ak o.t 1)
def VP (a b:XE) (r:Ap) (acc:V) (ρ:Env):M V:=λh k=>a.f r ρ h λx h=>b.f r ρ h λy h=>look acc h λo h=>af aq (lift (dput x y o.kvs) h λkvs h=>put acc.n (d7 kvs (cnt o.c o.kvs kvs)) h k) (ak o.t 2)
def yN (elt:XE) (tgt:XA) (it:XI) (ifs:XT):XE:=⟨λr ρ h k=>it.f r ρ h λit h=>new (bK []) h λacc h=>turns r tgt ifs (pN elt r acc) (k acc) 2000 it (compEnv ρ) h⟩
def EY (a b:XE) (tgt:XA) (it:XI) (ifs:XT):XE:=⟨λr ρ h k=>it.f r ρ h λit h=>new (d7 [] 0) h λacc h=>turns r tgt ifs (VP a b r acc) (k acc) 2000 it (compEnv ρ) h⟩
def EZ (l:XL):XI:=⟨λr ρ h k=>l.f r ρ h λvs h=>lift (xU vs) h λl h=>k (gh (dR l)) h⟩
def VQ (a b:XE):XI:=⟨λr ρ h k=>a.f r ρ h λx h=>b.f r ρ h λy h=>gS x h λu_ h=>gS y h λu_ h=>new (ES x.n 0 y.n 0) h λz h=>look z h λo h=>af aq (k (yK z.n) h) (ak o.t 5)⟩
def Rt (a:XE):XI:=⟨λr ρ h k=>a.f r ρ h λx h=>af aq (k (vV 0 (dR x.xs)) h) (ak x.t 5)⟩
def iE (a:XE):XI:=⟨λr ρ h k=>a.f r ρ h λx h=>JO x h k⟩
noncomputable def HM:XI:=⟨λu_ u_ u_ u_=>aq⟩
def VS (t:XT):XT:=⟨λr ρ h k=>t.f r ρ h λx h=>k (neg x) h⟩
def Dl (JV:Bool) (a b:XT):XT:=⟨λr ρ h k=>a.f r ρ h λx h=>af (k x h) (b.f r ρ h k) (Zf x JV)⟩
def VT (t a b:XT):XT:=⟨λr ρ h k=>t.f r ρ h λx h=>af (b.f r ρ h k) (a.f r ρ h k) x⟩
noncomputable def E0 (f:V->V->M Bool) (a b:XE):XT:=⟨λr ρ h k=>a.f r ρ h λx h=>b.f r ρ h λy h=>f x y h k⟩
def Ru (f g:V->V->M Bool) (a b c:XE):XT:=⟨λr ρ h k=>a.f r ρ h λx h=>b.f r ρ h λy h=>f x y h λt h=>af (k aj h) (c.f r ρ h λz h=>g y z h k) t⟩
def tE (a:XE):XT:=⟨λr ρ h k=>a.f r ρ h λx h=>truth x h k⟩
noncomputable def qW:XT:=⟨λu_ u_ u_ u_=>aq⟩
noncomputable def jh:XT:=⟨λu_ u_ h k=>k H h⟩
def Rv (a b:XT):XT:=⟨λr ρ h k=>a.f r ρ h λx h=>af (k aj h) (b.f r ρ h k) x⟩
def kq (x:Nat):XA:=⟨λu_ ρ v h k=>k (gg ρ x v) h⟩
def storeAll (xs:List Nat):List V->Env->Option Env:=aQ (λvs ρ=>aQ (O ρ) (λu_ u_ u_=>aq) vs) (λx u_ ih vs ρ=>aQ aq (λv vs u_=>ih vs (gg ρ x v)) vs) xs
def Dm (v:V):M (List V):=λh k=>af (gS v h k) (k v.xs h) (ak v.t 5)
def B5 (xs:List Nat):XA:=⟨λu_ ρ v h k=>Dm v h λvs h=>lift (storeAll xs vs ρ) h k⟩
def Rw (o:XE) (x:Nat) (cs:List (Nat×Nat)):XA:=⟨λr ρ v h k=>o.f r ρ h λov h=>setAt ov x v cs h λu_ h=>k ρ h⟩
def aSub (o i:XE):XA:=⟨λr ρ v h k=>o.f r ρ h λov h=>i.f r ρ h λiv h=>Ro ov iv v h λu_ h=>k ρ h⟩
noncomputable def B6:XA:=⟨λu_ u_ u_ u_ u_=>aq⟩
structure XS where
 f:Ap->Env->aev->(Env->aev->Option Res)->(V->aev->Option Res)->Option Res
noncomputable def lq:XS:=⟨λu_ u_ u_ u_ u_=>aq⟩
noncomputable def vZ:XS:=⟨λu_ ρ h kn u_=>kn ρ h⟩
noncomputable def fB (a b:XS):XS:=⟨λr ρ h kn kr=>a.f r ρ h (λρ h=>b.f r ρ h kn kr) kr⟩
def sJ (d:Bool) (a:XS):XS:=⟨λr ρ h kn kr=>jump aj h λh=>a.f r ρ h (λρ h=>jump d h λh=>kn ρ h) (λv h=>jump d h λh=>kr v h)⟩
noncomputable def Rx (e:XE):XS:=⟨λr ρ h kn u_=>e.f r ρ h λu_ h=>kn ρ h⟩
noncomputable def yO (e:XE):XS:=⟨λr ρ h u_ kr=>e.f r ρ h kr⟩
noncomputable def jv (t:XA) (e:XE):XS:=⟨λr ρ h kn u_=>e.f r ρ h λv h=>t.f r ρ v h kn⟩
def Dn (t:XT) (a b:XS):XS:=⟨λr ρ h kn kr=>t.f r ρ h λx h=>af (b.f r ρ h kn kr) (a.f r ρ h kn kr) x⟩
def forL (r:Ap) (tgt:XA) (body:XS) (kn:Env->aev->Option Res) (kr:V->aev->Option Res) (n:Nat):It->Env->aev->Option Res:=
 gw (λu_ u_ u_=>aq) (λu_ ih it ρ h=>vW it h (kn ρ) λv it h=>tgt.f r ρ v h λρ h=>body.f r ρ h (λρ h=>ih it ρ h) kr) n
def VU (tgt:XA) (it:XI) (body:XS):XS:=⟨λr ρ h kn kr=>it.f r ρ h λit h=>forL r tgt body kn kr 2000 it ρ h⟩
def E1 (r:Ap) (t:XT) (body:XS) (kn:Env->aev->Option Res) (kr:V->aev->Option Res) (n:Nat):Env->aev->Option Res:=
 gw (λu_ u_=>aq) (λu_ ih ρ h=>t.f r ρ h λx h=>af (kn ρ h) (body.f r ρ h (λρ h=>ih ρ h) kr) x) n
def JX (t:XT) (body:XS):XS:=⟨λr ρ h kn kr=>E1 r t body kn kr 100 ρ h⟩
def mkBin (op:Operator) (a b:XE):XE:=match op with
 | .Add=>yL VB a b
 | .Sub=>yL VC a b
 | .Mult=>yL VD a b
 | .FloorDiv=>yL VE a b
 | .Mod=>yL VG a b
 | .Pow=>yL VH a b
 | .LShift=>yL VI a b
 | .RShift=>yL VJ a b
 | .BitAnd=>yL VK a b
 | .BitOr=>yL bOr a b
 |_=>fu
structure CF where
 f:V->V->M Bool
def E2 (op:CmpOp):CF:=match op with
 | .Eq=>⟨JA⟩
 | .NotEq=>⟨Rm⟩
 | .Lt=>⟨cLt⟩
 | .Gt=>⟨Zh⟩
 | .LtE=>⟨cLe⟩
 | .GtE=>⟨cGe⟩
 | .Is=>⟨cIs⟩
 | .IsNot=>⟨JT⟩
 | .In=>⟨Yp⟩
 | .NotIn=>⟨JU⟩
section
variable (G:Str->Option V) (Ms:Nat->List (Nat×Nat))
def Sx (x:Nat):OF:=af (af (af (af ⟨Rk,λu_=>aj⟩ ⟨qV,λt=>ak t 2⟩ (ak x (nm "setdefault"))) ⟨Ss,λt=>ak t 2⟩ (ak x (nm "get"))) ⟨xW,λt=>af (ak t 3) H (ak t 1)⟩ (ak x (nm "extend"))) ⟨BX,λt=>ak t 1⟩ (ak x (nm "append"))
def Sy (x:Nat):VF:=af (af ⟨Rl,λu_=>aj⟩ ⟨Gs,λt=>af (ak t 4) H (ak t 3)⟩ (ak x (nm "join"))) ⟨EX,λt=>ak t 5⟩ (ak x (nm "index"))
def JY:Const->XE
 | .none=>xC dc
 | .bool b=>xC (vBool b)
 | .int i=>xC (mD i)
 | .str s=>af fu (xC (vStr s.cps.toList)) (bO (len s.cps.toList) 1000000)
 | .bytes b=>af fu (xC (fq (kM bS b))) (bO (len b) 1000000)
 |_=>fu
def JZ (x:Str):XE:=aA fu (λv=>xC v) (G x)
def J3 (names:List (Str×aM)) (x:Str):XE:=match aY x with
 |false=>fu
 |true=>match aZ (nm x) names with
  |some k=>match k with
   | .local=>qB (nm x)
   | .cell=>qB (nm x)
   | .free=>Dj (nm x)
   | .globalImplicit=>JZ G x
   |_=>fu
  |none=>fu
def m9 (ns:List (Str×aM)):List (Str×aM)->Bool
 |[]=>H
 |(x,k)::r=>match aY x with
  |false=>aj
  |true=>match k with
   | .free=>match aZ (nm x) ns with
    |some .cell=>m9 ns r
    |some .free=>m9 ns r
    |_=>aj
   | .local=>m9 ns r
   | .globalImplicit=>m9 ns r
   |_=>aj
def sH (x:Nat) (l:List (Str×aM)):Bool:=match aZ x l with
 |some _=>H
 |none=>aj
def Dp:List (Str×aM)->Bool
 |[]=>H
 |p::r=>match sH (nm p.1) r with
  |true=>aj
  |false=>Dp r
def B7 (l:List (Str×aM)):Bool:=match sH (nm "__debug__") l with
 |true=>aj
 |false=>match sH (nm "__classdict__") l with
  |true=>aj
  |false=>Dp l
noncomputable def isFn:ScopeKind->Bool
 | .function=>H
 |_=>aj
noncomputable def gH:List (Str×aM)->Bool
 |[]=>aj
 |p::r=>match p.2 with
  | .local=>H
  |_=>gH r
def yP (ns:List (Str×aM)) (sc:Scope):Bool:=match m9 ns sc.names with
 |true=>match isFn sc.kind with
  |true=>match gH sc.names with
   |true=>B7 sc.names
   |false=>aj
  |false=>aj
 |false=>aj
def tgtName (ns:List (Str×aM)):Expr->Option Nat
 | .Name x _=>match aY x with
  |false=>aq
  |true=>match aZ (nm x) ns with
   |some k=>match k with
    | .local=>O (nm x)
    | .cell=>O (nm x)
    |_=>aq
   |none=>aq
 |_=>aq
def fY (ns:List (Str×aM)):List Expr->Option (List Nat)
 |[]=>O []
 |e::r=>match tgtName ns e with
  |some x=>match fY ns r with
   |some l=>O (x::l)
   |none=>aq
  |none=>aq
def N1 (x:Nat) (l:List Nat):Bool:=aQ aj (λy u_ ih=>af ih H (ak x y)) l
def ie:List Nat->Bool
 |[]=>H
 |x::r=>match N1 x r with
  |true=>aj
  |false=>ie r
def lY (ns:List (Str×aM)) (e:Expr):XA:=match e with
 | .Tuple es _ _=>match fY ns es with
  |some l=>match ie l with
   |true=>B5 l
   |false=>B6
  |none=>B6
 |e=>match tgtName ns e with
  |some x=>kq x
  |none=>B6
noncomputable def isSlice:Expr->Bool
 | .Slice .. =>H
 |_=>aj
noncomputable def jx:Expr->Bool
 | .ListComp .. =>H
 | .SetComp .. =>H
 | .DictComp .. =>H
 |_=>aj
def nO (t e:Expr):Bool:=match t with
 | .Tuple .. =>match e with
  | .Tuple vs _ _=>af H (vs.all (foldedForSure 8)) (vs.all (constantsAlone 8))
  |_=>H
 | .Starred .. =>aj
 |_=>H
noncomputable def kQ:Expr->Bool
 | .Set .. =>H
 |_=>aj
def lZ (e:Expr):Bool:=match e with
 | .Call f _ _ _=>match f with
  | .Name id _=>af H aj (ak (nm id) (nm "super"))
  |_=>H
 |_=>H
noncomputable def iP:Expr->Bool
 | .Tuple .. =>H
 |_=>aj
noncomputable def bk:Expr->Bool
 | .Starred .. =>H
 |_=>aj
def Sz (ns:List (Str×aM)):Expr->Option Nat
 | .Name x _=>match aY x with
  |true=>match aZ (nm x) ns with
   |some k=>match k with
    | .globalImplicit=>match G x with
     |some v=>af aq (O v.n) (ak v.t 9)
     |none=>aq
    |_=>aq
   |none=>aq
  |false=>aq
 |_=>aq
def jT (ns:List (Str×aM)) (n:Nat) (e:Expr):Bool:=aA aj (λm=>ak m n) (Sz G ns e)
def Gu (f:Expr->XE):List Expr->XL
 |[]=>ko
 |e::r=>dS (f e) (Gu f r)
def mkPairs (f:Expr->XE):List (Option Expr)->List Expr->XP
 |[],[]=>VN
 |k::ks,e::es=>match k with
  |some k=>Rr (f k) (f e) (mkPairs f ks es)
  |none=>VO
 |_,_=>VO
noncomputable def l0:List (Option Expr)->List Expr->Bool
 |[],[]=>H
 |k::ks,_::es=>match k with
  |some _=>l0 ks es
  |none=>aj
 |_,_=>aj
def Gv (f:Expr->XE):Option Expr->XE
 |none=>xC dc
 |some e=>f e
def A6 (ns:List (Str×aM)) (f:Expr->XE) (e:Expr):XI:=match e with
 | .Call g args kws _=>match kws with
  |[]=>match args.any bk with
   |true=>HM
   |false=>match jT G ns 1 g with
    |true=>EZ (Gu f args)
    |false=>match jT G ns 9 g with
     |true=>match args with
      |[a,b]=>VQ (f a) (f b)
      |_=>HM
     |false=>match jT G ns 10 g with
      |true=>match args with
       |[a]=>Rt (f a)
       |_=>HM
      |false=>iE (f e)
  |_=>HM
 |_=>iE (f e)
def pairsOk (ns:List (Str×aM)) (t e:Expr):Bool:=match e with
 | .Call g _ _ _=>match jT G ns 9 g with
  |true=>iP t
  |false=>match jT G ns 10 g with
   |true=>iP t
   |false=>H
 | .Set .. =>aj
 |_=>H
def inner (ns:List (Str×aM)) (n:Nat) (e:Expr):Option (List Expr):=match e with
 | .Call g args kws _=>match kws with
  |[]=>match args.any bk with
   |true=>aq
   |false=>match jT G ns n g with
    |true=>O args
    |false=>aq
  |_=>aq
 |_=>aq
def Ry (ns:List (Str×aM)) (f:Expr->XE) (g:Expr) (args:List Expr):XE:=match args with
 |[a]=>match jT G ns 0 g with
  |true=>match inner G ns 7 a with
   |some [a]=>B0 (f a)
   |_=>kP (f g) (Gu f args)
  |false=>match jT G ns 6 g with
   |true=>match inner G ns 9 a with
    |some [a,b]=>yM (f a) (f b)
    |_=>kP (f g) (Gu f args)
   |false=>kP (f g) (Gu f args)
 |_=>kP (f g) (Gu f args)
def HN (f:Expr->XE) (o:Expr) (x:Nat) (args:List Expr):XE:=Dk (f o) x (Ms x) (Sx x) (Sy x) (Gu f args)
def Rz (ns:List (Str×aM)) (f:Expr->XE) (o:Expr) (m:Str) (args:List Expr):XE:=match ak (nm m) (nm "extend") with
 |true=>match args with
  |[a]=>match inner G ns 1 a with
   |some as=>vY (f o) (Gu f as)
   |none=>HN Ms f o (nm m) args
  |_=>HN Ms f o (nm m) args
 |false=>HN Ms f o (nm m) args
mutual
def cS:Nat->List (Str×aM)->Expr->XE
 |0,_,_=>fu
 |n+1,ns,e=>match e with
  | .Name x _=>J3 G ns x
  | .Constant c _ _=>JY c
  | .BinOp a op b _=>mkBin op (cS n ns a) (cS n ns b)
  | .UnaryOp op a _=>match op with
   | .USub=>match a with
    | .Constant c _ _=>match c with
     | .int i=>xC (mD (-i))
     |_=>fu
    |_=>fu
   |_=>fu
  | .BoolOp op es _=>match es with
   |[a,b]=>Rp (match op with| .And=>H| .Or=>aj) (cS n ns a) (cS n ns b)
   |_=>fu
  | .IfExp t a b _=>VL (oO n ns t) (cS n ns a) (cS n ns b)
  | .Compare a ops es _=>match ops with
   |[op]=>match es with
    |[b]=>match kQ b with
     |true=>fu
     |false=>BZ (E2 op).f (cS n ns a) (cS n ns b)
    |_=>fu
   |_=>fu
  | .Call f args kws p=>match kws with
   |[]=>match args.any bk with
    |true=>fu
    |false=>match f with
     | .Attribute o m ap=>match aY m with
      |true=>match lZ o with
       |true=>match ak ap.endLine p.line with
        |true=>match bE (len args) 30 with
         |true=>Rz G Ms ns (cS n ns) o m args
         |false=>fu
        |false=>fu
       |false=>fu
      |false=>fu
     |f=>Ry G ns (cS n ns) f args
   |_=>fu
  | .Attribute o a _=>match aY a with
   |true=>match lZ o with
    |true=>Rq (cS n ns o) (nm a)
    |false=>fu
   |false=>fu
  | .Subscript o i _=>match i with
   | .Slice lo hi st _=>match st with
    |none=>Sw (cS n ns o) (Gv (cS n ns) lo) (Gv (cS n ns) hi)
    |some _=>fu
   |i=>VM (cS n ns o) (cS n ns i)
  | .List es _=>match es.any bk with
   |true=>fu
   |false=>wY (Gu (cS n ns) es)
  | .Tuple es _ _=>match es.any bk with
   |true=>fu
   |false=>B4 (Gu (cS n ns) es)
  | .Dict ks es _=>match bE (len ks) 16 with
   |true=>match l0 ks es with
    |true=>JW (mkPairs (cS n ns) ks es)
    |false=>fu
   |false=>fu
  | .ListComp elt gens sc _=>match gens with
   |[⟨tgt,it,ifs,a⟩]=>match Int.decEq a 0 with
    | .isTrue _=>match yP ns sc with
     |true=>match pairsOk G ns tgt it with
      |true=>yN (cS n sc.names elt) (lY sc.names tgt) (A6 G ns (cS n ns) it) (uH n sc.names ifs)
      |false=>fu
     |false=>fu
    | .isFalse _=>fu
   |_=>fu
  | .DictComp x y gens sc _=>match gens with
   |[⟨tgt,it,ifs,a⟩]=>match Int.decEq a 0 with
    | .isTrue _=>match yP ns sc with
     |true=>match pairsOk G ns tgt it with
      |true=>EY (cS n sc.names x) (cS n sc.names y) (lY sc.names tgt) (A6 G ns (cS n ns) it) (uH n sc.names ifs)
      |false=>fu
     |false=>fu
    | .isFalse _=>fu
   |_=>fu
  |_=>fu
def oO:Nat->List (Str×aM)->Expr->XT
 |0,_,_=>qW
 |n+1,ns,e=>match e with
  | .UnaryOp op a p=>match op with
   | .Not=>VS (oO n ns a)
   |op=>tE (cS n ns (.UnaryOp op a p))
  | .BoolOp op es _=>E3 n ns (match op with| .And=>H| .Or=>aj) es
  | .IfExp t a b _=>VT (oO n ns t) (oO n ns a) (oO n ns b)
  | .Compare a ops es _=>match ops with
   |[op]=>match es with
    |[b]=>match kQ b with
     |true=>qW
     |false=>E0 (E2 op).f (cS n ns a) (cS n ns b)
    |_=>qW
   |[op,Zi]=>match es with
    |[b,c]=>match kQ b,kQ c with
     |false,aj=>Ru (E2 op).f (E2 Zi).f (cS n ns a) (cS n ns b) (cS n ns c)
     |_,_=>qW
    |_=>qW
   |_=>qW
  |e=>tE (cS n ns e)
def E3:Nat->List (Str×aM)->Bool->List Expr->XT
 |0,_,_,_=>qW
 |n+1,ns,b,es=>match es with
  |[]=>qW
  |e::r=>match r with
   |[]=>oO n ns e
   |r=>Dl b (oO n ns e) (E3 n ns b r)
def uH:Nat->List (Str×aM)->List Expr->XT
 |0,_,_=>qW
 |n+1,ns,es=>match es with
  |[]=>jh
  |e::r=>Rv (oO n ns e) (uH n ns r)
end
def Dq (ns:List (Str×aM)) (e:Expr):XA:=match e with
 | .Attribute o a _=>match aY a with
  |true=>Rw (cS G Ms 30 ns o) (nm a) (Ms (aG (cJ (nm a) 128) 1))
  |false=>B6
 | .Subscript o i _=>match isSlice i with
  |true=>B6
  |false=>aSub (cS G Ms 30 ns o) (cS G Ms 30 ns i)
 |e=>lY ns e
mutual
def Dr:Nat->List (Str×aM)->Stmt->XS
 |0,_,_=>lq
 |n+1,ns,s=>match s with
  | .Expr e _=>match jx e with
   |true=>lq
   |false=>Rx (cS G Ms 30 ns e)
  | .Return e _=>yO (Gv (cS G Ms 30 ns) e)
  | .Assign ts e _=>match ts with
   |[t]=>match nO t e with
    |true=>jv (Dq G Ms ns t) (cS G Ms 30 ns e)
    |false=>lq
   |_=>lq
  | .If t a b _=>Dn (oO G Ms 30 ns t) (qX n ns a) (qX n ns b)
  | .For t it body els _=>match els with
   |[]=>match pairsOk G ns t it with
    |true=>VU (lY ns t) (A6 G ns (cS G Ms 30 ns) it) (qX n ns body)
    |false=>lq
   |_=>lq
  | .While t body els _=>match els with
   |[]=>JX (oO G Ms 30 ns t) (qX n ns body)
   |_=>lq
  |_=>lq
def qX:Nat->List (Str×aM)->List Stmt->XS
 |0,_,_=>lq
 |n+1,ns,ss=>match ss with
  |[]=>vZ
  |s::r=>fB (Dr n ns s) (qX n ns r)
end
end
section
variable (G:Str->Option V) (Ms:Nat->List (Nat×Nat))
def SA (f:Expr):Bool:=match f with
 | .Attribute _ m _=>ak (nm m) (nm "told")
 | .Name x _=>af (ak (nm x) (nm "tuple")) H (ak (nm x) (nm "layout_told"))
 |_=>aj
noncomputable def isDone (s:Stmt):Bool:=match s with
 | .If .. =>H
 | .Assign ts _ _=>match ts with
  |[t]=>match t with
   | .Subscript .. =>H
   |_=>aj
  |_=>aj
 |_=>aj
def nQ:Nat->List (Str×aM)->Expr->XE
 |0,_,_=>fu
 |n+1,ns,e=>match e with
  | .Tuple es _ _=>match es.any bk with
   |true=>fu
   |false=>B4 (Gu (nQ n ns) es)
  | .List es _=>match es.any bk with
   |true=>fu
   |false=>wY (Gu (nQ n ns) es)
  | .Compare a ops es _=>match ops with
   |[op]=>match es with
    |[b]=>match kQ b with
     |true=>fu
     |false=>BZ (E2 op).f (nQ n ns a) (nQ n ns b)
    |_=>fu
   |_=>fu
  | .Call f args kws p=>xJ (SA f) (cS G Ms 30 ns (.Call f args kws p))
  |e=>cS G Ms 30 ns e
def J4 (ns:List (Str×aM)) (e:Expr):XE:=match e with
 | .ListComp elt gens sc _=>match gens with
  |[⟨tgt,it,ifs,a⟩]=>match Int.decEq a 0 with
   | .isTrue _=>match yP ns sc with
    |true=>match pairsOk G ns tgt it with
     |true=>yN (nQ G Ms 30 sc.names elt) (lY sc.names tgt) (A6 G ns (cS G Ms 30 ns) it) (uH G Ms 30 sc.names ifs)
     |false=>fu
    |false=>fu
   | .isFalse _=>fu
  |_=>fu
 |_=>fu
def N2 (ns:List (Str×aM)) (e:Expr):XT:=match e with
 | .Compare a ops es _=>match ops with
  |[op]=>match es with
   |[b]=>match kQ b with
    |true=>qW
    |false=>E0 (E2 op).f (nQ G Ms 30 ns a) (nQ G Ms 30 ns b)
   |_=>qW
  |_=>qW
 |_=>qW
def E4 (ns:List (Str×aM)) (e:Expr):XT:=match e with
 | .BoolOp op es _=>match es with
  |[a,b]=>Dl (match op with| .And=>H| .Or=>aj) (N2 G Ms ns a) (N2 G Ms ns b)
  |_=>qW
 | .Compare a ops es p=>N2 G Ms ns (.Compare a ops es p)
 |e=>oO G Ms 30 ns e
noncomputable def xX:Expr->Bool
 | .Call .. =>H
 |_=>aj
noncomputable def E5:Expr->Bool
 | .ListComp .. =>H
 |_=>aj
def J5 (ns:List (Str×aM)) (e:Expr):XE:=match xX e with
 |true=>cS G Ms 30 ns e
 |false=>nQ G Ms 30 ns e
def J6 (ns:List (Str×aM)) (e:Expr):XE:=match E5 e with
 |true=>J4 G Ms ns e
 |false=>match jx e with
  |true=>fu
  |false=>J5 G Ms ns e
noncomputable def N3:Expr->Bool
 | .Attribute .. =>H
 |_=>aj
def J8 (ns:List (Str×aM)) (e:Expr):XE:=match e with
 | .Call f args kws p=>match kws with
  |[]=>match args.any bk with
   |true=>fu
   |false=>match N3 f with
    |true=>cS G Ms 30 ns (.Call f args [] p)
    |false=>kP (cS G Ms 30 ns f) (Gu (nQ G Ms 30 ns) args)
  |_=>fu
 |e=>nQ G Ms 30 ns e
def E6:XS:=⟨λu_ ρ h kn u_=>jump aj h λh=>jump aj h λh=>kn ρ h⟩
noncomputable def J9:Expr->Bool
 | .Subscript .. =>H
 |_=>aj
def Ka (ns:List (Str×aM)) (t e:Expr):XE:=match J9 t with
 |true=>match xX e with
  |true=>xJ H (cS G Ms 30 ns e)
  |false=>fu
 |false=>J6 G Ms ns e
def Kc (ns:List (Str×aM)) (s:Stmt):XS:=match s with
 | .Assign ts e _=>match ts with
  |[t]=>match J9 t with
   |true=>match xX e with
    |true=>match nO t e with
     |true=>jv (Dq G Ms ns t) (xJ H (cS G Ms 30 ns e))
     |false=>lq
    |false=>lq
   |false=>lq
  |_=>lq
 |s=>Dr G Ms 100 ns s
def Kd (ns:List (Str×aM)) (a:List Stmt):XS:=match a with
 |[s]=>fB (Kc G Ms ns s) vZ
 |_=>lq
def E7 (ns:List (Str×aM)) (s:Stmt):XS:=match s with
 | .Return e _=>match e with
  |some e=>yO (J8 G Ms ns e)
  |none=>lq
 | .Assign ts e _=>match ts with
  |[t]=>match nO t e with
   |true=>jv (Dq G Ms ns t) (Ka G Ms ns t e)
   |false=>lq
  |_=>lq
 | .If t a b _=>match b with
  |[]=>Dn (E4 G Ms ns t) (Kd G Ms ns a) E6
  |_=>lq
 |s=>Dr G Ms 100 ns s
def Ke (ns:List (Str×aM)):List Stmt->XS
 |[]=>vZ
 |s::r=>fB (sJ (isDone s) (E7 G Ms ns s)) (Ke ns r)
end
def VW (f:Expr->XE) (e:Expr):XE:=match e with
 | .Lambda _ _ _ pos=>xC (NS (aG (cJ pos.line 4096) pos.col))
 |e=>f e
def qY (G:Str->Option V) (Ms:Nat->List (Nat×Nat)) (ns:List (Str×aM)) (b:List Stmt):XS:=match b with
 |[.Return (O (.Dict ks vs _)) _]=>match bE (len ks) 16 with
  |true=>match l0 ks vs with
   |true=>fB (yO (JW (mkPairs (VW (cS G Ms 30 ns)) ks vs))) vZ
   |false=>lq
  |false=>lq
 |b=>qX G Ms 100 ns b
structure Fn where
 params:List Nat
 Ds:List V
 body:XS
 prim:Nat
structure Lm where
 params:List Nat
 body:XE
structure B8 where
 lam:Nat->Option Lm
 fn:Nat->Option Fn
 init:Nat->Option Nat
def nR (d:List V) (xs:List Nat):List V->Option (List (Nat×V)):=aQ (λvs=>af aq (O []) (isNil vs))
 (λx r ih vs=>aQ
  (af aq (aA aq (λv=>aA aq (λl=>O ((x,v)::l)) (ih [])) (sW d (ez (len d) (aG (len r) 1)))) (bO (aG (len r) 1) (len d)))
  (λv vs u_=>aA aq (λl=>O ((x,v)::l)) (ih vs)) vs) xs
def Zj (T:B8) (r:Ap) (a:Nat) (args:List V):M V:=λh k=>aA aq (λF=>af
 (with2 args λa w=>r w [a,bL F.prim,aW 0] h k)
 (aA aq (λl=>F.body.f r ⟨l,[]⟩ h (λu_ h=>k dc h) k) (nR F.Ds F.params args)) (ak F.prim 0)) (T.fn a)
def SD (T:B8) (r:Ap) (a:Nat) (args:List V):M V:=λh k=>lift (T.init a) h λf h=>new (uC a []) h λx h=>r (bL f) (x::args) h λv h=>af aq (k x h) (ak v.t 0)
def VX (T:B8) (r:Ap) (j:Nat) (args:List V):M V:=λh k=>lift (T.lam j) h λL h=>lift (nR [] L.params args) h λb h=>L.body.f r ⟨b,[]⟩ h k
def apply (T:B8) (r:Ap) (f:V) (args:List V):M V:=λh k=>af (af (af (af aq (VX T r f.n args h k) (ak f.t 10)) (SD T r f.n args h k) (ak f.t 8)) (BW f.n args h k) (ak f.t 9)) (Zj T r f.n args h k) (ak f.t 7)
def run (T:B8) (n:Nat):Ap:=gw (λu_ u_ u_ u_=>aq) (λu_ ih=>apply T ih) n
end
set_option backward.match.sparseCases true
theorem dH {a:Type} {x} {r} (e:(af aq x b:Option a)=O r):b=H/\x=O r:=by
 induction b using zB with
 |false=>exact fn e
 |true=>exact⟨rfl,e⟩
theorem sI {a:Type} {x y} {r} {p:Prop} (e:(af x y b:Option a)=O r) (t:b=H->y=O r->p) (f:b=aj->x=O r->p):p:=by
 induction b using zB with
 |false=>exact f rfl e
 |true=>exact t rfl e
theorem nT {b c:Type} {o} {f:c->Option b} {r} (e:(aA aq f o:Option b)=O r):∃a,o=O a/\f a=O r:=by
 induction o using zO with
 |none=>exact fn e
 |some a=>exact bV a rfl e
theorem aH {a b:Nat} (e:ak a b=H):a=b:=bN e
theorem fV {a b:Nat} (e:ak a b=aj):a≠b:=λh=>by rw [h,fy] at e;exact ft e
theorem bB (e:lift x h k=O r):∃a,x=O a/\k a h=O r:=nT e
theorem eX x p (l:List (Nat×α)):find x (p::l)=if x=p.1 then O p.2 else find x l:=by
 refine(?_:(af (find x l) (O p.2) (ak x p.1):Option α)=_)
 induction e:ak x p.1 using zB with
 |true=>exact U (if_pos (aH e)) rfl
 |false=>exact U (if_neg (fV e)) rfl
theorem HO x (v:α):setIn x v []=[(x,v)]:=rfl
theorem yQ x v p (l:List (Nat×α)):setIn x v (p::l)=if x=p.1 then(x,v)::l else p::setIn x v l:=by
 refine(?_:(af (p::setIn x v l) ((x,v)::l) (ak x p.1):List (Nat×α))=_)
 induction e:ak x p.1 using zB with
 |true=>exact U (if_pos (aH e)) rfl
 |false=>exact U (if_neg (fV e)) rfl
theorem jU (x y) v (l:List (Nat×α)):find y (setIn x v l)=if y=x then O v else find y l:=by
 induction l with
 |nil=>exact U (HO ..) (U (eX ..) rfl)
 |cons p l a=>
  refine U (yQ ..) ?_;by_cases h:x=p.1
  .refine U (if_pos h) (U (eX ..) (U (eX ..) ?_));by_cases hy:y=x
   .simp [hy]
   .rw [if_neg hy,if_neg hy,if_neg (by refine cL h ?_;exact hy)]
  .refine U (if_neg h) (U (eX ..) (U (eX ..) (U a ?_)));by_cases hy:y=p.1
   .rw [if_pos hy,if_neg (by refine U hy ?_;exact λe=>h e.symm),if_pos hy]
   .exact U (if_neg hy) (U (if_neg hy) rfl)
theorem mL (x y:List α):app x y=x++y:=by
 induction x with
 |nil=>rfl
 |cons a x b=>show a::app x y=_;refine U b ?_;rfl
theorem Dt x (l m:List (Nat×α)):find x (app l m)=(find x l).or (find x m):=by
 induction l with
 |nil=>rfl
 |cons p l a=>
  refine(?_:find x (p::app l m)=_);refine U (eX ..) (U (eX ..) (U a ?_));split<;>rfl
theorem len_eq (x:List α):len x=x.length:=by
 induction x with
 |nil=>rfl
 |cons a x b=>show aG (len x) 1=_;refine U b ?_;rfl
theorem mO (x:List α) i:sW x i=x[i]? :=by
 induction x generalizing i with
 |nil=>rfl
 |cons a x b=>
  induction i using zN with
  |zero=>rfl
  |succ i=>show sW x i=_;refine U (b ..) ?_;rfl
theorem HP v (x:List α) i:ET v x i=x.set i v:=by
 induction x generalizing i with
 |nil=>rfl
 |cons a x b=>
  induction i using zN with
  |zero=>rfl
  |succ i=>show a::ET v x i=_;refine U (b ..) ?_;rfl
theorem qb (f:α->β) x:kM f x=x.map f:=by
 induction x with
 |nil=>rfl
 |cons a x b=>show f a::kM f x=_;refine U b ?_;rfl
theorem Du (x:List α) i:yI x i=x.take i:=by
 induction x generalizing i with
 |nil=>simp [yI]
 |cons a x b=>
  induction i using zN with
  |zero=>rfl
  |succ i=>show a::yI x i=_;refine U (b ..) ?_;rfl
theorem Dv (x:List α) i:Df x i=x.drop i:=by
 induction x generalizing i with
 |nil=>simp [Df]
 |cons a x b=>
  induction i using zN with
  |zero=>rfl
  |succ i=>show Df x i=_;refine U (b ..) ?_;rfl
theorem TR.get_nil i:TR.nil.get i=none:=rfl
theorem TR.get_node v (l r) i:(TR.node v l r).get i=if i=0 then v else if i %2=0 then r.get ((i-1)/2) else l.get ((i-1)/2):=by
 refine(?_:(af (af (l.get ((i-1)/2)) (r.get ((i-1)/2)) (ak (i %2) 0)) v (ak i 0):Option aeu)=_)
 induction e:ak i 0 using zB with
 |true=>exact U (if_pos (aH e)) rfl
 |false=>
  refine U (if_neg (fV e)) ?_
  induction a:ak (i %2) 0 using zB with
  |true=>exact U (if_pos (aH a)) rfl
  |false=>exact U (if_neg (fV a)) rfl
theorem TR.Kg o (n i):TR.one o (n+1) i=if i=0 then .node (O o) .nil .nil else if i %2=0 then .node aq .nil (TR.one o n ((i-1)/2)) else .node aq (TR.one o n ((i-1)/2)) .nil:=by
 refine(?_:(af (af (.node aq (TR.one o n ((i-1)/2)) .nil) (.node aq .nil (TR.one o n ((i-1)/2))) (ak (i %2) 0)) (.node (O o) .nil .nil) (ak i 0):TR)=_)
 induction e:ak i 0 using zB with
 |true=>exact U (if_pos (aH e)) rfl
 |false=>
  refine U (if_neg (fV e)) ?_
  induction a:ak (i %2) 0 using zB with
  |true=>exact U (if_pos (aH a)) rfl
  |false=>exact U (if_neg (fV a)) rfl
theorem TR.ins_node o v (l r) i:TR.ins o (.node v l r) i=if i=0 then .node (O o) l r else if i %2=0 then .node v l (TR.ins o r ((i-1)/2)) else .node v (TR.ins o l ((i-1)/2)) r:=by
 refine(?_:(af (af (.node v (TR.ins o l ((i-1)/2)) r) (.node v l (TR.ins o r ((i-1)/2))) (ak (i %2) 0)) (.node (O o) l r) (ak i 0):TR)=_)
 induction e:ak i 0 using zB with
 |true=>exact U (if_pos (aH e)) rfl
 |false=>
  refine U (if_neg (fV e)) ?_
  induction a:ak (i %2) 0 using zB with
  |true=>exact U (if_pos (aH a)) rfl
  |false=>exact U (if_neg (fV a)) rfl
theorem N4 {α} {p q} [Decidable p] [Decidable q] {a b:α} (h:p↔q):(if p then a else b)=if q then a else b:=by
 by_cases k:p
 .exact U (if_pos k) (U (if_pos (h.mp k)) rfl)
 .exact U (if_neg k) (U (if_neg λt=>k (h.mpr t)) rfl)
theorem Gw (p:a %2=b %2) (h:a/2=b/2):a=b:=cL (rV a 2) (cL (rV b 2) (U p (U h rfl)))
theorem VY (p:(a+1) %2=0):a %2=1:=(BN a).resolve_left λq=>by rw [Nat.add_mod,q] at p;exact absurd p (by decide)
theorem VZ (p:¬(a+1) %2=0):a %2=0:=(BN a).resolve_right λq=>p (U (Nat.add_mod ..) (U q rfl))
theorem V0:∀{i j:Nat} (hi:¬i=0) (c:¬j=0) (p:i %2=0) (q:j %2=0),((j-1)/2=(i-1)/2)↔(j=i)
 |0,_,hi,_,_,_=>(hi rfl).elim
 |_,0,_,c,_,_=>(c rfl).elim
 |a+1,b+1,_,_,p,q=>⟨λh=>congrArg (·+1) (Gw ((VY q).trans (VY p).symm) h),λh=>U h rfl⟩
theorem V1:∀{i j:Nat} (p:¬i %2=0) (q:¬j %2=0),((j-1)/2=(i-1)/2)↔(j=i)
 |0,_,p,_=>(p rfl).elim
 |_,0,_,q=>(q rfl).elim
 |a+1,b+1,p,q=>⟨λh=>congrArg (·+1) (Gw ((VZ q).trans (VZ p).symm) h),λh=>U h rfl⟩
theorem RA (p:i %2=0) (q:¬j %2=0):¬j=i:=λh=>q (h▸p)
theorem uI {i} (hi:¬i=0) (h:if i %2=0 then l'=l/\∀j,r'.get j=if j=(i-1)/2 then x else r.get j else r'=r/\∀j,l'.get j=if j=(i-1)/2 then x else l.get j) j:
 (TR.node v l' r').get j=if j=i then x else(TR.node v l r).get j:=by
 refine U (TR.get_node ..) (U (TR.get_node ..) ?_);by_cases a:j=0
 .exact U (if_pos a) (U (if_pos a) (U (if_neg λq=>hi (q.symm.trans a)) rfl))
 .refine U (if_neg a) (U (if_neg a) ?_);by_cases p:i %2=0
  .rw [if_pos p] at h;by_cases q:j %2=0
   .exact U (if_pos q) (U (if_pos q) (U (h.2 ..) (U (N4 (V0 hi a p q)) rfl)))
   .exact U (if_neg q) (U (if_neg q) (U h.1 (U (if_neg (RA p q)) rfl)))
  .rw [if_neg p] at h;by_cases q:j %2=0
   .exact U (if_pos q) (U (if_pos q) (U h.1 (U (if_neg λt=>RA q p t.symm) rfl)))
   .exact U (if_neg q) (U (if_neg q) (U (h.2 ..) (U (N4 (V1 p q)) rfl)))
theorem Dw {i:Nat} (hi:i=0) (j:Nat):(TR.node x l r).get j=if j=i then x else(TR.node v l r).get j:=by
 refine U (TR.get_node ..) (U (TR.get_node ..) (U hi ?_));by_cases a:j=0
 .exact U (if_pos a) (U (if_pos a) rfl)
 .exact U (if_neg a) (U (if_neg a) (U (if_neg a) rfl))
theorem Dy j:(TR.node aq .nil .nil).get j=none:=by
 refine U (TR.get_node ..) (U (TR.get_nil ..) ?_);by_cases b:j=0
 .exact U (if_pos b) rfl
 .exact U (if_neg b) (U (ite_self ..) rfl)
theorem TR.N5 o:∀n i,∃x:Option aeu,(x=O o\/x=aq)/\∀j,(TR.one o n i).get j=if j=i then x else none:=by
 intro n
 induction n with
 |zero=>
  intro i;exact bV aq (.inr rfl) (λj=>(ite_self aq).symm)
 |succ n a=>
  intro i;refine aK (a ((i-1)/2)) λx h hx=>U (TR.Kg ..) ?_;by_cases hi:i=0
  .exact U (if_pos hi) (bV _ (.inl rfl) (λj=>(Dw (v:=aq) hi j).trans (U (Dy ..) rfl)))
  .refine U (if_neg hi) (bV x hx (λj=> ?_));have e:=Dy j;by_cases p:i %2=0
   .refine U (if_pos p) ?_;exact(uI (l:= .nil) (r:= .nil) (x:=x) hi (U (if_pos p) (⟨rfl,h⟩)) j).trans (U e rfl)
   .refine U (if_neg p) ?_;exact(uI (l:= .nil) (r:= .nil) (x:=x) hi (U (if_neg p) (⟨rfl,h⟩)) j).trans (U e rfl)
theorem TR.uJ o:∀t i,∃x:Option aeu,(x=O o\/x=aq)/\∀j,(TR.ins o t i).get j=if j=i then x else t.get j:=by
 intro t
 induction t with
 |nil=>exact λi=>TR.N5 o 30 i
 |node v l r a b=>
  intro i;refine U (TR.ins_node ..) ?_;by_cases hi:i=0
  .refine U (if_pos hi) ?_;exact bV _ (.inl rfl) (Dw hi)
  .refine U (if_neg hi) ?_;by_cases p:i %2=0
   .exact U (if_pos p) (aK (b ((i-1)/2)) λx h hx=>bV x hx (uI hi (U (if_pos p) (⟨rfl,h⟩))))
   .exact U (if_neg p) (aK (a ((i-1)/2)) λx h hx=>bV x hx (uI hi (U (if_neg p) (⟨rfl,h⟩))))
theorem HT.get_eq (t:HT) i:t.get i=if i/16384=t.xH then TR.get t.cur (i %16384) else TR.get (t.old (i/16384)) (i %16384):=by
 refine(?_:(af (TR.get (t.old (i/16384)) (i %16384)) (TR.get t.cur (i %16384)) (ak (i/16384) t.xH):Option aeu)=_)
 induction e:ak (i/16384) t.xH using zB with
 |true=>exact U (if_pos (aH e)) rfl
 |false=>exact U (if_neg (fV e)) rfl
theorem Kh f j t i:upd f j t i=if i=j then t else f i:=by
 refine(?_:(af (f i) t (ak i j):TR)=_)
 induction e:ak i j using zB with
 |true=>exact U (if_pos (aH e)) rfl
 |false=>exact U (if_neg (fV e)) rfl
theorem HT.SE o t i:HT.ins o t i=if i/16384=t.xH then⟨t.old,TR.ins o t.cur (i %16384),t.xH⟩ else⟨upd t.old (i/16384) (TR.ins o (t.old (i/16384)) (i %16384)),t.cur,t.xH⟩:=by
 refine(?_:(af ⟨upd t.old (i/16384) (TR.ins o (t.old (i/16384)) (i %16384)),t.cur,t.xH⟩ ⟨t.old,TR.ins o t.cur (i %16384),t.xH⟩ (ak (i/16384) t.xH):HT)=_)
 induction e:ak (i/16384) t.xH using zB with
 |true=>exact U (if_pos (aH e)) rfl
 |false=>exact U (if_neg (fV e)) rfl
theorem yR (h:j/16384=i/16384):(j %16384=i %16384)↔(j=i):=⟨λq=>(rV j 16384).symm.trans ((congr (congrArg (λa b=>16384*a+b) h) q).trans (rV i 16384)),λq=>U q rfl⟩
theorem HT.uJ o t i:∃x:Option aeu,(x=O o\/x=aq)/\∀j,(HT.ins o t i).get j=if j=i then x else t.get j:=by
 refine U (HT.SE ..) ?_;by_cases hi:i/16384=t.xH
 .refine U (if_pos hi) (aK (TR.uJ o t.cur (i %16384)) λx h hx=>bV x hx (λj=>(U (HT.get_eq ..) (U (HT.get_eq ..) ?_))));by_cases a:j/16384=t.xH
  .exact U (if_pos a) (U (if_pos a) (U (h ..) (U (N4 (yR (a.trans hi.symm))) rfl)))
  .rw [if_neg a,if_neg a,if_neg λq=>a (by exact U q (U hi rfl))]
 .refine U (if_neg hi) (aK (TR.uJ o (t.old (i/16384)) (i %16384)) λx h hx=>bV x hx (λj=>(U (HT.get_eq ..) (U (HT.get_eq ..) ?_))));by_cases a:j/16384=t.xH
  .rw [if_pos a,if_pos a,if_neg λq=>hi (by exact cL q (U a rfl))]
  .refine U (if_neg a) (U (if_neg a) ((?_:TR.get (upd _ _ _ _) _=_)));refine U (Kh ..) ?_;by_cases b:j/16384=i/16384
   .exact U (if_pos b) (U (h ..) (U (N4 (yR b)) (U b rfl)))
   .rw [if_neg b,if_neg λq=>b (by exact U q rfl)]
theorem HT.get_ins t {i j} (e:(HT.ins o t i).get j=O o'):(j=i/\o'=o)\/(j≠i/\t.get j=O o'):=by
 refine aK (HT.uJ o t i) λx h hx=> ?_;rw [h] at e;by_cases q:j=i
 .rw [if_pos q] at e;exact .inl ⟨q,hx.elim (λhx=>aF (e.symm.trans hx)) λhx=>fn (hx.symm.trans e)⟩
 .rw [if_neg q] at e;exact .inr ⟨q,e⟩
theorem HT.v7 t (a:j≠i) (e:t.get j=O o'):(HT.ins o t i).get j=O o':=by
 refine aK (HT.uJ o t i) λx h hx=>U (h ..) (U (if_neg a) ?_);exact e
theorem HT.Kl {t:HT} (e:(t.jump d).get i=O o):t.get i=O o:=by
 rw [HT.get_eq] at e⊢;have e:(if i/16384=t.xH+1 then TR.get .nil (i %16384) else TR.get (upd t.old t.xH (af t.cur .nil d) (i/16384)) (i %16384))=O o:=e;by_cases h1:i/16384=t.xH+1
 .rw [if_pos h1] at e;exact fn e
 .rw [if_neg h1,Kh] at e;by_cases h:i/16384=t.xH
  .rw [if_pos h] at e⊢
   induction d using zB with
   |false=>exact e
   |true=>exact fn e
  .rw [if_neg h] at e⊢;exact e
theorem lN (h:qU (c::r)=H):c<128/\2<c/\qU r=true:=by
 have h:(af aj (af aj (qU r) (bE 2 c)) (bE c 128):Bool)=true:=h
 induction h1:bE c 128 using zB with
 |false=>rw [h1] at h;exact ff h
 |true=>
  rw [h1] at h
  induction h2:bE 2 c using zB with
  |false=>rw [h2] at h;exact ff h
  |true=>rw [h2] at h;exact iW (cD.mp h1) (cD.mp h2) h
theorem digit_eq (a:c<128) (b:d<128) (e:c+128*m=d+128*n):m=n/\c=d:=
 have h:=(yr a).symm.trans (((Nat.add_mul_mod_self_left c 128 m).symm.trans (congrArg (· %128) e)).trans ((Nat.add_mul_mod_self_left d 128 n).trans (yr b)))
 ⟨Nat.eq_of_mul_eq_mul_left (by decide) (Nat.add_left_cancel (h▸e:d+128*m=d+128*n)),h⟩
theorem Dz (a:2<c) (e:c+128*m=0):False:=by lia
theorem N6:∀a b,qU a=H->qU b=H->JJ a=JJ b->a=b:=by
 intro a
 induction a with
 |nil=>
  intro b _ hb e;rcases b with _|⟨c,r⟩
  .rfl
  .exact(Dz (lN hb).2.1 (m:=JJ r) e.symm).elim
 |cons c r g=>
  intro b f hb e;rcases b with _|⟨d,q⟩
  .exact(Dz (lN f).2.1 (m:=JJ r) e).elim
  exact gc (digit_eq (m:=JJ r) (n:=JJ q) (lN f).1 (lN hb).1 e) λh1 h2=>U h2 (U (g q (lN f).2.2 (lN hb).2.2 h1) rfl)
theorem gU (hx:aY x=H) (hy:aY y=H) (e:nm x=nm y):x=y:=by
 obtain⟨x⟩:=x;obtain⟨y⟩:=y;exact congrArg Str.mk (Array.toList_inj.mp (N6 _ _ hx hy e))
set_option backward.match.sparseCases false
structure dw where
 prog:Program
 w:World
 h₀:Heap
 tabs:List Addr
 lam:Nat->mF->Prop
 fld:Addr->Str->Prop
 qw:Addr->Nat->Nat->Option Str
 jQ:List (Str×aM)->Option (Addr×Str)
structure Wd where
 ρ:Nat->Addr
 role:Addr->Option Nat
 uh:Nat->Nat
noncomputable def oQ (n:Nat):Value:=match n with
 |0=> .builtin "len"|1=> .type "range"|2=> .type "bytes"|3=> .type "bytearray"|4=> .type "tuple"|5=> .type "list"|6=> .type "dict"|7=> .type "set"|8=> .builtin "sorted"
 |9=> .type "zip"|10=> .type "enumerate"|11=> .builtin "sum"|12=> .builtin "max"|13=> .builtin "min"|14=> .builtin "abs"|15=> .type "int"|16=> .builtin "chr"|17=> .builtin "ord"
 |_=> .none
noncomputable abbrev gi (items:Array Value) (ep:Nat):Obj:={cls:= .type "tuple",data:= .seq items ep}
noncomputable abbrev gq (items:Array Value) (ep:Nat):Obj:={cls:= .type "list",data:= .seq items ep}
noncomputable abbrev cH (es:Array bf) (ep:Nat):Obj:={cls:= .type "dict",data:= .dict es ep}
noncomputable abbrev gX (b:Array UInt8):Obj:={cls:= .type "bytearray",data:= .bytearray b 0}
noncomputable abbrev qZ (c dx:Addr):Obj:={cls:= .ref c,dict:=O dx,data:= .plain}
noncomputable def strAt:Option Value->Bool
 |some (.str ..)=>H
 |_=>aj
def ef (o:Obj):Bool:=match o.data with
 | .seq .. =>H
 | .func _=>H
 | .fields vs=>strAt vs[1]?
 |_=>aj
theorem v8 (a:o.data= .fields vs) (h:vs[1]? =O (.str q t)):ef o=true:=by
 unfold ef;refine U a ?_;dsimp only;refine U h ?_;rfl
section
variable (X:dw) (g:Heap) (w:Wd) (n:Nat)
mutual
inductive VR:V->Value->Prop where
 |none:VR dc .none
 |bool (b:Bool):VR (vBool b) (.bool b)
 |nat (k:Nat) (t:Tok):VR (aW k) (.int (dQ k) t)
 |neg (k:Nat) (t:Tok):VR (qS (k+1)) (.int (Int.negSucc k) t)
 |str (l:List Nat) (t:Tok) (hn:l.length<=1000000):VR (vStr l) (.str ⟨l.toArray⟩ t)
 |bytes (b:Array UInt8) (t:Tok) (hn:b.size<=1000000):VR (fq (b.toList.map bS)) (.bytes b t)
 |tup (xs:List V) (a:Addr) (items:Array Value) (ep:Nat) (hr:w.role a=oW) (ht:a∉X.tabs) (hg:g.get? a=O (gi items ep)) (hn:items.size<=1000000) (hs:eg xs items.toList):VR (dM xs) (.ref a)
 |ref (i:Nat) (hi:i<n):VR (bQ i) (.ref (w.ρ i))
 |fn (a:Addr):VR (bL a) (.ref a)
 |cls (a:Addr):VR (jg a) (.ref a)
 |bi (k:Nat):VR (BR k) (oQ k)
 |lam (k:Nat) (a:Addr) (o:Obj) (fd:mF) (c:Addr) (hr:w.role a=oW) (ht:a∉X.tabs) (hg:g.get? a=O o) (hd:o.data= .func fd) (hc:fd.code= .ref c) (hrc:w.role c=oW) (htc:c∉X.tabs) (hrec:g.CodeRec (.ref c) fd.qualname) (hl:X.lam k fd):VR (NS k) (.ref a)
inductive eg:List V->List Value->Prop where
 |nil:eg [] []
 |cons (v:V) (x:Value) (vs:List V) (xs:List Value) (hv:VR v x) (hs:eg vs xs):eg (v::vs) (x::xs)
end
end
structure o9 (X:dw) (g:Heap) (w:Wd) (n:Nat) (g':Heap) (w':Wd) (n':Nat):Prop where
 oE:n<=n'
 ρ:∀i,i<n->w'.ρ i=w.ρ i
 uh:∀i,i<n->w'.uh i=w.uh i
 fix:∀a o,w.role a=aq->a∉X.tabs->ef o=H->g.get? a=O o->w'.role a=aq/\g'.get? a=O o
section
variable {X:dw} {g g':Heap} {w w':Wd} {n n':Nat}
theorem VR.mono (k:o9 X g w n g' w' n') (h:VR X g w n v x):VR X g' w' n' v x:=
 VR.rec (motive_1:=λv x m=>VR X g' w' n' v x) (motive_2:=λvs xs m=>eg X g' w' n' vs xs)
  .none (λb=> .bool b) (λk t=> .nat k t) (λk t=> .neg k t) (λl t hn=> .str l t hn) (λb t hn=> .bytes b t hn)
  (λxs a items ep r ht u hn m y=>let⟨p,q⟩:=k.fix a _ r ht rfl u; .tup xs a items ep p ht q hn y)
  (λi hi=>k.ρ i hi▸VR.ref i (aR hi k.oE)) (λa=> .fn a) (λa=> .cls a) (λk=> .bi k)
  (λj a o fd c r ht u B E z d f hl=>by
   refine aC (k.fix a o r ht (by unfold ef;exact U B rfl) u) λq p=>pK f λc' C vs t D e h1 h2=> ?_;cases e;exact aC (k.fix c C z d (v8 h2 D) h1) λG I=> .lam j a o fd c p ht q B E I d (uv c C vs t rfl G h2 D) hl)
  .nil (λv x vs xs m m y A=> .cons v x vs xs y A) h
theorem eg.mono (k:o9 X g w n g' w' n') (h:eg X g w n vs xs):eg X g' w' n' vs xs:=by
 induction vs generalizing xs with
 |nil=>cases h;exact .nil
 |cons v vs a=>cases h with|cons _ x _ xs hv b=>exact .cons _ _ _ _ (hv.mono k) (a b)
theorem eg.length (h:eg X g w n vs xs):vs.length=xs.length:=by
 induction vs generalizing xs with
 |nil=>cases h;rfl
 |cons v vs c=>cases h with|cons _ x _ xs hv d=>exact(λ{a b}=>Iff.mpr Nat.succ_inj) (c d)
theorem eg.append (h:eg X g w n vs xs) (h':eg X g w n us ys):eg X g w n (vs++us) (xs++ys):=by
 induction vs generalizing xs with
 |nil=>cases h;exact h'
 |cons v vs a=>cases h with|cons _ x _ xs hv b=>exact .cons _ _ _ _ hv (a b)
theorem eg.get (h:eg X g w n vs xs) {i:Nat} (e:vs[i]? =O v):∃x,xs[i]? =O x/\VR X g w n v x:=by
 induction vs generalizing xs i with
 |nil=>exact fn e
 |cons u vs a=>
  cases h with
  |cons _ x _ xs hv b=>
   induction i using zN with
   |zero=>injection e with e;subst e;exact bV x rfl hv
   |succ i=>exact a b e
theorem eg.get_none (h:eg X g w n vs xs) {i:Nat} (e:vs[i]? =aq):xs[i]? =none:=by
 rw [jK] at e⊢;refine cL h.length ?_;exact e
theorem eg.set (h:eg X g w n vs xs) i (hv:VR X g w n v x):eg X g w n (vs.set i v) (xs.set i x):=by
 induction vs generalizing xs i with
 |nil=>cases h;exact .nil
 |cons u vs b=>
  cases h with
  |cons _ y _ ys hu a=>
   induction i using zN with
   |zero=>exact .cons _ _ _ _ hv a
   |succ i=>exact .cons _ _ _ _ hu (b a i)
theorem eg.take (h:eg X g w n vs xs) i:eg X g w n (vs.take i) (xs.take i):=by
 induction vs generalizing xs i with
 |nil=>cases h;simpa using eg.nil
 |cons u vs a=>
  cases h with
  |cons _ y _ ys hu b=>
   induction i using zN with
   |zero=>exact .nil
   |succ i=>exact .cons _ _ _ _ hu (a b i)
theorem eg.drop (h:eg X g w n vs xs) i:eg X g w n (vs.drop i) (xs.drop i):=by
 induction vs generalizing xs i with
 |nil=>cases h;simpa using eg.nil
 |cons u vs b=>
  cases h with
  |cons _ y _ ys hu a=>
   induction i using zN with
   |zero=>exact .cons _ _ _ _ hu a
   |succ i=>exact b a i
end
inductive iU {α β:Type} (R:α->β->Prop):List α->List β->Prop where
 |nil:iU R [] []
 |cons {a:α} {b:β} {l:List α} {m:List β} (h:R a b) (t:iU R l m):iU R (a::l) (b::m)
theorem iU.mono {R c:α->β->Prop} (k:∀a b,R a b->c a b) (h:iU R l m):iU c l m:=by
 induction h with
 |nil=>exact .nil
 |cons h _ d=>exact .cons (k _ _ h) d
theorem iU.length (h:iU R l m):l.length=m.length:=by
 induction h with
 |nil=>rfl
 |cons _ _ c=>exact(λ{a b}=>Iff.mpr Nat.succ_inj) c
theorem iU.append {l l'} {m m'} (h:iU R l m) (h':iU R l' m'):iU R (l++l') (m++m'):=by
 induction h with
 |nil=>exact h'
 |cons x _ a=>exact .cons x a
theorem iU.get {l:List α} {m:List β} (h:iU R l m) {i:Nat} (e:l[i]? =O a):∃b,m[i]? =O b/\R a b:=by
 induction h generalizing i with
 |nil=>exact fn e
 |cons x _ c=>
  induction i using zN with
  |zero=>injection e with e;subst e;exact bV _ rfl x
  |succ i=>exact c e
theorem iU.SG {l:List α} {m:List β} (h:iU R l m) (hb:b∈m):∃a∈l,R a b:=by
 induction h with
 |nil=>cases hb
 |cons x _ c=>
  rcases aT.mp hb with rfl|hb
  .exact bV _ aE x
  .refine dN (c hb) λa d r=> ?_;exact bV a (aD _ d) r
structure v9 (X:dw) (g:Heap) (w:Wd) (n:Nat) (p:Nat×V) (e:bf):Prop where
 key:∃x t,e.key= .str x t/\aY x=H/\nm x=p.1
 val:VR X g w n p.2 e.val
abbrev l5 (X:dw) (g:Heap) (w:Wd) (n:Nat) (fs:List (Nat×V)) (es:List bf):Prop:=iU (v9 X g w n) fs es
def hashOf (X:dw) (v:V):Int:=if v.t=2 then hashInt (dU v) else if v.t=5 then tupleKeyHash (intKind X.prog X.w) (v.xs.map dU) else if v.t=4 then W.hashW X.w.params (.bytes (v.l.map su)) else hashStr X.w ⟨v.l.toArray⟩
structure ri (X:dw) (g:Heap) (w:Wd) (n:Nat) (p:V×V) (e:bf):Prop where
 key:VR X g w n p.1 e.key
 val:VR X g w n p.2 e.val
 hash:e.hash=hashOf X p.1
structure gV (X:dw) (g:Heap) (w:Wd) (n:Nat) (kvs:List (V×V)) (es:List bf):Prop where
 all:iU (ri X g w n) kvs es
 kind:∃t,∀p∈kvs,p.1.t=t/\isKey p.1=H
 nodup:(kvs.map eG).Nodup
inductive Rep (X:dw) (g:Heap) (w:Wd) (n i:Nat):aeu->Prop where
 |list (xs:List V) (items:Array Value) (ep:Nat) (hr:w.role (w.ρ i)=O i) (hg:g.get? (w.ρ i)=O (gq items ep)) (hn:items.size<=1000000) (hs:eg X g w n xs items.toList):Rep X g w n i (bK xs)
 |dict (kvs:List (V×V)) (es:Array bf) (ep:Nat) (hr:w.role (w.ρ i)=O i) (hg:g.get? (w.ρ i)=O (cH es ep)) (hn:es.size<=1000000) (hd:gV X g w n kvs es.toList) (c:Nat) (hv:ep=w.uh i+c):Rep X g w n i (d7 kvs c)
 |E8 (b:Array UInt8) (hr:w.role (w.ρ i)=O i) (hg:g.get? (w.ρ i)=O (gX b)) (hn:b.size<=1000000):Rep X g w n i (yH (b.toList.map bS))
 |inst (c:Addr) (fs:List (Nat×V)) (dx:Addr) (es:Array bf) (ep:Nat) (hr:w.role (w.ρ i)=O i) (hrd:w.role dx=O i) (hne:dx≠w.ρ i) (hg:g.get? (w.ρ i)=O (qZ c dx))
  (hgd:g.get? dx=O (cH es ep)) (hf:l5 X g w n fs es.toList) (hz:es.size<=1000000) (hfl:∀x,aY x=H->find (nm x) fs≠aq->X.fld c x):Rep X g w n i (uC c fs)
 |zip (j1 k1 j2 k2:Nat) (TI TO i1 i2:Addr) (a b:Value) (hr:w.role (w.ρ i)=O i) (r1:w.role TI=O i) (r2:w.role TO=O i) (r3:w.role i1=O i) (r4:w.role i2=O i) (D:TI≠TO/\TI≠w.ρ i/\TO≠w.ρ i/\i1≠i2) (hj:j1<n/\j2<n/\j1≠i/\j2≠i)
  (hz:IsZip g (w.ρ i) TI TO .none) (h1:IsPair g TI (.ref i1) (.ref i2)) (h2:IsPair g TO a b) (h3:g.IsListIter i1 (w.ρ j1) k1) (h4:g.IsListIter i2 (w.ρ j2) k2):Rep X g w n i (ES j1 k1 j2 k2)
 |HQ (xs:List V) (j2 k2:Nat) (TI TO i1 i2 t:Addr) (items:Array Value) (ep m:Nat) (a b v f:Value) (hr:w.role (w.ρ i)=O i) (r1:w.role TI=O i) (r2:w.role TO=O i) (r3:w.role i1=O i) (r4:w.role i2=O i) (D:TI≠TO/\TI≠w.ρ i/\TO≠w.ρ i/\i1≠i2) (hj:j2<n/\j2≠i)
  (hz:g.get? (w.ρ i)=O {cls:= .type "zip",data:= .fields #[v,f,.bool aj,.ref TI,.ref TO]}) (h1:IsPair g TI (.ref i1) (.ref i2)) (h2:IsPair g TO a b) (ht:w.role t=aq/\t∉X.tabs) (hg:g.get? t=O (gi items ep)) (h3:g.IsTupleIter i1 t m) (hs:eg X g w n xs (items.toList.drop m)) (h4:g.IsListIter i2 (w.ρ j2) k2)
  (hv:(v= .none/\f= .bool aj)\/∃(T:Addr) (fb:Bool) (its:Array Value) (Vg:Nat),v=rawInt (T:Int)/\f= .bool fb/\w.role T=aq/\T∉X.tabs/\g.get? T=O (gi its Vg)):Rep X g w n i (uD xs j2 k2)
 |junk (hr:w.role (w.ρ i)=O i):Rep X g w n i qT
 |fix (xs:List V) (items:Array Value) (ep:Nat) (hr:w.role (w.ρ i)=aq) (ht:w.ρ i∉X.tabs) (hg:g.get? (w.ρ i)=O (gq items ep)) (hn:items.size<=1000000) (hs:eg X g w n xs items.toList):Rep X g w n i (yG xs)
structure bu (X:dw):Prop
section
variable {X:dw} {g g':Heap} {w w':Wd} {n n':Nat}
theorem v9.mono (k:o9 X g w n g' w' n') (h:v9 X g w n p e):v9 X g' w' n' p e:=⟨h.key,h.val.mono k⟩
theorem ri.mono (k:o9 X g w n g' w' n') (h:ri X g w n p e):ri X g' w' n' p e:=⟨h.key.mono k,h.val.mono k,h.hash⟩
theorem gV.mono (k:o9 X g w n g' w' n') (h:gV X g w n kvs es):gV X g' w' n' kvs es:=⟨h.all.mono λa a=>ri.mono k,h.kind,h.nodup⟩
theorem Rep.keep (ax:bu X) (k:o9 X g w n g' w' n') (hi:i<n) (own:∀a,w.role a=O i->w'.role a=O i) (d:∀a o,w.role a=O i->g.get? a=O o->g'.get? a=O o) (h:Rep X g w n i o):Rep X g' w' n' i o:=by
 have e:=k.ρ i hi
 induction h using Mine.Rep.casesOn with
 |list xs items ep j l hn x=>exact .list xs items ep (e▸own _ j) (e▸d _ _ j l) hn (x.mono k)
 |dict G I ep j l hn hd c hv=>exact .dict G I ep (e▸own _ j) (e▸d _ _ j l) hn (hd.mono k) c (U (k.uh i hi) hv)
 |E8 b' j l hn=>exact .E8 b' (e▸own _ j) (e▸d _ _ j l) hn
 |inst c fs dx I ep j y J l K hf hz L=>exact .inst c fs dx I ep (e▸own _ j) (own _ y) (e▸J) (e▸d _ _ j l) (d _ _ y K) (hf.mono λu_ u_=>v9.mono k) hz L
 |zip j1 k1 z M P Q R S a b j A B C E D p hz h1 h2 r u=>
  refine aK r λV r e3=>aK u λo4 u e4=> ?_;exact .zip j1 k1 z M P Q R S a b (e▸own _ j) (own _ A) (own _ B) (own _ C) (own _ E) (e▸D) (iW (aR p.1 k.oE) (aR p.2.1 k.oE) p.2.2) (e▸d _ _ j hz) (d _ _ A h1) (d _ _ B h2)
   (bV V (d _ _ C e3) ((k.ρ j1 p.1).symm▸r)) (bV o4 (d _ _ E e4) ((k.ρ z p.2.1).symm▸u))
 |HQ xs z M P Q R S t items ep m a b v f j A B C E D p hz h1 h2 ht l r x u hv=>
  refine aK r λV r e3=>aK u λo4 u e4=>aC (k.fix t _ ht.1 ht.2 rfl l) λp2 p1=> ?_;refine .HQ xs z M P Q R S t items ep m a b v f (e▸own _ j) (own _ A) (own _ B) (own _ C) (own _ E) (e▸D) ⟨aR p.1 k.oE,p.2⟩ (e▸d _ _ j hz) (d _ _ A h1) (d _ _ B h2) ⟨p1,ht.2⟩ p2
   (bV V (d _ _ C e3) r) (x.mono k) (bV o4 (d _ _ E e4) ((k.ρ z p.1).symm▸u)) (hv.imp (λq=>q) λqq=> ?_)
  obtain⟨T,fb,its,Vg,q1,q2,q3,q4,q5⟩:=qq;exact aC (k.fix T _ q3 q4 rfl q5) λu2 u1=>⟨T,fb,its,Vg,q1,q2,u1,q4,u2⟩
 |junk j=>exact .junk (e▸own _ j)
 |fix xs items ep j ht l hn x=>
  exact aC (k.fix _ _ j ht rfl l) λp2 p1=> .fix xs items ep (e▸p1) (e▸ht) (e▸p2) hn (x.mono k)
theorem Rep.role (h:Rep X g w n i o) (a:o.t≠8):w.role (w.ρ i)=O i:=by induction h using Mine.Rep.casesOn<;>first|assumption|exact absurd rfl a
end
structure Gx (X:dw) (g:Heap) (w:Wd) (P:Addr):Prop where
 low:P<X.h₀.objs.size
 tab:∃ps,g.get? P=O ⟨.none,aq,.fields ps,#[]⟩/\nC ps.toList/\∀pos q cv,X.qw P pos.line pos.col=O q->codeAmong pos ps.toList=O cv->∃c,cv= .ref c/\w.role c=aq/\c∉X.tabs/\g.CodeRec (.ref c) q
theorem Gx.keep (h:Gx X g w P) (k:o9 X g w n g' w' n') (l:∀o,P<X.h₀.objs.size->g.get? P=O o->g'.get? P=O o):Gx X g' w' P:=by
 obtain⟨a,m,h1,h2,p⟩:=h;refine⟨a,m,l _ a h1,h2,λpos q r u v=> ?_⟩;refine Sl (p pos q r u v) λc d=> ?_;subst d;intro x ht b;refine pK b λc' f vs t i e y j=> ?_;cases e;exact aC (k.fix c f x ht (v8 j i) y) λz A=>⟨c,rfl,A,ht,c,f,vs,t,rfl,z,j,i⟩
structure St (X:dw) (w:Wd) (h:aev) (s:Shared):Prop where
 rep:∀i o,h.l.get i=O o->i<h.n/\Rep X s.heap w h.n i o
 lim:∀a i,w.role a=O i->i<h.n/\X.h₀.objs.size<=a/\a<s.heap.objs.size
 base:∀a o,X.h₀.get? a=O o->a∉X.tabs->s.heap.get? a=O o
 size:X.h₀.objs.size<=s.heap.objs.size
 tab:∀P∈X.tabs,Gx X s.heap w P
structure Ext (X:dw) (F:Addr->Prop) (w:Wd) (n:Nat) (s:Shared) (w':Wd) (n':Nat) (s':Shared):Prop where
 size:s.heap.objs.size<=s'.heap.objs.size
 oE:n<=n'
 ρ:∀i,i<n->w'.ρ i=w.ρ i
 uh:∀i,i<n->w'.uh i=w.uh i
 role:∀a,a<s.heap.objs.size->w'.role a=w.role a
 old:∀a o,w.role a=aq->a∉X.tabs->¬F a->s.heap.get? a=O o->s'.heap.get? a=O o
 gens:s'.gens=s.gens
 os:s'.os=s.os
abbrev cT:Addr->Prop:=λu_=>False
section
variable {X:dw} {F:Addr->Prop} {w w' w'':Wd} {n n' n'':Nat} {s s' s'':Shared}
theorem Ext.refl:Ext X F w n s w n s:=⟨br _,br _,λa a=>rfl,λa a=>rfl,λa a=>rfl,λa a a a a e=>e,rfl,rfl⟩
theorem Ext.trans (x:Ext X F w n s w' n' s') (y:Ext X F w' n' s' w'' n'' s''):Ext X F w n s w'' n'' s'':=
 ⟨aI x.size y.size,aI x.oE y.oE,λi hi=>(y.ρ i (aR hi x.oE)).trans (x.ρ i hi),λi hi=>(y.uh i (aR hi x.oE)).trans (x.uh i hi),
  λa b=>(y.role a (aR b x.size)).trans (x.role a b),
  λa o h1 h2 c e=>y.old a o ((x.role a (bh e)).trans h1) h2 c (x.old a o h1 h2 c e),y.gens.trans x.gens,y.os.trans x.os⟩
theorem Ext.weaken (x:Ext X F w n s w' n' s') (k:∀a,F a->F' a):Ext X F' w n s w' n' s':=
 ⟨x.size,x.oE,x.ρ,x.uh,x.role,λa o h1 h2 b e=>x.old a o h1 h2 (λh=>b (k a h)) e,x.gens,x.os⟩
theorem Ext.keep (x:Ext X F w n s w' n' s') (k:∀a o,F a->s.heap.get? a=O o->ef o=aj):o9 X s.heap w n s'.heap w' n':=
 ⟨x.oE,x.ρ,x.uh,λa o h1 h2 b e=>⟨(x.role a (bh e)).trans h1,x.old a o h1 h2 (λc=>by rw [k a o c e] at b;exact ff b) e⟩⟩
theorem Ext.dX (x:Ext X cT w n s w' n' s'):o9 X s.heap w n s'.heap w' n':=x.keep λa a h=>h.elim
end
section
variable {X:dw} {F:Addr->Prop} {w:Wd} {h:aev} {s:Shared}
theorem St.grow (l:bu X) (f:St X w h s) {s'} (b:s.heap.objs.size<=s'.heap.objs.size) (hF:∀a o,F a->s.heap.get? a=O o->ef o=aj) (d:∀a,F a->w.role a=aq/\X.h₀.objs.size<=a)
 (old:∀a o,¬F a->s.heap.get? a=O o->s'.heap.get? a=O o) (j:s'.gens=s.gens) (os:s'.os=s.os):St X w h s'/\Ext X F w h.n s w h.n s':=by
 have x:Ext X F w h.n s w h.n s':=⟨b,br _,λc c=>rfl,λc c=>rfl,λc c=>rfl,λa o c c m e=>old a o m e,j,os⟩;refine⟨⟨λi o e=> ?_,λa i e=> ?_,λa o e ht=> ?_,aI f.size b,λP p=>(f.tab P p).keep (x.keep hF) λo hl e=>old P o (λk=>absurd hl (bC.mpr (d P k).2)) e⟩,x⟩
 .refine aC (f.rep i o e) λr hi=>⟨hi, ?_⟩;have q:∀a,w.role a=O i->¬F a:=λa h1 h2=>by rw [(d a h2).1] at h1;exact fn h1
  exact r.keep l (x.keep hF) hi (λc h=>h) λa o h1 e=>old a o (q a h1) e
 .refine fh (f.lim a i e) λt u a3=> ?_;exact iW u t (aR a3 b)
 .exact old a o (λk=>absurd (bh e) (bC.mpr (d a k).2)) (f.base a o e ht)
end
section
variable {X:dw} {w:Wd} {h:aev} {s:Shared}
theorem St.put (u:bu X) (d:St X w h s) (hi:h.l.get i=O o) (c:s'.heap.objs.size=s.heap.objs.size) (old:∀a m,w.role a≠O i->s.heap.get? a=O m->s'.heap.get? a=O m)
 (p:s'.gens=s.gens) (os:s'.os=s.os) (r:o9 X s.heap w h.n s'.heap w h.n->Rep X s'.heap w h.n i o'):
 St X w ⟨HT.ins o' h.l i,h.n⟩ s'/\Ext X cT w h.n s w h.n s':=by
 have x:Ext X cT w h.n s w h.n s':=⟨cV c.symm,br _,λf f=>rfl,λf f=>rfl,λf f=>rfl,λa o h1 f f e=>old a o (U h1 (λh=>fn h)) e,p,os⟩;have k:=x.dX;refine⟨⟨λj v e=> ?_,λa j e=> ?_,λa m e ht=> ?_,aI d.size (cV c.symm),λP y=>(d.tab P y).keep k λo hl e=>old P o (λz=>absurd hl (bC.mpr (d.lim P i z).2.1)) e⟩,x⟩
 .rcases HT.get_ins _ e with⟨rfl,rfl⟩|⟨q,e⟩
  .exact⟨(d.rep _ _ hi).1,r k⟩
  .exact aC (d.rep j v e) λA t=>⟨t,A.keep u k t (λf h=>h) λa m h1 e=>old a m (U h1 (λh=>q (aF h))) e⟩
 .refine fh (d.lim a j e) λB C a3=> ?_;exact iW C B (c▸a3)
 .refine old a m (λh1=> ?_) (d.base a m e ht);exact absurd (bh e) (bC.mpr (d.lim a i h1).2.1)
theorem St.new (B:bu X) (f:St X w h s) {o:aeu} {b:Addr} {own:Addr->Bool} (hb:own b=H) {s':Shared} (c:s.heap.objs.size<=s'.heap.objs.size) (d:∀a,own a=H->s.heap.objs.size<=a/\a<s'.heap.objs.size)
 (old:∀a m,s.heap.get? a=O m->s'.heap.get? a=O m) (q:s'.gens=s.gens) (os:s'.os=s.os) (v:Nat) (w':Wd) (C:w'=⟨λi=>if i=h.n then b else w.ρ i,λa=>if own a=H then O h.n else w.role a,λi=>if i=h.n then v else w.uh i⟩)
 (r:o9 X s.heap w h.n s'.heap w' (h.n+1)->w'.role b=O h.n->w'.ρ h.n=b->w'.uh h.n=v->Rep X s'.heap w' (h.n+1) h.n o):
 St X w' ⟨HT.ins o h.l h.n,h.n+1⟩ s'/\Ext X cT w h.n s w' (h.n+1) s':=by
 subst C;have t:∀a,a<s.heap.objs.size->own a≠true:=λa z h1=>absurd z (bC.mpr (d a h1).1);have x:Ext X cT w h.n s ⟨λi=>if i=h.n then b else w.ρ i,λa=>if own a=H then O h.n else w.role a,λi=>if i=h.n then v else w.uh i⟩ (h.n+1) s':=
  ⟨c,gW _,λi hi=>if_neg (cg hi),λi hi=>if_neg (cg hi),λa z=>if_neg (t a z),λa o u u u e=>old a o e,q,os⟩
 have k:=x.dX;refine⟨⟨λj D e=> ?_,λa j e=> ?_,λa m e ht=>old a m (f.base a m e ht),aI f.size c,λP E=>(f.tab P E).keep k λo u e=>old P o e⟩,x⟩
 .rcases HT.get_ins _ e with⟨rfl,rfl⟩|⟨G,e⟩
  .exact⟨bM _,r k (if_pos hb) (if_pos rfl) (if_pos rfl)⟩
  .refine aC (f.rep j D e) λI A=>⟨cI A,I.keep B k A (λa h1=> ?_) λa m u e=>old a m e⟩;refine(?_:(if own a=H then O h.n else w.role a)=O j);refine U (if_neg (t a (f.lim a j h1).2.2)) ?_;exact h1
 .have p:(if own a=H then O h.n else w.role a)=O j:=e;by_cases y:own a=H
  .rw [if_pos y] at p;injection p with p;subst p
   exact iW (bM _) (aI f.size (d a y).1) ((d a y).2)
  .rw [if_neg y] at p;exact fh (f.lim a j p) λJ K a3=>iW (cI K) J (aR a3 c)
end
set_option backward.match.sparseCases true
def VRk (X:dw) (g:Heap) (w:Wd) (n:Nat) (v:V) (y:Value):Nat->Prop
 |0=>y= .none
 |1=>∃b,y= .bool b/\v.n=af 0 1 b
 |2=>∃t,y= .int (dU v) t/\((v.s=0/\dU v=dQ v.n)\/(v.s=1/\0<v.n/\dU v= -(v.n:Int)))
 |3=>∃t,y= .str ⟨v.l.toArray⟩ t/\v.l.length<=1000000
 |4=>∃b t,y= .bytes b t/\v.l=b.toList.map bS/\b.size<=1000000
 |5=>∃a items ep,y= .ref a/\w.role a=aq/\a∉X.tabs/\g.get? a=O (gi items ep)/\items.size<=1000000/\eg X g w n v.xs items.toList
 |6=>y= .ref (w.ρ v.n)/\v.n<n
 |_=>True
def V2 (X:dw) (g:Heap) (w:Wd) (n i:Nat) (o:aeu):Nat->Prop
 |0=>∃dx es ep,w.role (w.ρ i)=O i/\w.role dx=O i/\dx≠w.ρ i/\g.get? (w.ρ i)=O (qZ o.c dx)/\g.get? dx=O (cH es ep)/\l5 X g w n o.fs es.toList/\es.size<=1000000/\∀x,aY x=H->find (nm x) o.fs≠aq->X.fld o.c x
 |1=>∃items ep,w.role (w.ρ i)=O i/\g.get? (w.ρ i)=O (gq items ep)/\items.size<=1000000/\eg X g w n o.xs items.toList
 |2=>∃es ep,w.role (w.ρ i)=O i/\g.get? (w.ρ i)=O (cH es ep)/\es.size<=1000000/\gV X g w n o.kvs es.toList/\ep=w.uh i+o.c
 |3=>∃b,w.role (w.ρ i)=O i/\g.get? (w.ρ i)=O (gX b)/\b.size<=1000000/\o.bs=b.toList.map bS
 |8=>∃items ep,w.role (w.ρ i)=aq/\w.ρ i∉X.tabs/\g.get? (w.ρ i)=O (gq items ep)/\items.size<=1000000/\eg X g w n o.xs items.toList
 |_=>True
section
variable {X:dw} {g:Heap} {w:Wd} {n i:Nat} {v:V} {y:Value} {o:aeu}
theorem VR.inv (h:VR X g w n v y):VRk X g w n v y v.t:=by
 induction h using Mine.VR.casesOn with
 |none=>exact rfl
 |bool b=>exact bV b rfl rfl
 |nat k t=>exact bV t rfl (.inl ⟨rfl,rfl⟩)
 |neg k t=>exact bV t rfl (.inr (iW rfl (jL k) rfl))
 |str l t hn=>exact bV t rfl hn
 |bytes b t hn=>exact j0 b t rfl rfl hn
 |tup xs a items ep c ht d hn e=>exact⟨a,items,ep,rfl,c,ht,d,hn,e⟩
 |ref i hi=>exact⟨rfl,hi⟩
 |_=>exact trivial
theorem Rep.inv (h:Rep X g w n i o):V2 X g w n i o o.t:=by
 induction h using Mine.Rep.casesOn with
 |list xs items ep a d hn e=>exact lJ items ep a d hn e
 |dict p f ep a d hn q c hv=>exact lX f ep a d hn q hv
 |E8 b a d hn=>exact qO b a d hn rfl
 |inst c u r f ep a j k d l s hz m=>exact⟨r,f,ep,a,j,k,d,l,s,hz,m⟩
 |fix xs items ep a ht d hn e=>exact lX items ep a ht d hn e
 |_=>exact trivial
theorem VR.at_ (h:VR X g w n v y) (e:v.t=t):VRk X g w n v y t:=e▸h.inv
theorem Rep.at_ (h:Rep X g w n i o) (e:o.t=t):V2 X g w n i o t:=e▸h.inv
theorem VR.cO (h:VR X g w n v y) (e:ak v.t 2=H):∃t,y= .int (dU v) t:=let⟨t,q,_⟩:=h.at_ (aH e);⟨t,q⟩
theorem VR.E9 (h:VR X g w n v y) (e:ak v.t 2=H):(v.s=0/\dU v=dQ v.n)\/(v.s=1/\0<v.n/\dU v= -(v.n:Int)):=let⟨_,_,q⟩:=h.at_ (aH e);q
theorem VR.qc (h:VR X g w n v y) (e:v.t=3):∃t,y= .str ⟨v.l.toArray⟩ t/\v.l.length<=1000000:=h.at_ e
theorem VR.jN (h:VR X g w n v y) (e:v.t=4):∃b t,y= .bytes b t/\v.l=b.toList.map bS/\b.size<=1000000:=h.at_ e
theorem VR.ia (h:VR X g w n v y) (e:v.t=5):∃a items ep,y= .ref a/\w.role a=oW/\a∉X.tabs/\g.get? a=O (gi items ep)/\items.size<=1000000/\eg X g w n v.xs items.toList:=h.at_ e
theorem VR.eB (h:VR X g w n v y) (e:v.t=6):y= .ref (w.ρ v.n)/\v.n<n:=h.at_ e
theorem Rep.l6 (h:Rep X g w n i o) (e:o.t=1):∃items ep,w.role (w.ρ i)=O i/\g.get? (w.ρ i)=O (gq items ep)/\items.size<=1000000/\eg X g w n o.xs items.toList:=h.at_ e
theorem Rep.kR (h:Rep X g w n i o) (e:o.t=2):∃a ep,w.role (w.ρ i)=O i/\g.get? (w.ρ i)=O (cH a ep)/\a.size<=1000000/\gV X g w n o.kvs a.toList/\ep=w.uh i+o.c:=h.at_ e
theorem Rep.Gy (h:Rep X g w n i o) (e:o.t=3):∃b,w.role (w.ρ i)=O i/\g.get? (w.ρ i)=O (gX b)/\b.size<=1000000/\o.bs=b.toList.map bS:=h.at_ e
def canon (v:V):V:=af (af (af (af v (dM v.xs) (ak v.t 5)) (fq v.l) (ak v.t 4)) (vStr v.l) (ak v.t 3)) (mD (dU v)) (ak v.t 2)
theorem VR.canon (h:VR X g w n v y):v=Mine.canon v:=by induction h using Mine.VR.casesOn<;>rfl
theorem VR.Km (h:VR X g w n v y) (e:v.t=5):v=dM v.xs:=h.canon.trans (by unfold Mine.canon;exact U e rfl)
theorem VR.Kn (h:VR X g w n v y) (e:v.t=2):v=mD (dU v):=h.canon.trans (by unfold Mine.canon;exact U e rfl)
theorem VR.Ko (h:VR X g w n v y) (e:v.t=3):v=vStr v.l:=h.canon.trans (by unfold Mine.canon;exact U e rfl)
theorem VR.DA (h:VR X g w n v y) (e:v.t=4):v=fq v.l:=h.canon.trans (by unfold Mine.canon;exact U e rfl)
theorem Rep.eqs (h:Rep X g w n i o):(o.t=1->o=bK o.xs)/\(o.t=2->o=d7 o.kvs o.c):=by
 induction h using Mine.Rep.casesOn with
 |list=>exact⟨λa=>rfl,λq=>absurd q (aX rfl:¬(1:Nat)=2)⟩
 |dict=>exact⟨λq=>absurd q (Nat.add_one_add_one_ne_one:¬(2:Nat)=1),λa=>rfl⟩
 |_=>exact⟨λq=>nn q rfl,λq=>nn q rfl⟩
theorem eg.cons_of (h:eg X g w n (v::vs) ys):∃y zs,ys=y::zs/\VR X g w n v y/\eg X g w n vs zs:=by
 cases h with
 |cons _ y _ zs a b=>exact j0 y zs rfl a b
theorem eg.nil_of (h:eg X g w n [] ys):ys=[]:=by cases h;rfl
end
set_option backward.match.sparseCases false in
theorem RB {a:Type} {F:Str->Pos->Option a} {e:Expr} {r:a} (h:(match e with| .Name x p=>F x p|_=>aq)=O r):∃x p,e= .Name x p/\F x p=O r:=by
 induction e using aS with
 |Name x p=>exact m7 x p rfl h
 |_=>exact fn h
theorem eg.tM (h:eg X g w n [v] ys):∃y,ys=[y]/\VR X g w n v y:=let⟨y,_,e,a,b⟩:=h.cons_of;(bV y (b.nil_of▸e) a)
theorem eg.wc (h:eg X g w n [u,v] ys):∃y z,ys=[y,z]/\VR X g w n u y/\VR X g w n v z:=let⟨y,_,e,a,b⟩:=h.cons_of;let⟨z,f,c⟩:=b.tM;(j0 y z (f▸e) a c)
theorem tM {F:V->Option Res} (e:(match vs with|[v]=>F v|_=>aq)=O res):∃v,vs=[v]/\F v=O res:=by
 induction vs using zL with
 |nil=>exact fn e
 |cons v l=>
  induction l using zL with
  |nil=>exact bV v rfl e
  |cons=>exact fn e
theorem wc {F:V->V->Option Res} (e:(match vs with|[u,v]=>F u v|_=>aq)=O res):∃u v,vs=[u,v]/\F u v=O res:=by
 induction vs using zL with
 |nil=>exact fn e
 |cons u l=>
  induction l using zL with
  |nil=>exact fn e
  |cons v l=>
   induction l using zL with
   |nil=>exact m7 u v rfl e
   |cons=>exact fn e
theorem Kp {M} {Q:α->Shared->Prop} (h:∀a,Q a s):wpAny M A (pure a) Q E s:=av (h a)
end
section
open PyProof.Rows PySem.Calls
noncomputable def oR:List String:=["bytearray.__contains__","bytearray.__mod__","bytearray.__rmod__","_struct.pack_into.held","bytearray.find.held"]++Builtin.Bytes.decodersThatHold
def yS (c:Code):Bool:=match c with
 | .builtin id _=> !(oR.contains id)
 |_=>H
def Kq (l:List (Code×Pos)):Prop:=∀x∈l,yS x.1=H
def Clean (Γ:Ctx):Prop:=yS Γ.code=H/\Kq Γ.below
def cC {α:Type} (M:Model) (A:Around) (t:Sem α) (Q:α->Shared->Prop) (E:Value->Shared->Prop) (s:Shared):Prop:=
 ∀Γ p,Γ.In A->Clean Γ->Sem.wp M Γ t (λa u_ s'=>Q a s') (λe u_ s'=>E e s') p s
def codeN (M:Model) (A:Around) (c:Code) (R:Result->Shared->Prop) (s:Shared):Prop:=
 ∀Γ p,Γ.code=c->Γ.Below A->Kq Γ.below->wpCode M Γ R p s
section
variable {α β:Type} {M:Model} {A:Around} {E:Value->Shared->Prop} {s:Shared}
theorem eW {Q:α->Shared->Prop} (h:wpAny M A t Q E s):cC M A t Q E s:=λb p a c=>h b p a
theorem aO {Q:α->Shared->Prop} (h:Q a s):cC M A (pure a) Q E s:=eW (av h)
theorem aV {Q c:α->Shared->Prop} {E'} (h:cC M A t Q E s) (f:∀a s,Q a s->c a s) (g:∀e s,E e s->E' e s):cC M A t c E' s:=
 λd p b i=>pX M d t (λa j s=>f a s) (λe j s=>g e s) p s (h d p b i)
theorem ay {f:α->Sem β} (h:cC M A m (λa s'=>cC M A (f a) Q E s') E s):cC M A (m>>=f) Q E s:=λc p b d=>by
 exact U (Sem.wp_bind' ..) (pX M c m (λa g s' h'=>h' c g b d) (λe e e h'=>h') p s (h c p b d))
theorem j3 {Q:α->Shared->Prop} (h:cC M A m Q (λe s'=>cC M A (k e) (λb c=>E e c) E s') s):cC M A (m.onRaise k) Q E s:=λd p a f=>by
 exact U (Sem.wp_onRaise ..) (pX M d m (λb b b h'=>h') (λe g s' h'=>h' d g a f) p s (h d p a f))
theorem rj {Q:Except Value α->Shared->Prop} (h:cC M A m (λa=>Q (.ok a)) (λe=>Q (.error e)) s):cC M A m.attempt Q E s:=λc p b d=>by
 refine U (Sem.wp_attempt ..) ?_;exact h c p b d
theorem bg {Q:α->Shared->Prop} (h:cC M A m Q E s):cC M A (holding vs m) Q E s:=λb p a c=>by
 refine U (Sem.wp_holding ..) ?_;exact h b p a c
theorem oS {Q} (h:cC M A m Q E s):cC M A (operate vs m) Q E s:=λb p a c=>by
 refine U (Sem.wp_operate ..) ?_;exact h b p a c
theorem bG (h:Q () s):cC M A (standAt pos) Q E s:=eW (xQ h)
theorem pO (h:Q () s):cC M A (rule tag) Q E s:=eW (fm h)
theorem nu {Q:α->Shared->Prop} (e:m=pure a) (h:Q a s):cC M A m Q E s:=U e (aO h)
theorem iQ (h:codeN M A c R s) (d:∀r s,R r s->R' r s):codeN M A c R' s:=λe p f a b=>wpCode_mono d (h e p f a b)
theorem Zk:aq≠O byPass:=λh=>fn h
theorem Gz (g:codeN M (A.mark h) c (λr s'=>match r with| .ok f=>Q f s'| .error e=>E e s') s) (b:h≠O byPass):cC M A (PySem.run c h) Q E s:=
 λi p d a=>by
  refine U (Sem.wp_run ..) (g _ p rfl (d.enter c h p b) λx hx=> ?_);rcases aT.mp hx with rfl|hx
  .exact a.1
  .exact a.2 x hx
theorem B9 (d:codeN M A c (λr s'=>match r with| .ok (.ret v)=>Q v s'| .ok _=>False| .error e=>E e s') s):cC M A (runValue c) Q E s:=λf p b a=>by
 refine U (Sem.wp_runValue ..) (d _ p rfl (b.enter c aq p (by intro x;exact fn x)) λx hx=> ?_);rcases aT.mp hx with rfl|hx
 .exact a.1
 .exact a.2 x hx
theorem nU (a:codeN M A (.call f ⟨pos,kw⟩) (λr s'=>match r with| .ok (.ret v)=>Q v s'| .ok _=>False| .error e=>E e s') s):cC M A (call f pos kw) Q E s:=B9 a
theorem dP {c:Code} {R:Result->Shared->Prop} (d:yS c=H)
 (h:cC M (A.under c) (M.den c) (λa s'=>match a with| .done f=>R (.ok f) s'| .again c'=>c'.quiet=H/\codeN M A c' R s') (λe s'=>R (.error e) s') s):codeN M A c R s:=λg p i b hb=>by
 rw [wpCode_iff_wp,i];refine pX M g _ (λa k s' h'=> ?_) (λj j j h'=>h') p s (h g p (i▸b.in) ⟨i▸d,hb⟩)
 induction a using PySem.Fin.casesOn with
 |done f=>exact h'
 |again c'=>exact⟨h'.1,h'.2 (g.goto c') k rfl (b.goto c') hb⟩
theorem yT (b:codeN M (A.mark h) c (λr s'=>match r with| .ok f=>Q f s'| .error _=>False) s) (a:h≠O byPass):cC M A (runOwn c env h) Q E s:=by
 refine j3 (Gz (iQ b λr s' q=> ?_) a)
 induction r using Except.casesOn with
 |ok f=>exact q
 |error e=>exact q.elim
theorem rZ {Q:α->Shared->Prop} (h:cC M A m Q (λa a=>False) s):cC M A (m.onRaise λx=>do wO x env;oX x) Q E s:=
 j3 (aV h (λa a q=>q) λa a f=>f.elim)
theorem iY [Decidable b] {x y} {Q:α->Shared->Prop} (h1:b->cC M A x Q E s) (h2:¬b->cC M A y Q E s):cC M A (if b then x else y) Q E s:=by
 split
 .exact h1 ‹_›
 .exact h2 ‹_›
theorem NJ {Q:β->Shared->Prop} (h:∀{Q:α->Shared->Prop},Q a s'->wpAny M A m Q E s) (c:cC M A (k a) Q E s'):cC M A (m>>=k) Q E s:=ay (eW (h c))
theorem NK {a:α} {Q:β->Shared->Prop} (c:cC M A (k a) Q E s):cC M A (pure a>>=k) Q E s:=ay (aO c)
theorem V3 {Q:α->Shared->Prop} (h:¬c) (k:cC M A b Q E s):cC M A (@ite _ c d a b) Q E s:=U (if_neg h) k
theorem V4 {Q:α->Shared->Prop} (k:cC M A b Q E s):cC M A (@ite _ (aj=H) d a b) Q E s:=V3 bY k
theorem GA {t:Sem α} {Q:α->Shared->Prop} (h:cC M A t Q (λa a=>False) s):cC M A t Q E s:=aV h (λa a q=>q) λa a f=>f.elim
end
section
variable {M:Model} {A:Around} {E:Value->Shared->Prop} {s:Shared} {env:dj} {prog:Program} {w:World}
theorem HR {l op r pos} (h:cC M A (eval l env) (λa c=>cC M A (eval r env) (λb d=>cC M A (binaryOp op a b) Q E d) E c) E s):cC M A (eval (.BinOp l op r pos) env) Q E s:=ay (aV h (λa c e=>ay (bg (aV e (λb d f=>ay (bG (oS f))) λg g x=>x))) λg g x=>x)
theorem Ca {l op r pos} (h:cC M A (eval l env) (λa c=>cC M A (eval r env) (λb d=>cC M A (compareOp op a b) Q E d) E c) E s) (hm:qI op r=aj):cC M A (eval (.Compare l [op] [r] pos) env) Q E s:=by
 refine ay (aV h (λa c e=>ay (bg ?_)) λg g x=>x);exact U (markedBehindIn_of_false hm) (aV e (λb d f=>ay (bG (oS f))) λg g x=>x)
theorem sM {l op r pos whole}
 (h:cC M A (eval l env) (λa d=>cC M A (eval r env) (λb e=>cC M A (compareOp op a b) (λc f=>cC M A (truthy c) Q E f) E e) E d) E s) (hm:qI op r=aj):cC M A (isTrue (.Compare l [op] [r] pos) env whole) Q E s:=by
 refine ay (aV h (λa d g=>ay (bg ?_)) λi i x=>x);exact U (markedBehindIn_of_false hm) (aV g (λb e j=>ay (bG (ay (oS (aV j (λc f k=>bg k) λi i x=>x))))) λi i x=>x)
theorem yU (h:cC M A (isTrue x env (eval x env)) (λb a=>Q (!b) a) E s):cC M A (isTrue (.UnaryOp .Not x pos) env whole) Q E s:=ay (aV h (λb a c=>aO c) λd d x=>x)
theorem HS {Q} (h:cC M A (isTrue test env (eval test env)) (λb a=>if b then cC M A (eval body env) Q E a else cC M A (eval orelse env) Q E a) E s):cC M A (eval (.IfExp test body orelse pos) env) Q E s:=by
 refine ay (aV h (λb a c=> ?_) λd d x=>x);rcases b<;>exact c
theorem uK (h:cC M A (allTrue op values env) Q E s):cC M A (isTrue (.BoolOp op values pos) env whole) Q E s:=U (arm_isTrue_BoolOp ..) h
theorem mP {e pos} (h:cC M A (eval e env) (λv=>Q (.ret v)) E s):cC M A (exec (.Return (O e) pos) env) Q E s:=ay (bG (ay (aV h (λv b a=>aO a) λc c x=>x)))
theorem SH {test body orelse pos} (h:cC M A (isTrue test env (eval test env)) (λb a=>if b then cC M A (execs body env) Q E a else cC M A (execs orelse env) Q E a) E s):cC M A (exec (.If test body orelse pos) env) Q E s:=by
 refine ay (bG (ay (aV h (λb d c=> ?_) λe e x=>x)));rcases b<;>exact c
theorem kU {b rest} {Q} (h:cC M A (exec b env) (λf s'=>match f with| .next=>cC M A (execs rest env) Q E s'|f=>Q f s') E s):cC M A (execs (b::rest) env) Q E s:=by
 refine ay (aV h (λf c a=> ?_) λd d x=>x)
 induction f using PySem.Flow.casesOn with
 |next=>exact a
 |_=>exact aO a
theorem Kr {e pos} (h:cC (model prog w) A (eval e env) (λa=>Q .next) E s) (hi:interactive env=aj) (b:swapsWith e aq pos.line env=pure aj):cC (model prog w) A (exec (.Expr e pos) env) Q E s:=U (exec_Expr env e pos hi b) (ay (bG (ay (aV h (λv s' h'=>eW (wpAny_dropValue h')) λa a x=>x))))
theorem HU {test body orelse pos} (h:codeN M A (.whileLoop test body orelse env) (λr s'=>match r with| .ok f=>Q f s'| .error _=>False) s):cC M A (exec (.While test body orelse pos) env) Q E s:=ay (bG (yT (h:=aq) h Zk))
theorem N7 {target iter body orelse pos}
 (h:cC M A (eval iter env) (λx a=>cC M A (pyIter x) (λg b=>codeN M A (.forLoop target g body orelse env) (λr s'=>match r with| .ok f=>Q f s'| .error _=>False) b) E a) E s)
 (i:∀x,foldedSetIterable iter env x=pure x):cC M A (exec (.For target iter body orelse pos) env) Q E s:=by
 refine ay (bG (ay (aV h (λx a c=> ?_) λe e x=>x)));exact ay (nu (i x) (ay (bG (ay (bg (aV c (λg b d=>yT (h:=aq) d Zk) λe e x=>x))))))
theorem HV {lower upper step}
 (h:cC M A (evalPart lower env) (λl b=>cC M A (evalPart upper env) (λu c=>cC M A (evalPart step env) (λi a=>
  Q (.ref a.heap.objs.size) {a with heap:=a.heap.push {cls:= .type "slice",data:= .fields #[l,u,i]}}) E c) E b) E s):cC M A (eval (.Slice lower upper step p) env) Q E s:=by
 refine ay (aV h (λl b d=>ay (bg (aV d (λu c e=>ay (bg (aV e (λi a f=> ?_) λg g x=>x))) λg g x=>x))) λg g x=>x);exact eW (dZ f)
theorem DB (h:cC (model prog w) A (execs stmts env) (λf s'=>R (.ok f) s') (λa a=>False) s):codeN (model prog w) A (.block stmts env) R s:=dP rfl (ay (rZ (aV h (λf s' h'=>aO h') λa a h'=>h')))
theorem tN {body} (h:cC (model prog w) (A.deeper env) (execs body env) (λf s'=>R (.ok (.ret (match f with| .ret v=>v|_=> .none))) s') (λa a=>False) s):codeN (model prog w) A (.func body env) R s:=by
 refine dP rfl (ay (eW (vI (ay (j3 (aV h (λf s' h'=> ?_) λa a h'=>h'.elim))))));rcases f<;>exact aO h'
theorem yV (h:cC (model prog w) (A.deeper env) (eval e env) (λv s'=>R (.ok (.ret v)) s') (λa a=>False) s):codeN (model prog w) A (.expr e env) R s:=dP rfl (ay (eW (vI (ay (j3 (aV h (λv s' h'=>aO h') λa a h'=>h'.elim))))))
end
end
section
structure fQ (n b:Nat) (A:Around):Prop where
 handled:A.handled=aq
 units:A.units+200*n+b+400<=9900
 depth:A.depth+4*n<=690
theorem fQ.less (x:fQ n b A) (h:b'<=b):fQ n b' A:=⟨x.handled,aI (Nat.add_le_add_right (jR h _) _) x.units,x.depth⟩
theorem fQ.u {n b k:Nat} (x:fQ n b A) (h:bO k 400=H):A.units+k<=9900:=aI (Nat.add_le_add (aI (d9 _ _) (d9 _ _)) (aB h)) x.units
theorem cl (h:a+m<=9900) (hk:bE k m=H):a+k<cLine:=aR (Nat.add_lt_add_left (aB hk) a) h
theorem fQ.c (x:fQ n b A) (h:bE k 400=H):A.units+k<cLine:=cl (x.u rfl) h
theorem SI (h:a+200*(n+1)+0+400<=9900) (c:j+b<=200):a+j+200*n+b+400<=9900:=by
 rw [Nat.mul_succ,Nat.add_zero,<-j8 a (200*n) 200] at h;rw [Nat.add_right_comm a j,j8 _ j b];exact aI (Nat.add_le_add_right (jR c _) 400) h
theorem Ks (h:a+4*(n+1)<=690) (c:j<=4):a+j+4*n<=690:=by
 rw [Nat.mul_succ,<-j8] at h;exact U (Nat.add_right_comm ..) (aI (jR c _) h)
theorem fQ.next (x:fQ (n+1) 0 A) (c:A'.handled=A.handled) (hu:A'.units=A.units+j) (e:j+b<=200) (f:A'.depth=A.depth+d) (a:bO d 4=H):fQ n b A':=
 ⟨c.trans x.handled,U hu (SI x.units e),U f (Ks x.depth (aB a))⟩
structure jV (X:dw) (G:Str->Option V):Prop where
 load:∀(w:Wd) (h:aev) (s:Shared),St X w h s->∀x v,aY x=H->G x=O v->∃mg mb y,s.heap.Ns mainNs mg/\s.heap.Ns builtinsNs mb/\(mg x=O y\/(mg x=aq/\mb x=O y))/\∀n,VR X s.heap w n v y
structure eZ (X:dw) (env:dj) (ns:List (Str×aM)) (ρ:Env) (w:Wd) (n:Nat) (s:Shared):Prop where
 fn:env.scope.kind= .function
 glob:env.globals=mainNs
 blt:env.builtins=builtinsNs
 kind:∀x k,aY x=H->aZ (nm x) ns=O k->match k with
  | .local=>env.kindOf x=O .local
  | .cell=>env.kindOf x=O .cell
  | .free=>env.kindOf x=O .cell\/env.kindOf x=O .free
  | .globalImplicit=>env.kindOf x=O .globalImplicit
  |_=>True
 cls:∀x k,aZ (nm x) ns=O k->(x==("__classdict__":Str))=aj
 GB:∀x k,aZ (nm x) ns=O k->(x==("__debug__":Str))=aj
 loc:∃m,s.heap.Ns env.locals m/\∀x v,aY x=H->aZ (nm x) ns=O .local->find (nm x) ρ.loc=O v->∃y,m x=O y/\VR X s.heap w n v y
 DC:w.role env.locals=aq/\X.h₀.objs.size<=env.locals/\env.locals∉X.tabs
 cell:∀x,aY x=H->(aZ (nm x) ns=O .cell\/aZ (nm x) ns=O .free)->∃c ov,env.cells.lookup x=O c/\w.role c=aq/\X.h₀.objs.size<=c/\c∉X.tabs/\s.heap.IsCell c ov
 wZ:∀x v c,aY x=H->aZ (nm x) ns=O .cell->find (nm x) ρ.loc=O v->env.cells.lookup x=O c->∃y,s.heap.IsCell c (O y)/\VR X s.heap w n v y
 w9:∀x v c,aY x=H->aZ (nm x) ns=O .free->find (nm x) ρ.out=O v->env.cells.lookup x=O c->∃y,s.heap.IsCell c (O y)/\VR X s.heap w n v y
 apart:∀x y c,env.cells.lookup x=O c->env.cells.lookup y=O c->x=y
 locs:∀y v,find y ρ.loc=O v->aZ y ns=O .local\/aZ y ns=O .cell
 outs:∀y v,find y ρ.out=O v->aZ y ns≠O .cell
 N8:gH ns=aj->∀c q,X.jQ ns=O (c,q)->env.code= .ref c/\env.qual=q
section
variable {X:dw} {env:dj} {ns:List (Str×aM)} {ρ:Env} {w w':Wd} {n n':Nat} {s s':Shared}
theorem uL {h h':Heap} {a} {m} (x:h.Ns a m) (k:∀o,h.get? a=O o->h'.get? a=O o):h'.Ns a m:=let⟨o,es,ep,e,r⟩:=x;⟨o,es,ep,k o e,r⟩
theorem ig {h h':Heap} (x:h.IsCell c v) (k:∀o,h.get? c=O o->h'.get? c=O o):h'.IsCell c v:=let⟨o,e,d⟩:=x;(bV o (k o e) d)
theorem eZ.ext (e:eZ X env ns ρ w n s) (x:Ext X cT w n s w' n' s'):eZ X env ns ρ w' n' s':=by
 have k:=x.dX;have d:∀a,w.role a=aq->a∉X.tabs->∀o,s.heap.get? a=O o->s'.heap.get? a=O o:=λa h1 h2 o f=>x.old a o h1 h2 (λh=>h) f;refine aK e.loc λm hv hm=> ?_;have hl:=e.DC;refine⟨e.fn,e.glob,e.blt,e.kind,e.cls,e.GB,(bV m (uL hm (d _ hl.1 hl.2.2)) (λy v h1 h2 f=> ?_)),⟨?_,hl.2⟩,λy h1 h2=> ?_,λy v c h1 h2 f j=> ?_,λy v c h1 h2 f j=> ?_,e.apart,e.locs,e.outs,e.N8⟩
 .refine dN (hv y v h1 h2 f) λz hz l=> ?_;exact bV z hz (l.mono k)
 .exact(x.role _ hm.lt).trans hl.1
 .exact HJ (e.cell y h1 h2) λc t p g a3 i q=>lX c t p ((x.role _ q.lt).trans g) a3 i (ig q (d _ g i))
 .refine aK (e.wZ y v c h1 h2 f j) λz l hz=>HJ (e.cell y h1 (.inl h2)) λc' t p g a3 i q=> ?_;injection j.symm.trans p with hq;subst hq
  exact bV z (ig hz (d _ g i)) (l.mono k)
 .refine aK (e.w9 y v c h1 h2 f j) λz l hz=>HJ (e.cell y h1 (.inr h2)) λc' t p g a3 i q=> ?_;injection j.symm.trans p with hq;subst hq
  exact bV z (ig hz (d _ g i)) (l.mono k)
end
section
variable {X:dw}
theorem r5:Ext X F w m s w m {s with toks:=s.toks+1}:=⟨br _,br _,λa a=>rfl,λa a=>rfl,λa a=>rfl,λa a a a a e=>e,rfl,rfl⟩
theorem St.tok (x:St X w h s):St X w h {s with toks:=s.toks+1}:=⟨x.rep,x.lim,x.base,x.size,x.tab⟩
end
def Goes {α:Type} (P:Wd->Nat->Shared->α->Value->Prop) (X:dw) (w:Wd) (m:Nat) (s:Shared) (k:α->aev->Option Res) (res:Res) (Q:Value->Shared->Prop):Prop:=
 ∀w' h' s' v y,St X w' h' s'->Ext X cT w m s w' h'.n s'->P w' h'.n s' v y->k v h'=O res->Q y s'
abbrev PV (X:dw):Wd->Nat->Shared->V->Value->Prop:=λw n s v y=>VR X s.heap w n v y
section
variable {X:dw} {w w':Wd} {h h':aev} {m m':Nat} {s s':Shared} {res:Res} {Q:Value->Shared->Prop}
theorem Goes.ext (g:Goes P X w m s k res Q) (x:Ext X cT w m s w' m' s'):Goes P X w' m' s' k res Q:=
 λe f i v y a b c d=>g e f i v y a (x.trans b) c d
theorem Goes.tok (g:Goes (PV X) X w h.n s k res Q) (a:St X w h s) (c:VR X s.heap w h.n v y) (e:k v h=O res):Q y {s with toks:=s.toks+1}:=
 g w h _ v y a.tok r5 c e
theorem Goes.here {k:α->aev->Option Res} (g:Goes P X w h.n s k res Q) (a:St X w h s) (c:P w h.n s v y) (e:k v h=O res):Q y s:=
 g w h s v y a .refl c e
end
def cN (X:dw) (r:Ap) (n b:Nat) (ns:List (Str×aM)) (e:XE) (x:Expr):Prop:=
 ∀A,fQ n b A->∀env ρ w h s,St X w h s->eZ X env ns ρ w h.n s->∀k res,e.f r ρ h k=O res->∀Q:Value->Shared->Prop,
  Goes (PV X) X w h.n s k res Q->cC (model X.prog X.w) A (eval x env) Q (λu_ u_=>False) s
section
variable {X:dw} {r:Ap} {n b:Nat} {ns:List (Str×aM)}
theorem cN.bad x:cN X r n b ns fu x:=λa a a a a a a a a a a e=>fn e
theorem cN.loc x p (hx:aY x=H) (hk:aZ (nm x) ns=O .local\/aZ (nm x) ns=O .cell):cN X r n b ns (qB (nm x)) (.Name x p):=by
 intro A _ env ρ w h s f he k res e Q g;refine dN (nT e) λv hv e=> ?_;rcases hk with hk|hk
 .exact aK he.loc λm a hm=>aK (a x v hx hk hv) λy d hy=>eW (wpAny_Name (wpAny_loadName_local he.fn (he.kind x _ hx hk) hm hy (g w h s v y f .refl d e)) (he.GB x _ hk))
 .exact nK (he.cell x hx (.inl hk)) λc j l i=>aK (he.wZ x v c hx hk hv i) λy d hy=>eW (wpAny_Name (wpAny_loadName_cell he.fn (he.kind x _ hx hk) i hy (g w h s v y f .refl d e)) (he.GB x _ hk))
theorem cN.free x p (hx:aY x=H) (hk:aZ (nm x) ns=O .free):cN X r n b ns (Dj (nm x)) (.Name x p):=by
 intro A _ env ρ w h s f he k res e Q g;refine dN (nT e) λv hv e=>nK (he.cell x hx (.inr hk)) λc j l d=>aK (he.w9 x v c hx hk hv d) λy i hy=> ?_;rcases he.kind x _ hx hk with a|a
 .exact eW (wpAny_Name (wpAny_loadName_cell he.fn a d hy (g w h s v y f .refl i e)) (he.GB x _ hk))
 .exact eW (wpAny_Name (wpAny_loadName_free he.fn a d hy (g w h s v y f .refl i e) (he.cls x _ hk)) (he.GB x _ hk))
theorem cN.glob (f:jV X G) x p (hx:aY x=H) (hk:aZ (nm x) ns=O .globalImplicit) v (g:G x=O v):cN X r n b ns (xC v) (.Name x p):=by
 intro A _ env ρ w h s d he k res e Q i;obtain⟨l,o,y,h1,h2,a,j⟩:=f.load w h s d x v hx g;refine eW (wpAny_Name ?_ (he.GB x _ hk));rw [PyProof.Rows.loadName_read he.fn (he.kind x _ hx hk)];have hq:=i w h s v y d .refl (j _) e;rcases a with a|⟨a,c⟩
 .exact Calls.loadGlobal_global (he.glob▸h1) a hq
 .exact Calls.loadGlobal_builtin (he.glob▸h1) a (he.blt▸h2) c hq
set_option tactic.hygienic true in
theorem cN.name (a:jV X G) x p:cN X r n b ns (J3 G ns x) (.Name x p):=by
 unfold J3;split
 .exact .bad _
 .rename_i hx;split
  .rename_i k hk
   induction k using dm with
   |«local»=>exact .loc x p hx (.inl hk)
   |cell=>exact .loc x p hx (.inr hk)
   |free=>exact .free x p hx hk
   |globalImplicit=>
    refine(?_:cN X r n b ns (JZ G x) _);unfold JZ
    induction c:G x using zO with
    |none=>exact .bad _
    |some v=>exact .glob a x p hx hk v c
   |globalExplicit=>exact .bad _
  .exact .bad _
end
end
section
open PyProof.Rows
section
variable {X:dw} {w w':Wd} {h h':aev} {m m':Nat} {s s':Shared} {res:Res} {Q:Value->Shared->Prop}
theorem VR.mD i t:VR X g w n (mD i) (.int i t):=by
 induction i using Int.casesOn with
 |ofNat k=>exact .nat k t
 |negSucc k=>exact .neg k t
theorem VR.Ku t (e:i=j):VR X g w n (Mine.mD i) (.int j t):=e▸VR.mD i t
theorem VR.aW {k:Nat} t (e:(k:Int)=j):VR X g w n (Mine.aW k) (.int j t):=by subst e;exact .nat k t
theorem VR.qS {k:Nat} t (hk:0<k) (e: -(k:Int)=j):VR X g w n (Mine.qS k) (.int j t):=by
 obtain⟨k,rfl⟩:∃a,k=a+1:=⟨k-1,by lia⟩;subst e;have: -((k+1:Nat):Int)=Int.negSucc k:=Int.neg_ofNat_succ k;refine U this ?_;exact .neg k t
end
def rm (X:dw) (b:Nat) (f:V->V->M V) (op:Operator):Prop:=
 ∀A n,fQ n b A->∀w h s,St X w h s->∀u v x y,VR X s.heap w h.n u x->VR X s.heap w h.n v y->∀k res,f u v h k=O res->∀Q,Goes (PV X) X w h.n s k res Q->wpAny (model X.prog X.w) A (binaryOp op x y) Q (λu_ u_=>False) s
section
variable {X:dw} {b:Nat}
theorem A7 (e:NZ x y f=O r):ak x.t 2=H/\ak y.t 2=H/\x.n<=18446744073709551615/\y.n<=18446744073709551615/\f=O r:=by
 unfold NZ at e;exact aC (dH e) λe a=>aC (dH e) λe b=>aC (dH e) λe c=>gc (dH e) λd e=>A4 a b (aB c) (aB d) e
theorem r6 (e:JS x y f=O r):ak x.t 2=H/\ak y.t 2=H/\f=O r:=aC (dH e) λe a=>gc (dH e) λb e=>iW a b e
theorem ji {a b:Nat} (e:ak (aG a b) 0=H):a=0/\b=0:=by have:a+b=0:=aH e;lia
theorem r7 (h:v.n<=18446744073709551615):(dU v).natAbs<2^64:=by
 unfold dU
 induction ak v.s 0 using zB with
 |true=>show(dQ v.n).natAbs<_;simp;exact xD h
 |false=>show(Int.negOfNat v.n).natAbs<_;refine U Int.negOfNat_eq ?_;simp;exact xD h
theorem fj (h:v.s=0):dU v=(v.n:Int):=by unfold dU;refine U h ?_;rfl
theorem N9:rm X b VC .Sub:=by
 intro A n _ w h s c u v x y hu hv k res e Q d;refine iO (r6 e) λe g i=>fF (hu.cO g) λt a=> ?_;subst a;refine fF (hv.cO i) λq a=> ?_;subst a;refine sub_int ?_
 induction hz:ak (aG u.s v.s) 0 using zB with
 |false=>
  rw [hz] at e;exact d.tok c (VR.Ku _ rfl) e
 |true=>
  rw [hz] at e;refine gc (ji hz) λj l=>U (fj j) (U (fj l) ?_)
  induction hl:bO v.n u.n using zB with
  |true=>
   have f:k (aW (ez u.n v.n)) h=O res:=by simpa only [hl] using e
   exact d.tok c (VR.aW _ (by have:=aB hl;show((u.n-v.n:Nat):Int)=_;exact Int.ofNat_sub this)) f
  |false=>
   have f:k (qS (ez v.n u.n)) h=O res:=by simpa only [hl] using e
   have o:¬v.n<=u.n:=λp=>by rw [Nat.ble_eq.mpr p] at hl;exact ft hl
   exact d.tok c (VR.qS _ (by show 0<v.n-u.n;lia) (by show-((v.n-u.n:Nat):Int)=_;lia)) f
theorem V5 (h:c.natAbs<2^64):IntMulOk a c:=IntMulOk.of_right (intBits_le_64 (by lia) (by lia))
theorem Oa:rm X b VD .Mult:=by
 intro A n _ w h s d u v x y hu hv k res e Q f;refine iO (r6 e) λe i j=>aC (dH e) λe g=>fF (hu.cO i) λt a=> ?_;subst a;refine fF (hv.cO j) λp a=> ?_;subst a;have c:IntMulOk (dU u) (dU v):=by
  induction hb:BY u using zB with
  |true=>
   have:=r7 (aB hb);exact IntMulOk.of_left (intBits_le_64 (by lia) (by lia))
  |false=>
   rw [hb] at g;exact V5 (r7 (aB g))
 refine PyProof.Rows.mul_int ?_ c
 induction hz:ak (aG u.s v.s) 0 using zB with
 |false=>
  rw [hz] at e;exact f.tok d (VR.Ku _ rfl) e
 |true=>
  rw [hz] at e;exact gc (ji hz) λl o=>f.tok d (VR.aW _ (by refine U (fj l) (U (fj o) ?_);show((u.n*v.n:Nat):Int)=_;exact Int.natCast_mul (V.n u) (V.n v))) e
end
section
variable {X:dw} {b:Nat}
theorem r8 (e:JR x y f=O r):ak x.t 2=H/\ak y.t 2=H/\x.n<=18446744073709551615/\y.n<=18446744073709551615/\x.s=0/\y.s=0/\f=O r:=vR (A7 e) λe a b c d=>gc (dH e) λz e=>gc (ji z) λg h=>⟨a,b,c,d,g,h,e⟩
theorem HW (h:a<=18446744073709551615):a.log2<9000:=by
 refine aR (m:=64) ?_ (aB rfl);rcases Nat.eq_zero_or_pos a with rfl|hp
 .decide
 .exact(Nat.log2_lt (iA hp)).mpr (xD h)
theorem nez {a:Nat} (e:(af k aq (ak a 0):Option Res)=O r):a≠0/\k=O r:=by
 induction hz:ak a 0 using zB with
 |true=>rw [hz] at e;exact fn e
 |false=>rw [hz] at e;exact⟨fV hz,e⟩
theorem Ob:rm X b VE .FloorDiv:=by
 intro A n _ w h s c u v x y hu hv k res e Q d;refine iO (r6 e) λe f g=>aC (dH e) λe i=>aC (dH e) λe z=>gc (ji z) λj l=>aC (nez e) λe hz=>fF (hu.cO f) λt a=> ?_;subst a;refine fF (hv.cO g) λm a=> ?_;subst a;refine U (fj j) (U (fj l) (floordiv_int ((λ{n}=>Iff.mpr Int.ofNat_ne_zero) hz) ?_ (.inl (oY (HW (aB i))))));exact d.tok c (VR.aW _ (by show((u.n/v.n:Nat):Int)=_;refine U (oZ _ (cj (V.n v))) ?_;rfl)) e
theorem Oc:rm X b VG .Mod:=by
 intro A n _ w h s f u v x y hu hv k res e Q g;refine iO (r6 e) λe j i=>aC (nez e) λe hz=>fF (hu.cO j) λt a=> ?_;subst a;refine fF (hv.cO i) λo a=> ?_;subst a;have d:dU v≠0:=by
  rcases hv.E9 i with⟨_,q⟩|⟨_,p,q⟩
  .refine U q ?_;simp;exact hz
  .refine U q ?_;lia
 refine mod_int' d ?_
 induction c:ak (aG u.s v.s) 0 using zB with
 |false=>
  rw [c] at e;exact g.tok f (VR.Ku _ rfl) e
 |true=>
  rw [c] at e;exact gc (ji c) λl m=>g.tok f (VR.aW _ (by refine U (fj l) (U (fj m) ?_);show((u.n %v.n:Nat):Int)=_;refine U (Int.fmod_eq_emod_of_nonneg _ (cj (V.n v))) ?_;rfl)) e
theorem Od:rm X b VH .Pow:=by
 intro A n _ w h s d u v x y hu hv k res e Q f;refine oM (r8 e) λe g i j p l c=>aC (dH e) λe q=>aC (dH e) λe m=>fF (hu.cO g) λt a=> ?_;subst a;refine fF (hv.cO i) λr a=> ?_;subst a;have o:=cD.mp m;refine pow_int_small (U (fj c) (cj (V.n v))) (by refine U (fj c) ?_;lia) (r7 j) ?_;exact f.tok d (VR.aW _ (by refine U (fj l) (U (fj c) ?_);show((u.n^v.n:Nat):Int)=_;exact Int.natCast_pow (V.n u) (V.n v))) e
theorem Oe:rm X b VI .LShift:=by
 intro A n _ w h s d u v x y hu hv k res e Q f;refine oM (r8 e) λe g i j p l c=>aC (dH e) λe m=>fF (hu.cO g) λt a=> ?_;subst a;refine fF (hv.cO i) λq a=> ?_;subst a;have o:=cD.mp m;refine lshift_int_small (U (fj c) (cj (V.n v))) (by refine U (fj c) ?_;lia) (r7 j) ?_;exact f.tok d (VR.aW _ (by refine U (fj l) (U (fj c) ?_);show((u.n*2^v.n:Nat):Int)=_;simp)) e
theorem Og:rm X b VJ .RShift:=by
 intro A n _ w h s d u v x y hu hv k res e Q f;refine oM (r8 e) λe g i l m j c=>aC (dH e) λe o=>fF (hu.cO g) λt a=> ?_;subst a;refine fF (hv.cO i) λp a=> ?_;subst a;refine rshift_int (U (fj c) (cj (V.n v))) (f.tok d (VR.aW _ ?_) e);refine U (fj j) (U (fj c) ((?_:((u.n/2^v.n:Nat):Int)=_)));have:(2:Int)^(Int.toNat (v.n:Int))=((2^v.n:Nat):Int):=rfl;refine U this (U (oZ _ (cj _)) ?_);rfl
theorem Oh:rm X b VK .BitAnd:=by
 intro A n _ w h s d u v x y hu hv k res e Q f;refine vR (A7 e) λe g i m o=>fF (hu.cO g) λt a=> ?_;subst a;refine fF (hv.cO i) λp a=> ?_;subst a;refine and_int ?_
 induction c:ak (aG u.s v.s) 0 using zB with
 |false=>
  rw [c] at e;exact f.tok d (VR.Ku _ rfl) e
 |true=>
  rw [c] at e;exact gc (ji c) λj l=>f.tok d (VR.aW _ (by refine U (fj j) (U (fj l) (U (bitAnd_pp (cj (V.n u)) (cj (V.n v))) ?_));rfl)) e
theorem Kv (hx:0<=x) (hy:0<=y):Builtin.bitOr x y=((x.toNat|||y.toNat:Nat):Int):=by
 unfold Builtin.bitOr;exact U (bitAnd_nn (λh=>bitNot_nonneg.mp h hx) (λh=>bitNot_nonneg.mp h hy)) (U (bitNot_bitNot ..) (U (bitNot_bitNot ..) (U (bitNot_bitNot ..) rfl)))
theorem SJ:rm X b bOr .BitOr:=by
 intro A n _ w h s c u v x y hu hv k res e Q d;refine oM (r8 e) λe f g l m i j=>fF (hu.cO f) λt a=> ?_;subst a;refine fF (hv.cO g) λo a=> ?_;subst a;exact or_int (d.tok c (VR.aW _ (by refine U (fj i) (U (fj j) (U (Kv (cj (V.n u)) (cj (V.n v))) ?_));rfl)) e)
end
end
section
open PyProof.Rows PySem.Calls
theorem tO (a b):qv a b=decide (a=b):=by
 induction a generalizing b with
 |nil=>induction b using zL<;>rfl
 |cons c r f=>
  induction b using zL with
  |nil=>rfl
  |cons d q=>
   refine(?_:(af aj (qv r q) (ak c d):Bool)=_)
   induction hb:ak c d using zB with
   |true=>exact(f q).trans (decide_eq_decide.mpr ⟨λe=>by rw [aH hb,e],λe=>(List.cons.inj e).2⟩)
   |false=>exact(decide_eq_false λe=>fV hb (List.cons.inj e).1).symm
theorem Kw {m k:Nat} (h:0<k):dQ m≠-(k:Int):=by
 induction k using zN with
 |zero=>exact absurd h (j9 0)
 |succ k=>exact λe=>Int.noConfusion e
theorem yW {a b:Nat} (h:a=b):ak a b=true:=h▸fy a
theorem Oi {d:Decidable p} (h:c=H↔p):c=decide p:=by
 induction c using zB with
 |true=>exact(decide_eq_true (h.mp rfl)).symm
 |false=>exact(decide_eq_false λe=>ff (h.mpr e)).symm
theorem tQ (ha:VR X g w n a x) (hb:VR X g w n b y) (ea:ak a.t 2=H) (eb:ak b.t 2=H):AG a b=decide (dU a=dU b):=by
 refine Oi ?_;unfold AG;rcases ha.E9 ea with⟨p,q⟩|⟨p,z,q⟩<;>rcases hb.E9 eb with⟨p',q'⟩|⟨p',z',q'⟩<;>refine U p (U p' (U q (U q' ?_)))
 .exact⟨λh=>congrArg dQ (aH h),λh=>yW (Int.ofNat.inj h)⟩
 .exact⟨λh=>ff h,λh=>absurd h (Kw z')⟩
 .exact⟨λh=>ff h,λh=>absurd h.symm (Kw z)⟩
 .exact⟨λh=>congrArg (λn:Nat=> -(n:Int)) (aH h),λh=>yW (Int.ofNat.inj (Int.neg_inj.mp h))⟩
structure KD (X:dw) where
 K:Type
 dec:DecidableEq K
 knd:KeyKind X.prog X.w K
 t:Nat
 of:V->K
 is:∀{g w n v y},VR X g w n v y->v.t=t->knd.is (of v) y=H
 hash:∀{g w n v y},VR X g w n v y->v.t=t->knd.hash (of v)=hashOf X v
 BS:∀{g w n a b x y},VR X g w n a x->VR X g w n b y->a.t=t->b.t=t->Mine.BS a b=O (decide (of a=of b))
 inj:∀{g w n a b x y},VR X g w n a x->VR X g w n b y->a.t=t->b.t=t->of a=of b->a=b
instance KD.acf {X:dw} (kd:KD X):DecidableEq kd.K:=kd.dec
theorem yX (e:BS a b=O c):a.t=b.t:=aH (dH e).1
section
variable {X:dw} (kd:KD X) {g:Heap} {w:Wd} {n:Nat}
structure uM (p:V×V) (q:kd.K×Value):Prop where
 key:kd.of p.1=q.1
 t:p.1.t=kd.t
 kr:∃y,VR X g w n p.1 y
 val:VR X g w n p.2 q.2
variable {kd}
theorem gV.pairs (d:gV X g w n i j) (ht:∀p∈i,p.1.t=kd.t):∃f:List (kd.K×Value),iU (uM kd (g:=g) (w:=w) (n:=n)) i f/\Pairs kd.knd j f/\(∀e∈j,∃k,kd.knd.is k e.key=H/\e.hash=kd.knd.hash k):=by
 have o:=d.all;clear d
 induction o with
 |nil=>exact f9 [] .nil .nil (λe he=>(aU he).elim)
 | @cons p e l m h t ih=>
  refine cG (ih λp hp=>ht p (aD _ hp)) λf c a b=> ?_;have hp:=ht p aE;have hi:=kd.is h.key hp;refine f9 ((kd.of p.1,e.val)::f) (.cons ⟨rfl,hp,⟨_,h.key⟩,h.val⟩ a) (.cons hi rfl b) (λq he=> ?_);rcases aT.mp he with rfl|he
  .exact bV _ hi (h.hash.trans (kd.hash h.key hp).symm)
  .exact c q he
theorem uM.keys (h:iU (uM kd (g:=g) (w:=w) (n:=n)) kvs JB):JB.map (·.1)=kvs.map (λp=>kd.of p.1):=by
 induction h with
 |nil=>rfl
 |cons h _ a=>simp [a,h.key]
end
def yY (X:dw):KD X where
 K:=Int
 dec:=inferInstance
 knd:=intKind X.prog X.w
 t:=2
 of:=dU
 is:=λhv ht=>fF (hv.cO (yW ht)) λu hq=>U hq (intKind_is X.prog X.w _ u)
 hash:=λu_ ht=>by unfold hashOf;exact U (if_pos ht) rfl
 BS:=λha hb ta tb=>by
  refine cL (tQ ha hb (yW ta) (yW tb)) ?_;unfold Mine.BS;exact U ta (U tb rfl)
 inj:=λha hb ta tb e=>(ha.Kn ta).trans ((congrArg mD e).trans (hb.Kn tb).symm)
noncomputable def DE (X:dw):KD X where
 K:=Str
 dec:=inferInstance
 knd:=strKind X.prog X.w
 t:=3
 of:=λv=>⟨v.l.toArray⟩
 is:=λhv ht=>dN (hv.qc ht) λu hq u_=>U hq (strKind_is X.prog X.w _ u)
 hash:=λu_ ht=>by unfold hashOf;exact U ht rfl
 BS:=λha hb ta tb=>by
  unfold Mine.BS;refine U ta (U tb ?_);exact congrArg O ((tO ..).trans (decide_eq_decide.mpr ⟨λe=>U e rfl,λe=>congrArg (λs:Str=>s.cps.toList) e⟩))
 inj:=λha hb ta tb e=>(ha.Ko ta).trans ((congrArg (λs:Str=>vStr s.cps.toList) e).trans (hb.Ko tb).symm)
theorem RC (l:List UInt8):(l.map bS).map su=l:=by simp [Function.comp_def]
theorem qd (h:VR X g w n v y) (e:v.t=4):v.l=(v.l.map su).map bS:=vQ (h.jN e) λb a a q a=>U q (congrArg (sR bS) (RC b.toList).symm)
noncomputable def Cb (X:dw):KD X where
 K:=List UInt8
 dec:=inferInstance
 knd:=W.bytesKind X.prog X.w
 t:=4
 of:=λv=>v.l.map su
 is:=λhv ht=>vQ (hv.jN ht) λb t hq q u_=>U hq (U q (U (RC b.toList) (PySem.W.bytesKind_is X.prog X.w b.toList t)))
 hash:=λu_ ht=>by unfold hashOf;exact U ht rfl
 BS:=λha hb ta tb=>by
  unfold Mine.BS;refine U ta (U tb ?_);exact congrArg O ((tO ..).trans (decide_eq_decide.mpr ⟨λe=>congrArg (sR su) e,λe=>(qd ha ta).trans ((congrArg (sR bS) e).trans (qd hb tb).symm)⟩))
 inj:=λha hb ta tb e=>(ha.DA ta).trans ((congrArg (λl=>fq (l.map bS)) e|>λq=>(congrArg fq (qd ha ta)).trans (q.trans (congrArg fq (qd hb tb)).symm)).trans (hb.DA tb).symm)
section
variable {X:dw} {kd:KD X} {g:Heap} {w:Wd} {n:Nat}
theorem A8 (e:iT k []=O o):o=none:=aC (dH e) λe a=>(aF e).symm
theorem qe (e:iT k (p::m)=O o):∃c,BS k p.1=O c/\((c=H/\o=O p.2)\/(c=aj/\iT k m=O o)):=by
 refine aK (nT (show(aA aq (λb=>af (iT k m) (O (O p.2)) b) (BS k p.1):Option (Option V))=O o from e)) λc e a=>bV c a ?_
 induction c using zB with
 |true=>exact .inl ⟨rfl,(aF e).symm⟩
 |false=>exact .inr ⟨rfl,e⟩
theorem Cc {K} [DecidableEq K] q l (k:K):valueAt (q::l) k=if q.1=k then O q.2 else valueAt l k:=by
 unfold valueAt;by_cases h:q.1=k<;>simp [h]
theorem Ky (hk:VR X g w n k y) (ht:k.t=kd.t) (hm:iU (uM kd (g:=g) (w:=w) (n:=n)) m JB):
 ∀{o},iT k m=O o->match o with
  |none=>valueAt JB (kd.of k)=aq
  |some u=>∃z,valueAt JB (kd.of k)=O z/\VR X g w n u z:=by
 induction hm with
 |nil=>intro o e;cases A8 e;rfl
 | @cons p q m JB h t ih=>
  intro o e;refine aK (qe e) λc e f=>fF h.kr λi b=> ?_;have hq:=kd.BS hk b ht h.t;rw [f] at hq;have a:=aF hq;refine U (Cc ..) (cL h.key ?_);rcases e with⟨d,rfl⟩|⟨d,e⟩
  .rw [d] at a;have:kd.of k=kd.of p.1:=of_decide_eq_true a.symm;exact U (if_pos this.symm) (bV q.2 rfl h.val)
  .rw [d] at a;have:kd.of k≠kd.of p.1:=of_decide_eq_false a.symm;exact U (if_neg λe=>this e.symm) (ih e)
theorem SK (h:iU (uM kd (g:=g) (w:=w) (n:=n)) a JB):∀p∈a,∃y,VR X g w n p.1 y:=by
 induction h with
 |nil=>intro p hp;nomatch hp
 |cons h _ b=>
  intro p hp;rcases aT.mp hp with rfl|hp
  .exact h.kr
  .exact b p hp
theorem gV.dictOf (h:g.get? a=O (cH es ep)) (d:gV X g w n b es.toList) (ht:∀p∈b,p.1.t=kd.t):
 ∃JB:List (kd.K×Value),iU (uM kd (g:=g) (w:=w) (n:=n)) b JB/\g.DictOf kd.knd a JB:=by
 refine cG (d.pairs (kd:=kd) ht) λJB i h1 h2=>⟨JB,h1,_,es,ep,h,(iW rfl rfl rfl),rfl,λe he=>i e (mG.mpr he),h2,(U (uM.keys h1) ?_)⟩;have c:∀p∈b,∀q∈b,kd.of p.1=kd.of q.1->p.1=q.1:=by
  intro p hp q hq e;exact fF (SK h1 p hp) λy hy=>fF (SK h1 q hq) λz hz=>kd.inj hy hz (ht p hp) (ht q hq) e
 have f:=d.nodup;clear h1 h2 i h d
 induction b with
 |nil=>exact iI
 |cons p m j=>
  rw [dI,gA] at f⊢;refine⟨λhp=> ?_,j (λp hp=>ht p (aD _ hp)) (λp hp q hq=>c p (aD _ hp) q (aD _ hq)) f.2⟩;exact aK (gJ.mp hp) λq e hq=>f.1 (gJ.mpr (bV q hq (c q (aD _ hq) p aE e)))
end
end
section
open PyProof.Rows PySem.Calls PySem.SeqAt
set_option backward.match.sparseCases false
theorem Fb (e:∀f t,x≠.float f t) (c:x=y->b=H) (h:RcAt A s x y b):EqAt A s x y b:=λprog w E Q hq=>by
 refine bP (uc (λd=> ?_) (λg=> ?_))
 .rw [c (eq_of_beq d)] at hq;exact au (fm (av hq))
 .rcases x<;>first|exact absurd rfl (e _ _)|exact au (h prog w E _ (gK hq))
theorem Cd b t c u:RcNeAt A s (.bytes b t) (.bytes c u) (!(b.toList==c.toList)):=λd d d d h=>W.ne_bytes h
theorem Fc b t c u:RcAt A s (.bytes b t) (.bytes c u) (b.toList==c.toList):=λd d d d h=>W.eq_bytes h
structure wg (A:Around) (s:Shared) (x y:Value) (t:Bool):Prop where
 eq:EqAt A s x y t
 rc:RcAt A s x y t
 ne:RcNeAt A s x y (!t)
 same:x=y->t=H
theorem wg.of_rc (d:∀f t,x≠.float f t) (c:x=y->t=H) (h:RcAt A s x y t) (h':RcNeAt A s x y (!t)):wg A s x y t:=⟨Fb d c h,h,h',c⟩
section
variable {X:dw} {w:Wd} {n:Nat} {s:Shared}
theorem IsTuple.of {items} {g:Heap} (c:g.get? a=O (gi items ep)):g.IsTuple a items:=gf _ c rfl ep rfl
theorem IsList.of {items} {g:Heap} (c:g.get? a=O (gq items ep)):g.IsList a items:=gf _ c rfl ep rfl
theorem GC (hx:eg X s.heap w n vs xs) (hy:eg X s.heap w n us ys)
 (o:∀a b x y t,VR X s.heap w n a x->VR X s.heap w n b y->f a b=O t->wg A s x y t):
 ∀{t},uE f vs us=O t->∃e:Nat->Bool,(∀j h1 (h2:j<ys.length),wg A s xs[j] ys[j] (e j))/\t=((List.range (min xs.length ys.length)).all e&&xs.length==ys.length):=by
 induction vs generalizing us xs ys with
 |nil=>
  intro t e;cases hx;cases hy with
  |nil=>injection e with e;subst e;exact bV (λc=>H) (λj h1=>absurd h1 (ku _)) rfl
  |cons u y us ys hu C=>injection e with e;subst e;exact bV (λc=>true) (λj h1=>absurd h1 (ku _)) (by show(false:Bool)=_;exact rfl)
 |cons v vs p=>
  intro t e;cases hx with
  |cons _ x _ xs hv d=>
   cases hy with
   |nil=>injection e with e;subst e;exact bV (λc=>true) (λj c h2=>absurd h2 (ku _)) rfl
   |cons u y us ys hu g=>
    refine aK (nT (show(aA none (λt=>aA none (λu=>some (af false u t)) (uE f vs us)) (f v u):Option Bool)=some t from e)) λi e q=>aK (nT e) λr e z=>dN (p d g z) λB k l=>bV (λj=>match j with|0=>i|j+1=>B j) (λj h1 h2=> ?_) ?_
    .induction j using zN with
     |zero=>exact o _ _ _ _ _ hv hu q
     |succ j=>exact k j (lC h1) (lC h2)
    .have ht:t=(i&&r):=by
      have:=aF e;refine cL this ?_;rcases i<;>rfl
     refine U ht (U l (U (Nat.succ_min_succ (fW xs) (fW ys)) (U List.range_succ_eq_map (U iC (U List.all_map ?_)))));simp only [Function.comp_def,iJ,Bool.and_assoc];congr 2;simp
end
section
variable {X:dw} {w:Wd} {h:aev} {s:Shared}
noncomputable def Zl:Value->Bool
 | .float .. =>H
 |_=>aj
theorem wg.ints {i j} {t u} (d:VR X g w n a (.int i t)) (hb:VR X g w n b (.int j u)) (e:ak a.t 2=H) (f:ak b.t 2=H):wg A s (.int i t) (.int j u) (AG a b):=by
 refine fF (d.cO e) λc h1=>fF (hb.cO f) λc h2=> ?_;injection h1 with h1 _
 injection h2 with h2 _
 exact U h1 (U h2 (U (tQ d hb e f) (.of_rc (λc c h=>(by injection h)) (λh=>by injection h with h1;exact beq_int_true h1) (RcAt.int_int _ _ _ _) (RcNeAt.int_int _ _ _ _))))
end
section
variable {X:dw} {w:Wd} {h:aev} {s:Shared}
theorem SM {A:Around} (c:A.units+k+200<=9900):A.units<cLine:=iZ (d9 _ k) (cl (k:=0) c rfl)
theorem so {p:α->Prop} (e:O a=O b) (k:p a):p b:=aF e▸k
theorem wg.diff {x y} (c:Zl x=aj) (d:x≠y) (h:RcAt A s x y aj) (h':RcNeAt A s x y H):wg A s x y false:= .of_rc (λf f e=>by rw [e] at c;exact ft c) (λe=>absurd e d) h h'
theorem GD {f:Nat->Bool} {xs ys:Array Value} (c:∀j h1 (h2:j<ys.toList.length),wg A s xs.toList[j] ys.toList[j] (f j)) j h1 (h2:j<ys.size):EqAt A s xs[j] ys[j] (f j):=by
 have q:=(c j h1 h2).eq;simp only [Array.getElem_toList] at q;exact q
theorem eq_self {xs:Array Value} (d:∀j (h1:j<xs.toList.length) h2,wg A s xs.toList[j] xs.toList[j] (f j)):((List.range (min xs.toList.length xs.toList.length)).all f&&xs.toList.length==xs.toList.length)=true:=by
 simp only [Nat.min_self,beq_self_eq_true,Bool.and_true,aL,List.mem_range];exact λj c=>(d j c c).same rfl
theorem Kz {g:Heap} {o o':Obj} {items items2} {ep KA} (h1:g.get? a=O {o with data:= .seq items ep}) (h2:g.get? a=O {o' with data:= .seq items2 KA}):items=items2:=by
 injection (congrArg Obj.data (aF (h1.symm.trans h2)))
section
variable {m:Nat} {A:Around} (hu:A.units<cLine) (elems:∀a b x y t,VR X s.heap w h.n a x->VR X s.heap w h.n b y->o8 h m a b=O t->wg A.in1 s x y t)
include hu elems
theorem KC {items items2} (hl:s.heap.get? l=O (gi items ep)) (hb:s.heap.get? b=O (gi items2 KA)) (hx:eg X s.heap w h.n xs items.toList) (hy:eg X s.heap w h.n ys items2.toList) (e:uE (o8 h m) xs ys=O t):
 wg A s (.ref l) (.ref b) t:=by
 refine dN (GC (A:=A.in1) hx hy elems e) λf d ht=>U ht (.of_rc (λg g h=>(by injection h)) (λc=> ?_) (by simpa using RcAt.tuples (e:=f) (IsTuple.of hl) (IsTuple.of hb) hu (GD d)) (by simpa using RcNeAt.tuples (e:=f) (IsTuple.of hl) (IsTuple.of hb) hu (GD d)));injection c with c
 rw [c] at hl;have q:=Kz (o:=gi items ep) (o':=gi items2 KA) hl hb;subst q;exact eq_self d
theorem HX {items items2} (i:s.heap.get? l=O (gq items ep)) (c:s.heap.get? b=O (gq items2 KA)) (hx:eg X s.heap w h.n xs items.toList) (hy:eg X s.heap w h.n ys items2.toList)
 (e:(af (O aj) (uE (o8 h m) xs ys) (ak (len xs) (len ys)):Option Bool)=O t):wg A s (.ref l) (.ref b) t:=by
 have j:l=b->items=items2:=λq=>by
  rw [q] at i;exact Kz (o:=gq items ep) (o':=gq items2 KA) i c
 rw [len_eq,len_eq,hx.length,hy.length,aN,aN] at e
 induction hl:ak items.size items2.size using zB with
 |false=>
  rw [hl] at e;have g:=fV hl;exact so e (.diff rfl (λq=>by injection q with q;exact g (congrArg fK (j q))) (RcAt.lists_lengths (IsList.of i) (IsList.of c) (bne_iff_ne.mpr g) hu) (RcNeAt.lists_lengths (IsList.of i) (IsList.of c) (bne_iff_ne.mpr g) hu))
 |true=>
  rw [hl] at e;have d:=aH hl;refine dN (GC (A:=A.in1) hx hy elems e) λf p ht=> ?_;have k:t=(List.range items.size).all f:=U ht (U aN (U aN (cL d (U (Nat.min_self ..) (U (beq_self_eq_true ..) (U (Bool.and_true ..) rfl))))));refine U k (.of_rc (λr r h=>(by injection h)) (λq=> ?_) (RcAt.lists (e:=f) (IsList.of i) (IsList.of c) d hu (GD p)) (RcNeAt.lists (e:=f) (IsList.of i) (IsList.of c) d hu (GD p)));injection q with q
  have:=j q;subst this;exact cL k (U ht (eq_self p))
omit hu elems in
theorem VR.KG (e:O (ak (af 0 1 a) (af 0 1 b))=O t):wg A s (.bool a) (.bool b) t:=so (p:=λt=>wg A s (.bool a) (.bool b) t) ((congrArg O (by rcases a<;>rcases b<;>rfl)).trans e) (.of_rc (λc c h=>(by injection h)) (λh=>by injection h with h;refine U h ?_;exact beq_self_eq_true b) (RcAt.bool_bool _ _) (RcNeAt.bool_bool _ _))
omit hu elems in
theorem VR.Oj (e:O (qv l l')=O t):wg A s (.str ⟨l.toArray⟩ u) (.str ⟨l'.toArray⟩ u') t:=by
 refine so (p:=λt=>wg A s (.str ⟨l.toArray⟩ u) (.str ⟨l'.toArray⟩ u') t) ((congrArg O (show((⟨l.toArray⟩:Str)==⟨l'.toArray⟩)=qv l l' from by refine U (tO ..) ?_;by_cases h:l=l'<;>simp [h])).trans e) ?_;exact .of_rc (λc c h=>(by injection h)) (λh=>by injection h with h _;refine U h ?_;exact beq_self_eq_true _) (RcAt.str_str _ _ _ _) (RcNeAt.str_str _ _ _ _)
omit hu elems in
theorem VR.eq_bytes {u u'} (e:O (qv (b.toList.map bS) (b'.toList.map bS))=O t):wg A s (.bytes b u) (.bytes b' u') t:=by
 have q:(b.toList==b'.toList)=qv (b.toList.map bS) (b'.toList.map bS):=by
  have:(b.toList.map bS=b'.toList.map bS)↔b.toList=b'.toList:=⟨λh=>List.map_inj_right (λc c h=>UInt8.toNat_inj.mp h)|>.mp h,λh=>U h rfl⟩;refine U (tO ..) ?_;by_cases h:b.toList=b'.toList
  .refine U (decide_eq_true (this.mpr h)) (U h ?_);exact beq_self_eq_true _
  .refine U (decide_eq_false λh'=>h (this.mp h')) ?_;exact beq_eq_false_iff_ne.mpr h
 exact so (p:=λt=>wg A s (.bytes b u) (.bytes b' u') t) ((congrArg O q).trans e) (.of_rc (λc c h=>(by injection h)) (λh=>by injection h with h _;refine U h ?_;exact beq_self_eq_true _) (Fc _ _ _ _) (Cd _ _ _ _))
theorem V6 (hb:VR X s.heap w h.n b y) (e:o8 h (m+1) dc b=O t):wg A s .none y t:=by
 induction hb using Mine.VR.casesOn with
 |none=>exact so e (.of_rc (λc c h=>(by injection h)) (λc=>rfl) RcAt.none_none RcNeAt.none_none)
 |nat k u=>exact so e (.diff rfl (λh=>(by injection h)) (RcAt.none_int _ _) (RcNeAt.none_int _ _))
 |neg k u=>exact so e (.diff rfl (λh=>(by injection h)) (RcAt.none_int _ _) (RcNeAt.none_int _ _))
 |tup xs a items ep f ht d hn hv=>exact so e (.diff rfl (λh=>(by injection h)) (RcAt.none_tuple (IsTuple.of d) hu) (RcNeAt.none_tuple (IsTuple.of d) hu))
 |_=>exact fn e
theorem RD (d:VR X s.heap w h.n ⟨2,c,k,[],[]⟩ (.int i u)) {y} {t} (hb:VR X s.heap w h.n b y) (e:o8 h (m+1) ⟨2,c,k,[],[]⟩ b=O t):wg A s (.int i u) y t:=by
 induction hb using Mine.VR.casesOn with
 |none=>exact so e (.diff rfl (λh=>(by injection h)) (RcAt.int_none _ _) (RcNeAt.int_none _ _))
 |nat k u=>exact so e (.ints d (.nat k u) rfl rfl)
 |neg k u=>exact so e (.ints d (.neg k u) rfl rfl)
 |tup xs a items ep g ht f hn hv=>exact so e (.diff rfl (λh=>(by injection h)) (RcAt.int_tuple _ _ (IsTuple.of f) hu) (RcNeAt.int_tuple _ _ (IsTuple.of f) hu))
 |_=>exact fn e
theorem V7 {items:Array Value} (c:s.heap.get? a=O (gi items ep)) (hv:eg X s.heap w h.n xs items.toList) {t:Bool} (hb:VR X s.heap w h.n b y) (e:o8 h (m+1) (dM xs) b=O t):wg A s (.ref a) y t:=by
 induction hb using Mine.VR.casesOn with
 |none=>exact so e (.diff rfl (λh=>(by injection h)) (RcAt.tuple_none (IsTuple.of c) hu) (RcNeAt.tuple_none (IsTuple.of c) hu))
 |nat k u=>exact so e (.diff rfl (λh=>(by injection h)) (RcAt.tuple_int _ _ (IsTuple.of c) hu) (RcNeAt.tuple_int _ _ (IsTuple.of c) hu))
 |neg k u=>exact so e (.diff rfl (λh=>(by injection h)) (RcAt.tuple_int _ _ (IsTuple.of c) hu) (RcNeAt.tuple_int _ _ (IsTuple.of c) hu))
 |tup ys b d i j l f o g=>exact KC hu elems c f hv g e
 |_=>exact fn e
theorem V8 (k:St X w h s) (hb:VR X s.heap w h.n b y) (e:o8 h (m+1) (bQ i) b=O t):wg A s (.ref (w.ρ i)) y t:=by
 induction hb using Mine.VR.casesOn with
 |ref j C=>
  exact aK (nT (show(aA aq (λx=>aA aq (λy=>Zg (o8 h m) x y) (HT.get h.l j)) (HT.get h.l i):Option Bool)=O t from e)) λp e q=>aK (nT e) λr e u=>aC (dH e) λe v=>aC (dH e) λe o=>jM ((k.rep i p q).2.l6 (aH o)) λitems ep z d d hv=>jM ((k.rep j r u).2.l6 ((aH v).symm.trans (aH o))) λc B f d d g=>HX hu elems z f hv g e
 |_=>exact fn e
theorem KH (d:St X w h s) (f:VR X s.heap w h.n a x) (hb:VR X s.heap w h.n b y) (e:o8 h (m+1) a b=O t):wg A s x y t:=by
 induction f using Mine.VR.casesOn with
 |none=>exact V6 hu elems hb e
 |bool a=>
  induction hb using Mine.VR.casesOn with
  |bool b=>exact VR.KG e
  |_=>exact fn e
 |nat k u=>exact RD hu elems (.nat k u) hb e
 |neg k u=>exact RD hu elems (.neg k u) hb e
 |str l u hn=>
  induction hb using Mine.VR.casesOn with
  |str o g c=>exact VR.Oj e
  |_=>exact fn e
 |bytes b u hn=>
  induction hb using Mine.VR.casesOn with
  |bytes p g c=>exact VR.eq_bytes e
  |_=>exact fn e
 |tup xs a items ep q ht j hn hv=>exact V7 hu elems j hv hb e
 |ref i hi=>exact V8 hu elems d hb e
 |_=>exact fn ((show o8 h (m+1) _ b=aq from by induction hb using Mine.VR.casesOn<;>rfl).symm.trans e)
end
theorem KI (d:St X w h s):∀m A,A.units+m+200<=9900->∀a b x y t,VR X s.heap w h.n a x->VR X s.heap w h.n b y->o8 h m a b=O t->wg A s x y t:=by
 intro m
 induction m with
 |zero=>
  intro _ _ _ _ _ _ _ _ _ e;exact fn e
 |succ m f=>
  intro A c _ _ _ _ _ g hb e;exact KH (SM c) (f A.in1 ((congrArg (·+200<=9900) (Nat.succ_add A.units m)).mpr c)) d g hb e
end
end
section
open PyProof.Rows PySem.Calls
def sX (X:dw) (w:Wd) (m:Nat) (s:Shared) (k:Bool->aev->Option Res) (res:Res) (Q:Bool->Shared->Prop):Prop:=
 ∀w' h' s' c,St X w' h' s'->Ext X cT w m s w' h'.n s'->k c h'=O res->Q c s'
def KJ (X:dw) (w:Wd) (m:Nat) (s:Shared) (k:List V->aev->Option Res) (res:Res) (Q:List Value->Shared->Prop):Prop:=
 ∀w' h' s' vs ys,St X w' h' s'->Ext X cT w m s w' h'.n s'->eg X s'.heap w' h'.n vs ys->k vs h'=O res->Q ys s'
def j4 (X:dw) (r:Ap) (n b:Nat) (ns:List (Str×aM)) (t:XT) (x:Expr):Prop:=
 ∀A,fQ n b A->∀env ρ w h s,St X w h s->eZ X env ns ρ w h.n s->∀k res,t.f r ρ h k=O res->∀Q:Bool->Shared->Prop,sX X w h.n s k res Q->cC (model X.prog X.w) A (isTrue x env (eval x env)) Q (λu_ u_=>False) s
def nV (X:dw) (b:Nat) (f:V->V->M Bool) (op:CmpOp):Prop:=
 ∀A n,fQ n b A->∀w h s,St X w h s->∀u v x y,VR X s.heap w h.n u x->VR X s.heap w h.n v y->∀k res,f u v h k=O res->∀Q:Value->Shared->Prop,sX X w h.n s k res (λc=>Q (.bool c))->wpAny (model X.prog X.w) A (compareOp op x y) Q (λu_ u_=>False) s
def KL (X:dw) (b:Nat):Prop:=
 ∀A n,fQ n b A->∀w h s,St X w h s->∀v x,VR X s.heap w h.n v x->∀k res,truth v h k=O res->∀Q:Bool->Shared->Prop,sX X w h.n s k res Q->wpAny (model X.prog X.w) A (truthy x) Q (λu_ u_=>False) s
def AH (X:dw) (r:Ap) (n b:Nat) (ns:List (Str×aM)) (l:XL) (xs:List Expr):Prop:=
 ∀A,fQ n b A->∀env ρ w h s,St X w h s->eZ X env ns ρ w h.n s->∀k res,l.f r ρ h k=O res->∀pos (Q:List Value->Shared->Prop),KJ X w h.n s k res Q->cC (model X.prog X.w) A (spliced (backTo pos (starEach xs env))) Q (λu_ u_=>False) s
section
variable {X:dw} {r:Ap} {n b:Nat} {ns:List (Str×aM)} {w w':Wd} {h h':aev} {m m':Nat} {s s':Shared} {res:Res}
theorem sX.ext (g:sX X w m s k res Q) (x:Ext X cT w m s w' m' s'):sX X w' m' s' k res Q:=λd f i c a b e=>g d f i c a (x.trans b) e
theorem cN.const c z p:cN X r n b ns (JY c) (.Constant c z p):=by
 intro A _ env ρ w h s d he k res e Q g
 induction c using lW with
 |none=>exact λa a a a=>g.here d .none e
 |bool c=>exact λa a a a=>g.here d (.bool c) e
 |int i=>exact λa a a a=>g.tok d (VR.mD i s.toks) e
 |str x=>
  have e:(af fu (xC (vStr x.cps.toList)) (bO (len x.cps.toList) 1000000):XE).f r ρ h k=O res:=e
  induction hl:bO (len x.cps.toList) 1000000 using zB with
  |false=>rw [hl] at e;exact fn e
  |true=>
   rw [hl] at e;have e:=e;have hn:=aB hl;rw [len_eq] at hn;exact λa a a a=>g.tok d (y:= .str x s.toks) (VR.str x.cps.toList s.toks hn) e
 |bytes x=>
  have e:(af fu (xC (fq (kM bS x))) (bO (len x) 1000000):XE).f r ρ h k=O res:=e
  induction hl:bO (len x) 1000000 using zB with
  |false=>rw [hl] at e;exact fn e
  |true=>
   rw [hl] at e;have e:k (fq (kM bS x)) h=O res:=e;have hn:=aB hl;rw [len_eq] at hn;rw [qb] at e;exact λa a a a=>g.tok d (y:= .bytes x.toArray s.toks) (VR.bytes x.toArray s.toks hn) e
 |_=>exact fn e
theorem cN.bin (j:rm X b f op) pos (hx:cN X r n b ns x l) (hy:cN X r n b ns y r'):cN X r n b ns (yL f x y) (.BinOp l op r' pos):=by
 intro A a env ρ w h s o he k res e Q p;exact HR (hx A a env ρ w h s o he _ res e _ λq h1 t u z c g hu B=>(hy A a env ρ q h1 t c (he.ext g) _ res B _ λC h2 D v E d i hv F=>eW (j A n a C h2 D d u v z E (hu.mono i.dX) hv k res F Q (p.ext (g.trans i)))))
theorem cN.cmp (p:nV X b f op) pos (hm:qI op r'=aj) (hx:cN X r n b ns x l) (hy:cN X r n b ns y r'):cN X r n b ns (BZ f x y) (.Compare l [op] [r'] pos):=by
 intro A a env ρ w h s q he k res e Q t;refine Ca (hx A a env ρ w h s q he _ res e _ λz h1 B u C d j hu D=> ?_) hm;exact hy A a env ρ z h1 B d (he.ext j) _ res D _ λE h2 F v G g o hv I=>eW (p A n a E h2 F g u v C G (hu.mono o.dX) hv _ res I Q λJ K L c i M P=>(t J K L _ _ i ((j.trans o).trans M) (.bool c) P))
theorem j4.cmp (p:nV X b f op) pos (hm:qI op r'=aj) (hx:cN X r n b ns x l) (hy:cN X r n b ns y r'):j4 X r n b ns (E0 f x y) (.Compare l [op] [r'] pos):=by
 intro A a env ρ w h s q he k res e Q t;refine sM (hx A a env ρ w h s q he _ res e _ λz h1 B u C d j hu D=> ?_) hm;exact hy A a env ρ z h1 B d (he.ext j) _ res D _ λE h2 F v G g o hv I=>eW (p A n a E h2 F g u v C G (hu.mono o.dX) hv _ res I _ λJ K L c i M P=>(eW<|gK (t J K L c i ((j.trans o).trans M) P)))
theorem neg_eq c:neg c= !c:=by rcases c<;>rfl
theorem j4.not pos (hx:j4 X r n b ns t x):j4 X r n b ns (VS t) (.UnaryOp .Not x pos):=by
 intro A f env ρ w h s g he k res e Q i;refine yU (hx A f env ρ w h s g he _ res e _ λj h1 l c d o a=> ?_);have a:k (neg c) h1=O res:=a;rw [neg_eq] at a;exact i j h1 l _ d o a
theorem cN.ite pos (ht:j4 X r n b ns t te) (hx:cN X r n b ns x a) (hy:cN X r n b ns y c):cN X r n b ns (VL t x y) (.IfExp te a c pos):=by
 intro A g env ρ w h s p he k res e Q i;refine HS (ht A g env ρ w h s p he _ res e _ λj h1 l c d f o=> ?_)
 induction c using zB with
 |true=>exact hx A g env ρ j h1 l d (he.ext f) k res o Q (i.ext f)
 |false=>exact hy A g env ρ j h1 l d (he.ext f) k res o Q (i.ext f)
theorem j4.ofE (f:KL X b) (hx:cN X r n b ns x a) (hi:∀env,isTrue a env (eval a env)=(do let v<-eval a env;standAt a.pos;holding [v] (truthy v))):j4 X r n b ns (tE x) a:=by
 intro A d env ρ w h s g he k res e Q i;exact U (hi ..) (ay (hx A d env ρ w h s g he _ res e _ λj h1 l u o c p hu q=>(ay (bG (bg (eW (f A n d j h1 l c u o hu k res q Q (i.ext p))))))))
theorem AH.nil:AH X r n b ns ko []:=by
 intro A _ env ρ w h s a he k res e pos Q c;exact aO (c w h s [] [] a .refl .nil e)
theorem AH.cons (f:bk a=aj) (hx:cN X r n b ns x a) (hl:AH X r n b ns l as):AH X r n b ns (dS x l) (a::as):=by
 intro A o env ρ w h s t he k res e pos Q y;have d:starEach (a::as) env=(aj,eval a env)::starEach as env:=by rcases a<;>first|rfl|exact ft f
 refine U d ((?_:cC _ _ (eval a env>>=λv=>pure [v]>>=λc=>holding c (spliced (backTo pos (starEach as env)))>>=λr=>pure (c++r)) _ _ s));exact ay (hx A o env ρ w h s t he _ res e _ λz h1 B u G g p hu C=>(ay (aO (ay (bg (hl A o env ρ z h1 B g (he.ext p) _ res C pos _ λD h2 E vs ys i q j F=>aO (y D h2 E _ _ i (p.trans q) (.cons _ _ _ _ (hu.mono q.dX) j) F)))))))
end
end
section
open PyProof.Rows PySem.Calls PySem.SeqAt
section
variable {X:dw} {w:Wd} {h:aev} {s:Shared} {A:Around}
theorem Ol {kd:KD X} {kb} (hm:iU (uM kd (g:=s.heap) (w:=w) (n:=n)) m kb)
 (k:∀a b x y t,VR X s.heap w n a x->VR X s.heap w n b y->f a b=O t->wg A s x y t) {ka} (hk:iU (uM kd (g:=s.heap) (w:=w) (n:=n)) kvs ka):
 ∀{t},JK f m kvs=O t->W.KeqHits A s kb ka t:=by
 induction hk with
 |nil=>intro t e;injection e with hq;subst hq;exact .nil
 | @cons p q l l' hp _ ih=>
  intro t e;refine aK (nT (show(aA aq (λo=>aA (O aj) (λu=>aA aq (λt=>aA aq (λu=>O (af aj u t)) (JK f m l)) (f p.2 u)) o) (iT p.1 m):Option Bool)=O t from e)) λo e r=>fF hp.kr λy hy=> ?_;have hd:=Ky hy hp.t hm r;obtain⟨qk,E⟩:=q;have c:kd.of p.1=qk:=hp.key
  induction o using zO with
  |none=>
   injection e with hq;subst hq
   rw [c] at hd;exact .miss hd
  |some u=>
   refine dN hd λz hz v=> ?_;rw [c] at hz;refine aK (nT e) λd e B=>aK (nT e) λC e D=> ?_;have ht:t=(d&&C):=by have:=aF e;refine cL this ?_;rcases d<;>rfl
   exact U ht (.hit hz (k _ _ _ _ _ hp.val v B).eq (ih D))
theorem uN (e:HL t kvs=H) (d:gV X s.heap w n kvs es):∀p∈kvs,p.1.t=t:=by
 induction kvs using zL with
 |nil=>intro p hp;nomatch hp
 |cons q l=>
  refine fF d.kind λc a=> ?_;intro p hp;exact U ((a p hp).1) (cL ((a q aE).1) (U (aH e) rfl))
theorem jO {a i:Nat} (hs:St X w h s) (hbase:10<=X.h₀.objs.size) (hr:w.role a=O i):(a==lD)=false:=by
 have:=(hs.lim a i hr).2.1;have h1:a≠1:=by lia
 exact beq_eq_false_iff_ne.mpr h1
section
variable (hs:St X w h s) (hbase:10<=X.h₀.objs.size) (hA:A.units+300<=9900) {i j:Nat} {kvs Fd:List (V×V)} {es V9:Array bf} {ep KA:Nat} (hr:w.role (w.ρ i)=O i) (hg:s.heap.get? (w.ρ i)=O (cH es ep)) (hd:gV X s.heap w h.n kvs es.toList)
 (hr2:w.role (w.ρ j)=O j) (KN:s.heap.get? (w.ρ j)=O (cH V9 KA)) (hd2:gV X s.heap w h.n Fd V9.toList) (kd:KD X) (h1:∀p∈kvs,p.1.t=kd.t) (h2:∀p∈Fd,p.1.t=kd.t) {t:Bool}
include hs hbase hA hr hg hd hr2 KN hd2 h1 h2
theorem DF (e:(af (O aj) (JK (o8 h 60) Fd kvs) (ak (len kvs) (len Fd)):Option Bool)=O t):
 (Q (.bool t) s->wpAny (model X.prog X.w) A (compareOp .Eq (.ref (w.ρ i)) (.ref (w.ρ j))) Q (λa a=>False) s)/\(Q (.bool (!t)) s->wpAny (model X.prog X.w) A (compareOp .NotEq (.ref (w.ρ i)) (.ref (w.ρ j))) Q (λa a=>False) s):=by
 have hu:A.units<cLine:=aR (show A.units<9900 by exact Nat.lt_of_add_right_lt hA) (of_decide_eq_true rfl);refine aK (hd.dictOf (kd:=kd) hg h1) λd g k=>aK (hd2.dictOf (kd:=kd) KN h2) λf l o=> ?_;have c:∀v,(d.length=f.length->W.KeqHits A.in1 s f d v)->(d.length==f.length&&v)=t->_:=λv hv hb=>
  (⟨λq=>W.keq_eq (jO hs hbase hr) (jO hs hbase hr2) g l hu hv (U hb q),λq=>W.keq_ne (jO hs hbase hr) (jO hs hbase hr2) g l hu hv (U hb q)⟩:
   (Q (.bool t) s->wpAny (model X.prog X.w) A (compareOp .Eq (.ref (w.ρ i)) (.ref (w.ρ j))) Q (λa a=>False) s)/\(Q (.bool (!t)) s->wpAny (model X.prog X.w) A (compareOp .NotEq (.ref (w.ρ i)) (.ref (w.ρ j))) Q (λa a=>False) s))
 rw [len_eq,len_eq,k.length,o.length] at e;refine sI e (λhl e=> ?_) λhl e=> ?_
 .exact c t (λa=>Ol (kd:=kd) (A:=A.in1) o (KI hs 60 A.in1 (aI (jR (m:=300) (n:=261) (aB rfl) A.units) hA)) k e) (U (aH hl) (U (beq_self_eq_true ..) rfl))
 .exact c H (λq=>absurd q (fV hl)) (U (beq_eq_false_iff_ne.mpr (fV hl)) (aF e))
end
theorem xY (hd:gV X s.heap w n kvs es) (hd2:gV X s.heap w n Fd V9) (q:(af aj (HL k Fd) (HL k kvs):Bool)=H):(∀p∈kvs,p.1.t=k)/\(∀p∈Fd,p.1.t=k):=⟨uN (bT q).1 hd,uN (bT q).2 hd2⟩
theorem SN (hbase:10<=X.h₀.objs.size) (hs:St X w h s) (hA:A.units+300<=9900) (hi:h.l.get i=O o) (f:h.l.get j=O o') (ht:o.t=2) (e:Rh (o8 h 60) o o'=O t):
 (Q (.bool t) s->wpAny (model X.prog X.w) A (compareOp .Eq (.ref (w.ρ i)) (.ref (w.ρ j))) Q (λa a=>False) s)/\(Q (.bool (!t)) s->wpAny (model X.prog X.w) A (compareOp .NotEq (.ref (w.ρ i)) (.ref (w.ρ j))) Q (λa a=>False) s):=by
 refine aC (dH e) λe c=>iX ((hs.rep i o hi).2.kR ht) λes ep a hr hg hn hd=>iX ((hs.rep j o' f).2.kR (aH c)) λV9 KA a hr2 KN g hd2=>sI e (λh2 e=> ?_) λa e=> ?_
 .exact DF hs hbase hA hr hg hd hr2 KN hd2 (yY X) (xY hd hd2 h2).1 (xY hd hd2 h2).2 e
 .exact aC (dH e) λe d=>DF hs hbase hA hr hg hd hr2 KN hd2 (DE X) (xY hd hd2 d).1 (xY hd hd2 d).2 e
end
section
variable {X:dw} {b:Nat}
theorem dg (e:look v h k=O r):v.t=6/\∃o,h.l.get v.n=O o/\k o h=O r:=aC (dH e) λe a=>dN (nT e) λo c d=>yC (aH a) o c d
theorem GF (hbase:10<=X.h₀.objs.size) (hA:fQ n b A) (hs:St X w h s) (hu:VR X s.heap w h.n u x) (hv:VR X s.heap w h.n v y)
 (e:JA u v h k=O res):∃t,k t h=O res/\∀Q:Value->Shared->Prop,(Q (.bool t) s->wpAny (model X.prog X.w) A (compareOp .Eq x y) Q (λc c=>False) s)/\(Q (.bool (!t)) s->wpAny (model X.prog X.w) A (compareOp .NotEq x y) Q (λc c=>False) s):=by
 have z:A.units+400<=9900:=hA.u rfl;have a:lift (o8 h 60 u v) h k=O res->∃t,k t h=O res/\∀Q:Value->Shared->Prop,(Q (.bool t) s->wpAny (model X.prog X.w) A (compareOp .Eq x y) Q (λc c=>False) s)/\(Q (.bool (!t)) s->wpAny (model X.prog X.w) A (compareOp .NotEq x y) Q (λc c=>False) s):=by
  intro e;refine dN (bB e) λt f g=> ?_;have r:=KI hs 60 A (by lia) u v x y t hu hv f;exact bV t g (λQ=>⟨λq=>r.rc X.prog X.w _ Q q,λq=>r.ne X.prog X.w _ Q q⟩)
 unfold JA at e
 induction l:ak u.t 6 using zB with
 |false=>rw [l] at e;exact a e
 |true=>
  rw [l] at e;refine dF (dg e) λo e c B=> ?_
  induction h2:ak o.t 2 using zB with
  |false=>simp only [h2] at e;exact a e
  |true=>
   simp only [h2] at e;refine dF (dg e) λo' e m p=>dN (bB e) λt f g=>gc (hu.eB (aH l)) λd=> ?_;subst d;intro _;refine gc (hv.eB m) λd=> ?_;subst d;intro _;exact bV t g (λQ=>SN hbase hs (by lia) B p (aH h2) f)
theorem SO (hbase:10<=X.h₀.objs.size):nV X b JA .Eq:=by
 intro A n hA w h s hs u v x y hu hv k res e Q a;exact aK (GF hbase hA hs hu hv e) λt q c=>(q Q).1 (a w h s t hs .refl c)
theorem SP (hbase:10<=X.h₀.objs.size):nV X b Rm .NotEq:=by
 intro A n hA w h s hs u v x y hu hv k res e Q c;refine aK (GF hbase hA hs hu hv e) λt q a=> ?_;rw [neg_eq] at a;exact(q Q).2 (c w h s _ hs .refl a)
theorem tR (l:VR X g w n a x) (m:VR X g w n c y) (o:ak a.t 2=H) (r:ak c.t 2=H):wX a c=decide (dU a<dU c):=by
 have d:∀q:Bool,(q=H↔dU a<dU c)->q=decide (dU a<dU c):=λq h=>by
  induction q using zB with
  |true=>exact(decide_eq_true (h.mp rfl)).symm
  |false=>exact(decide_eq_false λe=>ff (h.mpr e)).symm
 refine d _ ?_;unfold wX;rcases l.E9 o with⟨p,q⟩|⟨p,z,q⟩<;>rcases m.E9 r with⟨f,k⟩|⟨f,u,k⟩<;>refine U p (U f (U q (U k ?_)))
 .show bE a.n c.n=H↔_;refine U cD ?_;simp
 .show aj=H↔_;simp<;>lia
 .show H=H↔_;simp<;>lia
 .show bE c.n a.n=H↔_;refine U cD ?_;lia
theorem KO:∀a c:List Nat,NU a c=decide (a<c):=by
 intro a
 induction a with
 |nil=>
  intro c
  induction c using zL<;>rfl
 |cons a r d=>
  intro c;rcases c with _|⟨c,q⟩
  .rfl
  refine(?_:(af (bE a c) (NU r q) (ak a c):Bool)=_)
  induction hb:ak a c using zB with
  |true=>
   have:=aH hb;refine cL this ((?_:NU r q=_));refine U (d q) ?_;simp [List.cons_lt_cons_iff]
  |false=>
   refine(?_:bE a c=_);rw [Bool.eq_iff_iff,cD,decide_eq_true_iff,List.cons_lt_cons_iff]
   constructor
   .exact λh=> .inl h
   .rintro(h|⟨h,_⟩)
    .exact h
    .exact absurd h (fV hb)
end
end
section
section
variable {M:Model} {A:Around} {α:Type} {a b:Sem α} {Q:α->Shared->Prop} {E:Value->Shared->Prop} {s:Shared}
end
end
section
open PyProof.Rows PySem.Calls PySem.SeqAt
structure KQ (X:dw) (A:Around) (s:Shared) (x y:Value) (t:Bool):Prop where
 lt:∀Q:Value->Shared->Prop,Q (.bool t) s->wpAny (model X.prog X.w) A (compareOp .Lt x y) Q (λu_ u_=>False) s
 gt:∀Q:Value->Shared->Prop,Q (.bool t) s->wpAny (model X.prog X.w) A (compareOp .Gt y x) Q (λu_ u_=>False) s
 le:∀Q:Value->Shared->Prop,Q (.bool (!t)) s->wpAny (model X.prog X.w) A (compareOp .LtE y x) Q (λu_ u_=>False) s
 ge:∀Q:Value->Shared->Prop,Q (.bool (!t)) s->wpAny (model X.prog X.w) A (compareOp .GtE x y) Q (λu_ u_=>False) s
section
variable {X:dw} {w:Wd} {h:aev} {s:Shared}
theorem Fe (a b:Int):decide (a<=b)= !decide (b<a):=(decide_eq_decide.mpr kI.symm).trans decide_not
theorem KQ.ints:KQ X A s (.int a t) (.int c u) (decide (a<c)) where
 lt:=λQ q=>lt_int q
 gt:=λQ q=>gt_int q
 le:=λQ q=>le_int (U (Fe ..) q)
 ge:=λQ q=>ge_int (U (Fe ..) q)
end
section
variable {X:dw} {w:Wd} {h:aev} {s:Shared}
theorem KQ.strs {a c:List Nat}:KQ X A s (.str ⟨a.toArray⟩ t) (.str ⟨c.toArray⟩ u) (decide (a<c)) where
 lt:=λQ q=>PySem.P.lt_str q
 gt:=λQ q=>PySem.P.gt_str q
 le:=λQ q=>PySem.P.le_str q
 ge:=λQ q=>PySem.P.ge_str q
theorem uO (e:xK [] y=O t):y=[]/\t=false:=by
 induction y using zL with
 |nil=>exact⟨rfl,(aF e).symm⟩
 |cons b y=>exact fn e
theorem r9 (e:xK (a::x) y=O t):∃b c,y=b::c/\ak a.t 2=H/\ak b.t 2=H/\((AG a b=H/\xK x c=O t)\/(AG a b=aj/\t=wX a b)):=by
 induction y using zL with
 |nil=>exact fn e
 |cons b y=>
  have e:(af aq (af aq (af (af aq (af aq (O (wX a b)) (allInts y)) (allInts x)) (xK x y) (AG a b)) (ak b.t 2)) (ak a.t 2):Option Bool)=O t:=e;refine aC (dH e) λe h1=>aC (dH e) λe h2=>lJ b y rfl h1 h2 ?_
  induction hq:AG a b using zB with
  |true=>rw [hq] at e;exact .inl ⟨rfl,e⟩
  |false=>
   rw [hq] at e;exact .inr ⟨rfl,(aF ((dH ((dH e).2)).2)).symm⟩
theorem DG {dn:Value->σ} {D:List V->List V->Prop}
 (r:∀u v Q,wpAny (model prog wd) A (eqBool u v) (λc s'=>af (wpAny (model prog wd) A (richCompare op u v) (λz=>Q (.done (dn z))) E s') (Q (.yield r0) s') c) E s->wpAny (model prog wd) A (f (u,v) r0) Q E s)
 (B:∀ys,D [] ys->R r0 s)
 (i:∀p x ys,D (p::x) ys->∃q y,ys=q::y/\ak p.t 2=H/\ak q.t 2=H/\(AG p q=AG q p->(AG p q=H/\D x y)\/(AG p q=aj/\∀t u,wX p q=decide (dU p<dU q)->wX q p=decide (dU q<dU p)->wpAny (model prog wd) A (richCompare op (.int (dU p) t) (.int (dU q) u)) (λz=>R (dn z)) E s))):
 ∀{xs ys} {g e},eg X s.heap w n xs g->eg X s.heap w n ys e->D xs ys->wpAny (model prog wd) A (forIn (g.zip e) r0 f) R E s:=by
 intro xs
 induction xs with
 |nil=>
  intro ys g e hx hy d;exact U hx.nil_of (av (B ys d))
 |cons p x F=>
  intro ys g e hx hy d;refine sV (i p x ys d) λq y C j k c=> ?_;subst C;refine vQ hx.cons_of λa l G o hl=>vQ hy.cons_of λb m I hb hm=>fF (o.cO j) λJ h1=>fF (hb.cO k) λK h2=>U G (U I (U h1 (U h2 (U (dO ..) (au (r _ _ _ ((wg.ints (A:=A) (h1▸o) (h2▸hb) j k).eq prog wd _ _ ?_)))))));rcases c ((tQ o hb j k).trans ((decide_eq_decide.mpr ⟨gG,gG⟩).trans (tQ hb o k j).symm)) with⟨hq,d⟩|⟨hq,c⟩
  .exact U hq (F hl hm d)
  .exact U hq (f5 (c J K (tR o hb j k) (tR hb o k j)) (λz s' h=>av h) λL L h=>h)
theorem eg.sizes {items a:Array Value} (c:eg X g w n xs items.toList) (d:eg X g w n ys a.toList) (h:xs.length=ys.length):items.size=a.size:=(c.length.symm.trans h).trans d.length
theorem DH {prog:Program} {j:World} {A:Around} {E:Value->Shared->Prop} {P:dD->Shared->Prop} {a b:Addr} {items d:Array Value} {ep g:Nat} {xs ys:List V} {n:Nat} {t:Bool}
 (hx:s.heap.get? a=O (gi items ep)) (hy:s.heap.get? b=O (gi d g)) (l:eg X s.heap w n xs items.toList) (m:eg X s.heap w n ys d.toList) (e:xK xs ys=O t) (i:xs.length=ys.length)
 (h:P (.done (.ret (.bool t))) s):wpAny (model prog j) A (Builtin.«tuple.__lt__» ⟨[.ref a,.ref b],[]⟩) P E s:=by
 refine(?_:wpAny _ _ (isInstance (.ref b) (.type "tuple")>>=_) _ _ s);refine bq (fL (T:="tuple") (bV _ hy rfl) isSubtype_tuple_tuple) (NI (bq (p6 hx rfl) (bq (p6 hy rfl) (au (DG (op:= .Lt) (D:=λx y=>xK x y=O t) (dn:=λz=>(O (.done (.ret z)),())) ?_ (λy e=> ?_) (λp x y e=> ?_) l m e)))))
 .exact λu v Q h=>au (f5 h (λc s' q=>by
   induction c using zB with
   |true=>exact av q
   |false=>exact au (fm (au (f5 q (λz o h=>av h) λf f h=>h)))) λf f h=>h)
 .exact av (U (l.sizes m i) ((congrArg (λc=>P (.done (.ret (.bool c))) s) ((decide_eq_false (j9 _)).trans (uO e).2.symm)).mpr h))
 .exact sV (r9 e) λq y h1 r B c=>lJ q y h1 r B (λf=>c.imp (λh=>h) λk=>⟨k.1,λC u h1 f=>lt_int (prog:=prog) (w:=j) (A:=A) (cL h1 (cL k.2 (av h)))⟩)
theorem DI {items items2}
 (hx:s.heap.get? a=O (gi items ep)) (hy:s.heap.get? b=O (gi items2 KA)) (i:eg X s.heap w n xs items.toList) (j:eg X s.heap w n ys items2.toList) (e:xK ys xs=O t) (g:xs.length=ys.length)
 (h:P (.done (.ret (.bool (!t)))) s):wpAny (model prog wd) A (Builtin.«tuple.__le__» ⟨[.ref a,.ref b],[]⟩) P E s:=by
 refine(?_:wpAny _ _ (isInstance (.ref b) (.type "tuple")>>=_) _ _ s);refine bq (fL (T:="tuple") (bV _ hy rfl) isSubtype_tuple_tuple) (NI (bq (p6 hx rfl) (bq (p6 hy rfl) (au (DG (op:= .LtE) (D:=λx y=>xK y x=O t) (dn:=λz=>(O (.done (.ret z)),())) ?_ (λy e=> ?_) (λp x y e=> ?_) i j e)))))
 .exact λu v Q h=>au (f5 h (λc s' q=>by
   induction c using zB with
   |true=>exact av q
   |false=>exact au (fm (au (f5 q (λz l h=>av h) λf f h=>h)))) λf f h=>h)
 .refine av (U (i.sizes j g) ?_);have ht:t=false:=by
   induction y using zL with
   |nil=>exact(uO e).2
   |cons q y=>exact Sk (r9 e) λb m c=>(List.cons_ne_nil _ _ c.1.symm).elim
  exact(congrArg (λc=>P (.done (.ret (.bool c))) s) ((decide_eq_true (br _)).trans (congrArg (!·) ht.symm))).mpr h
 .induction y using zL with
  |nil=>exact(List.cons_ne_nil _ _ (uO e).1).elim
  |cons q y=>
   refine sV (r9 e) λb m h1 o r c=> ?_;injection h1 with h1 h2
   subst h1;subst h2;exact lJ q y rfl r o (λd=>c.imp (λh=>⟨d.trans h.1,h.2⟩) λk=>⟨d.trans k.1,λB u f h2=>le_int (prog:=prog) (w:=wd) (A:=A) (U (Fe ..) (cL h2 (cL k.2 (av h))))⟩)
end
section
variable {X:dw} {w:Wd} {h:aev} {s:Shared} {b:Nat}
theorem Ce (hu:VR X g w n u x) (hv:VR X g w n v y) (e:HK u v=O t):KQ X A s x y t:=by
 refine aC (dH e) λe ht=> ?_;have ht:=aH ht
 induction h2:ak u.t 2 using zB with
 |true=>
  rw [h2] at e;injection e with hq;subst hq
  have c:ak v.t 2=true:=cL ht h2;refine fF (hu.cO h2) λd a=> ?_;subst a;refine fF (hv.cO c) λd a=> ?_;subst a;exact U (tR hu hv h2 c) .ints
 |false=>
  rw [h2] at e;refine aC (dH e) λe f=> ?_;injection e with e;subst e
  exact dN (hu.qc (aH f)) λk i d=>dN (hv.qc (ht.symm.trans (aH f))) λl j d=>U i (U j (U (KO ..) .strs))
theorem KR (z:A.units+300<=9900) {x y} (hu:VR X s.heap w n u x) (hv:VR X s.heap w n v y) (e:Sn u v=O t):
 (∀Q:Value->Shared->Prop,Q (.bool t) s->wpAny (model X.prog X.w) A (compareOp .Lt x y) Q (λf f=>False) s)/\(∀Q:Value->Shared->Prop,Q (.bool (!t)) s->wpAny (model X.prog X.w) A (compareOp .LtE y x) Q (λf f=>False) s):=by
 have i:A.units<cLine:=aR (show A.units<9900 by exact Nat.lt_of_add_right_lt z) (of_decide_eq_true rfl);have d:HK u v=O t->(∀Q:Value->Shared->Prop,Q (.bool t) s->wpAny (model X.prog X.w) A (compareOp .Lt x y) Q (λf f=>False) s)/\(∀Q:Value->Shared->Prop,Q (.bool (!t)) s->wpAny (model X.prog X.w) A (compareOp .LtE y x) Q (λf f=>False) s):=
  λe=>let r:=Ce (A:=A) (s:=s) hu hv e;⟨r.lt,r.le⟩
 refine aC (dH e) λe ht=> ?_
 induction h2:ak u.t 2 using zB with
 |true=>rw [h2] at e;exact d (by unfold HK;refine U ht (U h2 ?_);exact e)
 |false=>
  rw [h2] at e
  induction m:ak u.t 3 using zB with
  |true=>
   rw [m] at e;exact d (by unfold HK;refine U ht (U h2 (U m ?_));exact e)
  |false=>
   rw [m] at e;refine aC (dH e) λe o=>gc (dH e) λhl e=> ?_;have hl:=aH hl;rw [len_eq,len_eq] at hl;refine Zd (hu.ia (aH o)) λa items ep B f f j f p=>Zd (hv.ia ((aH ht).symm.trans (aH o))) λc l C D f f g f k=>U B (U D ⟨λQ q=> ?_,λQ q=> ?_⟩)
   .exact wpAny_richCompare_same_room (op:= .Lt) (T:="tuple") (bV _ j rfl) (bV _ g rfl) PySem.F.slot_tuple_lt
     (bH PySem.F.slot_tuple_lt (T:="tuple") (bV _ j rfl) PySem.F.entry_tuple_lt (DH j g p k e hl (f9 _ rfl (λe=>(by injection e)) q)) (PySem.F.args_tuple_lt_2 _ _)) i
   .exact wpAny_richCompare_same_room (op:= .LtE) (T:="tuple") (bV _ g rfl) (bV _ j rfl) PySem.F.slot_tuple_le
     (bH PySem.F.slot_tuple_le (T:="tuple") (bV _ g rfl) PySem.F.entry_tuple_le (DI g j k p e hl.symm (f9 _ rfl (λe=>(by injection e)) q)) (PySem.F.args_tuple_le_2 _ _)) i
theorem SQ:nV X b cLt .Lt:=by
 intro A n a w h s c u v x y hu hv k res e Q d;exact dN (bB e) λt f g=>(KR (a.u rfl) hu hv f).1 Q (d w h s t c .refl g)
theorem SR:nV X b cLe .LtE:=by
 intro A n c w h s d u v x y hu hv k res e Q f;refine aK (bB e) λt a g=> ?_;rw [neg_eq] at a;exact(KR (c.u rfl) hv hu g).2 Q (f w h s _ d .refl a)
theorem SS:nV X b Zh .Gt:=by
 intro A n g w h s a u v x y hu hv k res e Q c;exact dN (bB e) λt d f=>(Ce (A:=A) (s:=s) hv hu d).gt Q (c w h s t a .refl f)
theorem SV:nV X b cGe .GtE:=by
 intro A n g w h s c u v x y hu hv k res e Q d;refine aK (bB e) λt a f=> ?_;rw [neg_eq] at a;exact(Ce (A:=A) (s:=s) hu hv f).ge Q (d w h s _ c .refl a)
end
section
variable {X:dw} {b:Nat}
theorem A9 (hu:VR X g w n u x) (e:isNone u=O t):plainIs x .none=H/\(x==dY)=t:=by
 induction hu using Mine.VR.casesOn with
 |none=>injection e with hq;subst hq;exact⟨rfl,rfl⟩
 |nat k u=>injection e with hq;subst hq;exact⟨rfl,rfl⟩
 |neg k u=>injection e with hq;subst hq;exact⟨rfl,rfl⟩
 |bytes c u hn=>injection e with hq;subst hq;exact⟨rfl,rfl⟩
 |tup xs a items ep d ht f hn h=>injection e with hq;subst hq;exact⟨rfl,rfl⟩
 |ref i hi=>injection e with hq;subst hq;exact⟨rfl,rfl⟩
 |_=>exact fn e
theorem none_of (hu:VR X g w n u x) (e:ak u.t 0=H):x= .none:=by
 induction hu using Mine.VR.casesOn with
 |none=>rfl
 |_=>exact nn (aH e) rfl
theorem SW:nV X b cIs .Is:=by
 intro A n i w h s a u v x y hu hv k res e Q c;refine aC (dH e) λe d=>aK (bB e) λt f g=> ?_;cases none_of hv d;exact aC (A9 hu g) λq p=>wpAny_is_plain p (U q (c w h s t a .refl f))
theorem HY:nV X b JT .IsNot:=by
 intro A n i w h s c u v x y hu hv k res e Q d;refine aC (dH e) λe f=>aK (bB e) λt a g=> ?_;cases none_of hv f;refine aC (A9 hu g) λq p=> ?_;rw [neg_eq] at a;exact wpAny_isNot_plain p (U q (d w h s _ c .refl a))
theorem St.toks (x:St X w h s) t:St X w h {s with toks:=t}:=⟨x.rep,x.lim,x.base,x.size,x.tab⟩
theorem pP t:Ext X F w m s w m {s with toks:=t}:=⟨br _,br _,λa a=>rfl,λa a=>rfl,λa a=>rfl,λa a a a a e=>e,rfl,rfl⟩
theorem yZ (l:List α):(af H aj (isNil l):Bool)= !l.isEmpty:=by rcases l<;>rfl
theorem Wa {a c:Type} {xs:List a} {ys:List c} (h:xs.length=ys.length):(!xs.isEmpty)= !ys.isEmpty:=by
 rcases xs<;>rcases ys<;>first|rfl|exact absurd h (aX rfl)
theorem RE {a:Type} {xs:List V} {items:Array a} (h:xs.length=items.toList.length):(!xs.isEmpty)= !items.isEmpty:=U (Wa h) (U Array.isEmpty_toList rfl)
theorem GG (a:10<=X.h₀.objs.size) (g:St X w h s) (j:w.role (w.ρ i)=O i) (k:s.heap.get? (w.ρ i)=O (cH es ep)) (hn:es.size<=1000000) (e:gV X s.heap w h.n c es.toList)
 (kd:KD X) (h1:∀p∈c,p.1.t=kd.t) (q:∀t,Q (af H aj (isNil c)) {s with toks:=t}):wpAny (model X.prog X.w) A (truthy (.ref (w.ρ i))) Q (λl l=>False) s:=by
 refine aK (e.dictOf (kd:=kd) k h1) λo m f=> ?_;have d:c.length=es.size:=U e.all.length (U aN rfl);refine wpAny_truthy_dict (jO g a j) m (by refine cL f.length (U d ?_);lia) ?_;refine cL (Wa f.length) (cL (yZ ..) ?_);exact q _
theorem Ff (d:10<=X.h₀.objs.size):KL X b:=by
 intro A n C w h s m v x hv k res e Q z;have g:∀{c t},k c h=O res->Q c {s with toks:=t}:=λ{c t} e=>z w h _ c (m.toks t) (pP t) e;have f:∀{c},k c h=O res->Q c s:=λ{c} e=>z w h s c m .refl e
 induction hv using Mine.VR.casesOn with
 |bool c=>
  refine gK (f ?_);rcases c<;>exact e
 |nat i u=>
  refine truthy_int (f ?_);refine U (show((dQ i !=0):Bool)=af H aj (ak i 0) by rcases i<;>rfl) ?_;exact e
 |neg i u=>exact truthy_int (f e)
 |tup xs a items ep q ht j hn y=>
  have e:k (af H aj (isNil xs)) h=O res:=e;rw [yZ,RE y.length] at e;exact truthy_tuple (gf _ j rfl ep rfl) (by lia) (g e)
 |ref i hi=>
  refine dF (dg (show look (bQ i) h (λo h=>af (af aq (af (af aq (k (af H aj (isNil o.kvs)) h) (HL 3 o.kvs)) (k (af H aj (isNil o.kvs)) h) (HL 2 o.kvs)) (ak o.t 2)) (k (af H aj (isNil o.xs)) h) (ak o.t 1))=O res from e)) λo e l B=> ?_;have r:=(m.rep i o B).2;refine sI e (λh1 e=> ?_) λl e=> ?_
  .refine jM (r.l6 (aH h1)) λitems ep j l hn hv=> ?_;rw [yZ,RE hv.length] at e;exact wpAny_truthy_list (IsList.of j) (by lia) (g e)
  exact aC (dH e) λe h2=>iX (r.kR (aH h2)) λD ep l q j hn p=>sI e (λh2 e=>GG d m q j hn p (yY X) (uN h2 p) λl=>g e) λl e=>(let⟨h3,e⟩:=dH e;GG d m q j hn p (DE X) (uN h3 p) λl=>g e)
 |_=>exact Mine.fn e
end
set_option backward.match.sparseCases false
section
variable {X:dw} {w:Wd} {s:Shared} {n:Nat}
noncomputable def Yq (i:Int):Value->Bool
 | .int j _=>j==i
 |_=>aj
noncomputable def Wb (x:Str):Value->Bool
 | .str y _=>y==x
 |_=>aj
theorem y9 f (x y) l:uG f x (y::l)=(f y x||uG f x l):=by
 refine(?_:(af (uG f x l) H (f y x):Bool)=_);rcases f y x<;>rfl
theorem wh (e:qA t (y::l)=H):y.t=t/\qA t l=true:=by
 have e:(af aj (qA t l) (ak y.t t):Bool)=true:=e
 induction h:ak y.t t using zB with
 |false=>rw [h] at e;exact ff e
 |true=>rw [h] at e;exact⟨aH h,e⟩
theorem any_ints (hu:VR X s.heap w n u (.int (dU u) tk)) (h2:ak u.t 2=H) (g:eg X s.heap w n xs ys) (b:qA 2 xs=H):
 (∀y∈ys,EqAt A s y (.int (dU u) tk) (Yq (dU u) y))/\ys.any (Yq (dU u))=uG AG u xs:=by
 induction xs generalizing ys with
 |nil=>cases g;exact⟨λy hy=>((aU hy).elim),rfl⟩
 |cons v xs i=>
  cases g with
  |cons _ y _ ys hv c=>
   refine aC (wh b) λb d=>gc (i c b) λj k=> ?_;have a:ak v.t 2=true:=U d rfl;refine fF (hv.cO a) λe f=> ?_;subst f;refine⟨λy hy=> ?_, ?_⟩
   .rcases aT.mp hy with rfl|hy
    .exact EqAt.int_int _ _ _ _
    .exact j y hy
   .refine U gj (U (y9 ..) (U k (U (tQ hv hu a h2) ?_)));have:Yq (dU u) (.int (dU v) e)=decide (dU v=dU u):=by
     by_cases h:dU v=dU u<;>exact rfl
    exact U this rfl
theorem KU (f:eg X s.heap w n xs ys) (c:qA 3 xs=H):
 (∀y∈ys,EqAt A s y (.str ⟨l.toArray⟩ tk) (Wb ⟨l.toArray⟩ y))/\ys.any (Wb ⟨l.toArray⟩)=uG sEq (vStr l) xs:=by
 induction xs generalizing ys with
 |nil=>cases f;exact⟨λy hy=>((aU hy).elim),rfl⟩
 |cons v xs g=>
  cases f with
  |cons _ y _ ys hv d=>
   refine aC (wh c) λc e=>gc (g d c) λi j=> ?_
   induction hv using Mine.VR.casesOn with
   |str a b k=>
    refine⟨λy hy=> ?_, ?_⟩
    .rcases aT.mp hy with rfl|hy
     .exact EqAt.str_str _ _ _ _
     .exact i y hy
    .refine U gj (U (y9 ..) (U j ((?_:(Wb ⟨l.toArray⟩ (.str ⟨a.toArray⟩ b)||_)=(qv a l||_)))));refine U (tO ..) ?_;have:Wb ⟨l.toArray⟩ (.str ⟨a.toArray⟩ b)=decide (a=l):=by
      refine(?_:((⟨a.toArray⟩:Str)==⟨l.toArray⟩)=_);by_cases h:a=l<;>simp [h]
     exact U this rfl
   |_=>exact nn e rfl
theorem KV (hu:VR X s.heap w n u x) (c:eg X s.heap w n xs ys) (e:Vu u xs=O t):∃f:Value->Bool,(∀y∈ys,EqAt A s y x (f y))/\ys.any f=t:=by
 have e:(af (af aq (af aq (O (uG sEq u xs)) (qA 3 xs)) (ak u.t 3)) (af aq (O (uG AG u xs)) (qA 2 xs)) (ak u.t 2):Option Bool)=O t:=e
 induction h2:ak u.t 2 using zB with
 |true=>
  rw [h2] at e;refine aC (dH e) λe a=> ?_;injection e with e;subst e
  refine fF (hu.cO h2) λtk b=> ?_;subst b;exact⟨Yq (dU u),any_ints hu h2 c a⟩
 |false=>
  rw [h2] at e;refine aC (dH e) λe d=>aC (dH e) λe a=> ?_;injection e with e;subst e
  induction hu using Mine.VR.casesOn with
  |str l tk hn=>exact⟨Wb ⟨l.toArray⟩,KU c a⟩
  |_=>exact nn (aH d) rfl
end
set_option backward.match.sparseCases true
section
variable {X:dw} {w:Wd} {h:aev} {s:Shared} {b:Nat}
theorem l9 (c:St X w h s) {a:Addr} (d:s.heap.objs.size<=a):w.role a=none:=by
 induction e:w.role a using zO with
 |none=>rfl
 |some i=>exact absurd (c.lim a i e).2.2 (bC.mpr d)
theorem St.junk (d:bu X) (f:St X w h s) o t:St X w h {s with heap:=s.heap.push o,toks:=t}/\Ext X cT w h.n s w h.n {s with heap:=s.heap.push o,toks:=t}:=
 f.grow d (F:=cT) (by simp) (λc c h=>h.elim) (λc h=>h.elim) (λa g c e=>az _ e) rfl rfl
theorem St.push (d:bu X) (f:St X w h s) ob o t (g:ob.isFreed=aj)
 v (r:∀c,o9 X s.heap w h.n (s.heap.push ob) c (h.n+1)->c.role (c.ρ h.n)=O h.n->(s.heap.push ob).get? (c.ρ h.n)=O ob->c.uh h.n=v->Rep X (s.heap.push ob) c (h.n+1) h.n o):
 ∃c,St X c ⟨HT.ins o h.l h.n,h.n+1⟩ {s with heap:=s.heap.push ob,toks:=t}/\Ext X cT w h.n s c (h.n+1) {s with heap:=s.heap.push ob,toks:=t}/\c.ρ h.n=s.heap.objs.size:=by
 have q:=f.new d (o:=o) (b:=s.heap.objs.size) (own:=λa=>a==s.heap.objs.size) (ReflBEq.rfl) (s':={s with heap:=s.heap.push ob,toks:=t}) (by simp)
  (λa i=>by have:a=s.heap.objs.size:=(by simpa using i);subst this;simp) (λa j e=>az _ e) rfl rfl v _ rfl (λk h1 h2 m=>r _ k (U h2 h1) (U h2 (aJ _ g)) m)
 exact f9 _ q.1 q.2 (if_pos rfl)
theorem St.newList (d:bu X) (e:St X w h s) (hv:eg X s.heap w h.n xs ys) (hz:ys.length<=1000000) t:
 ∃c,St X c ⟨HT.ins (bK xs) h.l h.n,h.n+1⟩ {s with heap:=s.heap.push (gq ys.toArray 0),toks:=t}/\Ext X cT w h.n s c (h.n+1) {s with heap:=s.heap.push (gq ys.toArray 0),toks:=t}/\c.ρ h.n=s.heap.objs.size:=
 e.push d _ _ t rfl 0 λc k h1 h2 f=> .list xs ys.toArray 0 h1 h2 hz (by simpa using hv.mono k)
theorem St.newTuple (f:bu X) (e:St X w h s) (d:∀a∈X.tabs,a<X.h₀.objs.size) (hv:eg X s.heap w h.n xs ys) (hz:ys.length<=1000000) t:
 St X w h {s with heap:=s.heap.push (gi ys.toArray 0),toks:=t}/\Ext X cT w h.n s w h.n {s with heap:=s.heap.push (gi ys.toArray 0),toks:=t}/\VR X (s.heap.push (gi ys.toArray 0)) w h.n (dM xs) (.ref s.heap.objs.size):=by
 refine aC (e.junk f (gi ys.toArray 0) t) λc a=>iW a c (.tup xs _ ys.toArray 0 (l9 e (br _)) (λhm=> ?_) (aJ _ rfl) hz (by simpa using hv.mono c.dX));exact absurd (d _ hm) (bC.mpr e.size)
end
section
variable {X:dw} {r:Ap} {n b:Nat} {ns:List (Str×aM)}
theorem nY (e:oLe (bK xs)=H):xs.length<=1000000:=len_eq xs▸(i0 (aB e):len xs<=1000000)
theorem bw:1000000<=jr:=by decide
theorem cN.list (o:bu X) pos (hl:AH X r n b ns l xs):cN X r n b ns (wY l) (.List xs pos):=by
 intro A p env ρ w h s q he k res e Q t;refine ay (bG (ay (hl A p env ρ w h s q he _ res e pos _ λx h1 i vs ys c u hv d=>(aC (dH d) λd hz=> ?_))));have a:=hv.length▸(nY hz);refine jB (c.newList o hv a i.toks) λj f v g=>eW (dZ ?_ (by have:=bw;show ys.toArray.size<=jr;simp;exact aI a this));have m:VR X (i.heap.push (gq ys.toArray 0)) j (h1.n+1) (bQ h1.n) (.ref (j.ρ h1.n)):= .ref h1.n (bM _);rw [g] at m;exact t _ _ _ _ _ f (u.trans v) m d
theorem cN.tuple (j:bu X) (c:∀a∈X.tabs,a<X.h₀.objs.size) z pos (hl:AH X r n b ns l xs):cN X r n b ns (B4 l) (.Tuple xs z pos):=by
 intro A m env ρ w h s o he k res e Q p;refine ay (bG (ay (hl A m env ρ w h s o he _ res e pos _ λx h1 q vs ys f t hv g=>(gc (dH g) λhz g=> ?_))));have hz:=aB hz;rw [len_eq] at hz;have d:=hv.length▸hz;refine fh (f.newTuple j c hv d q.toks) λu i v=>eW (dZ ?_ (by have:=bw;show ys.toArray.size<=jr;simp;exact aI d this));exact p _ _ _ _ _ i (t.trans u) v g
end
section
variable {X:dw} {b:Nat}
theorem fS (e:gS v h k=O r):v.t=6/\∃o,h.l.get v.n=O o/\o.t=1/\k o.xs h=O r:=dF (dg e) λo e a c=>gc (dH e) λt e=>Dc a o c (aH t) e
theorem DJ (e:EW v h k=O r):v.t=6/\∃o,h.l.get v.n=O o/\(o.t=1\/o.t=8)/\k o.xs h=O r:=by
 refine dF (dg e) λo e c d=> ?_
 induction h1:ak o.t 1 using zB with
 |true=>rw [h1] at e;exact Dc c o d (.inl (aH h1)) e
 |false=>
  rw [h1] at e;exact gc (dH e) λf e=>Dc c o d (.inr (aH f)) e
theorem St.listAt (hs:St X w h s) (c:h.l.get i=O o) (ht:o.t=1):∃items ep,s.heap.get? (w.ρ i)=O (gq items ep)/\items.size<=1000000/\eg X s.heap w h.n o.xs items.toList/\w.role (w.ρ i)=O i:=sV ((hs.rep i o c).2.l6 ht) λitems ep d e hn hv=>lJ items ep e hn hv d
theorem St.SX (hs:St X w h s) (d:h.l.get i=O o) (ht:o.t=1\/o.t=8):∃items ep,s.heap.get? (w.ρ i)=O (gq items ep)/\items.size<=1000000/\eg X s.heap w h.n o.xs items.toList:=by
 rcases ht with ht|ht
 .exact sV (hs.listAt d ht) λitems ep a b c e=>j0 items ep a b c
 .obtain⟨items,ep,_,_,a,b,c⟩:=(hs.rep i o d).2.at_ ht;exact j0 items ep a b c
section
variable (ax:bu X) (htab:∀a∈X.tabs,a<X.h₀.objs.size) {A:Around} {w:Wd} {h:aev} {s:Shared} (hs:St X w h s) {u v:V} {x y:Value} (hu:VR X s.heap w h.n u x) (hv:VR X s.heap w h.n v y) {k:V->aev->Option Res} {res:Res} {Q:Value->Shared->Prop} (hQ:Goes (PV X) X w h.n s k res Q)
include hs hu hv hQ
theorem Wc (h2:ak u.t 2=H) (e:(af aq (af (k (mD (Int.add (dU u) (dU v))) h) (k (aW (aG u.n v.n)) h) (ak (aG u.s v.s) 0)) (ak v.t 2):Option Res)=O res):wpAny (model X.prog X.w) A (binaryOp .Add x y) Q (λd d=>False) s:=by
 refine aC (dH e) λe f=>fF (hu.cO h2) λt h1=>fF (hv.cO f) λj c=>U h1 (U c (PyProof.Rows.add_int (sI e (λhz e=> ?_) λd e=>hQ.tok hs (VR.Ku _ rfl) e)));exact gc (ji hz) λg i=>hQ.tok hs (VR.aW _ (by refine U (fj g) (U (fj i) ?_);rfl)) e
theorem Wf (j:ak u.t 4=H) (e:(af aq (kB (app u.l v.l) h k) (ak v.t 4):Option Res)=O res):wpAny (model X.prog X.w) A (binaryOp .Add x y) Q (λm m=>False) s:=by
 refine aC (dH e) λe n=>oK (hu.jN (aH j)) λc t o h1 q=>oK (hv.jN (aH n)) λd g p f r=> ?_;have hb:app u.l v.l=(c++d).toList.map bS:=by refine U (mL ..) (U o (U p ?_));simp
 rw [hb] at e;refine gc (dH e) λhz e=> ?_;have hz:(c++d).size<=1000000:=by simpa [len_eq] using aB hz
 exact U h1 (U f (W.KBy.add_bytes (cL vJ (aI hz bw)) λg i=>hQ w h _ _ _ (hs.toks i) (pP i) (VR.bytes (c++d) g hz) e))
omit hs hu hv hQ in
theorem not_nil {items:Array Value} (hv:eg X g w n xs items.toList) (h:isNil xs=aj):¬items.isEmpty=true:=λq=>by
 have e:xs.length=0:=by refine U hv.length (U aN ?_);simpa [Array.isEmpty] using q
 rw [iK.mp e] at h;exact ft h
include ax htab
theorem Wg (p:ak u.t 5=H) (e:(af aq (af (af (kT (app u.xs v.xs) h k) aq (isNil v.xs)) aq (isNil u.xs)) (ak v.t 5):Option Res)=O res):wpAny (model X.prog X.w) A (binaryOp .Add x y) Q (λc c=>False) s:=by
 refine aC (dH e) λe q=>fJ (hu.ia (aH p)) λa items ep r h1 c c hn d=>fJ (hv.ia (aH q)) λE i z j l c c B f=>U h1 (U l (sI e (λc e=>fn e) λC e=>sI e (λc e=>fn e) λD e=>gc (dH e) λhz e=> ?_));have hz:=aB hz;have g:=d.append f;rw [mL] at hz e;rw [len_eq,g.length,<-fR,aN] at hz;refine PySem.P.add_tuple r j (not_nil d C) (not_nil f D) ?_ (cL vJ (aI hz bw));refine iO (hs.newTuple ax htab g (cL fR (U aN hz)) s.toks) λm n o=> ?_;rw [<-fR,sy] at n o m;exact hQ _ _ _ _ _ n o m e
omit htab
theorem Wh (e:gS u h (λxs h=>gS v h λys h=>new (bK (app xs ys)) h k)=O res):wpAny (model X.prog X.w) A (binaryOp .Add x y) Q (λf f=>False) s:=by
 refine gR (fS e) λo e q r t=>gR (fS e) λo' e z g B=>U ((hu.eB q).1) (U ((hv.eB z).1) (sV (hs.listAt r t) λitems ep C hn i f=>sV (hs.listAt g B) λd D j E l f=>aC (dH e) λe hz=> ?_));have hz:=nY hz;have c:=i.append l;rw [mL] at hz e;rw [c.length,<-fR,aN] at hz;refine jB (hs.newList ax c (cL fR (U aN hz)) s.toks) λG m p F=> ?_;rw [<-fR,sy] at m p;exact PySem.P.add_list C j (hQ _ _ _ _ _ m p (F▸VR.ref h.n (bM _)) e) (cL vJ (aI hz bw))
end
theorem Om (ax:bu X) (htab:∀a∈X.tabs,a<X.h₀.objs.size):rm X b VB .Add:=λA n g w h s hs u v x y hu hv k res e Q hQ=>
 sI e (λh2 e=>Wc hs hu hv hQ h2 e) λc e=>sI e (λd e=>Wf hs hu hv hQ d e) λc e=>sI e (λf e=>Wg ax htab hs hu hv hQ f e) λc e=>Wh ax hs hu hv hQ e
end
noncomputable def KW:BoolOp->Bool
 | .And=>H
 | .Or=>aj
section
variable {X:dw} {r:Ap} {n b:Nat} {ns:List (Str×aM)}
theorem cN.bool (C:KL X b) op pos (hx:cN X r n b ns x a) (hy:cN X r n b ns y c):cN X r n b ns (Rp (KW op) x y) (.BoolOp op [a,c] pos):=by
 intro A i env ρ w h s D he k res e Q j;refine ay (hx A i env ρ w h s D he _ res e _ λE h1 F u q v B hu G=>(ay (bG (ay (bg (eW (C A n i E h1 F v u q hu _ res G _ λl h2 m t d z o=> ?_)))))));have f:=(he.ext B).ext z;have g:=hu.mono z.dX;have p:=B.trans z;rcases op<;>rcases t
 .exact aO (j l h2 m u q d p g o)
 .exact hy A i env ρ l h2 m d f k res o Q (j.ext p)
 .exact hy A i env ρ l h2 m d f k res o Q (j.ext p)
 .exact aO (j l h2 m u q d p g o)
def tS (X:dw) (r:Ap) (n b:Nat) (ns:List (Str×aM)) (op:BoolOp) (t:XT) (xs:List Expr):Prop:=
 ∀A,fQ n b A->∀env ρ w h s,St X w h s->eZ X env ns ρ w h.n s->∀k res,t.f r ρ h k=O res->∀Q:Bool->Shared->Prop,sX X w h.n s k res Q->cC (model X.prog X.w) A (allTrue op xs env) Q (λu_ u_=>False) s
theorem tS.one (hx:j4 X r n b ns t x):tS X r n b ns op t [x]:=by
 intro A d env ρ w h s f he k res e Q g;refine ay (hx A d env ρ w h s f he k res e _ λi h1 j c a l m=> ?_);have q:=g i h1 j c a l m;rcases op<;>rcases c<;>exact aO q
theorem tS.more (hx:j4 X r n b ns t x) (f:tS X r n b ns op u (y::xs)):tS X r n b ns op (Dl (KW op) t u) (x::y::xs):=by
 intro A m env ρ w h s o he k res e Q g;refine ay (hx A m env ρ w h s o he _ res e _ λi h1 j c a d l=> ?_);rcases op<;>rcases c
 .exact aO (g i h1 j _ a d l)
 .exact f A m env ρ i h1 j a (he.ext d) k res l Q (g.ext d)
 .exact f A m env ρ i h1 j a (he.ext d) k res l Q (g.ext d)
 .exact aO (g i h1 j _ a d l)
theorem j4.bools pos (hx:tS X r n b ns op t xs):j4 X r n b ns t (.BoolOp op xs pos):=by
 intro A a env ρ w h s c he k res e Q d;exact uK (hx A a env ρ w h s c he k res e Q d)
theorem j4.ite {te a c} pos (ht:j4 X r n b ns t te) (hx:j4 X r n b ns u a) (hy:j4 X r n b ns v c):j4 X r n b ns (VT t u v) (.IfExp te a c pos):=by
 intro A g env ρ w h s o he k res e Q i;refine ay (ht A g env ρ w h s o he _ res e _ λj h1 l q d f m=> ?_)
 induction q using zB with
 |true=>exact hx A g env ρ j h1 l d (he.ext f) k res m Q (i.ext f)
 |false=>exact hy A g env ρ j h1 l d (he.ext f) k res m Q (i.ext f)
end
section
variable {X:dw} {w:Wd} {h:aev} {s:Shared}
theorem tT (e:iT u b=O o) (d:gV X g w n b es):∀p∈b,p.1.t=u.t:=by
 induction b using zL with
 |nil=>intro p hp;nomatch hp
 |cons q l=>
  refine aK (qe e) λc j i=>fF d.kind λk f=> ?_;intro p hp;exact U ((f p hp).1) (cL ((f q aE).1) (U (yX i) rfl))
def SY (X:dw) (g:Heap) (w:Wd) (n:Nat) (r:Option Value):Option V->Prop
 |none=>r=aq
 |some v=>∃z,r=O z/\VR X g w n v z
end
section
variable {X:dw} {w:Wd} {h:aev} {s:Shared}
def InR (X:dw) (A:Around) (s:Shared) (x y:Value) (t:Bool) (s':Shared):Prop:=
 ∀Q:Value->Shared->Prop,(Q (.bool t) s'->wpAny (model X.prog X.w) A (compareOp .In x y) Q (λu_ u_=>False) s)/\(Q (.bool (!t)) s'->wpAny (model X.prog X.w) A (compareOp .NotIn x y) Q (λu_ u_=>False) s)
theorem xZ (items:Array Value) f:items.any f=items.toList.any f:=by simp
theorem KX {items} (c:s.heap.get? a=O (gq items ep)) (hu:VR X s.heap w h.n u x) (hv:eg X s.heap w h.n xs items.toList) (e:Vu u xs=O t):InR X A s x (.ref a) t s:=by
 intro Q;refine dN (KV (A:=A.in1) hu hv e) λf b ht=> ?_;have hl:s.heap.IsList a items:=gf _ c rfl _ rfl;refine⟨λq=>in_listAt f hl (λy hy=>b y (rW hy)) ?_,λq=>notIn_listAt f hl (λy hy=>b y (rW hy)) ?_⟩
 .refine U (xZ ..) (U ht ?_);exact q
 .refine U (xZ ..) (U ht ?_);exact q
theorem Oo {items} (c:s.heap.get? a=O (gi items ep)) (hu:VR X s.heap w h.n u x) (hv:eg X s.heap w h.n xs items.toList) (e:Vu u xs=O t):InR X A s x (.ref a) t s:=by
 intro Q;refine dN (KV (A:=A.in1) hu hv e) λf b ht=> ?_;have hl:s.heap.IsTuple a items:=gf _ c rfl _ rfl;refine⟨λq=>in_tupleAt f hl (λy hy=>b y (rW hy)) ?_,λq=>notIn_tupleAt f hl (λy hy=>b y (rW hy)) ?_⟩
 .refine U (xZ ..) (U ht ?_);exact q
 .refine U (xZ ..) (U ht ?_);exact q
end
section
variable {X:dw} {w:Wd} {g:Heap} {n:Nat}
theorem j5:∀{xs},allInts xs=H->∀v∈xs,v.t=2:=by
 intro xs
 induction xs with
 |nil=>
  intro _;exact λv hv=>(aU hv).elim
 |cons c l b=>
  intro e;have e:(af aj (allInts l) (ak c.t 2):Bool)=true:=e
  induction a:ak c.t 2 using zB with
  |false=>rw [a] at e;exact ff e
  |true=>
   rw [a] at e;intro v hv;rcases aT.mp hv with rfl|hv
   .exact aH a
   .exact b e v hv
theorem itemsAre (b:∀v∈xs,v.t=2) (h:eg X g w n xs ys):ItemsAre (intKind X.prog X.w) (xs.map dU) ys:=by
 induction xs generalizing ys with
 |nil=>cases h;exact .nil
 |cons c l d=>
  cases h with
  |cons _ y _ ys hv e=>exact .cons ((yY X).is hv (b c aE)) (d (λv hv=>b v (aD _ hv)) e)
theorem Cf (hu:VR X g w n u x) (ht:u.t=5) (b:allInts u.xs=H):∃a,x= .ref a/\IsTupleKey (intKind X.prog X.w) g (u.xs.map dU) a:=by
 induction hu using Mine.VR.casesOn with
 |tup xs a items ep e hm c hn d=>exact⟨a,rfl,_,items,ep,c,rfl,rfl,itemsAre (j5 b) d⟩
 |_=>exact nn ht rfl
theorem KY:∀{b} {c} {x y},eg X g w n a x->eg X g w n b y->Gp a b=O c->c=decide (a.map dU=b.map dU):=by
 induction a with
 |nil=>
  intro b c x y _ _ e;rcases b with _|⟨b,f⟩
  .injection e with e;subst e;rfl
  .exact fn e
 |cons a l i=>
  intro b c x y hx hy e;rcases b with _|⟨b,f⟩
  .exact fn e
  refine vQ hx.cons_of λd d d j hl=>vQ hy.cons_of λd d d hb h=> ?_;have e:(af aq (af aq (af (af aq (af aq (O aj) (allInts f)) (allInts l)) (Gp l f) (AG a b)) (ak b.t 2)) (ak a.t 2):Option Bool)=O c:=e;refine aC (dH e) λe m=>aC (dH e) λe o=> ?_;have k:=tQ j hb m o
  induction hn:AG a b using zB with
  |true=>
   rw [hn] at e k;refine U (i hl h e) ?_;simp [show dU a=dU b from of_decide_eq_true k.symm]
  |false=>
   rw [hn] at e k;refine aC (dH e) λe d=>aC (dH e) λe d=> ?_;injection e with e;subst e
   simp [show ¬dU a=dU b from of_decide_eq_false k.symm]
end
section
variable {X:dw} {w:Wd} {g:Heap} {n:Nat}
theorem GH:∀{a b} {x y},eg X g w n a x->eg X g w n b y->(∀v∈a,v.t=2)->(∀v∈b,v.t=2)->a.map dU=b.map dU->a=b:=by
 intro a
 induction a with
 |nil=>
  intro b _ _ _ _ _ _ e;rcases b with _|⟨_,_⟩
  .rfl
  .injection e
 |cons a l f=>
  intro b _ _ c hb h1 h2 e;rcases b with _|⟨b,k⟩
  .injection e
  refine vQ c.cons_of λx xs h c hl=>vQ hb.cons_of λy ys h hb d=> ?_;injection e with i j
  exact U ((yY X).inj c hb (h1 a aE) (h2 b aE) i) (U (f hl d (λv hv=>h1 v (aD _ hv)) (λv hv=>h2 v (aD _ hv)) j) rfl)
theorem x8 (e:isKey a=H):a.t=2\/a.t=3\/a.t=4\/(a.t=5/\allInts a.xs=H):=by
 have e:(af (af (af (af aj (allInts a.xs) (ak a.t 5)) H (ak a.t 4)) H (ak a.t 3)) H (ak a.t 2):Bool)=true:=e
 induction h2:ak a.t 2 using zB with
 |true=>exact .inl (aH h2)
 |false=>
  rw [h2] at e
  induction c:ak a.t 3 using zB with
  |true=>exact .inr (.inl (aH c))
  |false=>
   rw [c] at e
   induction d:ak a.t 4 using zB with
   |true=>exact .inr (.inr (.inl (aH d)))
   |false=>
    rw [d] at e
    induction b:ak a.t 5 using zB with
    |true=>rw [b] at e;exact .inr (.inr (.inr ⟨aH b,e⟩))
    |false=>rw [b] at e;exact ff e
theorem za:∀{a b} {c},Gp a b=O c->(∀v∈a,v.t=2)/\(∀v∈b,v.t=2):=by
 intro a
 induction a with
 |nil=>
  intro b c e
  induction b using zL with
  |nil=>exact⟨λf h=>((aU h).elim),λf h=>((aU h).elim)⟩
  |cons=>exact fn e
 |cons a l i=>
  intro b c e;rcases b with _|⟨b,j⟩
  .exact fn e
  refine aC (dH e) λe k=>aC (dH e) λe m=> ?_;have d:(∀v∈l,v.t=2)/\(∀v∈j,v.t=2):=by
   induction hn:AG a b using zB with
   |true=>rw [hn] at e;exact i e
   |false=>
    rw [hn] at e;exact aC (dH e) λe o=>aC (dH e) λe p=>⟨j5 o,j5 p⟩
  refine⟨λv hv=> ?_,λv hv=> ?_⟩
  .rcases aT.mp hv with rfl|hv
   .exact aH k
   .exact d.1 v hv
  .rcases aT.mp hv with rfl|hv
   .exact aH m
   .exact d.2 v hv
theorem keq_eq {x y} (k:VR X g w n a x) (hb:VR X g w n b y) (e:BS a b=O c):c=H↔a=b:=by
 have hk:=yX e;have f:∀kd:KD X,kd.t=a.t->(c=H↔a=b):=by
  intro kd ht;have q:=kd.BS k hb ht.symm (hk.symm.trans ht.symm);have q:O c=O (decide (kd.of a=kd.of b)):=cL q e.symm;have q:=aF q;refine⟨λh=> ?_,λh=> ?_⟩
  .rw [h] at q;exact kd.inj k hb ht.symm (hk.symm.trans ht.symm) (of_decide_eq_true q.symm)
  .rw [h] at q;refine U q ?_;simp
 refine aC (dH e) λe d=>sI e (λh2 d=>f (yY X) (aH h2).symm) λd e=>sI e (λm d=>f (DE X) (aH m).symm) λd e=>sI e (λo d=>f (Cb X) (aH o).symm) λd e=> ?_;clear f;refine gc (dH e) λi e=> ?_;have i:=aH i;refine fJ (k.ia i) λd d d d d d d d l=>fJ (hb.ia (hk.symm.trans i)) λd d d d d d d d j=> ?_;have q:=KY l j e;refine gc (za e) λp r=>⟨λh=> ?_,λh=> ?_⟩
 .rw [h] at q;exact U (k.Km i) (U (hb.Km (hk.symm.trans i)) (U (GH l j p r (of_decide_eq_true q.symm)) rfl))
 .refine U q (U h ?_);exact decide_eq_true rfl
theorem Fg (hu:VR X g w n u x) (hk:∀p∈a,∃y,VR X g w n p.1 y) (e:iT u a=O o):
 (o=aq/\∀p∈a,p.1≠u)\/∃(j:Nat) (v:V),o=O v/\a[j]? =O (u,v):=by
 induction a with
 |nil=>exact .inl ⟨A8 e,λp hp=>(aU hp).elim⟩
 |cons p l d=>
  refine aK (qe e) λc e f=>fF (hk p aE) λy hy=> ?_;have q:=keq_eq hu hy f;rcases e with⟨rfl,rfl⟩|⟨rfl,e⟩
  .refine .inr (m7 0 p.2 rfl ?_);refine U (q.mp rfl) ?_;rfl
  .rcases d (λp hp=>hk p (aD _ hp)) e with⟨h1,h2⟩|⟨j,v,h1,h2⟩
   .refine .inl ⟨h1,λi b=> ?_⟩;rcases aT.mp b with rfl|b
    .exact λh=>ff (q.mpr h.symm)
    .exact h2 i b
   .exact .inr (m7 (j+1) v h1 h2)
theorem KZ (e:dput k v []=O d):isKey k=H/\d=[(k,v)]:=aC (dH e) λe a=>⟨a,(aF e).symm⟩
theorem HZ (e:dput k v (p::r)=O d):∃c,BS k p.1=O c/\((c=H/\d=(p.1,v)::r)\/(c=aj/\∃f,dput k v r=O f/\d=p::f)):=by
 refine aK (nT (show(aA aq (λb=>af (aA aq (λh=>O (p::h)) (dput k v r)) (O ((p.1,v)::r)) b) (BS k p.1):Option (List (V×V)))=O d from e)) λc e i=>bV c i ?_
 induction c using zB with
 |true=>exact .inl ⟨rfl,(aF e).symm⟩
 |false=>
  exact aK (nT e) λf e j=> .inr (yC rfl f j ((aF e).symm))
theorem wj (hu:VR X g w n u x) {a} (hk:∀p∈a,∃y,VR X g w n p.1 y) {d} (e:dput u v a=O d):
 (iT u a=O aq/\(∀p∈a,p.1≠u)/\d=a++[(u,v)])\/∃j i,iT u a=O (O i)/\a[j]? =O (u,i)/\d=a.set j (u,v):=by
 induction a generalizing d with
 |nil=>
  refine aC (KZ e) λk=> ?_;subst k;intro h1;refine .inl (iW ?_ (λp hp=>((aU hp).elim)) rfl);refine(?_:(af aq (O aq) (isKey u):Option (Option V))=_);exact U h1 rfl
 |cons p l s=>
  refine aK (HZ e) λc e r=>fF (hk p aE) λy hy=> ?_;have q:=keq_eq hu hy r;have m:iT u (p::l)=(af (iT u l) (O (O p.2)) c:Option (Option V)):=by
   refine(?_:(aA aq (λb=>af (iT u l) (O (O p.2)) b) (BS u p.1):Option (Option V))=_);exact U r rfl
  rcases e with⟨rfl,rfl⟩|⟨rfl,A,t,rfl⟩
  .refine .inr (j0 0 p.2 m ?_ ?_)
   .refine U (q.mp rfl) ?_;rfl
   .refine U (q.mp rfl) ?_;rfl
  .rcases s (λp hp=>hk p (aD _ hp)) t with⟨o,h1,rfl⟩|⟨j,i,o,h1,rfl⟩
   .refine .inl (iW (m.trans o) (λz f=> ?_) rfl);rcases aT.mp f with rfl|f
    .exact λh=>ff (q.mpr h.symm)
    .exact h1 z f
   .exact .inr (j0 (j+1) i (m.trans o) h1 rfl)
theorem iU.SK (h:iU (ri X g w n) a es):∀p∈a,∃y,VR X g w n p.1 y:=by
 induction h with
 |nil=>intro p hp;nomatch hp
 |cons h _ b=>
  intro p hp;rcases aT.mp hp with rfl|hp
  .exact⟨_,h.key⟩
  .exact b p hp
theorem DK {a:List (V×V)} (hn:(a.map eG).Nodup) {i j:Nat} (hi:a[i]? =O (u,v)) (d:a[j]? =O (u,v')):i=j:=by
 have b:(a.map eG)[i]? =O u:=by refine U lu (U hi ?_);rfl
 have c:(a.map eG)[j]? =O u:=by refine U lu (U d ?_);rfl
 exact(List.getElem?_inj (bZ.mp b).1 hn).mp (b.trans c.symm)
end
structure Oq (X:dw) (g:Heap) (w:Wd) (n:Nat) (p:V×V) (q:List Int×Addr×Value):Prop where
 key:p.1.xs.map dU=q.1
 kr:VR X g w n p.1 (.ref q.2.1)
 is:(tupleKind (intKind X.prog X.w)).is g q.1 q.2.1
 val:VR X g w n p.2 q.2.2
section
variable {X:dw} {w:Wd} {n:Nat} {s:Shared}
theorem x9 (hu:VR X s.heap w n u x) (hk:isKey u=H):∃d,∀t {A} {E} {Q},A.units<cLine->Q (hashOf X u) {s with toks:=t+d}->
 wpAny (model X.prog X.w) A (pyHash x) Q E {s with toks:=t}:=by
 have b:∀kd:KD X,kd.t=u.t->∃d,∀t {A} {E} {Q},A.units<cLine->Q (hashOf X u) {s with toks:=t+d}->
  wpAny (model X.prog X.w) A (pyHash x) Q E {s with toks:=t}:=λkd ht=>⟨1,λt A E Q i q=>kd.knd.pyHash (s:={s with toks:=t}) (kd.is hu ht.symm) (U (kd.hash hu ht.symm) q)⟩
 rcases x8 hk with h|h|h|⟨h,f⟩
 .exact b (yY X) h.symm
 .exact b (DE X) h.symm
 .exact b (Cb X) h.symm
 .refine dN (Cf hu h f) λa c=> ?_;subst c;intro k;refine⟨(tupleKind (intKind X.prog X.w)).draws (u.xs.map dU),λt A E Q g q=>(tupleKind (intKind X.prog X.w)).pyHash (s:={s with toks:=t}) g k ?_⟩;have e:hashOf X u=(tupleKind (intKind X.prog X.w)).hash (u.xs.map dU):=by unfold hashOf;rw [if_neg (by refine U h ?_;exact aX rfl),if_pos h];rfl
  refine cL e ?_;exact q
theorem mh (e:iT u kvs=O o) (hu:VR X g w n u x) (d:gV X g w n kvs es):isKey u=true:=by
 induction kvs using zL with
 |nil=>exact(dH e).1
 |cons p l=>
  refine aK (qe e) λc f b=> ?_;have ht:=yX b;refine fF d.kind λt h=> ?_;have hp:=(h p aE).2;unfold isKey at hp⊢;refine U ht (aC (dH b) λb f=> ?_);rw [ht] at b
  induction h2:ak p.1.t 2 using zB with
  |true=>rfl
  |false=>
   induction i:ak p.1.t 3 using zB with
   |true=>rfl
   |false=>
    induction j:ak p.1.t 4 using zB with
    |true=>rfl
    |false=>
     rw [h2,i,j] at b;refine gc (dH b) λk b=>U k ((?_:allInts u.xs=H));have q:=(za b).1;revert q;generalize u.xs=l';intro q
     induction l' with
     |nil=>rfl
     |cons a r m=>
      refine(?_:(af aj (allInts r) (ak a.t 2):Bool)=H);exact U (q a aE) (m λv hv=>q v (aD _ hv))
theorem gV.tups (d:gV X g w n f es) (ht:∀p∈f,p.1.t=5):∃xs,iU (Oq X g w n) f xs/\es=xs.map (entryOfKey (tupleKind (intKind X.prog X.w))):=by
 have i:=d.all;have hk:=let⟨_,h⟩:=d.kind;λp hp=>(h p hp).2;clear d
 induction i with
 |nil=>exact bV [] .nil rfl
 | @cons p e l m h t ih=>
  refine aK (ih (λp hp=>ht p (aD _ hp)) λp hp=>hk p (aD _ hp)) λxs j=> ?_;subst j;intro h1;have o:=ht p aE;have i:allInts p.1.xs=true:=by
   rcases x8 (hk p aE) with h|h|h|⟨_,i⟩
   .lia
   .lia
   .lia
   .exact i
  have c:=h.key;refine aK (Cf c o i) λa k hx=> ?_;rw [hx] at c;refine bV ((p.1.xs.map dU,a,e.val)::xs) (.cons ⟨rfl,c,k,h.val⟩ h1) ?_;obtain⟨q,r,b⟩:=e;have u:hashOf X p.1=tupleKeyHash (intKind X.prog X.w) (p.1.xs.map dU):=by unfold hashOf;rw [if_neg (by refine U o ?_;exact aX rfl),if_pos o]
  cases hx;refine congrArg (· ::_) ((?_:DictEntry.mk q _ b=⟨_,_,b⟩));refine U (show q=hashOf X p.1 from(h.hash)) (U u ?_);rfl
theorem GI {x y} (j:VR X g w n a x) (hb:VR X g w n b y) (h1:a.t=5) (h2:b.t=5) (l:isKey a=H) (m:isKey b=H) (e:a.xs.map dU=b.xs.map dU):a=b:=by
 have d:∀{c},c.t=5->isKey c=H->∀v∈c.xs,v.t=2:=λh i=>by
  rcases x8 i with h'|h'|h'|⟨_,j⟩
  .lia
  .lia
  .lia
  .exact j5 j
 induction j using Mine.VR.casesOn with
 |tup xs a items ep B hm C hn o=>
  induction hb using Mine.VR.casesOn with
  |tup p D f q r u z A k=>exact U (GH o k (d h1 l) (d h2 m) e) rfl
  |_=>exact nn h2 rfl
 |_=>exact nn h1 rfl
theorem Oq.keys (h:iU (Oq X g w n) kvs xs):xs.map (·.1)=kvs.map (λp=>p.1.xs.map dU):=by
 induction h with
 |nil=>rfl
 |cons h _ a=>simp [a,h.key]
theorem K0 {K:Type} {f:V->K} {b:List (V×V)} (d:(b.map eG).Nodup) (c:∀p∈b,∀q∈b,f p.1=f q.1->p.1=q.1):(b.map λp=>f p.1).Nodup:=by
 induction b with
 |nil=>exact iI
 |cons p m g=>
  rw [dI,gA] at d⊢;refine⟨λhp=> ?_,g d.2 (λp hp q hq=>c p (aD _ hp) q (aD _ hq))⟩;exact dN (gJ.mp hp) λq hq e=>d.1 (gJ.mpr (bV q hq (c q (aD _ hq) p aE e)))
theorem yb (hg:s.heap.get? a=O (cH es ep)) (g:gV X s.heap w n c es.toList)
 (hu:VR X s.heap w n u x) (e:iT u c=O o) (hA:A.units<cLine) t
 (qn:o=aq->(∀p∈c,p.1≠u)->Q aq {s with toks:=t}) (qs:∀j v,o=O v->c[j]? =O (u,v)->Q (O j) {s with toks:=t}):
 wpAny (model X.prog X.w) A (dictFind a x (hashOf X u)) Q E {s with toks:=t}:=by
 have I:=g.all.SK;have G:=Fg hu I e;have S:=mh e hu g;have J:∀r:Option Nat,(r=aq->∀p∈c,p.1≠u)->(∀j,r=O j->∃v,c[j]? =O (u,v))->Q r {s with toks:=t}:=by
  intro r h1 h2
  induction r using zO with
  |none=>
   have h1:=h1 rfl;rcases G with⟨a,b⟩|⟨j,v,a,b⟩
   .exact qn a b
   .exact absurd rfl (h1 _ (cW b))
  |some j=>
   refine fF (h2 j rfl) λv hv=> ?_;rcases G with⟨_,b⟩|⟨j',v',a',b⟩
   .exact absurd rfl (b _ (cW hv))
   .have:=DK g.nodup hv b;subst this;have:=aF (hv.symm.trans b);cases this;exact qs _ _ a' hv
 have K:∀kd:KD X,kd.t=u.t->wpAny (model X.prog X.w) A (dictFind a x (hashOf X u)) Q E {s with toks:=t}:=by
  intro kd ht;have hk:∀p∈c,p.1.t=kd.t:=λp hp=>(tT e g p hp).trans ht.symm;refine cL (kd.hash hu ht.symm) (cG (g.pairs (kd:=kd) hk) λJB h3 h1 h2=>wpAny_dictFind_of (s:={s with toks:=t}) (kd.is hu ht.symm) hg rfl (λe he=>h3 e (mG.mpr he)) (J _ (λh p hp=> ?_) λj h=> ?_))
  .rw [Array.findIdx?_eq_none_iff] at h;obtain⟨i,hi,L⟩:=nD hp;refine dN (g.all.get (i:=i) (a:=p) (U (bA hi) (U L rfl))) λd C D=> ?_;intro l;have q:=kd.is D.key (hk p hp);rw [l] at q;have:=h d (mG.mp (cW C));rw [q] at this;exact ft this
  .obtain⟨V,hi,_⟩:=Array.findIdx?_eq_some_iff_getElem.mp h;have hl:j<c.length:=U g.all.length V;refine aK (g.all.get (i:=j) (a:=c[j]) (bA hl)) λd D C=> ?_;have hdj:es[j]=d:=by rw [bx,o6 V] at C;exact aF C
   rw [hdj] at hi;have m:=hk c[j] (mu hl);have q:=kd.is D.key m;have:=kd.inj hu D.key ht.symm m (kd.knd.inj _ _ _ hi q);exact⟨c[j].2,by exact U (bA hl) (U this rfl)⟩
 rcases x8 S with h|h|h|⟨h,ha⟩
 .exact K (yY X) h.symm
 .exact K (DE X) h.symm
 .exact K (Cb X) h.symm
 .have hk:∀p∈c,p.1.t=5:=λp hp=>(tT e g p hp).trans h;have B:=let⟨_,h⟩:=g.kind;λp hp=>(h p hp).2;refine aK (g.tups hk) λxs h2 h1=>dN (Cf hu h ha) λb oG=> ?_;subst oG;intro k;have e1:hashOf X u=(tupleKind (intKind X.prog X.w)).hash (u.xs.map dU):=by unfold hashOf;rw [if_neg (by refine U h ?_;exact aX rfl),if_pos h];rfl
  refine U e1 ?_;have at1:∀(j:Nat) p,xs[j]? =O (u.xs.map dU,p)->∃v,c[j]? =O (u,v):=by
   intro j p R;have hl:j<c.length:=U h1.length ((bZ.mp R).1);refine dN (h1.get (i:=j) (a:=c[j]) (bA hl)) λq M F=> ?_;cases aF (R.symm.trans M);have m:=mu hl;have:=GI hu F.kr h (hk _ m) S (B _ m) F.key.symm;exact⟨c[j].2,by refine U (bA hl) ?_;exact U (show c[j]=(c[j].1,c[j].2) from rfl) (cL this rfl)⟩
  have at2:∀p∈c,p.1=u->∃(j:Nat) (q:Addr×Value),xs[j]? =O (u.xs.map dU,q):=by
   intro p hp l;obtain⟨i,hi,L⟩:=nD hp;refine dN (h1.get (i:=i) (a:=p) (U (bA hi) (U L rfl))) λq M F=> ?_;exact Ve i q.2 (U M (cL l (U F.key rfl)))
  refine wpAny_dictFind_heap (s:={s with toks:=t}) (xs:=xs) (knd:=tupleKind (intKind X.prog X.w)) hA k hg rfl h2 (λq hq=> ?_) ?_ (λhno=>J aq (λu_ p hp l=> ?_) λj h=>fn h) λj p R=>J (O j) (λh=>sn h) λj' P=>by injection P with P;subst P;exact at1 j p R
  .refine dN (h1.SG hq) λp u_ hp=> ?_;exact hp.is
  .have nd:=g.nodup;have key:∀p∈c,∀q∈c,p.1.xs.map dU=q.1.xs.map dU->p.1=q.1:=λp hp q hq e=>by
    exact fF (I p hp) λy hy=>fF (I q hq) λz hz=>GI hy hz (hk p hp) (hk q hq) (B p hp) (B q hq) e
   exact U (Oq.keys h1) (K0 (f:=λv=>v.xs.map dU) nd key)
  .exact Sk (at2 p hp l) λj q R=>hno j q R
end
section
variable {X:dw} {w:Wd} {h:aev} {s:Shared}
theorem Fi (f:s.heap.get? a=O (cH es ep)) (b:gV X s.heap w n kvs es.toList)
 (hu:VR X s.heap w n u x) (e:iT u kvs=O o) (g:A.units<cLine)
 (q:∀t r,SY X s.heap w n r o->Q r {s with toks:=t}):wpAny (model X.prog X.w) A (dictGet a x) Q E s:=by
 refine fF (x9 hu (mh e hu b)) λd i=> ?_;unfold dictGet
 try with_reducible refine bP ?_
 refine au (i s.toks g (au (yb f b hu e g _ (λc m=> ?_) λj v c k=> ?_)))
 .exact av (q _ _ (U c rfl))
 .refine dN (b.all.get k) λl h1 h2=>au (gM (s:={s with toks:=s.toks+d}) f rfl (av (q _ _ (U c (bV l.val ?_ h2.val)))));refine cL bx (U h1 ?_);rfl
theorem uP (g:(a==lD)=aj) (d:s.heap.get? a=O (cH es ep)) (i:gV X s.heap w n kvs es.toList)
 (hu:VR X s.heap w n u x) (e:iT u kvs=O o) (j:A.units+1<cLine)
 (q:∀t,Q o.isSome {s with toks:=t}):wpAny (model X.prog X.w) A (contains (.ref a) x) Q E s:=by
 have b:s.TypeIs (.ref a) "dict":=bV _ d rfl;unfold contains
 try with_reducible refine bP ?_
 refine bq (bU b yt.lookup) ((?_:wpAny _ _ (if(O (ud "dict.__contains__")==O dY)=H then _ else _) _ E s));rw [if_neg (by refine U (beq_builtin_none ..) ?_;exact bY)];refine au (wpAny_callSpecialUnlessNone?_slot (name:=bX "__contains__") b yt
  (bH yt b entry_dict_contains ?_ (args_dict_contains _ _)))
 refine(?_:wpAny _ _ (dictGet a x>>=_) _ _ s);refine au (Fi d i hu e (A:=A.in1) j λt r f=> ?_)
 induction o using zO with
 |some v=>
  refine dN f λz c=> ?_;subst c;intro _;exact av (bV _ rfl (gK (q t)))
 |none=>
  refine U f ((?_:wpAny _ _ (Builtin.Dict.pendingKey? a x>>=_) _ _ _));exact au (wpAny_pendingKey_other g (av (bV _ rfl (gK (q t)))))
theorem Ot (d:s.heap.get? a=O (cH es ep)) (f:gV X s.heap w n kvs es.toList)
 (hu:VR X s.heap w n u x) (e:iT u kvs=O (O v)) (g:A.units+1<cLine)
 (q:∀t z,VR X s.heap w n v z->Q z {s with toks:=t}):wpAny (model X.prog X.w) A (getItem (.ref a) x) Q E s:=by
 have b:s.TypeIs (.ref a) "dict":=bV _ d rfl;unfold getItem
 try with_reducible refine bP ?_
 refine bq (Aw b rfl) ?_;refine au (dW (name:=bX "__getitem__") b Ax
  (bH Ax b entry_dict_getitem ?_ (args_dict_getitem _ _)))
 refine(?_:wpAny _ _ (dictGet a x>>=_) _ _ s);refine au (Fi d f hu e (A:=A.in1) g λt r i=> ?_);refine dN i λz c=> ?_;subst c;intro j;exact av (bV z rfl (av (q t z j)))
theorem t8 {o:aeu} (h:o.t=k) (hk:ak k 8=aj):o.t≠8:=λe=>nn (h.symm.trans e) hk
theorem St.turn (d:bu X) (b:St X w h s) (hi:h.l.get i=O o) F t
 (r:o9 X s.heap w h.n (s.heap.update (w.ρ i) F) w h.n->w.role (w.ρ i)=O i->Rep X (s.heap.update (w.ρ i) F) w h.n i o') (f:o.t≠8):
 St X w ⟨HT.ins o' h.l i,h.n⟩ {s with heap:=s.heap.update (w.ρ i) F,toks:=t}/\Ext X cT w h.n s w h.n {s with heap:=s.heap.update (w.ρ i) F,toks:=t}:=by
 have c:=(b.rep i o hi).2.role f;exact b.put d hi (s':={s with heap:=s.heap.update (w.ρ i) F,toks:=t}) (Heap.size_after_update s.1 (Wd.ρ w i) F) (λa j g e=>(dG _ _ (λhe=>g (by refine cL he ?_;exact c))).trans e) rfl rfl λk=>r k c
theorem H6 {f:Array bf} (c:gV X g w n kvs f.toList) (hv:VR X g w n v y) (a:kvs[j]? =O (u,v0)):
 gV X g w n (kvs.set j (u,v)) (f.modify j λe=>{e with val:=y}).toList:=by
 refine dN (c.all.get a) λz h1 h2=> ?_;have k:=(bZ.mp a).1;have d:iU (ri X g w n) (kvs.set j (u,v)) (f.toList.modify j λe=>{e with val:=y}):=by
  have x:=c.all;clear c h1 h2;generalize f.toList=el at x⊢
  induction x generalizing j with
  |nil=>exact fn a
  | @cons p q l m hp hl ih=>
   induction j using zN with
   |zero=>injection a with a;subst a;exact .cons ⟨hp.key,hv,hp.hash⟩ hl
   |succ j=>exact .cons hp (ih a (lC k))
 have b:(kvs.set j (u,v)).map eG=kvs.map eG:=by
  refine U List.map_set (List.ext_getElem? λi=>U (List.getElem?_set) ?_);split
  .rename_i o;subst o;simp [lu,a];exact(bZ.mp a).1
  .rfl
 refine⟨by simpa using d, ?_,b▸c.nodup⟩;refine fF c.kind λt ht=>⟨t,λp hp=> ?_⟩;have r:=b▸gJ.mpr (bV p hp rfl);refine dN (gJ.mp r) λq hq e=>cL e ?_;exact ht q hq
theorem Ba {j:Array bf} (d:gV X g w n c j.toList) (hu:VR X g w n u x) (hv:VR X g w n v y) (e:iT u c=O aq) (f:∀p∈c,p.1≠u):
 gV X g w n (c++[(u,v)]) (j.push ⟨hashOf X u,x,y⟩).toList:=by
 refine⟨?_,⟨u.t,λp hp=> ?_⟩, ?_⟩
 .exact U pH (d.all.append (.cons ⟨hu,hv,rfl⟩ .nil))
 .rcases ni.mp hp with hp|hp
  .exact fF d.kind λt ht=>⟨tT e d p hp,(ht p hp).2⟩
  .rw [eH] at hp;exact U hp (⟨rfl,mh e hu d⟩)
 .rw [kc,List.nodup_append];refine iW d.nodup (by simp) (λa k b hb=> ?_);simp only [dI,List.map_nil,eH] at hb;refine U hb ?_;refine aK (gJ.mp k) λp i=> ?_;subst i;intro hp;exact f p hp
theorem Fj c (old new):cnt c old new=c+(new.length-old.length):=by
 have h:∀l:List (V×V),(aQ 0 (λa a b=>aG b 1) l:Nat)=l.length:=λl=>len_eq l;unfold cnt;refine U (h ..) (U (h ..) ?_);rfl
theorem GJ (G:bu X) (z:St X w h s) (hi:h.l.get i=O (d7 kvs c)) (hu:VR X s.heap w h.n u x) (hv:VR X s.heap w h.n v y) (e:dput u v kvs=O d) (hn:d.length<=1000000)
 (I:A.units<cLine) t
 (q:∀s',St X w ⟨HT.ins (d7 d (cnt c kvs d)) h.l i,h.n⟩ s'->Ext X cT w h.n s w h.n s'->Q () s'):wpAny (model X.prog X.w) A (dictSetHashed (w.ρ i) x (hashOf X u) y) Q E {s with toks:=t}:=by
 refine aC (z.rep i _ hi) λr L=> ?_;cases r with
 |dict _ g ep o f hz b _ a=>
  unfold dictSetHashed
  try with_reducible refine bP ?_
  rcases(wj hu b.all.SK e) with⟨p,B,rfl⟩|⟨j,M,p,J,rfl⟩
  .refine au (yb f b hu p I t (λK K=> ?_) λj v h=>fn h);refine au (fm (wpAny_updateDictKeys (s:={s with toks:=t}) (hz:=aI hz bw) f rfl ?_));have C:(g.push ⟨hashOf X u,x,y⟩).size<=1000000:=by
    have:=b.all.length;rw [cY] at hn;simp at hn this⊢;lia
   have m:=z.turn G hi (Obj.mapDictKeys λg=>g.push ⟨hashOf X u,x,y⟩) t (o':=d7 (kvs++[(u,v)]) (cnt c kvs (kvs++[(u,v)]))) (λk o=> .dict _ _ (ep+1) o (bD _ f rfl) C ((Ba b hu hv p B).mono k) _ (by refine U (Fj ..) (U cY (U a ?_));simp;exact rfl)) (aX rfl);exact q _ m.1 m.2
  .refine au (yb f b hu p I t (λh K=>sn h) λP R h D=> ?_);have F:=DK b.nodup J D;subst F;refine au (fm (au (wpAny_updateDict (s:={s with toks:=t}) f rfl (vI ?_))));have m:=z.turn G hi (Obj.mapDict λg=>g.modify j λe=>{e with val:=y}) t (o':=d7 (kvs.set j (u,v)) (cnt c kvs (kvs.set j (u,v)))) (λk o=> .dict _ _ ep o (bD _ f rfl) (by simpa using hz) ((H6 b hv J).mono k) _ (by refine U (Fj ..) (U List.length_set (U a ?_));lia)) (aX rfl);exact q _ m.1 m.2
theorem Fl (e:dput u v kvs=O d) (hu:VR X g w n u x) (a:gV X g w n kvs es):isKey u=true:=by
 rcases wj hu a.all.SK e with⟨b,_,_⟩|⟨j,c,b,_,_⟩<;>exact mh b hu a
theorem Fo (f:bu X) (a:St X w h s) (hi:h.l.get i=O (d7 kvs c)) (hu:VR X s.heap w h.n u x) (hv:VR X s.heap w h.n v y) (e:dput u v kvs=O d) (hn:d.length<=1000000)
 (b:A.units<cLine)
 (q:∀s',St X w ⟨HT.ins (d7 d (cnt c kvs d)) h.l i,h.n⟩ s'->Ext X cT w h.n s w h.n s'->Q () s'):wpAny (model X.prog X.w) A (dictSet (w.ρ i) x y) Q E s:=by
 refine aC (a.rep i _ hi) λr g=> ?_;cases r with
 |dict _ m ep o p hz j=>
  refine fF (x9 hu (Fl e hu j)) λt k=> ?_;unfold dictSet
  try with_reducible refine bP ?_
  exact au (k s.toks b (GJ f a hi hu hv e hn b _ q))
theorem Fq (j:bu X) (g:St X w h s) (hi:h.l.get i=O (d7 kvs c)) (hu:VR X s.heap w h.n u x) (hv:VR X s.heap w h.n v y) (e:dput u v kvs=O d) (hn:d.length<=1000000)
 (k:A.units+1<cLine)
 (q:∀s',St X w ⟨HT.ins (d7 d (cnt c kvs d)) h.l i,h.n⟩ s'->Ext X cT w h.n s w h.n s'->Q () s'):wpAny (model X.prog X.w) A (setItem (.ref (w.ρ i)) x y) Q E s:=by
 have f:s.TypeIs (.ref (w.ρ i)) "dict":=by
  refine aC (g.rep i _ hi) λr m=> ?_;cases r with
  |dict _ p ep t o hz z=>exact bV _ o rfl
 unfold setItem
 try with_reducible refine bP ?_
 refine bq (Aw f rfl) ?_;refine au (dW (name:=bX "__setitem__") f slot_dict_setitem
  (bH slot_dict_setitem f entry_dict_setitem ?_ (args_dict_setitem _ _ _)))
 refine bq (nj f) ((?_:wpAny _ _ (dictSet (w.ρ i) x y>>=_) _ _ s));exact au (Fo j g hi hu hv e hn (A:=A.in1) k λs' a b=>av (bV .none rfl (av (q s' a b))))
end
section
variable {X:dw} {w:Wd} {h:aev} {s:Shared} {b:Nat}
theorem K1 (j:10<=X.h₀.objs.size) (d:St X w h s) (F:A.units+200<=9900) (hu:VR X s.heap w h.n u x) (hv:VR X s.heap w h.n v y) (e:Yp u v h k=O res)
 :(sX X w h.n s k res (λc=>Q (.bool c))->wpAny (model X.prog X.w) A (compareOp .In x y) Q (λf f=>False) s)/\(sX X w h.n s k res (λc=>Q (.bool (!c)))->wpAny (model X.prog X.w) A (compareOp .NotIn x y) Q (λf f=>False) s):=by
 have z:A.units+1<cLine:=cl F rfl;refine sI e (λG e=> ?_) λf e=> ?_
 .refine dN (bB e) λt m r=>fJ (hv.ia (aH G)) λa items ep p hy f f hn l=> ?_;have q:=λQ=>Oo (A:=A) p hu l m Q;exact U hy (⟨λg=>(q Q).1 (g w h s t d .refl r),λg=>(q Q).2 (g w h s t d .refl r)⟩)
 refine dF (dg e) λo e I B=>U ((hv.eB I).1) (sI e (λh1 e=> ?_) λf e=> ?_)
 .refine dN (bB e) λt m r=>jM ((d.rep _ o B).2.l6 (aH h1)) λitems ep p C hn l=> ?_;have q:=λQ=>KX (A:=A) p hu l m Q;exact⟨λg=>(q Q).1 (g w h s t d .refl r),λg=>(q Q).2 (g w h s t d .refl r)⟩
 refine aC (dH e) λe h2=>aK (bB e) λD e m=>iX ((d.rep _ o B).2.kR (aH h2)) λJ ep f C p hn E=> ?_;have i:=jO d j C;have e:k D.isSome h=O res:=by rcases D<;>exact e
 exact⟨λg=>au (uP (A:=A) i p E hu m z λt=>av (g w h _ _ (d.toks t) (pP t) e)),
  λg=>au (uP (A:=A) i p E hu m z λt=>av (g w h _ _ (d.toks t) (pP t) e))⟩
theorem S0 (a:10<=X.h₀.objs.size):nV X b Yp .In:=by
 intro A n c w h s d u v x y hu hv k res e Q f;exact(K1 a d (c.u rfl) hu hv e).1 f
theorem H7 (d:10<=X.h₀.objs.size):nV X b JU .NotIn:=by
 intro A n f w h s g u v x y hu hv k res e Q i;refine(K1 d g (f.u rfl) hu hv (k:=λx h=>k (neg x) h) e).2 λj h' s' c a b l=> ?_;have:=i j h' s' (neg c) a b l;rw [neg_eq] at this;exact this
theorem DL (hv:VR X g w m i x) (hn:n<=1000000) (e:yJ i n=O j):
 ∃tk,x= .int (dU i) tk/\vA (dU i)=H/\ -(2^63)<=dU i/\dU i<2^63/\wQ (dU i) n=O j/\j<n:=by
 refine aC (dH e) λe h2=>fF (hv.cO h2) λtk c=> ?_;subst c;refine bV tk rfl ?_;rcases hv.E9 h2 with⟨p,q⟩|⟨p,z,q⟩
 .rw [p] at e;refine aC (dH e) λe d=> ?_;injection e with e;subst e
  have f:=cD.mp d;refine U (show dU i=(i.n:Int) from q) (A4 (fitsIndex_of (cj (V.n i)) (by lia)) (Int.neg_ofNat_le_natCast (2^63) (V.n i)) (by lia) ?_ f);exact seqIndex_of (cj (V.n i)) (by lia)
 .rw [p] at e;refine aC (dH e) λe d=> ?_;injection e with e;subst e
  have a:=aB d;refine U q (A4 (fitsIndex_neg (by lia) (by lia)) (by lia) (by lia) ?_ (by show n-i.n<n;exact Nat.sub_lt_self z a));exact U (seqIndex_neg (by lia) (by lia)) (congrArg O (congrArg Int.toNat ((Int.add_comm (-(i.n:Int)) n).trans (Int.ofNat_sub a).symm)))
theorem Bb (e:wQ k n=O j):(0<=k/\k<n/\j=k.toNat)\/(k<0/\ -(n:Int)<=k/\j=(k+n).toNat):=by
 by_cases h:k<0
 .by_cases h2: -(n:Int)<=k
  .rw [seqIndex_neg h h2] at e;exact .inr (iW h h2 ((aF e).symm))
  .unfold wQ at e;simp only [h,if_true] at e;rw [if_neg (by simp only [aP,decide_eq_true_eq];lia)] at e;exact fn e
 .by_cases h2:k<n
  .rw [seqIndex_of ((λ{a b}=>Iff.mp kI) h) h2] at e;exact .inl (iW ((λ{a b}=>Iff.mp kI) h) h2 ((aF e).symm))
  .unfold wQ at e;simp only [h,if_false] at e;rw [if_neg (by simp only [aP,decide_eq_true_eq];exact(λ{a b}=>Iff.mpr not_and) λa=>h2)] at e;exact fn e
theorem RG {items:Array Value} (c:eg X g w n xs items.toList) (hn:items.size<=1000000) (hu:VR X g w n u x) (i:yJ u (len xs)=O j) (k:sW xs j=O z):
 ∃tk zz,x= .int (dU u) tk/\ -(2^63)<=dU u/\dU u<2^63/\wQ (dU u) items.size=O j/\items[j]? =O zz/\VR X g w n z zz:=by
 rw [len_eq,c.length,aN] at i;obtain⟨tk,e,_,h1,h2,l,m⟩:=DL hu hn i;rw [mO] at k;refine dN (c.get k) λzz d f=> ?_;rw [bx] at d;exact⟨tk,zz,e,h1,h2,l,d,f⟩
theorem K2 (l:St X w h s) (J:A.units+200<=9900) (hv:VR X s.heap w h.n v y) (hu:VR X s.heap w h.n u x) (e:Rn v u h k=O res):
 (s.TypeIs y "tuple"\/s.TypeIs y "list"\/s.TypeIs y "dict")/\∀{Q},Goes (PV X) X w h.n s k res Q->wpAny (model X.prog X.w) A (getItem y x) Q (λf f=>False) s:=by
 refine sI (show(af (look v h λo h=>af (af aq (lift (iT u o.kvs) h λr h=>lift r h k) (ak o.t 2)) (lift (yJ u (len o.xs)) h λj h=>lift (sW o.xs j) h k) (ak o.t 1))
  (lift (yJ u (len v.xs)) h λj h=>lift (sW v.xs j) h k) (ak v.t 5):Option Res)=O res from e) (λK e=> ?_) λf e=> ?_
 .refine aK (bB e) λj e C=>dN (bB e) λz D m=>fJ (hv.ia (aH K)) λa items ep g hy f f hn i=> ?_;obtain⟨tk,p,hx,h1,h2,E,c,d⟩:=RG i hn hu C D;exact U hy (U hx (⟨.inl (bV _ g rfl),λB=>getItem_tuple (gf _ g rfl _ rfl) h1 h2 E c (B w h s z p l .refl d m)⟩))
 refine dF (dg e) λo e L G=>U ((hv.eB L).1) (sI e (λh1 e=> ?_) λf e=> ?_)
 .refine aK (bB e) λj e C=>dN (bB e) λz D m=>jM ((l.rep _ o G).2.l6 (aH h1)) λitems ep g f hn i=> ?_;obtain⟨tk,p,hx,h1,h2,E,c,d⟩:=RG i hn hu C D;have hl:s.heap.IsList (w.ρ v.n) items:=gf _ g rfl _ rfl;refine U hx (⟨.inr (.inl (bV _ g rfl)),λB=> ?_⟩);rcases Bb E with⟨F,I,q⟩|⟨F,I,q⟩
  .exact wpAny_getItem_list hl F h2 (q▸c) (B w h s z p l .refl d m)
  .exact wpAny_getItem_list_neg hl F I h1 (q▸c) (B w h s z p l .refl d m)
 exact aC (dH e) λe h2=>dN (bB e) λR C e=>aK (bB e) λz m hz=>iX ((l.rep _ o G).2.kR (aH h2)) λS ep f f g hn M=>⟨.inr (.inr (bV _ g rfl)),λB=>Ot g M hu (hz▸C) (cl J rfl) λt p P=>B w h _ z p (l.toks t) (pP t) P m⟩
end
end
section
open PyProof.Rows PySem.Calls PySem.SeqAt PySem.W
noncomputable def K3 (K:Frag) (c:Addr) (x:Str):Bool:=findIn K (.ref c) x==O aq&&findIn K (.ref c) "__getattribute__"==O (O (.builtin "object.__getattribute__"))&&findIn K (.ref c) "__setattr__"==O (O (.builtin "object.__setattr__"))&&plainOver K c&&(clsIn K c).any (·.hasDict)
def Ft (X:dw) (F:Frag):Prop:=∀a o,F.lookup a=O o->X.h₀.get? a=O o/\a∉X.tabs
theorem Ft.In (f:Ft X F) (b:St X w h s):F.In s.heap:=λa o e=>b.base a o (f a o e).1 (f a o e).2
structure JC (X:dw) (K:Frag):Prop where
 fld:∀c x,X.fld c x->∃F,Ft X F/\K3 F c x=H
structure Zm (K:Frag) (c:Addr) (x:Str):Prop where
 none:findIn K (.ref c) x=O .none
 ga:findIn K (.ref c) "__getattribute__"=O (O (.builtin "object.__getattribute__"))
 sa:findIn K (.ref c) "__setattr__"=O (O (.builtin "object.__setattr__"))
 plain:plainOver K c=H
 dict:(clsIn K c).any (·.hasDict)=H
theorem JC.Wi {K} (a:JC X K) (h:X.fld c x):∃F,Ft X F/\Zm F c x:=by
 refine aK (a.fld c x h) λF e hF=> ?_;unfold K3 at e;simp only [aP,beq_iff_eq] at e;exact⟨F,hF,e.1.1.1.1,e.1.1.1.2,e.1.1.2,e.1.2,e.2⟩
section
variable {X:dw} {g:Heap} {w:Wd} {n:Nat}
theorem Bc (x y) t:(Value.str y t).isStr x=decide (y=x):=by
 by_cases h:y=x<;>exact rfl
theorem xd (d:l5 X g w n fs l) (hx:aY x=H):
 (∀v,find (nm x) fs=O v->∃e,l.find? (·.key.isStr x)=O e/\VR X g w n v e.val)/\(find (nm x) fs=aq->l.find? (·.key.isStr x)=aq)/\l.any (·.refKey)=false:=by
 induction d with
 |nil=>exact iW (λv e=>(fn e)) (λm=>rfl) rfl
 | @cons p e fs l hp _ ih=>
  refine kK hp.key λy t hn hk hy=>Rd ih λf i j=> ?_;have c:e.key.isStr x=decide (y=x):=U hk (Bc x y t);refine U (eX ..) (U (List.find?_cons) ?_);have k:e.refKey=false:=by unfold DictEntry.refKey;exact U hk rfl
  refine iW (λv a=> ?_) (λa=> ?_) (U gj (U k (U j rfl)))
  .by_cases h:nm x=p.1
   .rw [if_pos h] at a;injection a with a;subst a
    have b:=gU hy hx (hn.trans h.symm);exact U c (U (decide_eq_true b) (bV e rfl hp.val))
   .rw [if_neg h] at a;have b:¬y=x:=λq=>h (cL q hn);exact U c (U (decide_eq_false b) (f v a))
  .by_cases h:nm x=p.1
   .rw [if_pos h] at a;exact sn a
   .rw [if_neg h] at a;have b:¬y=x:=λq=>h (cL q hn);exact U c (U (decide_eq_false b) (i a))
theorem GK (a:l5 X g w n fs es.toList) (hx:aY x=H):
 (∀v,find (nm x) fs=O v->∃y,lookIn x (cH es ep)=O (O y)/\VR X g w n v y)/\(find (nm x) fs=aq->lookIn x (cH es ep)=O aq):=by
 refine Rd (xd a hx) λb c d=>⟨λv e=> ?_,λe=> ?_⟩
 .refine dN (b v e) λf h1 h2=>bV f.val ?_ h2;refine(?_:(match es.toList.find? (·.key.isStr x) with|some e=>O (O e.val)|none=>if es.toList.any (·.refKey) then aq else O aq)=_);exact U h1 rfl
 .refine(?_:(match es.toList.find? (·.key.isStr x) with|some e=>O (O e.val)|none=>if es.toList.any (·.refKey) then aq else O aq)=_);refine U (c e) (U d ?_);rfl
theorem H8 k:handedIn (oQ k)=true:=if h:k<18 then(by decide+kernel:∀k,k<18->handedIn (oQ k)=H) k h else i6 (mE h)▸(rfl:handedIn (oQ (k-18+18))=H)
theorem VR.handed (h:VR X g w n v x):handedIn x=true:=by
 induction h using Mine.VR.casesOn<;>first|rfl|exact H8 _
end
section
variable {X:dw} {K:Frag} {w:Wd} {h:aev} {s:Shared}
theorem St.Fv (d:St X w h s) (e:h.l.get i=O o) (ht:o.t=0):∃a b ep,w.role (w.ρ i)=O i/\w.role a=O i/\a≠w.ρ i/\s.heap.get? (w.ρ i)=O (qZ o.c a)/\s.heap.get? a=O (cH b ep)/\
 l5 X s.heap w h.n o.fs b.toList/\b.size<=1000000/\∀x,aY x=H->find (nm x) o.fs≠aq->X.fld o.c x:=(d.rep i o e).2.at_ ht
theorem sd (h1:g.get? a=O (qZ c dx)) (h2:g.get? dx=O (cH es ep)):InstAt g a (qZ c dx) c (O (cH es ep)):=⟨h1,rfl,rfl,h2⟩
theorem Ou (l:JC X K) (b:St X w h s) (hv:VR X s.heap w h.n v y) {x} (hx:aY x=H) (e:attr v (nm x) h k=O res)
 (m:Goes (PV X) X w h.n s k res Q):wpAny (model X.prog X.w) A (getAttr y x expr) Q (λa a=>False) s:=by
 refine dF (dg e) λo e p r=>aC (dH e) λe t=>dN (bB e) λz hz e=>gc (hv.eB p) λc=> ?_;subst c;intro _;refine p9 (b.Fv r (aH t)) λI i ep d a a a u f B a=>dN ((GK (ep:=ep) B hx).1 z hz) λJ C j=>aK (l.Wi (d x hx (U hz (λq=>sn q)))) λa F hF=>dN (any_some F.dict) λD E G=>get_value (hF.In b) (sd u f) F.ga ?_ j.handed (m.tok b j e);unfold findObj;refine U E (U F.none ((?_:((W.ownOf D (O (cH i ep)) x).bind _)=_)));unfold W.ownOf;refine U G (U (if_pos rfl) ((?_:((lookIn x (cH i ep)).bind _)=_)));refine U C ?_;rfl
theorem l5.set (o:l5 X g w n fs es.toList) (hx:aY x=H) (hu:VR X g w n u z) hh t ep:
 ∃c f,Obj.putName x hh (.str x t) z (cH es ep)=cH c f/\l5 X g w n (setIn (nm x) u fs) c.toList/\c.size=(setIn (nm x) u fs).length:=by
 have k:(∃j,es.findIdx? (·.key.isStr x)=O j/\l5 X g w n (setIn (nm x) u fs) (es.toList.modify j λe=>{e with val:=z}))\/
  (es.findIdx? (·.key.isStr x)=aq/\l5 X g w n (setIn (nm x) u fs) (es.toList++[⟨hh,.str x t,z⟩])):=by
  have hl:es.findIdx? (·.key.isStr x)=es.toList.findIdx? (·.key.isStr x):=by obtain⟨l⟩:=es;exact List.findIdx?_toArray (λm=>Value.isStr (DictEntry.key m) x) l
  refine U hl ?_;generalize es.toList=l at o
  induction o with
  |nil=>exact .inr ⟨rfl,.cons ⟨(j0 x t rfl hx rfl),hu⟩ .nil⟩
  | @cons p e fs l hp hr ih=>
   refine kK hp.key λy r hn hk hy=> ?_;have v:e.key.isStr x=decide (y=x):=U hk (Bc x y r);refine U (yQ ..) (U (List.findIdx?_cons) (U v ?_));by_cases h:nm x=p.1
   .have d:=gU hy hx (hn.trans h.symm);exact U (if_pos h) (U (decide_eq_true d) (.inl (bV 0 rfl (.cons ⟨(j0 y r hk hy (hn.trans h.symm)),hu⟩ hr))))
   .have d:¬y=x:=λq=>h (cL q hn);refine U (if_neg h) (U (decide_eq_false d) ?_);rcases ih with⟨j,a,b⟩|⟨a,b⟩
    .refine U a ?_;exact .inl (bV (j+1) rfl (.cons hp b))
    .refine U a ?_;exact .inr ⟨rfl,.cons hp b⟩
 refine U Obj.putName_eq ?_;rcases k with⟨j,a,b⟩|⟨a,b⟩
 .refine j0 (es.modify j λe=>{e with val:=z}) ep ?_ (by simpa using b) ?_
  .refine(?_:(match es.findIdx? (·.key.isStr x) with|some i=>_|none=>_)=_);exact U a rfl
  .have:=b.length;refine U this ?_;simp
 .refine j0 (es.push ⟨hh,.str x t,z⟩) (ep+1) ?_ (by simpa using b) ?_
  .refine(?_:(match es.findIdx? (·.key.isStr x) with|some i=>_|none=>_)=_);exact U a rfl
  .have:=b.length;refine U this ?_;simp
theorem S1 {c:Addr} {fs} (e:oLe (uC c fs)=H):fs.length<=1000000:=len_eq fs▸(f7 (f7 (f7 (aB e))):len fs<=1000000)
theorem Fw (ax:bu X) (kx:JC X K) (M:St X w h s) (hv:VR X s.heap w h.n v y) (hx:aY x=H) (hu:VR X s.heap w h.n u z) (P:∀c,find c cs≠aq->X.fld c x)
 (e:setAt v (nm x) u cs h k=O res)
 (hQ:∀h' s',St X w h' s'->h'.n=h.n->Ext X cT w h.n s w h.n s'->k dc h'=O res->Q () s'):wpAny (model X.prog X.w) A (setAttr y x z) Q (λI I=>False) s:=by
 refine dF (dg e) λo e h6 ho=>aC (dH e) λe h0=>aK (nT e) λq1 e f=>aC (dH e) λe R=>gc (hv.eB h6) λS=> ?_;subst S;intro _;refine p9 (M.Fv ho (aH h0)) λj J ep V hr l m L d hf hz=> ?_;have p:=P o.c (U f (λq=>sn q));refine aK (kx.Wi p) λI F hF=> ?_;have XK:=hF.In M;refine set_plain XK (sd L d) F.sa (osa_open (s:={s with toks:=s.toks+1}) (r:=aq) XK (sd L d) F.plain (by unfold takerIn;refine U F.none ?_;rfl) λb=> ?_);refine dN (any_some F.dict) λcd hc hd'=>bp (au (au (wpAny_loadPart (s:={s with toks:=s.toks+1}) L (au ((looks_clsIn (h:=s.heap) XK hc).at (U hd' (av (a:=O j) (bp (au (au (au (BO (av (au (wpAny_mkText (bq (wpAny_loadPart d) (vQ (hf.set hx hu (k7 X.w.params x) (s.toks+1) ep) λt B h1 h2 h3=> ?_)))))))))))))))));dsimp only;rw [aRefKeyMayBeTheName_at,show(!J.any (·.key.isStr x)&&J.any (·.refKey))=aj by exact U (show J.any (·.refKey)=J.toList.any (·.refKey) by exact gG Array.any_toList) (U ((xd hf hx).2.2) (U (Bool.and_false ..) rfl))];have C:(s.heap.update j (Obj.putName x (k7 X.w.params x) (.str x (s.toks+1)) z)).get? j=O (cH t B):=by
  refine cL h1 ?_;exact bD _ d (U h1 rfl)
 have D:=S1 R;refine wpAny_updatePart d (bq (BP C (pastItsLine_dict (U h3 (aI D (aI bw (gW _)))))) (av ?_));have E:=M.put ax ho (o':=uC o.c (setIn (nm x) u o.fs)) (s':={s with heap:=s.heap.update j (Obj.putName x (k7 X.w.params x) (.str x (s.toks+1)) z),toks:=s.toks+2}) (Heap.size_after_update s.1 j (Obj.putName x (k7 (World.params (dw.w X)) x) (Value.str x (Shared.toks s+1)) z))
  (λa ob ha e=>(dG _ _ (λhe=>ha (by refine cL he ?_;exact l))).trans e) rfl rfl λkk=>
   .inst o.c _ j t B hr l m ((dG _ _ m).trans L) C (h2.mono λI I=>v9.mono kk) (by lia) λx' G i=>by
    rw [jU] at i;by_cases hq:nm x'=nm x
    .refine U (gU G hx hq) ?_;exact p
    .rw [if_neg hq] at i;exact V x' G i
 exact hQ _ _ E.1 rfl E.2 e
end
section
variable {M:Model} {A:Around} {E:Value->Shared->Prop} {s:Shared} {env:dj}
theorem Cg {id} (e:lZ (.Call (.Name id np) args kws cp)=H):(id !=("super":Str))=true:=by
 have e:(af H aj (ak (nm id) (nm "super")):Bool)=true:=e
 induction h:ak (nm id) (nm "super") using zB with
 |true=>rw [h] at e;exact ff e
 |false=>rw [bne_iff_ne];intro q;exact fV h (by rw [q])
theorem K4 o:(∃id d pos,o= .Call (.Name id d) [] [] pos)\/∀c env t,attributeBase o c env t=t:=by
 induction o using aS with
 |Call f args e pos=>
  induction f using aS with
  |Name id d=>
   induction args using zL with
   |nil=>
    induction e using zL with
    |nil=>exact .inl ⟨id,d,pos,rfl⟩
    |cons=>exact .inr λa a a=>rfl
   |cons=>exact .inr λa a a=>rfl
  |_=>exact .inr λa a a=>rfl
 |_=>exact .inr λa a a=>rfl
theorem Ov (hn:lZ o=H) attr t:attributeBase o attr env t=t\/attributeBase o attr env t=t>>=pure:=by
 rcases K4 o with⟨id,a,pos,e⟩|e
 .have q:=Cg (e▸hn);refine U e ?_;unfold attributeBase;dsimp only;rw [q,oi,oi,oi,if_pos rfl]
  first|exact .inl rfl|exact .inr rfl
 .exact .inl (e _ _ _)
end
section
variable {prog:Program} {w:World} {A:Around} {E:Value->Shared->Prop} {s:Shared}
theorem Ci {T id} (f:s.TypeIs o T) (hl:typeLookup (.type T) "__getitem__"=pure (O (.builtin id))) (j:isSlice slice=aj) (h:wpAny (model prog w) A (getItem o i) Q E s):
 wpAny (model prog w) A (subscriptTail value slice o i) Q E s:=by
 have hs:subscripted slice aj o i=operate [o,i] (getItem o i):=by rcases slice<;>first|rfl|exact ft j
 refine au (bq (bU f hl) ?_);have d:wpAny (model prog w) A (subscripted slice aj o i) (λr a=>wpAny (model prog w) A (letTemporaryGo value o r>>=λe=>pure r) Q E a) E s:=by
  refine U hs ?_;exact wpAny_operating (f5 h (λr a c=>au (vK (av c))) λe e x=>x)
 exact av (au d)
theorem GL {lo hi} {T id} (f:s.TypeIs o T) (hl:typeLookup (.type T) "__getitem__"=pure (O (.builtin id))) (h:wpAny (model prog w) A (getItem o i) Q E s):
 wpAny (model prog w) A (subscriptTail value (.Slice lo hi aq p) o i) Q E s:=by
 have hs:∀b,subscripted (.Slice lo hi aq p) b o i=operate [i,o] (getItem o i):=λd=>rfl;refine au (bq (bU f hl) ?_);have e:wpAny (model prog w) A (subscripted (.Slice lo hi aq p) aj o i) (λr a=>wpAny (model prog w) A (letTemporaryGo value o r>>=λd=>pure r) Q E a) E s:=by
  refine U (hs ..) ?_;exact wpAny_operating (f5 h (λr a c=>au (vK (av c))) λd d x=>x)
 exact av (au e)
end
def S2 (X:dw) (r:Ap) (n b:Nat) (ns:List (Str×aM)) (e:XE) (x:Option Expr):Prop:=
 ∀A,fQ n b A->∀env ρ w h s,St X w h s->eZ X env ns ρ w h.n s->∀k res,e.f r ρ h k=O res->∀Q:Value->Shared->Prop,
  Goes (PV X) X w h.n s k res Q->cC (model X.prog X.w) A (evalPart x env) Q (λu_ u_=>False) s
def AI (env:dj) (ns:List (Str×aM)):Addr->Prop:=λa=>a=env.locals\/∃x,aY x=H/\aZ (nm x) ns=O .cell/\env.cells.lookup x=O a
def rq (X:dw) (r:Ap) (n b:Nat) (ns:List (Str×aM)) (a:XA) (t:Expr):Prop:=
 ∀A,fQ n b A->∀env ρ w h s,St X w h s->eZ X env ns ρ w h.n s->∀v y,VR X s.heap w h.n v y->∀kn res,a.f r ρ v h kn=O res->∀Q:Unit->Shared->Prop,
  (∀ρ' w' h' s',St X w' h' s'->eZ X env ns ρ' w' h'.n s'->Ext X (AI env ns) w h.n s w' h'.n s'->kn ρ' h'=O res->Q () s')->cC (model X.prog X.w) A (assign t env y) Q (λu_ u_=>False) s
section
variable {X:dw} {K:Frag} {r:Ap} {n b:Nat} {ns:List (Str×aM)} {w:Wd} {h:aev} {s:Shared}
theorem S2.none:S2 X r n b ns (xC dc) .none:=λA a env ρ w h s hs he k res e Q hQ=>aO (hQ.here hs .none e)
theorem S2.some (h:cN X r n b ns e x):S2 X r n b ns e (.some x):=h
theorem K5 {M} {attr} (hn:lZ o=H) (h:cC M A t Q E s):cC M A (attributeBase o attr env t) Q E s:=by
 rcases Ov hn attr t with e|e<;>refine U e ?_
 .exact h
 .exact ay (aV h (λa a q=>aO q) λa a x=>x)
theorem zb {M}
 (h:cC M A (eval value env) (λo a=>cC M A (eval slice env) (λi c=>cC M A (subscriptTail value slice o i) Q E c) E a) E s):cC M A (eval (.Subscript value slice pos) env) Q E s:=ay (aV h (λo a d=>ay (bg (aV d (λi c e=>ay (bG e)) λf f x=>x))) λf f x=>x)
theorem cN.attr (d:JC X K) pos (hx:aY x=H) (hn:lZ v=H) (f:cN X r n b ns o v):cN X r n b ns (Rq o (nm x)) (.Attribute v x pos):=by
 intro A i env ρ w h s hs he k res e Q hQ;exact ay (K5 hn (f A i env ρ w h s hs he _ res e _ λB h1 C u u' a j hu l=>(ay (bG (ay (bg (eW (Ou d a hu hx l λm h2 p z z' c q hz t=>(ay (eW (vK (aO (hQ m h2 p _ _ c (j.trans q) hz t)))))))))))))
theorem cN.sub pos (a:isSlice j=aj) (p:cN X r n b ns o v) (hi:cN X r n b ns i j):cN X r n b ns (VM o i) (.Subscript v j pos):=by
 intro A c env ρ w h s hs he k res e Q hQ;refine zb (p A c env ρ w h s hs he _ res e _ λt h1 x u u' d l hu B=>(hi A c env ρ t h1 x d (he.ext l) _ res B _ λG h2 I z z' f m hz C=>aC (K2 f (A:=A) (c.u rfl) (hu.mono m.dX) hz C) λD F=> ?_));have q:=D (hQ.ext (l.trans m));rcases F with T|T|T
 .exact eW (Ci T slot_tuple_getitem.lookup a q)
 .exact eW (Ci T slot_list_getitem.lookup a q)
 .exact eW (Ci T Ax.lookup a q)
theorem uQ (hv:VR X g w m i y) (e:bound n d i=O a):∃k,IsPart y k/\k.elim d (clipAt n)=a:=by
 have e:(af (af aq (af (O (ez n i.n)) (O (af n i.n (bO i.n n))) (ak i.s 0)) (ak i.t 2)) (O d) (ak i.t 0):Option Nat)=O a:=e
 induction c:ak i.t 0 using zB with
 |true=>
  rw [c] at e;cases none_of hv c;exact bV aq .none (aF e)
 |false=>
  rw [c] at e;refine aC (dH e) λe h2=>fF (hv.cO h2) λtk f=> ?_;subst f;refine bV (O (dU i)) (.int _ _) ?_;rcases hv.E9 h2 with⟨p,q⟩|⟨p,z,q⟩
  .rw [p] at e;refine U q ((?_:clipAt n (i.n:Int)=a));refine U (clipAt_nat ..) ?_
   induction hb:bO i.n n using zB with
   |true=>
    rw [hb] at e;have:=aB hb;have:=aF e;lia
   |false=>
    rw [hb] at e;have j:¬i.n<=n:=λq=>by rw [mw q] at hb;exact ft hb
    have:=aF e;lia
  .rw [p] at e;refine U q ((?_:clipAt n (-(i.n:Int))=a));exact U (clipAt_neg n i.n z) (aF e)
theorem Bd {lo hi} {l} (e:JN xs lo hi=O l):∃a c,bound xs.length 0 lo=O a/\bound xs.length xs.length hi=O c/\l=(xs.drop a).take (c-a):=by
 refine aK (nT e) λa e d=>aK (nT e) λc e f=> ?_;rw [len_eq] at d f;rw [Dv,Du] at e;exact j0 a c d f ((aF e).symm)
theorem uR (e:kB l h k=O res):l.length<=1000000/\k (fq l) h=O res:=by
 refine gc (dH e) λa e=> ?_;have:=aB a;rw [len_eq] at this;exact⟨this,e⟩
section
variable {w:Wd} {h:aev} {s:Shared} {A:Around} {k:V->aev->Option Res} {res:Res} {Q:Value->Shared->Prop} {u y z:V} {u' y' z':Value} {g g':Heap} {v v':Wd} {n n':Nat} {sl:Addr} (hs:St X w h s) (hu:VR X s.heap w h.n u u') (hy:VR X g v n y y') (hz:VR X g' v' n' z z') (hsl:s.heap.IsSliceOf sl y' z' .none) (hQ:Goes (PV X) X w h.n s k res Q)
include hs hu hy hz hsl hQ
theorem S3 (h4:ak u.t 4=H) (e:lift (JN u.l y z) h (λb h=>kB b h k)=O res):wpAny (model X.prog X.w) A (getItem u' (.ref sl)) Q (λu_ u_=>False) s/\s.TypeIs u' "bytes":=by
 refine dN (bB e) λl e4 e5=>kK (Bd e4) λa c el b1 b2=>gc (uR e5) λhz5 e5=>oK (hu.jN (aH h4)) λbs tk hul Zn hn=> ?_;have hl:u.l.length=bs.size:=U hul (U (eL ..) (U aN rfl));rw [hl] at b1 b2;refine aK (uQ hy b1) λk1 q1 p1=>aK (uQ hz b2) λk2 q2 p2=> ?_;have hpk:(KBy.picked bs k1 k2).toList.map bS=l:=by
  have q:=KBc.ints_picked (b:=bs) rfl k1 k2;rw [KBw.ints_length,q1,q2] at q;have q:(KBy.picked bs k1 k2).toList.map (λc:UInt8=>(c.toNat:Int))=((bs.toList.map λc:UInt8=>(c.toNat:Int)).drop a).take (c-a):=q;have hm:∀l:List UInt8,l.map (λc:UInt8=>(c.toNat:Int))=(l.map bS).map (λn:Nat=>(n:Int)):=λl=>by simp
  rw [hm,hm,<-List.map_drop,<-List.map_take,<-hul] at q;exact U el ((List.map_inj_right (λx y e=>Int.ofNat.inj e)).mp q)
 rw [<-hpk] at e5;refine U Zn ?_;exact⟨getItem_meets (kg _ _ _) rfl FB.slot_bytes_getitem FB.entry_bytes_getitem (FB.args_bytes_getitem_2 _ _) (KBc.meets_slice2 bs tk _ p1 p2)
  (iW hsl (aI (KBc.size_picked_le bs _ _) (aI hn bw)) (λt' kk=>hQ w h _ _ _ (hs.toks kk) (pP kk) (VR.bytes _ t' (aI (KBc.size_picked_le bs _ _) hn)) e5)),kg _ _ _⟩
theorem S4 (B:bu X) (e:EW u h (λxs h=>lift (JN xs y z) h λl h=>new (bK l) h k)=O res):wpAny (model X.prog X.w) A (getItem u' (.ref sl)) Q (λC C=>False) s/\s.TypeIs u' "list":=by
 refine gR (DJ e) λob f D j F=>dN (bB f) λl G f=>aC (dH f) λf d=> ?_;have d:=nY d;refine vQ (hs.SX j F) λitems ep I hn i=>kK (Bd G) λa c J p t=> ?_;rw [i.length,aN] at p t;refine aK (uQ hy p) λk1 L P=>aK (uQ hz t) λk2 R S=> ?_;have x:s.heap.IsList (w.ρ u.n) items:=gf _ I rfl _ rfl;have hv:=(i.drop a).take (c-a);rw [J] at d f;refine U ((hu.eB D).1) (⟨wpAny_getItem_list_slice x hsl P S .none (λq=>fn q) ?_ (aI hn bw),x.typeIs⟩);exact U (slicePick_plain ..) (U L (U R (jB (hs.newList B hv (cL hv.length d) s.toks) λw5 m x5 o=>(hQ w5 _ _ _ _ m x5 (o▸VR.ref h.n (bM _)) f))))
end
theorem cN.cut (ax:bu X) {lo hi} (p pos) (ho:cN X r n b ns o v) (hi':S2 X r n b ns i lo) (hj':S2 X r n b ns j hi):cN X r n b ns (Sw o i j) (.Subscript v (.Slice lo hi aq p) pos):=by
 intro A hA env ρ w h s hs he k res e Q hQ;refine zb (ho A hA env ρ w h s hs he _ res e _ λw1 h1 s1 u u' hs1 x1 hu e1=>HV (hi' A hA env ρ w1 h1 s1 hs1 (he.ext x1) _ res e1 _ λw2 h2 s2 y y' hs2 x2 hy e2=>hj' A hA env ρ w2 h2 s2 hs2 ((he.ext x1).ext x2) _ res e2 _ λw3 h3 s3 z z' JD x3 hz e3=>aO (aC (JD.junk ax {cls:= .type "slice",data:= .fields #[y',z',.none]} s3.toks) λx4 Vh=> ?_)));have hu4:=((hu.mono x2.dX).mono x3.dX).mono x4.dX;have hsl:=Heap.IsSliceOf.new s3.heap y' z' .none;have hQ4:=hQ.ext (((x1.trans x2).trans x3).trans x4);refine sI e3 (λh4 e=> ?_) λu_ e=> ?_
 .exact gc (S3 (A:=A) Vh hu4 hy hz hsl hQ4 h4 e) λq t=>eW (GL t FB.slot_bytes_getitem.lookup q)
 .exact gc (S4 (A:=A) Vh hu4 hy hz hsl hQ4 ax e) λq t=>eW (GL t slot_list_getitem.lookup q)
end
section
variable {X:dw} {K:Frag} {r:Ap} {n b:Nat} {ns:List (Str×aM)} {w:Wd} {h:aev} {s:Shared} {env:dj} {ρ:Env}
theorem uS {g:Heap} (x:g.Ns a m) (e:g.get? a=O o):ef o=false:=by
 obtain⟨o',f,ep,c,d,_⟩:=x;injection e.symm.trans c with hq;subst hq
 unfold ef;exact U d rfl
theorem zc {g:Heap} (x:g.IsCell a v) (e:g.get? a=O o):ef o=false:=by
 refine dN x λo' c d=> ?_;injection e.symm.trans c with hq;subst hq
 unfold ef;exact U d rfl
theorem rt {g:Heap} (x:g.Ns a m) (y:g.IsCell a v):False:=by
 obtain⟨o,i,ep,e,d,_⟩:=x;refine dN y λo' f c=> ?_;injection e.symm.trans f with hq;subst hq
 rw [d] at c;injection c
theorem zd (ax:bu X) (hs:St X w h s) (he:eZ X env ns ρ w h.n s) (hx:aY x=H) (hk:aZ (nm x) ns=O .local\/aZ (nm x) ns=O .cell) (hv:VR X s.heap w h.n v y)
 (hQ:∀s',St X w h s'->eZ X env ns (gg ρ (nm x) v) w h.n s'->Ext X (AI env ns) w h.n s w h.n s'->Q () s'):wpAny (model X.prog X.w) A (storeName env x y) Q E s:=by
 refine aK he.loc λm J hm=> ?_;have G:∀y u,find y (gg ρ (nm x) v).loc=O u->aZ y ns=O .local\/aZ y ns=O .cell:=λy u h=>by
  have h:find y (setIn (nm x) v ρ.loc)=O u:=h;rw [jU] at h;by_cases hq:y=nm x
  .refine U hq ?_;exact hk
  .rw [if_neg hq] at h;exact he.locs y u h
 rcases hk with hk|hk
 .refine wpAny_storeName_local (he.kind x _ hx hk) hm (λh' D p=> ?_) (U he.fn rfl);have d:∀a,a≠env.locals->∀o,s.heap.get? a=O o->h'.get? a=O o:=λa g o e=>(p.2 a g).trans e;have t:∀a o,a=env.locals->s.heap.get? a=O o->ef o=false:=λa o g e=>by subst g;exact uS hm e
  refine aC (hs.grow ax (F:=λa=>a=env.locals) (s':={s with heap:=h',toks:=s.toks+1}) (cV p.1.symm) t (λa g=>by subst g;exact⟨he.DC.1,he.DC.2.1⟩) (λa o g e=>d a g o e) rfl rfl) λL V=> ?_;have k:=L.keep t;have I:∀{c M},s.heap.IsCell c M->c≠env.locals:=λhc hq=>by subst hq;exact rt hm hc
  refine hQ _ V ⟨he.fn,he.glob,he.blt,he.kind,he.cls,he.GB,(bV _ D (λz u h1 h2 f=> ?_)),he.DC,λz h1 h2=> ?_,λz u c h1 h2 f C=> ?_,λz u c h1 h2 f C=> ?_,he.apart,G,he.outs,he.N8⟩ (L.weaken λa g=> .inl g)
  .have f:find (nm z) (setIn (nm x) v ρ.loc)=O u:=f;rw [jU] at f;by_cases hq:nm z=nm x
   .rw [if_pos hq] at f;injection f with f;subst f
    exact bV y (if_pos (gU h1 hx hq)) (hv.mono k)
   .rw [if_neg hq] at f;exact aK (J z u h1 h2 f) λB j i=>bV B ((if_neg λe=>hq (by exact U e rfl)).trans i) (j.mono k)
  .exact HJ (he.cell z h1 h2) λc M i j a3 R S=>lX c M i j a3 R (ig S (d _ (I S)))
  .have f:find (nm z) (setIn (nm x) v ρ.loc)=O u:=f;rw [jU,if_neg (λhq=>by rw [hq,hk] at h2;cases h2)] at f;exact aK (he.wZ z u c h1 h2 f C) λB j i=>bV B (ig i (d _ (I i))) (j.mono k)
  .exact aK (he.w9 z u c h1 h2 f C) λB j i=>bV B (ig i (d _ (I i))) (j.mono k)
 .refine HJ (he.cell x hx (.inl hk)) λl aa5 P c2 c3 c4 c5=>wpAny_storeName_cell he.fn (he.kind x _ hx hk) P c5 (λh' D p=> ?_);have d:∀a,a≠l->∀o,s.heap.get? a=O o->h'.get? a=O o:=λa g o e=>(p.2 a g).trans e;have t:∀a o,a=l->s.heap.get? a=O o->ef o=false:=λa o g e=>by subst g;exact zc c5 e
  refine aC (hs.grow ax (F:=λa=>a=l) (s':={s with heap:=h'}) (cV p.1.symm) t (λa g=>by subst g;exact⟨c2,c3⟩) (λa o g e=>d a g o e) rfl rfl) λL V=> ?_;have k:=L.keep t;refine hQ _ V ⟨he.fn,he.glob,he.blt,he.kind,he.cls,he.GB,(bV m (uL hm (d _ λq=>rt hm (q▸c5))) (λz u h1 h2 f=> ?_)),he.DC,λz h1 h2=> ?_,λz u c h1 h2 f C=> ?_,λz u c h1 h2 f C=> ?_,he.apart,G,he.outs,he.N8⟩
   (L.weaken λa g=> .inr (f9 x hx hk (g▸P)))
  .have f:find (nm z) (setIn (nm x) v ρ.loc)=O u:=f;rw [jU,if_neg (λhq=>by rw [hq,hk] at h2;cases h2)] at f;exact aK (J z u h1 h2 f) λB j i=>bV B i (j.mono k)
  .refine HJ (he.cell z h1 h2) λc M i j a3 R S=> ?_;by_cases hq:c=l
   .subst hq;exact lX c _ i j a3 R D
   .exact lX c M i j a3 R (ig S (d _ hq))
  .have f:find (nm z) (setIn (nm x) v ρ.loc)=O u:=f;rw [jU] at f;by_cases hq:nm z=nm x
   .rw [if_pos hq] at f;injection f with f;subst f
    cases gU h1 hx hq;injection C.symm.trans P with hq;subst hq
    exact bV y D (hv.mono k)
   .rw [if_neg hq] at f;exact aK (he.wZ z u c h1 h2 f C) λB j i=>bV B (ig i (d _ λe=>hq (U (he.apart z x c C (e▸P)) rfl))) (j.mono k)
  .exact aK (he.w9 z u c h1 h2 f C) λB j i=>bV B (ig i (d _ λe=>by rw [he.apart z x c C (e▸P),hk] at h2;cases h2)) (j.mono k)
theorem rq.loc (f:bu X) x p (hx:aY x=H) (hk:aZ (nm x) ns=O .local\/aZ (nm x) ns=O .cell):rq X r n b ns (kq (nm x)) (.Name x p):=by
 intro A j env ρ w h s g he v y hv k res e Q i;exact eW (au (xQ (wpAny_bindName (zd f g he hx hk hv λs' a c d=>i _ w h s' a c d e))))
theorem rq.bad t:rq X r n b ns B6 t:=λc c c c c c c c c c c c c c e=>fn e
theorem AI.fixed (he:eZ X env ns ρ w h.n s):∀a o,AI env ns a->s.heap.get? a=O o->ef o=false:=by
 intro a o f e;rcases f with rfl|⟨x,h1,h2,g⟩
 .refine aK he.loc λm d hm=> ?_;exact uS hm e
 .refine HJ (he.cell x h1 (.inl h2)) λc k i d d d j=> ?_;injection g.symm.trans i with hq;subst hq
  exact zc j e
theorem rq.attr (k:bu X) (l:JC X K) p (hx:aY x=H) (d:∀c,find c cs≠aq->X.fld c x) (m:cN X r n b ns o t):rq X r n b ns (Rw o (nm x) cs) (.Attribute t x p):=by
 intro A q env ρ w h s z he v y hv G res e Q B;refine ay (bg (m A q env ρ w h s z he _ res e _ λC h1 I u J f g hu D=>(ay (bG (ay (bg (eW (Fw k l f hu hx (hv.mono g.dX) d D λh2 E i hn j F=>(eW<|wpAny_release (B ρ C h2 E i (hn▸(he.ext g).ext j) (hn▸(g.trans j).weaken λa h=>h.elim) F))))))))))
theorem Fx {items} (hl:s.heap.IsList l items) (c:vA k=H) (a:wQ k items.size=O j) (p:j<items.size)
 (m:Q () {s with heap:=s.heap.update l (eS (·.setIfInBounds j v))}):wpAny (model X.prog X.w) A (setItem (.ref l) (.int k t) v) Q E s:=by
 refine Rf (id hl) λo u e x f=> ?_;have d:=o6 p;unfold setItem
 try with_reducible refine bP ?_
 refine bq (Aw hl.typeIs rfl) ?_;refine au (dW (name:=bX "__setitem__") hl.typeIs slot_list_setitem
  (bH slot_list_setitem hl.typeIs entry_list_setitem ?_ (args_list_setitem _ _ _)))
 refine(?_:wpAny _ _ (Builtin.List.listSubscript? (.int k t)>>=_) _ _ s);refine bq (wpAny_listSubscript_int c) ?_
 induction k using Int.casesOn with
 |ofNat i=>
  have g:i=j:=by
   rcases Bb a with⟨_,_,q⟩|⟨q,_,_⟩
   .exact q.symm
   .exact absurd q (kI.mpr (cj i))
  subst g;refine au (au (wpAny_seqItemAt e f (av (U d ((?_:wpAny _ _ (setSeqItemAt l i v>>=_) _ _ s))))));exact bq (wpAny_setSeqItemAt e f) (au (av (av ⟨.none,rfl,av m⟩)))
 |negSucc i=>
  refine au (au ((?_:wpAny _ _ (sC (.ref l)>>=_) _ _ s)));refine au (dz e f (av (av (U a ?_))));simp only [Option.bind_some,d,Option.map_some];exact bq (wpAny_setSeqItemAt e f) (au (av (av ⟨.none,rfl,av m⟩)))
theorem ru (e:oLe (d7 d c)=H):d.length<=1000000:=len_eq d▸(i0 (f7 (aB e)):len d<=1000000)
theorem K6 (t:bu X) (p:St X w h s) (F:A.units+200<=9900) (hv:VR X s.heap w h.n v y) (hi:VR X s.heap w h.n i j) (hu:VR X s.heap w h.n u z) (e:Ro v i u h k=O res)
 (x:∀h' s',St X w h' s'->h'.n=h.n->Ext X cT w h.n s w h.n s'->k dc h'=O res->Q () s'):wpAny (model X.prog X.w) A (setItem y j z) Q (λB B=>False) s:=by
 refine dF (dg e) λo e G q=>U ((hv.eB G).1) ?_;have f:=(p.rep _ o q).2;refine sI e (λh1 e=> ?_) λB e=> ?_
 .refine aK (bB e) λl e m=>aC (dH e) λe hz=>jM (f.l6 (aH h1)) λitems ep C D hn g=> ?_;rw [len_eq,g.length,aN] at m;obtain⟨tk,I,J,R,S,L,M⟩:=DL hi hn m;rw [HP] at e;refine U I (Fx (gf _ C rfl _ rfl) J L M ?_);have E:=p.turn t q (eS (·.setIfInBounds l z)) s.toks (o':=bK (o.xs.set l u)) (λP D=> .list _ (items.setIfInBounds l z) _ D (bD _ C rfl) (by simpa using hn) (by simpa using (g.set l hu).mono P)) (t8 (aH h1) rfl);exact x _ _ E.1 rfl E.2 e
 .exact aC (dH e) λe h2=>aK (bB e) λd e m=>aC (dH e) λe hz=>Fq t p ((f.eqs.2 (aH h2))▸q) hi hu m (ru hz) (cl F rfl) λs' a c=>x _ s' a rfl c e
theorem rq.sub (q:bu X) p (x:cN X r n b ns o t) (hi:cN X r n b ns i j):rq X r n b ns (aSub o i) (.Subscript t j p):=by
 intro A f env ρ w h s B he v y hv P res e Q C;exact ay (bg (x A f env ρ w h s B he _ res e _ λD h1 E u R g c hu F=>(ay (bg (hi A f env ρ D h1 E g (he.ext c) _ res F _ λG h2 S z V k d hz I=>(ay (bG (ay (bg (eW (K6 q k (f.u rfl) (hu.mono d.dX) hz ((hv.mono c.dX).mono d.dX) I λJ L l hn m M=>(eW<|wpAny_release (C ρ G J L l (hn▸((he.ext c).ext d).ext m) (hn▸((c.trans d).trans m).weaken λa h=>h.elim) M)))))))))))))
end
end
section
theorem wm {M} (h:Runs M Γ p t fs s e s'):s.heap.objs.size<=s'.heap.objs.size:=by
 induction h<;>(try simp only [Shared.setGen,bI,jF] at*)<;>lia
theorem Cj {M} (h:Returns M Γ p s r s'):s.heap.objs.size<=s'.heap.objs.size:=wm h
theorem Fy {M} (h:Wakes M Γ p g r s res s'):s.heap.objs.size<=s'.heap.objs.size:=by
 unfold Wakes at h;split at h
 .exact h.elim
 .split at h
  .refine ux h λe₁ s₁ oG=> ?_;subst oG;intro hr _ _;exact(wm hr:(s.setGen g .running).heap.objs.size<=s₁.heap.objs.size)
  .refine U h.2 ?_;exact br _
  .refine U h.2 ?_;exact br _
 .refine ux h λe₁ s₁ oG=> ?_;subst oG;intro hr _ _;exact(wm hr:(s.setGen g .running).heap.objs.size<=s₁.heap.objs.size)
 .refine U h.2 ?_;exact br _
 .refine U h.2 ?_;exact br _
theorem Ow M Γ n t:∀(Q:α->Pos->Shared->Prop) E p s,n<=s.heap.objs.size->Sem.wp M Γ t Q E p s->
 Sem.wp M Γ t (λa d s'=>n<=s'.heap.objs.size/\Q a d s') (λe d s'=>n<=s'.heap.objs.size/\E e d s') p s:=by
 induction t with
 |pure a=>intro Q E p s hn h;exact⟨hn,h⟩
 |raise e=>intro Q E p s hn h;exact⟨hn,h⟩
 |unsupported _=>intro Q E p s _ h;exact h
 |finish _=>intro Q E p s _ h;exact h
 |rule _ k b=>intro Q E p s hn h;exact b () Q E p s hn h
 |«at» d k b=>intro Q E p s hn h;exact b () Q E d s hn h
 |load a _ k b=>intro Q E p s hn h;refine dN h λo l h=> ?_;exact bV o l (b o Q E p s hn h)
 |update a _ f k b=>intro Q E p s hn h;exact⟨h.1,b () Q E p _ (U (jF ..) hn) h.2⟩
 |loadIfAlive a k b=>intro Q E p s hn h;exact b _ Q E p s hn h
 |point _ k b=>intro Q E p s hn h;exact b () Q E p s hn h
 |register _ _=>intro Q E p s _ h;exact h
 |alloc o k b=>intro Q E p s hn h;exact b _ Q E p _ (U (bI ..) (xE hn)) h
 |fresh k b=>intro Q E p s hn h;exact b _ Q E p _ hn h
 |ask k b=>intro Q E p s hn h;exact b _ Q E p s hn h
 |choose u m k b=>intro Q E p s hn h;exact⟨h.1,b _ Q E p _ hn h.2⟩
 |os q _ k b=>intro Q E p s hn h;exact b _ Q E p _ hn h
 |call c x _ _ k b=>intro Q E p s hn h;refine nK h λr s' h i=> ?_;exact m7 r s' i (b r Q E p s' (aI hn (Cj i)) h)
 |handled own k b=>intro Q E p s hn h;exact b _ Q E p s hn h
 |genState g k b=>intro Q E p s hn h;refine dN h λv w h=> ?_;exact bV v w (b _ Q E p s hn h)
 |newGen c k b=>intro Q E p s hn h;exact b _ Q E p _ hn h
 |resume g r _ k b=>intro Q E p s hn h;refine nK h λres s' h j=> ?_;exact m7 res s' j (b res Q E p s' (aI hn (Fy j)) h)
 |yield _ _ _ _=>intro Q E p s _ h;exact h
 |stack k b=>intro Q E p s hn h;exact b _ Q E p s hn h
 |fork _ _=>intro Q E p s _ h;exact h
 |thread k b=>intro Q E p s hn h;exact b _ Q E p s hn h
 |await _ _ _ _ _=>intro Q E p s _ h;exact h
section
variable {α:Type} {M:Model} {A:Around} {s:Shared}
theorem bW {t:Sem α} {Q:α->Shared->Prop} {E:Value->Shared->Prop} (h:wpAny M A t (λa s'=>s.heap.objs.size<=s'.heap.objs.size->Q a s') E s):wpAny M A t Q E s:=
 λc p d=>pX M c t (λb b b x=>x.2 x.1) (λb b b x=>x.2) p s (Ow M c _ t _ _ p s (br _) (h c p d))
end
end
section
open PyProof.Rows PySem.Calls PySem.SeqAt PySem.W
section
variable {X:dw} {K:Frag} {r:Ap} {n b:Nat} {ns:List (Str×aM)} {w:Wd} {h:aev} {s:Shared} {env:dj} {ρ:Env}
theorem St.i9 (f:bu X) (g:St X w h s) (c:s.heap.objs.size<=h'.objs.size) (old:∀a o,s.heap.get? a=O o->h'.get? a=O o):
 St X w h {s with heap:=h',toks:=tk}/\Ext X cT w h.n s w h.n {s with heap:=h',toks:=tk}:=
 g.grow f (F:=cT) c (λd d h=>h.elim) (λd h=>h.elim) (λa o d e=>old a o e) rfl rfl
theorem xe (q:bu X) (g:St X w h s) (u:A.handled=aq) (hv:VR X s.heap w h.n v y) (e:Dm v h k=O res):
 ∃vs,k vs h=O res/\∀{Q} {E},(∀ys s',St X w h s'->Ext X cT w h.n s w h.n s'->eg X s'.heap w h.n vs ys->Q ys s')->wpAny (model X.prog X.w) A (unpackItems y vs.length aq) Q E s:=by
 have e:(af (gS v h k) (k v.xs h) (ak v.t 5):Option Res)=O res:=e
 induction i:ak v.t 5 using zB with
 |true=>
  rw [i] at e
  induction hv using Mine.VR.casesOn with
  |tup xs a items ep B hm j hn c=>
   refine bV xs e (λ{Q E} l=> ?_);have hl:xs.length=items.size:=by refine U c.length ?_;simp
   exact U hl (bW (wpAny_unpackItems_tuple u (gf _ j rfl _ rfl) λh' he d=>(aC (g.i9 q (tk:=s.toks) d λa o e=>he a o (cg (bh e)) e) λf m=>l _ _ m f (c.mono f.dX))))
  |_=>exact nn (aH i) rfl
 |false=>
  rw [i] at e;obtain⟨x,o,z,h1,e⟩:=fS e;refine gc (hv.eB x) λp=> ?_;subst p;intro _;refine sV (g.listAt z h1) λitems ep j hn c C=>bV o.xs e (λ{Q E} l=> ?_);have hl:o.xs.length=items.size:=by refine U c.length ?_;simp
  exact U hl (bW (kun_itemsOf u (gf _ j rfl _ rfl) λh' he d=>(aC (g.i9 q (tk:=s.toks) d λa o e=>he a o (cg (bh e)) e) λf m=>l _ _ m f (c.mono f.dX))))
theorem nc (h:tgtName ns e=O x):∃y p,e= .Name y p/\aY y=H/\x=nm y/\(aZ (nm y) ns=O .local\/aZ (nm y) ns=O .cell):=by
 unfold tgtName at h;refine nK (RB h) λy p h he=> ?_
 induction hy:aY y using zB with
 |false=>rw [hy] at h;exact fn h
 |true=>
  rw [hy] at h
  induction hk:aZ (nm y) ns using zO with
  |none=>rw [hk] at h;exact fn h
  |some k=>
   rw [hk] at h
   induction k using dm with
   |«local»=>exact lJ y p he hy ((aF h).symm) (.inl hk)
   |cell=>exact lJ y p he hy ((aF h).symm) (.inr hk)
   |_=>exact fn h
theorem l7 (e:storeAll (x::l) vs ρ=O ρ'):∃v us,vs=v::us/\storeAll l us (gg ρ x v)=O ρ':=by
 induction vs using zL with
 |nil=>exact fn e
 |cons v us=>exact m7 v us rfl e
theorem pg (h:fY ns (e::es)=O l):∃x l',tgtName ns e=O x/\fY ns es=O l'/\l=x::l':=by
 unfold fY at h
 induction hx:tgtName ns e using zO with
 |none=>rw [hx] at h;exact fn h
 |some x=>
  induction hl:fY ns es using zO with
  |none=>rw [hx,hl] at h;exact fn h
  |some l'=>rw [hx,hl] at h;exact j0 x l' rfl rfl ((aF h).symm)
theorem mQ (e:storeAll l vs ρ=O ρ'):l.length=vs.length:=by
 induction l generalizing vs ρ with
 |nil=>
  induction vs using zL with
  |nil=>rfl
  |cons v us=>exact fn e
 |cons x l c=>
  refine HG (l7 e) λv us a=> ?_;subst a;intro e;simp [c e]
theorem AJ:∀{f} {l},fY ns f=O l->(assignEach f env).length=l.length/\(assignEach f env).findIdx? (·.1)=none:=by
 intro f
 induction f with
 |nil=>
  intro l h;injection h with hq;subst hq;exact⟨rfl,rfl⟩
 |cons e f i=>
  intro l h;refine kK (pg h) λx j d=> ?_;subst d;intro hx hl;refine yF (nc hx) λy p d g=> ?_;subst d;subst g;intro hy hk;refine aC (i hl) λc a=>⟨by exact(λ{a b}=>Iff.mpr Nat.succ_inj) a,(U (List.findIdx?_cons) ?_)⟩;simp [c]
theorem DM (u:bu X):∀{i} {l} {vs} {ys} {ρ g} {s} {Q},fY ns i=O l->eg X s.heap w h.n vs ys->St X w h s->eZ X env ns ρ w h.n s->storeAll l vs ρ=O g->
 (∀s',St X w h s'->eZ X env ns g w h.n s'->Ext X (AI env ns) w h.n s w h.n s'->Q () s')->wpAny (model X.prog X.w) A (assignInOrder ((assignEach i env).map (·.2)) ys) Q (λB B=>False) s:=by
 intro i
 induction i with
 |nil=>
  intro l vs ys ρ g s Q ht hv j he e k;injection ht with hq;subst hq
  cases hv with
  |nil=>injection e with hq;subst hq;exact av (k s j he .refl)
  |cons=>exact fn e
 |cons t i C=>
  intro l vs ys ρ g s Q ht hv j he e k;refine kK (pg ht) λx F f=> ?_;subst f;intro hx hl;refine yF (nc hx) λy p f m=> ?_;subst f;subst m;intro hy hk;refine HG (l7 e) λv us f=> ?_;subst f;intro e;cases hv with
  |cons _ z _ G hv o=>
   exact au (bP (au (xQ (wpAny_bindName (zd u j he hy hk hv λs' a c d=>(C hl (o.mono (d.keep (AI.fixed he))) a c e λq D c' E=>k q D c' (d.trans E)))))))
theorem rq.tup (i:bu X) (ht:fY ns es=O l) z p:rq X r n b ns (B5 l) (.Tuple es z p):=by
 intro A m env ρ w h s o he v y hv E res e Q t;refine aK (xe i o m.handled hv e) λvs hu e=>dN (bB e) λu j x=>aC (AJ (env:=env) ht) λc a=>(?_:cC _ _ (standAt p>>=λB=>unpack y (assignEach es env)) _ _ s);refine eW (bq xQ ?_);unfold unpack;exact U a (U c (U (mQ j) (au (bP (hu λys s' d k f=>(DM i ht f d (he.ext k) j λg C c' D=>t _ w h g C c' ((k.weaken λB q=>q.elim).trans D) x))))))
end
abbrev ry (M:Model) (fv:Value) (g:Heap):Prop:=∃k,(k=Keeper.frame\/k=Keeper.machine\/k=Keeper.boundFrame)/\Looks M g (keeperOf fv) k
def RV (Q:Value->Shared->Prop):Result->Shared->Prop:=λr s=>match r with| .ok (.ret v)=>Q v s|_=>False
structure Ck (X:dw) (r:Ap) (n:Nat):Prop where
 call:∀A,fQ n 0 A->∀w h s,St X w h s->∀f fv,VR X s.heap w h.n f fv->∀vs ys,eg X s.heap w h.n vs ys->∀k res,r f vs h k=O res->∀Q:Value->Shared->Prop,
  Goes (PV X) X w h.n s k res Q->cC (model X.prog X.w) A (call fv ys) Q (λu_ u_=>False) s
 kept:∀w h s,St X w h s->∀f fv,VR X s.heap w h.n f fv->∀vs k res,r f vs h k=O res->ry (model X.prog X.w) fv s.heap
 fn:∀A,fQ n 0 A->∀w h s,St X w h s->∀a vs ys,eg X s.heap w h.n vs ys->∀k res,r (bL a) vs h k=O res->∀Q:Value->Shared->Prop,
  Goes (PV X) X w h.n s k res Q->codeN (model X.prog X.w) A (.call (.ref a) ⟨ys,[]⟩) (RV Q) s
section
variable {X:dw} {K:Frag} {r:Ap} {n b:Nat} {ns:List (Str×aM)} {w:Wd} {h:aev} {s:Shared} {env:dj} {ρ:Env}
theorem lO:∀{xs},xs.any bk=aj->(backTo pos (starEach xs env)).any (·.1)=false:=by
 intro xs
 induction xs with
 |nil=>
  intro _;exact rfl
 |cons a d e=>
  intro h;rw [gj,iy] at h;have c:starEach (a::d) env=(aj,eval a env)::starEach d env:=by
   rcases a<;>first|rfl|exact ft (h.1)
  refine U c ((?_:(aj||(backTo pos (starEach d env)).any (·.1))=aj));refine U (e h.2) ?_;rfl
theorem mj {M} (hp:args.any (·.1)=aj) (h:cC M A (spliced args) (λvs s'=>Q ⟨vs,[]⟩ s') E s):cC M A (evalArgs f H args []) Q E s:=by
 induction args using zL with
 |nil=>
  refine ay (aV h (λvs s' h'=> ?_) λc c x=>x);exact NK (bg (ay (aO (ay (aO (aO h'))))))
 |cons a l=>
  obtain⟨e,t⟩:=a;have d:e=false:=by
   rw [gj,iy] at hp;exact hp.1
  subst d;refine ay (aV h (λvs s' h'=> ?_) λc c x=>x);exact bg (ay (aO (ay (aO (aO h')))))
theorem K7 {M} {A} {E} {s} {vs} {m} {Q:α->Shared->Prop} (h:cC M A m Q E s):cC M A (m.keep vs) Q E s:=λc p a d=>U (Sem.wp_keep ..) (h c p a d)
theorem pQ {M} (hp:args.any (·.1)=aj)
 (h:cC M A (evalArgs f H args []) (λa s₁=>ry M f s₁.heap/\cC M A (call f (first++a.pos) a.kw) Q E s₁) E s):cC M A (callWith pos f first args []) Q E s:=by
 refine ay (bg (aV h (λa s₁ e=>ay (bG ?_)) λg g x=>x));obtain⟨⟨k,hk,L⟩,h2⟩:=e;refine U (show(args.any (·.1)||([]:List (Option Str×Sem Value)).any (·.1.isNone))=aj from by rw [hp];rfl) ?_;have c:∀{t},cC M A t Q E s₁->cC M A (t>>=λr=>holding [r] point>>=λg=>pure r) Q E s₁:=
  λht=>ay (aV ht (λr i j=>ay (bg (eW (vI (aO j))))) λg g x=>x)
 have d (l:Value):cC M A (callMarked l f (first++a.pos) a.kw) Q E s₁:=by unfold callMarked;exact K7 h2
 refine NJ (L.here) ?_;rcases hk with rfl|rfl|rfl<;>dsimp only<;>first|exact c h2|(split<;>first|exact c h2|exact c (d _))
theorem DN (hl:AH X r n b ns l args) (a:args.any bk=aj) (d:fQ n b A) (g:St X w h s) (he:eZ X env ns ρ w h.n s) pos
 (e:l.f r ρ h k=O res) (i:KJ X w h.n s k res (λys s'=>ry (model X.prog X.w) fv s'.heap/\cC (model X.prog X.w) A (call fv (first++ys)) Q (λc c=>False) s')):
 cC (model X.prog X.w) A (callWith pos fv first (backTo pos (starEach args env)) []) Q (λc c=>False) s:=by
 have hp:=lO (env:=env) (pos:=pos) a;exact pQ hp (mj hp (hl A d env ρ w h s g he k res e pos _ i))
theorem cN.call (v:Ck X r n) pos (d:∀o m p,fe≠.Attribute o m p) (i:args.any bk=aj) (E:cN X r n b ns f fe) (hl:AH X r n b ns l args):cN X r n b ns (kP f l) (.Call fe args [] pos):=by
 intro A j env ρ w h s F he k res e Q G;have q:eval (.Call fe args [] pos) env=(do callWith pos (<-eval fe env) [] (backTo pos (starEach args env)) []):=by
  rcases fe<;>first|rfl|exact absurd rfl (d _ _ _)
 refine U q (ay (E A j env ρ w h s F he _ res e _ λL h1 M g x t y I J=>(DN hl i j t (he.ext y) pos J λz h2 B vs ys a C u D=> ?_)));have c:=I.mono C.dX;exact⟨v.kept z h2 B a g x c vs k res D,v.call A (j.less (iB _)) z h2 B a g x c vs ys u k res D Q (G.ext (y.trans C))⟩
noncomputable def GN (K:Frag) (c:Addr) (x:Str) (g:Addr):Bool:=findIn K (.ref c) x==O (O (.ref g))&&typeIn K (.ref g)==O (.type "function")&&
 findIn K (.ref c) "__getattribute__"==O (O (.builtin "object.__getattribute__"))&&findIn K (.ref c) "__getattr__"==O aq
structure Cm (X:dw) (K:Frag) (ms:List (Nat×Nat)) (x:Str):Prop where
 cls:∀c g,find c ms=O g->∃F,Ft X F/\GN F c x g=H
theorem Ox (d:Ft X K) (e:St X w h s) (I:InstAt s.heap a ox C od) (hm:GN K C x g=H) (c:shadowIn od x=O aj) (q:Q (.ref g,[.ref a]) s):
 wpAny (model X.prog X.w) A (getMethod (.ref a) x pl) Q E s:=by
 unfold GN at hm;simp only [aP,beq_iff_eq] at hm;exact method_fn (d.In e) I hm.1.2 hm.2 hm.1.1.1 hm.1.1.2 c q
structure RH (X:dw) (b:Nat) (x:Str) (T id:String):Prop where
 pa:PlainAttrs T
 slot:Slot T x id
 ty:typeOf (.builtin id)=pure (.type "method_descriptor")
noncomputable def RI (t:Nat):String:=match t with|1=>"list"|2=>"dict"|3=>"bytearray"|_=>""
noncomputable def RJ (t:Nat):String:=match t with|3=>"str"|4=>"bytes"|5=>"tuple"|_=>""
def qx (X:dw) (b:Nat) (x:Str) (fo:OF):Prop:=∀t,fo.ok t=H->(t=1\/t=2\/t=3)/\∃id,RH X b x (RI t) id/\
 ∀A n,fQ n b A->∀w h s,St X w h s->∀ov y,VR X s.heap w h.n ov y->ov.t=6->∀o,h.l.get ov.n=O o->o.t=t->∀vs ys,eg X s.heap w h.n vs ys->∀k res,fo.f ov o vs h k=O res->∀Q:Value->Shared->Prop,
  Goes (PV X) X w h.n s k res Q->cC (model X.prog X.w) A (call (.builtin id) (y::ys)) Q (λu_ u_=>False) s
def xg (X:dw) (b:Nat) (x:Str) (fv:VF):Prop:=∀t,fv.ok t=H->(t=3\/t=4\/t=5)/\∃id,RH X b x (RJ t) id/\
 ∀A n,fQ n b A->∀w h s,St X w h s->∀ov y,VR X s.heap w h.n ov y->ov.t=t->∀vs ys,eg X s.heap w h.n vs ys->∀k res,fv.f ov vs h k=O res->∀Q:Value->Shared->Prop,
  Goes (PV X) X w h.n s k res Q->wpAny (model X.prog X.w) A (call (.builtin id) (y::ys)) Q (λu_ u_=>False) s
theorem qf M id g:ry M (.builtin id) g:=bV .machine (.inr (.inl rfl)) Looks.now
theorem sY {M} (hp:trees.any (·.1)=aj) (hm:m<30) (c:ak ap.endLine pos.line=H)
 (h:cC M A (getMethod ov x (do return(<-importBound o env).getD H)) (λp s'=>cC M A (callWith pos p.1 p.2 trees []) Q E s') E s):cC M A (methodCall o x ap pos env ov m trees []) Q E s:=by
 have d:methodCallForm m trees []=true:=by
  unfold methodCallForm;have:trees.all (λx=> !x.1)=true:=by
   rw [aL];intro y hy;rw [List.any_eq_false] at hp;exact(λ{a}=>Iff.mpr bi_not) (hp y hy)
  refine U this ?_;simp [hm]
 have e:methodCallPos H o env ap pos=pure pos:=by
  have:(ap.endLine==pos.line)=true:=by rw [beq_iff_eq];exact aH c
  exact if_pos this
 unfold methodCall;refine U d (U e (ay (bg (aV h (λp s' q=> ?_) λg g q=>q))));obtain⟨f,first⟩:=p;exact ay (aO q)
theorem VR.typeIs (h:VR X s.heap w n v y) (ht:v.t=3\/v.t=4\/v.t=5):s.TypeIs y (RJ v.t)/\∀a,y= .ref a->∃c,s.heap.get? a=O c/\c.dict=oW:=by
 induction h using Mine.VR.casesOn with
 |str f tk hn=>exact⟨typeIs_str _ _ _,λa e=>(by injection e)⟩
 |bytes f tk hn=>exact⟨kg _ _ _,λa e=>(by injection e)⟩
 |tup xs a items ep i hm d hn g=>exact⟨(bV _ d rfl),λj e=>by injection e with e;exact(bV _ (e▸d) rfl)⟩
 |_=>rcases ht with q|q|q<;>exact nn q rfl
theorem Rep.typeIs (h:Rep X s.heap w n i o) (ht:o.t=1\/o.t=2\/o.t=3):s.TypeIs (.ref (w.ρ i)) (RI o.t)/\∀a,gu (w.ρ i)= .ref a->∃d,s.heap.get? a=O d/\d.dict=oW:=by
 induction h using Mine.Rep.casesOn with
 |list _ _ _ _ c|dict _ _ _ _ c|E8 _ _ c=>exact⟨(bV _ c rfl),λf e=>by injection e with e;exact(bV _ (e▸c) rfl)⟩
 |_=>rcases ht with q|q|q<;>exact nn q rfl
theorem cN.HN (kx:JC X K) (rk:Ck X r n) (ap pos) (hx:aY x=H) (hn:lZ v=H) (E:ak ap.endLine pos.line=H) (S:args.length<30) (B:args.any bk=aj)
 (ho:cN X r n b ns o v) (hl:AH X r n b ns l args) (hm:Cm X K ms x) (hO:qx X b x fo) (hV:xg X b x fv):cN X r n b ns (Dk o (nm x) ms fo fv l) (.Call (.Attribute v x ap) args [] pos):=by
 intro A F env ρ w h s hs he k res e Q hQ;refine ay (K5 hn (ho A F env ρ w h s hs he _ res e _ λw1 h1 s1 d y i x1 m a=>(ay (bG (sY (lO (env:=env) (pos:=pos) B) S E ?_)))));have G:=he.ext x1;have fn:∀g,l.f r ρ h1 (λvs h=>r (bL g) (d::vs) h k)=O res->cC (model X.prog X.w) A (callWith pos (.ref g) [y] (backTo pos (starEach args env)) []) Q (λI I=>False) s1:=by
  intro g p;exact DN hl B F i G pos p λP h2 R vs ys j C u e3=>⟨rk.kept P h2 R j _ _ (.fn g) (d::vs) k res e3,rk.call A (F.less (iB _)) P h2 R j _ _ (.fn g) _ _ (.cons _ _ _ _ (m.mono C.dX) u) k res e3 Q (hQ.ext (x1.trans C))⟩
 have a:(af (af aq (l.f r ρ h1 λvs h=>fv.f d vs h k) (fv.ok d.t)) (look d h1 λo h=>af (af aq (l.f r ρ h λvs h=>look d h λo' h=>af aq (fo.f d o' vs h k) (ak o'.t o.t)) (fo.ok o.t))
  (aA (aA aq (λg=>l.f r ρ h λvs h=>r (bL g) (d::vs) h k) (find o.c ms)) (λI=>aq) (find (nm x) o.fs)) (ak o.t 0)) (ak d.t 6):Option Res)=O res:=a
 induction h6:ak d.t 6 using zB with
 |false=>
  have a:(af aq (l.f r ρ h1 λvs h=>fv.f d vs h k) (fv.ok d.t):Option Res)=O res:=by rw [h6] at a;exact a
  refine aC (dH a) λa J=>dF (hV _ J) λid hc ht L=> ?_;have V:=m.typeIs ht;exact eW (getMethod_builtin V.1 L.pa L.slot L.ty V.2 (DN hl B F i G pos a λP h2 R vs ys j C u p=>⟨qf _ _ _,(eW (hc A n F P h2 R j d y (m.mono C.dX) rfl vs ys u k res p Q (hQ.ext (x1.trans C))))⟩))
 |true=>
  rw [h6] at a;refine dF (dg a) λD a h6' hob=>gc (m.eB h6') λoG=> ?_;subst oG;intro hlt;have a:(af (af aq (l.f r ρ h1 λvs h=>look d h λo' h=>af aq (fo.f d o' vs h k) (ak o'.t D.t)) (fo.ok D.t))
   (aA (aA aq (λg=>l.f r ρ h1 λvs h=>r (bL g) (d::vs) h k) (find D.c ms)) (λI=>aq) (find (nm x) D.fs)) (ak D.t 0):Option Res)=O res:=a
  induction h0:ak D.t 0 using zB with
  |true=>
   rw [h0] at a;refine p9 (i.Fv hob (aH h0)) λdx es ep I hr hrd hne hg hgd hf I=> ?_
   induction M:find (nm x) D.fs using zO with
   |some z=>rw [M] at a;exact Mine.fn a
   |none=>
    rw [M] at a;refine aK (nT a) λg p hg'=>aK (hm.cls _ _ hg') λI hmm hF=>eW (Ox hF i (sd hg hgd) hmm ?_ (fn g p));refine(?_:(lookIn x (cH es ep)).map (·.isSome)=O aj);refine U ((GK (ep:=ep) hf hx).2 M) ?_;rfl
  |false=>
   rw [h0] at a;refine aC (dH a) λa J=>dF (hO _ J) λid hc ht L=> ?_;have V:=(i.rep _ D hob).2.typeIs ht;exact eW (getMethod_builtin V.1 L.pa L.slot L.ty V.2 (DN hl B F i G pos a λP h2 R vs ys j C u p=>⟨qf _ _ _,(dF (dg p) λo' p I ho'=>aC (dH p) λp q=>hc A n F P h2 R j d _ (m.mono C.dX) h6' o' ho' (aH q) vs ys u k res p Q (hQ.ext (x1.trans C)))⟩))
end
inductive pq (X:dw) (c:Int):List V->Int->Prop where
 |nil (x:Int):pq X c [] x
 |cons (v:V) (l:List V) (x:Int) (hv:∀g w n t,VR X g w n v (.int x t)) (hl:pq X c l (x+c)):pq X c (v::l) x
inductive SrcR (X:dw) (g:Heap) (w:Wd) (n:Nat) (it:Addr):Src->Prop where
 |tup (t:Addr) (items:Array Value) (ep i:Nat) (hr:w.role t=aq) (ht:t∉X.tabs) (hg:g.get? t=O (gi items ep)) (hit:g.IsTupleIter it t i) (xs:List V) (hs:eg X g w n xs (items.toList.drop i)):SrcR X g w n it (dR xs)
 |range (x c:Int) (xs:List V) (hv:pq X c xs x) (hit:vL g it x (xs.length:Int) c):SrcR X g w n it (dR xs)
 |Cn (x:Str) (t:Tok) (i:Nat) (hit:g.IsStrIter it "str_ascii_iterator" x t i):SrcR X g w n it (dR ((x.cps.toList.drop i).map λc=>vStr [c]))
 |Co (x:Str) (t:Tok) (i:Nat) (hit:g.IsStrIter it "str_iterator" x t i):SrcR X g w n it (dR ((x.cps.toList.drop i).map λc=>vStr [c]))
 |bytes (b:Array UInt8) (t:Tok) (i:Nat) (hit:KBw.IsBytesIter g it b t i):SrcR X g w n it (dR ((b.toList.drop i).map λc=>aW c.toNat))
 |list (j k:Nat) (hj:j<n) (hit:g.IsListIter it (w.ρ j) k):SrcR X g w n it (gp j k)
 |keys (j m k c:Nat) (hj:j<n) (hit:g.IsKeyIter it (w.ρ j) k m (w.uh j+c)):SrcR X g w n it (rY j m k c)
section
variable {X:dw} {g g':Heap} {w w':Wd} {n n':Nat} {it:Addr}
theorem SrcR.fixed (h:SrcR X g w n it a) (e:g.get? it=O o):ef o=false:=by
 have f:∀{o'} {vs},g.get? it=O o'->o'.data= .fields vs->strAt vs[1]? =aj->ef o=false:=λl p hv=>by
  injection e.symm.trans l with hq;subst hq
  unfold ef;refine U p ?_;exact hv
 induction h using Mine.SrcR.casesOn with
 |tup t items ep i u ht v d xs y=>refine cG d λo' p l q=> ?_;exact f l p rfl
 |range x c xs hv d=>exact f d rfl rfl
 |Cn x t i d=>refine cG d λo' p l q=> ?_;exact f l p rfl
 |Co x t i d=>refine cG d λo' p l q=> ?_;exact f l p rfl
 |bytes b t i d=>refine cG d λo' p l q=> ?_;exact f l p rfl
 |list j k r d=>refine cG d λo' p l q=> ?_;exact f l p rfl
 |keys j m k c r d=>refine cG d λo' p l q=> ?_;exact f l p rfl
theorem SrcR.keep (h:SrcR X g w n it a) (k:o9 X g w n g' w' n') (ki:∀o,g.get? it=O o->g'.get? it=O o):SrcR X g' w' n' it a:=by
 induction h using Mine.SrcR.casesOn with
 |tup t items ep i l ht u d xs v=>
  exact aC (k.fix t _ l ht rfl u) λq p=>aK d λo' r e=> .tup t items ep i p ht q (bV o' (ki _ e) r) xs (v.mono k)
 |range x c xs hv d=>exact .range x c xs hv (ki _ d)
 |Cn x t i d=>refine aK d λo' r e=> ?_;exact .Cn x t i (bV o' (ki _ e) r)
 |Co x t i d=>refine aK d λo' r e=> ?_;exact .Co x t i (bV o' (ki _ e) r)
 |bytes b t i d=>refine aK d λo' r e=> ?_;exact .bytes b t i (bV o' (ki _ e) r)
 |list j m f d=>refine aK d λo' r e=> ?_;exact .list j m (aR f k.oE) (bV o' (ki _ e) (U (k.ρ j f) r))
 |keys j m i c f d=>refine aK d λo' r e=> ?_;exact .keys j m i c (aR f k.oE) (bV o' (ki _ e) (U (k.ρ j f) (U (k.uh j f) r)))
end
section
variable {prog:Program} {w:World} {A:Around} {E:Value->Shared->Prop} {s:Shared}
theorem wo {it d:Addr} {i ep m:Nat} {j:Array bf} {Q:Option Value->Shared->Prop} (z:A.handled=aq) (l:s.heap.IsKeyIter it d i m ep) (p:s.heap.get? d=O (cH j ep)) (x:j.size=m)
 (B:∀q,j[i]? =O q->∀h',h'.IsKeyIter it d (i+1) m ep->gk it s.heap h'->Q (O q.key) {s with heap:=h'})
 (hn:j[i]? =aq->∀h',mU it s.heap h'->Q aq {s with heap:=h'}):wpAny (model prog w) A (pyNext (.ref it)) Q E s:=by
 refine cG (id l) λo r u C=> ?_;have v:=l.typeIs;have t:(cH j ep).data= .dict j ep:=rfl;have c:∀{D} {f} {y:D->Shared->Prop} {E'},wpAny (model prog w) A.in1 (f "dict_keyiterator") y E' s->wpAny (model prog w) A.in1 (typeNameOfWhole (.ref it)>>=f) y E' s:=λk=>au (wpAny_typeNameOfWhole_keyiter v k);refine au (qJ (dW (name:=bX "__next__") v ow (bH ow v F.entry_dict_keyiterator_next ?_ (F.args_dict_keyiterator_next_1 _))));refine bp (au (au (c (av (bq (wpAny_fieldsOf u r) ((?_:wpAny _ _ (if(gu d==dY)=H then _ else _) _ _ s)))))));refine au (av (bq (gM p t) ?_));rw [if_neg (by refine U x ?_;simp)];refine au (av (bq (uf p t) (NQ (by simp) (av ?_))));simp only [show ¬((i:Int)<0) from by exact lF i,if_false,lG]
 induction hx:j[i]? using zO with
 |some q=>
  have e:(s.heap.update it (Obj.mapFields (·.setIfInBounds 1 (rawInt ((i:Int)+1))))).IsKeyIter it d (i+1) m ep:=
   (f9 _ (bD _ u (sD (i7 r _))) ((xF ..).trans C) (U (i7 r ..) rfl))
  refine au (c (av (bq (wpAny_isOneOf_keyiter v) ((?_:wpAny _ _ (setField (.ref it) 1 (rawInt ((i:Int)+1))>>=_) _ _ s)))));refine au (mH u r (fG (fW [gO (↑m) 0,gO (↑ep) 0])) (au (bP (au (wpAny_isOneOf_keyiter (s:={s with heap:=s.heap.update it (Obj.mapFields (·.setIfInBounds 1 (rawInt ((i:Int)+1))))}) e.typeIs ((?_:wpAny _ _ (pure q.key) _ _ _)))))));exact av (av (bV _ rfl (av (B q hx _ e (gm ..)))))
 |none=>
  refine au (c (av ((?_:wpAny _ _ (setField (.ref it) 0 .none>>=_) _ _ s))));refine bq (mH u r (gn rfl)) ((?_:wpAny _ _ (newExc (.type "StopIteration") []>>=_) _ _ _));refine au (au (dZ (au (m:=firstArgMember _ _) (gb (a:=dY) (by first|rfl|(simp only [firstArgMember];rfl)) (dZ ?_ (by size_fits)))) (by size_fits)));refine bq wpAny_handled (U z (bp (wpAny_throw (au (fL (T:="StopIteration") (b:=H) (bV _ (aJ _ rfl) rfl) isSubtype_stop ?_)))));exact av (hn hx _ (((gm ..).extBut.push _).push _))
end
section
variable {X:dw} {w:Wd} {h:aev} {s:Shared} {it:Addr}
theorem St.iter (i:bu X) (j:St X w h s) (k:w.role it=aq) (hb:X.h₀.objs.size<=it) (f:∀o,s.heap.get? it=O o->ef o=aj) (d:s.heap.objs.size<=h'.objs.size) (old:mU it s.heap h'):
 St X w h {s with heap:=h',toks:=tk}/\Ext X (λa=>a=it) w h.n s w h.n {s with heap:=h',toks:=tk}/\o9 X s.heap w h.n h' w h.n:=aC (j.grow i (F:=λa=>a=it) (s':={s with heap:=h',toks:=tk}) d (λa o b e=>f o (b▸e)) (λa b=>by subst b;exact⟨k,hb⟩) (λa o b e=>old a o b e) rfl rfl) λc a=>iW a c (c.keep λa o b e=>f o (b▸e))
theorem Wj {xs} (e:m8 (dR xs) h ke ki=O res):(xs=[]/\ke=O res)\/∃v l,xs=v::l/\ki v (dR l)=O res:=by
 induction xs using zL with
 |nil=>exact .inl ⟨rfl,e⟩
 |cons v l=>exact .inr (m7 v l rfl e)
theorem S5 {a:Type} {f} {l:Array a} (e:m8 (dR ((l.toList.drop i).map f)) h ke ki=O res):(l[i]? =aq/\ke=O res)\/∃c,l[i]? =O c/\ki (f c) (dR ((l.toList.drop (i+1)).map f))=O res:=by
 refine cL bx ?_
 induction q:l.toList[i]? using zO with
 |none=>
  rw [sS.mpr (jK.mp q)] at e;exact .inl ⟨rfl,e⟩
 |some c=>
  obtain⟨hi,b⟩:=bZ.mp q;rw [iu hi,b] at e;exact .inr (bV c rfl e)
theorem Zo {l:Array Value} (hv:eg X g w n xs (l.toList.drop i)) (e:m8 (dR xs) h ke ki=O res):
 (l[i]? =aq/\ke=O res)\/∃y v r,l[i]? =O y/\VR X g w n v y/\eg X g w n r (l.toList.drop (i+1))/\ki v (dR r)=O res:=by
 refine cL bx ?_;rcases Wj e with⟨q,a⟩|⟨v,r,q,a⟩
 .rw [q] at hv;exact .inl ⟨jK.mpr (sS.mp hv.nil_of),a⟩
 .rw [q] at hv;refine vQ hv.cons_of λy c b h1 h2=> ?_;have hx:l.toList[i]? =O y:=by refine cL (List.head?_drop) (U b ?_);rfl
  exact .inr (uu y v r hx h1 (cL List.tail_drop (U b h2)) a)
theorem ze (F:bu X) (P:10<=X.h₀.objs.size) (C:St X w h s) (J:A.handled=aq) (G:w.role it=aq) (hb:X.h₀.objs.size<=it) (ha:SrcR X s.heap w h.n it a) (e:m8 a h ke ki=O res)
 (hn:∀s',St X w h s'->Ext X (λa=>a=it) w h.n s w h.n s'->ke=O res->Q aq s')
 (hi:∀s' y v c,St X w h s'->Ext X (λa=>a=it) w h.n s w h.n s'->VR X s'.heap w h.n v y->SrcR X s'.heap w h.n it c->ki v c=O res->Q (O y) s'):wpAny (model X.prog X.w) A (pyNext (.ref it)) Q E s:=by
 have I:∀o,s.heap.get? it=O o->ef o=false:=λo e=>ha.fixed e;have z:∀{h'},s.heap.objs.size<=h'.objs.size->mU it s.heap h'->ke=O res->Q aq {s with heap:=h'}:=λb old u=>by
  exact fh (C.iter F G hb I (tk:=s.toks) b old) λq p u_=>hn _ p q u
 induction ha using Mine.SrcR.casesOn with
 |tup t items ep i R ht K f xs D=>
  have S:t≠it:=λq=>by
   refine cG f λo e3 M V=> ?_;subst q;injection K.symm.trans M with hq;subst hq
   injection e3
  have hT:s.heap.IsTuple t items:=gf _ K rfl _ rfl;rcases Zo D e with⟨hx,u⟩|⟨y,v,l,hx,hv,hl,u⟩
  .exact bW (wpAny_pyNext_tuple_end J f hT hx λh' he b=>z b he u)
  .exact wpAny_pyNext_tuple_item f hT hx λh' d r=>fh (C.iter F G hb I (tk:=s.toks) (cV r.1.symm) r.extBut) λq p k=>hi _ y v _ p q (hv.mono k) (.tup t items ep (i+1) R ht (r.extBut _ _ S K) d l (hl.mono k)) u
 |range x c xs hv f=>
  rcases Wj e with⟨rfl,u⟩|⟨v,l,rfl,u⟩
  .exact bW (wpAny_pyNext_range_end J f (Int.le_refl _) λh' he b=>z b he u)
  .cases hv with
   |cons _ _ _ hv hl=>
    refine wpAny_pyNext_range_item f (by simp only [iJ];exact Int.ofNat_succ_pos (fW l)) λh' d r=>fh (C.iter F G hb I (tk:=s.toks+1) (cV r.1.symm) r.extBut) λq p k=>hi _ _ v _ p q (hv _ _ _ _) (.range (x+c) c l hl ?_) u;have:(((v::l).length:Int)-1)=(l.length:Int):=by simp only [iJ];lia
    rw [this] at d;exact d
 |Cn x t i f=>
  rcases S5 e with⟨hx,u⟩|⟨c,hx,u⟩
  .exact bW (wpAny_pyNext_ascii_end J f hx λh' he b=>z b he u)
  .exact wpAny_pyNext_ascii_item f hx λh' d r=>fh (C.iter F G hb I (tk:=s.toks+1) (cV r.1.symm) r.extBut) λq p k=>hi _ _ _ _ p q (.str [c] _ (by simp)) (SrcR.Cn (X:=X) (w:=w) (n:=h.n) x t (i+1) d) u
 |Co x t i f=>
  rcases S5 e with⟨hx,u⟩|⟨c,hx,u⟩
  .exact bW (wpAny_pyNext_wide_end J f hx λh' he b=>z b he u)
  .exact wpAny_pyNext_wide_item f hx λh' d r=>fh (C.iter F G hb I (tk:=s.toks+1) (cV r.1.symm) r.extBut) λq p k=>hi _ _ _ _ p q (.str [c] _ (by simp)) (SrcR.Co (X:=X) (w:=w) (n:=h.n) x t (i+1) d) u
 |bytes bs t i f=>
  rcases S5 e with⟨hx,u⟩|⟨c,hx,u⟩
  .exact bW (KBw.next_end J f hx λh' he b=>z b he u)
  .exact KBw.next_item f hx λh' d r=>fh (C.iter F G hb I (tk:=s.toks+1) (cV r.1.symm) r.extBut) λq p k=>hi _ _ _ _ p q (.nat c.toNat _) (SrcR.bytes (X:=X) (w:=w) (n:=h.n) bs t (i+1) d) u
 |list j m hj f=>
  refine aK (nT (show(aA aq (λo=>af aq (aA ke (λx=>ki x (gp j (aG m 1))) (sW o.xs m)) (ak o.t 1)) (HT.get h.l j):Option Res)=O res from e)) λo e ho=>aC (dH e) λe h1=>sV (C.listAt ho (aH h1)) λitems ep K hn' D hro=> ?_;have hL:s.heap.IsList (w.ρ j) items:=gf _ K rfl _ rfl;rw [mO] at e
  induction hx:o.xs[m]? using zO with
  |none=>
   rw [hx] at e;have:=D.get_none hx;exact bW (wpAny_pyNext_list_end J f hL (by simpa using this) λh' he b=>z b he e)
  |some v=>
   rw [hx] at e;exact dN (D.get hx) λy hy hv=>wpAny_pyNext_list_item f hL (x:=y) (by simpa using hy) λh' d r=>fh (C.iter F G hb I (tk:=s.toks) (cV r.1.symm) r.extBut) λq p k=>hi _ y v _ p q (hv.mono k) (.list j (m+1) hj d) e
 |keys j m i c hj f=>
  refine aK (nT (show(aA aq (λo=>af aq (af aq (af aq (aA ke (λx=>ki x.1 (rY j m (aG i 1) c)) (sW o.kvs i)) (ak o.c c)) (ak (len o.kvs) m)) (ak o.t 2)) (HT.get h.l j):Option Res)=O res from e)) λo e ho=>aC (dH e) λe h2=>aC (dH e) λe h3=>aC (dH e) λe h4=>iX ((C.rep _ o ho).2.kR (aH h2)) λes ep B hro K hz hd=> ?_;have B:ep=w.uh j+c:=U B (U (aH h4) rfl);have hm:o.kvs.length=m:=cL (len_eq ..) (aH h3);rw [mO] at e;have L:es.size=o.kvs.length:=U hd.all.length (U aN rfl);rw [<-B,<-hm] at f;refine bW (wo J f K L (λen hx h' d r b=> ?_) λhx h' he b=> ?_)
  .have hl:i<o.kvs.length:=cL L ((fN.mp hx).1);have hk:=bA hl;refine aK (hd.all.get hk) λen' V M=> ?_;rw [bx,hx] at M;rw [<-aF M] at V;rw [hk] at e;exact fh (C.iter F G hb I (tk:=s.toks) (cV r.1.symm) r.extBut) λq p' k=>hi _ _ _ _ p' q (V.key.mono k) (.keys j _ (i+1) c hj (cL B (cL hm d))) e
  .have hk:o.kvs[i]? =none:=by rw [jK,<-L];exact eF.mp hx
   rw [hk] at e;exact z b he e
end
section
variable {prog:Program} {w:World} {A:Around} {E:Value->Shared->Prop} {s:Shared}
theorem qg {items} (k:A.handled=aq) (b:s.heap.IsTupleIter it t i) (ht:s.heap.IsTuple t items)
 (hi:∀x,items[i]? =O x->∀h',h'.IsTupleIter it t (i+1)->gk it s.heap h'->Q x {s with heap:=h'})
 (hn:items[i]? =aq->∀h' e,mU it s.heap h'->(∃o,h'.get? e=O o/\o.cls= .type "StopIteration")->E (.ref e) {s with heap:=h'}):wpAny (model prog w) A (dJ (.ref it)) Q E s:=by
 refine cG (id b) λo c d l=>Rf ht λp q f r j=>au (dW (name:=bX "__next__") b.typeIs fX (bH fX b.typeIs o7 ?_ (oA _)));refine(?_:wpAny _ _ (field (.ref it) 0>>=_) _ _ s);refine bq (fO d c (x:= .ref t) rfl) ((?_:wpAny _ _ (if(gu t==dY)=H then _ else _) _ _ s));refine bq (fO d c (x:= .int i 0) rfl) ((?_:wpAny _ _ (sC (.ref t)>>=_) _ _ s));refine bq (dz f j) ?_;simp only [lG]
 induction hx:items[i]? using zO with
 |some x=>
  refine au (mH d c (fG (fW [])) (av (bV x rfl (av (hi x hx _ ?_ (gm ..))))));exact f9 _ (bD _ d (sD (i7 c _))) ((xF ..).trans l) (U (i7 c ..) rfl)
 |none=>
  refine au (fm (bq (mH d c (gn rfl)) ((?_:wpAny _ _ (newExc (.type "StopIteration") []>>=_) _ _ _))));refine au (au (dZ (au (m:=firstArgMember _ _) (gb (a:=dY) (by first|rfl|(simp only [firstArgMember];rfl)) (dZ ?_ (by size_fits)))) (by size_fits)));refine bq wpAny_handled ?_
  first|refine U k ?_|rw [k]
  exact bp (wpAny_throw (hn hx _ _ (((gm ..).extBut.push _).push _) (bV _ (aJ _ rfl) rfl)))
end
theorem Fz (l:A.handled=aq) (it t) (k:t≠it) items:
 Draws prog w A it [it,t] items.size (λi v=>items[i]? =O v) (λi h=>h.IsTupleIter it t i/\h.IsTuple t items) where
 live:=λd d c=>let⟨o,ho,_⟩:=c.1;⟨o,ho⟩
 frame:=λd d d c hk=>⟨let⟨o,ho,r⟩:=c.1;(bV o (hk it aE o ho) r),let⟨o,ho,r⟩:=c.2;(bV o (hk t (mW rfl) o ho) r)⟩
 item:=λi s Q E hi c m=>qg l c.1 c.2 (λx hx h' f j=>m x h' s.toks hx ⟨f,c.2.extBut j.extBut k⟩ j) λhx=>by rw [eF] at hx;lia
 done:=λs Q E c p=>qg l c.1 c.2 (λx hx=>by rw [Array.getElem?_eq_none (br _)] at hx;exact fn hx) λd h' e a b=>p h' e a b
inductive GO (X:dw) (g:Heap) (w:Wd) (n:Nat) (S:Addr->Prop):Value->It->Prop where
 |one (it:Addr) (a:Src) (hS:∀b,S b↔b=it) (ha:SrcR X g w n it a):GO X g w n S (.ref it) (gh a)
 |zip (i:Nat) (hi:i<n) (hS:∀b,¬S b):GO X g w n S (.ref (w.ρ i)) (yK i)
 |enum (e it:Addr) (m:Nat) (old:Value) (t:Addr) (items:Array Value) (ep:Nat) (xs:List V) (hS:∀b,S b↔b=e\/b=it) (hne:e≠it) (he:IsEnum g e it m old) (hr:w.role t=aq) (ht:t∉X.tabs)
  (hg:g.get? t=O (gi items ep)) (hit:g.IsTupleIter it t m) (hs:eg X g w n xs (items.toList.drop m)):GO X g w n S (.ref e) (vV m (dR xs))
structure As (X:dw) (g:Heap) (w:Wd) (n:Nat) (S:Addr->Prop) (iv:Value) (a:It):Prop where
 own:∀b,S b->w.role b=aq/\X.h₀.objs.size<=b/\b∉X.tabs
 is:GO X g w n S iv a
section
variable {X:dw} {g g':Heap} {w w':Wd} {n n':Nat} {S:Addr->Prop} {iv:Value} {a:It}
theorem SrcR.K8 {a} (h:SrcR X g w n it a):∃o vs,g.get? it=O o/\o.data= .fields vs:=by
 induction h using Mine.SrcR.casesOn with
 |tup t items ep i q ht r d xs u=>refine cG d λo' e f l=> ?_;exact m7 _ _ f e
 |range x c xs hv d=>exact m7 _ _ d rfl
 |Cn x t i d=>refine cG d λo' e f l=> ?_;exact m7 _ _ f e
 |Co x t i d=>refine cG d λo' e f l=> ?_;exact m7 _ _ f e
 |bytes b t i d=>refine cG d λo' e f l=> ?_;exact m7 _ _ f e
 |list j k p d=>refine cG d λo' e f l=> ?_;exact m7 _ _ f e
 |keys j m k c p d=>refine cG d λo' e f l=> ?_;exact m7 _ _ f e
theorem GO.K8 (h:GO X g w n S iv a):∀b,S b->∃o vs,g.get? b=O o/\o.data= .fields vs:=by
 intro b hb
 induction h using Mine.GO.casesOn with
 |one f a c j=>refine U ((c b).mp hb) ?_;exact j.K8
 |zip i hi c=>exact absurd hb (c b)
 |enum e f m old t items ep xs c k he q ht r d u=>
  rcases(c b).mp hb with rfl|rfl
  .exact m7 _ _ he rfl
  .refine cG d λo' l p v=> ?_;exact m7 _ _ p l
theorem GO.fixed (h:GO X g w n S iv a):∀b o,S b->g.get? b=O o->ef o=false:=by
 intro b o hb e
 induction h using Mine.GO.casesOn with
 |one f a c j=>rw [(c b).mp hb] at e;exact j.fixed e
 |zip i hi c=>exact absurd hb (c b)
 |enum q f m old t items ep xs c k he r ht u d v=>
  rcases(c b).mp hb with rfl|rfl
  .injection e.symm.trans he with hq;subst hq;rfl
  .refine cG d λo' l p x=> ?_;injection e.symm.trans p with hq;subst hq
   unfold ef;refine U l ?_;rfl
theorem As.keep (h:As X g w n S iv a) (k:o9 X g w n g' w' n') (l:∀b,S b->w'.role b=aq) (ki:∀b o,S b->g.get? b=O o->g'.get? b=O o):As X g' w' n' S iv a:=by
 refine⟨λb hb=>⟨l b hb,(h.own b hb).2⟩, ?_⟩
 induction h.is using Mine.GO.casesOn with
 |one d a c u=>exact .one d a c (u.keep k λo e=>ki d o ((c d).mpr rfl) e)
 |zip i hi c=>refine cL (k.ρ i hi) ?_;exact .zip i (aR hi k.oE) c
 |enum e d m old t items ep xs c f he v ht x j y=>
  exact aC (k.fix t _ v ht rfl x) λq p=>aK j λo' r z=> .enum e d m old t items ep xs c f (ki e _ ((c e).mpr (.inl rfl)) he) p ht q (bV o' (ki d _ ((c d).mpr (.inr rfl)) z) r) (y.mono k)
end
section
variable {X:dw} {w:Wd} {h:aev} {s:Shared}
theorem St.K9 (t:bu X) (c:St X w h s) (hi:h.l.get i=O o) {s'} (b:s.heap.objs.size<=s'.heap.objs.size) (old:∀a f,w.role a≠O i->s.heap.get? a=O f->s'.heap.get? a=O f)
 (m:s'.gens=s.gens) (os:s'.os=s.os) (r:o9 X s.heap w h.n s'.heap w h.n->Rep X s'.heap w h.n i o'):
 St X w ⟨HT.ins o' h.l i,h.n⟩ s'/\Ext X cT w h.n s w h.n s':=by
 have x:Ext X cT w h.n s w h.n s':=⟨b,br _,λd d=>rfl,λd d=>rfl,λd d=>rfl,λa o h1 d d e=>old a o (U h1 (λh=>fn h)) e,m,os⟩;have k:=x.dX;refine⟨⟨λj u e=> ?_,λa j e=> ?_,λa f e ht=> ?_,aI c.size b,λP v=>(c.tab P v).keep k λo hl e=>old P o (λy=>absurd hl (bC.mpr (c.lim P i y).2.1)) e⟩,x⟩
 .rcases HT.get_ins _ e with⟨rfl,rfl⟩|⟨p,e⟩
  .exact⟨(c.rep _ _ hi).1,r k⟩
  .exact aC (c.rep j u e) λz q=>⟨q,z.keep t k q (λd h=>h) λa f h1 e=>old a f (U h1 (λh=>p (aF h))) e⟩
 .refine fh (c.lim a j e) λB C a3=> ?_;exact iW C B (aR a3 b)
 .refine old a f (λh1=> ?_) (c.base a f e ht);exact absurd (bh e) (bC.mpr (c.lim a i h1).2.1)
theorem St.RK (i:bu X) (j:St X w h s) (k:∀b,S b->w.role b=aq/\X.h₀.objs.size<=b) (f:∀b o,S b->s.heap.get? b=O o->ef o=aj) (d:s.heap.objs.size<=h'.objs.size)
 (old:∀b o,¬S b->s.heap.get? b=O o->h'.get? b=O o):
 St X w h {s with heap:=h',toks:=tk}/\Ext X S w h.n s w h.n {s with heap:=h',toks:=tk}/\o9 X s.heap w h.n h' w h.n:=aC (j.grow i (F:=S) (s':={s with heap:=h',toks:=tk}) d f k (λa o l e=>old a o l e) rfl rfl) λc a=>iW a c (c.keep f)
theorem jj {M} (d:s.heap.get? it=O o) (e:o.cls= .type T) (f:o.data= .fields vs)
 (i:(["enumerate","zip","dict_itemiterator","dict_reverseitemiterator","odict_iterator","itertools.zip_longest","itertools.pairwise"]:List String).contains T=aj) (h:Q () s):wpAny M A (letOwnedTupleGo target (.ref it) y) Q E s:=by
 have b:wpAny M A (match (gu it,y) with
  |(.ref r,.ref a)=>do
   let o<-load r
   match o.cls,o.data with
   | .type n,.fields vs=>
    if(["enumerate","zip","dict_itemiterator","dict_reverseitemiterator","odict_iterator","itertools.zip_longest","itertools.pairwise"]:List String).contains n&&vs[0]? ==O (rawInt a) then
     rule "for.unpacks-the-owned-tuple"
     updateField r 0 .none
   |_,_=>pure ()
  |_=>pure ()) Q E s:=by
  induction y using fE with
  |ref a=>
   refine bq (jc d) (U e (U f ?_));dsimp only;exact U i (av h)
  |_=>exact av h
 induction target using aS with
 |Tuple c z p=>rcases y<;>exact b
 |List c p=>rcases y<;>exact b
 |_=>exact av h
theorem SrcR.letGo {M} (o:SrcR X s.heap w n it a) (h:Q () s):wpAny M A (letOwnedTupleGo target (.ref it) y) Q E s:=by
 induction o using Mine.SrcR.casesOn with
 |tup t items ep i q ht r d xs u=>refine cG d λo' e f l=> ?_;exact jj f l e rfl h
 |range x c xs hv d=>exact jj d rfl rfl rfl h
 |Cn x t i d=>refine cG d λo' e f l=> ?_;exact jj f l e rfl h
 |Co x t i d=>refine cG d λo' e f l=> ?_;exact jj f l e rfl h
 |bytes b t i d=>refine cG d λo' e f l=> ?_;exact jj f l e rfl h
 |list j k p d=>refine cG d λo' e f l=> ?_;exact jj f l e rfl h
 |keys j m k c p d=>refine cG d λo' e f l=> ?_;exact jj f l e rfl h
theorem ia (h:iP e=H):∃b z p,e= .Tuple b z p:=by
 induction e using aS with
 |Tuple b z p=>exact⟨b,z,p,rfl⟩
 |_=>exact ff h
theorem Oz (ax:bu X) (hbase:10<=X.h₀.objs.size) (htab:∀a∈X.tabs,a<X.h₀.objs.size) (G:St X w h s) (hh:A.handled=aq) (hi:As X s.heap w h.n S iv a) (ht:a.t=0\/iP target=H)
 (e:vW a h ke ki=O res) {Q P:Option Value->Shared->Prop}
 (hn:∀h' s',St X w h' s'->h'.n=h.n->Ext X S w h.n s w h.n s'->ke h'=O res->Q aq s')
 (hv:∀h' s' v y a',St X w h' s'->h'.n=h.n->Ext X S w h.n s w h.n s'->VR X s'.heap w h.n v y->As X s'.heap w h.n S iv a'->(a'.t=0\/iP target=H)->ki v a' h'=O res->Q (O y) s')
 (pn:∀s1,Q aq s1->P aq s1) (ps:∀y s1,wpAny (model X.prog X.w) A (letOwnedTupleGo target iv y) (λu_ s2=>Q (O y) s2) E s1->P (O y) s1):wpAny (model X.prog X.w) A (pyNext iv) P E s:=by
 have own:=hi.own
 induction hi.is using Mine.GO.casesOn with
 |one it a I ha=>
  have z:=own it ((I it).mpr rfl);have e:m8 a h (ke h) (λx c=>ki x (gh c) h)=O res:=e;have wk:∀{s'},Ext X (λb=>b=it) w h.n s w h.n s'->Ext X S w h.n s w h.n s':=λx=>x.weaken λb hb=>(I b).mpr hb;exact ze ax hbase G hh z.1 z.2.1 ha e (λs' a x ek=>pn _ (hn h s' a rfl (wk x) ek)) λs' y v c a x hy f ek=>ps _ _ (f.letGo (hv h s' v y (gh c) a rfl (wk x) hy ⟨own,.one it c I f⟩ (.inl rfl) ek))
 |zip i hi' I=>
  have e:Gr i h ke (λv h=>ki v (yK i) h)=O res:=e;refine aK (nT e) λo e ho=>aC (dH e) λe h5=> ?_
  induction ((G.rep i o ho).2) using Mine.Rep.casesOn with
  |zip j1 k1 j2 k2 TI TO i1 i2 aa bb K r1 r2 r3 r4 D hj hz h1 h2 h3 h4=>
   refine aK (nT e) λp e hp=>aC (dH e) λe p1=>aK (nT e) λq e hq=>aC (dH e) λe q1=>sV (G.listAt hp (aH p1)) λxs ep hg1 hn1 Wk Zp=>sV (G.listAt hq (aH q1)) λys KA KN hn2 Wl S6=> ?_;have hl1:s.heap.IsList (w.ρ j1) xs:=gf _ hg1 rfl _ rfl;have hl2:s.heap.IsList (w.ρ j2) ys:=gf _ KN rfl _ rfl;have L:∀{c},w.role c=O i->w.ρ j1≠c:=λf q=>hj.2.2.1 (aF (Zp.symm.trans (q▸f)));have M:∀{c},w.role c=O i->w.ρ j2≠c:=λf q=>hj.2.2.2 (aF (S6.symm.trans (q▸f)));have j:∀{c d} {oc od},s.heap.get? c=O oc->s.heap.get? d=O od->oc.cls≠od.cls->c≠d:=λec ed B q=>by subst q;injection ec.symm.trans ed with hq;subst hq;exact B rfl
   refine cG (id h3) λo3 d3 e3 c3=>cG (id h4) λo4 d4 e4 c4=> ?_;have n1:cU "list_iterator"≠cU "zip":=by decide
   have n2:cU "tuple"≠cU "list_iterator":=by decide
   have DD:ZipApart (w.ρ i) TI TO i1 i2 (w.ρ j1) (w.ρ j2):=⟨D.2.1,D.2.2.1,j e3 hz (U c3 n1),j e4 hz (U c4 n1),D.1,j h1 e3 (U c3 n2),j h1 e4 (U c4 n2),j h2 e3 (U c3 n2),j h2 e4 (U c4 n2),D.2.2.2,
    L K,L r2,L r3,L r4,M K,M r2,M r3,M r4⟩
   have Wm:∀{b:Bool},ke ⟨HT.ins qT h.l i,h.n⟩=O res->(xs[k1]? =aq\/ys[k2]? =aq)->
    wpAny (model X.prog X.w) A (pyNext (.ref (w.ρ i))) P E s:=λek hend=>by
    refine bW (wpAny_pyNext_zip_end hh DD hz h1 h2 h3 h4 hl1 hl2 hend λh' hk u=> ?_);have ab:=G.K9 ax ho (s':={s with heap:=h'}) (o':=qT) u (λc ob f e=>hk c ob (λq=>f (q▸K)) (λq=>f (q▸r2)) (λq=>f (q▸r3)) (λq=>f (q▸r4)) e) rfl rfl λu_=> .junk K;exact pn _ (hn _ _ ab.1 rfl (ab.2.weaken λu_ h=>h.elim) ek)
   rw [mO,mO] at e
   induction hx:p.xs[k1]? using zO with
   |none=>
    rw [hx] at e;exact Wm (b:=H) e (.inl ((bx ..).symm.trans (Wk.get_none hx)))
   |some x=>
    induction hy:q.xs[k2]? using zO with
    |none=>
     rw [hx,hy] at e;exact Wm (b:=H) e (.inr ((bx ..).symm.trans (Wl.get_none hy)))
    |some y=>
     rw [hx,hy] at e;refine dN (Wk.get hx) λxv hxv vx=>dN (Wl.get hy) λyv hyv vy=>wpAny_pyNext_zip_item DD hz h1 h2 h3 h4 hl1 hl2 (x:=xv) (y:=yv) ((bx ..).symm.trans hxv) ((bx ..).symm.trans hyv) λh' z1 z2 z3 z4 z5 z6 z7=> ?_;refine Vt (ia (ht.resolve_left (by exact Nat.one_ne_zero))) λes zz pp oG=> ?_;subst oG;refine ps _ _ (wpAny_letOwnedTupleGo_zip z1 λC z1' z8=> ?_);have up:∀c o,c≠w.ρ i->h'.get? c=O o->C.get? c=O o:=λc o f e=>z8.extBut c o f e;have u:s.heap.objs.size<=C.objs.size:=U z8.1 (U z6 (gW _));have ab:=G.K9 ax ho (s':={s with heap:=C}) (o':=ES j1 (k1+1) j2 (k2+1)) u
      (λc ob f e=>up c ob (λq=>f (q▸K)) (z7 c ob (λq=>f (q▸K)) (λq=>f (q▸r2)) (λq=>f (q▸r3)) (λq=>f (q▸r4)) e)) rfl rfl λkk=>by
       refine .zip j1 (k1+1) j2 (k2+1) TI TO i1 i2 xv yv K r1 r2 r3 r4 D hj z1' (up _ _ D.2.1 (z7 _ _ D.2.1 D.1 DD.TIi1 DD.TIi2 h1)) (up _ _ D.2.2.1 z2) ?_ ?_
       .refine aK z3 λo' r e'=> ?_;exact bV o' (up _ _ DD.i1z e') r
       .refine aK z4 λo' r e'=> ?_;exact bV o' (up _ _ DD.i2z e') r
     have kk:=ab.2.dX;have hT:=up _ _ (iA (bh hz)) z5;exact hv _ _ _ _ (yK i) ab.1 rfl (ab.2.weaken λu_ h=>h.elim) (.tup _ _ #[xv,yv] 0 (l9 G (br _)) (λhm=>absurd (htab _ hm) (bC.mpr G.size)) hT (of_decide_eq_true rfl) (.cons _ _ _ _ (vx.mono kk) (.cons _ _ _ _ (vy.mono kk) .nil))) ⟨own,.zip i hi' I⟩ (.inr rfl) e
  |_=>exact nn (aH h5) rfl
 |enum ev it m old t items ep xs I B he K htt hg z J=>
  have Wn:t≠it:=λq=>by
   refine cG z λo e3 e1 e2=> ?_;subst q;injection hg.symm.trans e1 with hq;subst hq
   injection e3
  have hT:s.heap.IsTuple t items:=gf _ hg rfl _ rfl;have hTe:t≠ev:=λq=>by
   subst q;have:=congrArg Obj.cls (aF (hg.symm.trans he));exact absurd this (show cU "tuple"≠cU "enumerate" from by decide)
  induction xs using zL with
  |nil=>
   have hsz:m=items.size\/items.size<=m:=by
    exact .inr (Nat.le_of_sub_eq_zero ((jG ..).symm.trans J.length.symm))
   have hx:=eF.mpr (hsz.elim (λq=>cV q.symm) id);refine bW ?_;have hTE:s.TypeIs (.ref ev) "enumerate":=bV _ he rfl;refine au (qJ (dW (name:=bX "__next__") hTE F.slot_enumerate_next
    (bH F.slot_enumerate_next hTE F.entry_enumerate_next ?_ (F.args_enumerate_next_1 _))))
   refine(?_:wpAny _ _ (field (.ref ev) 2>>=_) _ _ _);exact bq (fO he rfl (x:= .ref it) rfl) (au (qg hh z hT (λx R=>by rw [hx] at R;exact fn R) λu_ h' x he' R=>(dN R λo ho f=>bq (fL (T:="StopIteration") (b:=H) (bV o ho f) isSubtype_stop) (av λu=>fh (G.RK ax (S:=S) (h':=h') (λb hb=>⟨(own b hb).1,(own b hb).2.1⟩) hi.is.fixed (tk:=s.toks) u λb o hb e=>he' b o (λq=>hb ((I b).mpr (.inr q))) e) λq p k=>pn _ (hn h _ p rfl q e)))))
  |cons v l=>
   induction hd:items.toList.drop m using zL with
   |nil=>rw [hd] at J;cases J
   |cons y ys=>
    rw [hd] at J;cases J with
    |cons _ _ _ _ Yr hl=>
     have hx:=(bx ..).symm.trans ((List.head?_drop ..).symm.trans (congrArg List.head? hd));have hd':items.toList.drop (m+1)=ys:=cL List.tail_drop (U hd rfl);refine wpAny_pyNext_enum_itemD (Fz (prog:=X.prog) (w:=X.w) (A:=A.in1) hh it t Wn items) he ⟨z,hT⟩ ((fN.mp hx).1) B (by simp [B,hTe.symm]) λx h' tk hPx he' Zq hT' hz' hk'=> ?_;injection hx.symm.trans hPx with hq;subst hq
     refine Vt (ia (ht.resolve_left (by exact Nat.add_one_ne_zero 1))) λes zz pp oG=> ?_;subst oG;refine ps _ _ (wpAny_letOwnedTupleGo_enum (i:=(m:Int)+1) (item:=y) he' λC Vi V=> ?_);have old:∀b o,¬S b->s.heap.get? b=O o->C.get? b=O o:=λb o hb e=>V.extBut b o (λq=>hb ((I b).mpr (.inl q))) (hk' b o (λq=>hb ((I b).mpr (.inl q))) (λq=>hb ((I b).mpr (.inr q))) e);refine fh (G.RK ax (S:=S) (h':=C) (λb hb=>⟨(own b hb).1,(own b hb).2.1⟩) hi.is.fixed (tk:=tk+1) (U V.1 (U hz' (gW _))) old) λq p k=> ?_;have htS:¬S t:=λhb=>by rcases(I t).mp hb with q|q;exact hTe q;exact Wn q
     refine hv h _ _ _ (vV (aG m 1) (dR l)) p rfl q (.tup _ _ #[.int (m:Int) tk,y] 0 (l9 G (br _)) (λhm=>absurd (htab _ hm) (bC.mpr G.size)) (V.extBut _ _ (iA (bh he)) hT') (of_decide_eq_true rfl) (.cons _ _ _ _ (.nat m tk) (.cons _ _ _ _ (Yr.mono k) .nil))) ⟨own,.enum ev it (m+1) y t items ep l I B ?_ K htt (old t _ htS hg) ?_ (U hd' (hl.mono k))⟩ (.inr rfl) e
     .exact Vi
     .refine aK Zq.1 λo' r e'=> ?_;exact bV o' (V.extBut _ _ (rU B) e') r
theorem Be (j:bu X) (b:10<=X.h₀.objs.size) (c:∀a∈X.tabs,a<X.h₀.objs.size) (k:St X w h s) (l:A.handled=aq) (hi:As X s.heap w h.n S iv a) (ht:a.t=0\/iP target=H)
 (e:vW a h ke ki=O res) {Q:Option Value->Shared->Prop}
 (hn:∀h' s',St X w h' s'->h'.n=h.n->Ext X S w h.n s w h.n s'->ke h'=O res->Q aq s')
 (hv:∀h' s' v y d,St X w h' s'->h'.n=h.n->Ext X S w h.n s w h.n s'->VR X s'.heap w h.n v y->As X s'.heap w h.n S iv d->(d.t=0\/iP target=H)->ki v d h'=O res->Q (O y) s'):
 wpAny (model X.prog X.w) A (pyNext iv) (λo i=>match o with|none=>Q aq i|some y=>wpAny (model X.prog X.w) A (letOwnedTupleGo target iv y) (λf m=>Q (O y) m) E i) E s:=
 Oz j b c k l hi ht e hn hv (λf h=>h) λf f h=>h
end
section
variable {X:dw} {F F':Addr->Prop} {w₀ w w':Wd} {n₀ n n':Nat} {s₀ s s':Shared}
theorem Ext.nZ (x:Ext X F w₀ n₀ s₀ w n s) (y:Ext X F' w n s w' n' s') (h:∀a,F' a->F a\/s₀.heap.objs.size<=a):Ext X F w₀ n₀ s₀ w' n' s':=
 ⟨aI x.size y.size,aI x.oE y.oE,λi hi=>(y.ρ i (aR hi x.oE)).trans (x.ρ i hi),λi hi=>(y.uh i (aR hi x.oE)).trans (x.uh i hi),
  λa b=>(y.role a (aR b x.size)).trans (x.role a b),
  λa o h1 h2 c e=>y.old a o ((x.role a (bh e)).trans h1) h2 (λd=>(h a d).elim c λq=>absurd (bh e) (bC.mpr q)) (x.old a o h1 h2 c e),y.gens.trans x.gens,y.os.trans x.os⟩
theorem As.ext (i:As X s.heap w n S iv a) (x:Ext X F w n s w' n' s') (hF:∀a o,F a->s.heap.get? a=O o->ef o=aj) (c:∀b,S b->¬F b):As X s'.heap w' n' S iv a:=
 i.keep (x.keep hF) (λb hb=>by
  exact HG (i.is.K8 b hb) λo vs e d=>(x.role b (bh e)).trans (i.own b hb).1) λb o hb e=>x.old b o (i.own b hb).1 (i.own b hb).2.2 (c b hb) e
theorem As.frame (i:As X s.heap w n S iv a) (he:eZ X env ns ρ w n s):∀b,S b->¬AI env ns b:=by
 intro b hb h;refine HG (i.is.K8 b hb) λo vs e g=> ?_;rcases h with rfl|⟨x,h1,h2,j⟩
 .obtain⟨m,⟨o',l,ep,f,d,_⟩,_⟩:=he.loc;injection e.symm.trans f with hq;subst hq
  rw [g] at d;injection d
 .obtain⟨c,p,k,_,_,_,⟨o',f,d⟩⟩:=he.cell x h1 (.inl h2);injection j.symm.trans k with hq;subst hq
  injection e.symm.trans f with hq;subst hq
  rw [g] at d;injection d
end
theorem rz y p l:aZ y (p::l)=if y=nm p.1 then O p.2 else aZ y l:=by
 refine(?_:(af (aZ y l) (O p.2) (ak y (nm p.1)):Option aM)=_)
 induction e:ak y (nm p.1) using zB with
 |true=>exact U (if_pos (aH e)) rfl
 |false=>exact U (if_neg (fV e)) rfl
theorem j6 (hp:∀p∈l,aY p.1=H) {x} (hx:aY x=H) {k} (e:aZ (nm x) l=O k):l.lookup x=O k:=by
 induction l with
 |nil=>exact fn e
 |cons p l a=>
  rw [rz] at e;refine U bJ ?_;by_cases h:nm x=nm p.1
  .rw [if_pos h] at e;injection e with e;subst e
   refine U (gU hx (hp p aE) h) ?_;simp
  .rw [if_neg h] at e;have:(x==p.1)=false:=by simp;intro q;exact h (U q rfl)
   exact U this (a (λp hq=>hp p (aD _ hq)) e)
theorem lP (e:aZ y l=O k):∃p∈l,y=nm p.1/\p.2=k:=by
 induction l with
 |nil=>exact fn e
 |cons p l c=>
  rw [rz] at e;by_cases h:y=nm p.1
  .rw [if_pos h] at e;injection e with e;subst e;exact f9 p aE h rfl
  .rw [if_neg h] at e;exact aK (c e) λq b a=>bV q (aD _ a) b
theorem brY {a b c:Bool} (hx:c=H) (h:(af a b c:Bool)=H):b=true:=by subst hx;exact h
theorem brN {a b c:Bool} (hx:c=aj) (h:(af a b c:Bool)=H):a=true:=by subst hx;exact h
set_option smartUnfolding false in
theorem H9 (hu:Dp l=H) {p} (hp:p∈l):aZ (nm p.1) l=O p.2:=by
 induction l with
 |nil=>cases hp
 |cons q l c=>
  induction hq:sH (nm q.1) l using zB with
  |true=>exact ff (brY hq hu)
  |false=>
   replace hu:=brN hq hu;refine U (rz ..) ?_;rcases aT.mp hp with b|hp
   .exact U b (U (if_pos rfl) rfl)
   .have:=c hu hp;by_cases h:nm p.1=nm q.1
    .delta sH at hq;rw [<-h,this] at hq;exact ft hq
    .refine U (if_neg h) ?_;exact this
def xh (ns:List (Str×aM)) (l:List (Str×aM)):Prop:=∀p∈l,aY p.1=H/\((p.2= .free/\(aZ (nm p.1) ns=O .cell\/aZ (nm p.1) ns=O .free))\/p.2= .local\/p.2= .globalImplicit)
set_option smartUnfolding false in
theorem DO:∀{l},m9 ns l=H->xh ns l:=by
 intro l
 induction l with
 |nil=>
  intro _;exact λp hp=>(aU hp).elim
 |cons b r c=>
  obtain⟨x,k⟩:=b;intro h
  induction hx:aY x using zB with
  |false=>exact ff (brN hx h)
  |true=>
   replace h:=brY hx h;have a:m9 ns r=H/\((k= .free/\(aZ (nm x) ns=O .cell\/aZ (nm x) ns=O .free))\/k= .local\/k= .globalImplicit):=by
    induction k using dm with
    |free=>
     generalize aZ (nm x) ns=o at h⊢
     induction o using zO with
     |none=>exact ff h
     |some k=>
      induction k using dm with
      |cell=>exact⟨h,.inl ⟨rfl,.inl rfl⟩⟩
      |free=>exact⟨h,.inl ⟨rfl,.inr rfl⟩⟩
      |_=>exact ff h
    |«local»=>exact⟨h,.inr (.inl rfl)⟩
    |globalImplicit=>exact⟨h,.inr (.inr rfl)⟩
    |_=>exact ff h
   intro p hp;rcases aT.mp hp with rfl|hp
   .exact⟨hx,a.2⟩
   .exact c a.1 p hp
structure DP (ns:List (Str×aM)) (sc:Scope):Prop where
 frees:xh ns sc.names
 fn:sc.kind= .function
 GB:∀x k,aZ (nm x) sc.names=O k->(x==("__debug__":Str))=aj
 cls:∀x k,aZ (nm x) sc.names=O k->(x==("__classdict__":Str))=aj
 uniq:Dp sc.names=H
 loc:gH sc.names=H
theorem FA (h:B7 l=H):(∀x k,aZ (nm x) l=O k->(x==("__debug__":Str))=aj)/\(∀x k,aZ (nm x) l=O k->(x==("__classdict__":Str))=aj)/\Dp l=true:=by
 have a:∀y x k,sH (nm y) l=aj->aZ (nm x) l=O k->(x==y)=false:=λy x k h1 e=>beq_eq_false_iff_ne.mpr λq=>by
  rw [q] at e;delta sH at h1;rw [e] at h1;exact ft h1
 unfold B7 at h
 induction h1:sH (nm "__debug__") l using zB with
 |true=>rw [h1] at h;exact ff h
 |false=>
  induction h2:sH (nm "__classdict__") l using zB with
  |true=>rw [h1,h2] at h;exact ff h
  |false=>
   rw [h1,h2] at h;exact iW (λx k=>a _ x k h1) (λx k=>a _ x k h2) h
theorem Cp (h:yP ns sc=H):DP ns sc:=by
 unfold yP at h
 induction h1:m9 ns sc.names using zB with
 |false=>rw [h1] at h;exact ff h
 |true=>
  induction h2:isFn sc.kind using zB with
  |false=>rw [h1,h2] at h;exact ff h
  |true=>
   induction b:gH sc.names using zB with
   |false=>rw [h1,h2,b] at h;exact ff h
   |true=>
    rw [h1,h2,b] at h;refine Rd (FA h) λa c d=>⟨DO h1, ?_,a,c,d,b⟩
    induction hk:sc.kind using m5 with
    |function=>rfl
    |_=>rw [hk] at h2;exact ff h2
theorem zf {env:dj}:∀{l:List (Str×aM)} {x} {k},l.lookup x=O k->
 (l.map λ(n,k)=>if(k==lH&&env.scope.kind== .function&&env.kindOf n==O .cell) then(n,NameKind.cell) else(n,k)).lookup x=O k\/
 (k= .free/\(l.map λ(n,k)=>if(k==lH&&env.scope.kind== .function&&env.kindOf n==O .cell) then(n,NameKind.cell) else(n,k)).lookup x=O .cell):=by
 intro l
 induction l with
 |nil=>exact λh=>fn h
 |cons p r b=>
  rcases p with⟨n,c⟩
  intro x k h;refine U dI ?_;rw [bJ] at h
  induction hb:x==n using zB with
  |true=>
   rw [hb] at h;injection h with h;subst h
   by_cases a:(c==lH&&env.scope.kind== .function&&env.kindOf n==O .cell)=H
   .right
    refine⟨?_, ?_⟩
    .simp only [aP,beq_iff_eq] at a;exact a.1.1
    .simp only [if_pos a,bJ,hb]
   .left
    simp only [if_neg a,bJ,hb]
  |false=>
   rw [hb] at h;have b:=b h;by_cases a:(c==lH&&env.scope.kind== .function&&env.kindOf n==O .cell)=H
   .simp only [if_pos a,bJ,hb];exact b
   .simp only [if_neg a,bJ,hb];exact b
section
variable {X:dw} {ns:List (Str×aM)} {env:dj} {ρ:Env} {w:Wd} {n:Nat} {s:Shared}
theorem mem_lookup {a:Type}:∀{l:List (Str×a)} {x} {c},(x,c)∈l->∃c',l.lookup x=O c':=by
 intro l
 induction l with
 |nil=>exact λh=>(aU h).elim
 |cons p r b=>
  rcases p with⟨k,v⟩
  intro x c h;refine U bJ ?_
  induction hb:x==k using zB with
  |true=>exact⟨v,rfl⟩
  |false=>
   rcases aT.mp h with e|h
   .cases e;simp at hb
   .exact b h
theorem Cq (he:eZ X env ns ρ w n s) f (o:∀x k g,f (x,k) g=if k== .free then(do let a<-cellOf env x;pure (.yield ((x,a)::g))) else pure (.yield g)):
 ∀{l} acc,xh ns l->(∀q∈acc,env.cells.lookup q.1=O q.2)->
  ∃cl,forIn l acc f=pure cl/\(∀q∈cl,env.cells.lookup q.1=O q.2)/\(∀q∈acc,q∈cl)/\∀p∈l,p.2= .free->∃c,(p.1,c)∈cl:=by
 intro l
 induction l with
 |nil=>
  intro acc _ h;exact qO acc (U jz rfl) h (λy h=>h) (λp hp=>(aU hp).elim)
 |cons z r t=>
  obtain⟨x,k⟩:=z;intro acc u h;have e:xh ns r:=λp hp=>u p (aD _ hp);refine aC (u (x,k) aE) λhk hx=> ?_;by_cases b:k= .free
  .subst b;have hk:aZ (nm x) ns=O .cell\/aZ (nm x) ns=O .free:=by
    rcases hk with⟨_,hk⟩|hk|hk
    .exact hk
    .injection hk
    .injection hk
   refine nK (he.cell x hx hk) λc A y v=> ?_;refine Sl (t ((x,c)::acc) e λq hq=>by
    rcases aT.mp hq with rfl|hq
    .exact v
    .exact h q hq) λcl i j a3 m=> ?_
   refine qO cl ?_ j (λq hq=>a3 q (aD _ hq)) (λp hp d=> ?_)
   .refine U (dO ..) (U (o ..) ?_);unfold cellOf;exact U v i
   .rcases aT.mp hp with rfl|hp
    .exact⟨c,a3 _ aE⟩
    .exact m p hp d
  .refine Sl (t acc e h) λcl i j a3 m=>qO cl ?_ j a3 (λp hp d=> ?_)
   .refine U (dO ..) (U (o ..) ?_);have:(k==lH)=false:=beq_false_of_ne b;exact U this i
   .rcases aT.mp hp with rfl|hp
    .exact absurd d b
    .exact m p hp d
theorem zg (he:eZ X env ns ρ w n s) (f:xh ns sc.names):∃cl,closureFor sc env=pure cl/\(∀q∈cl,env.cells.lookup q.1=O q.2)/\∀p∈sc.names,p.2= .free->∃c,(p.1,c)∈cl:=by
 refine Sl (Cq he (λ(x,k) b=>if k== .free then(do let a<-cellOf env x;pure (.yield ((x,a)::b))) else pure (.yield b)) (λd d d=>rfl) (l:=sc.names) [] f (λq hq=>(aU hq).elim)) λcl g h d i=>f9 cl ?_ h i;have e:closureFor sc env=(forIn sc.names ([]:List (Str×Addr)) (λ(x,k) b=>if k== .free then(do let a<-cellOf env x;pure (dK ((x,a)::b))) else pure (dK b))>>=λb=>pure b):=rfl;refine U e (U g ?_);rfl
theorem eZ.comp (he:eZ X env ns ρ w n s) (d:DP ns sc) {cl} (f:∀q∈cl,env.cells.lookup q.1=O q.2) (r:∀p∈sc.names,p.2= .free->∃c,(p.1,c)∈cl) (z:s.heap.Ns C m) (A:w.role C=aq) (hb:X.h₀.objs.size<=C) (ht:C∉X.tabs):
 eZ X (compEnvC sc cl C env) sc.names (compEnv ρ) w n s:=by
 have g:∀p∈sc.names,aY p.1=true:=λp hp=>(d.frees p hp).1;have free:∀x,aY x=H->aZ (nm x) sc.names=O .free->∃c,cl.lookup x=O c/\env.cells.lookup x=O c/\(aZ (nm x) ns=O .cell\/aZ (nm x) ns=O .free):=by
  intro x hx hk;refine jB (lP hk) λp hp B i=> ?_;have j:=gU hx (g p hp) B;refine fF (r p hp i) λc hm=>fF (mem_lookup hm) λc' hl=> ?_;rw [<-j] at hl;refine f9 c' hl (f _ (mem_of_lookup hl)) ?_;rcases(d.frees p hp).2 with⟨_,q⟩|q|q
  .refine U j ?_;exact q
  .rw [i] at q;injection q
  .rw [i] at q;injection q
 have a:∀y,aZ y sc.names≠O .cell:=λy e=>by
  refine jB (lP e) λp hp l i=> ?_;rcases(d.frees p hp).2 with⟨q,_⟩|q|q<;>rw [i] at q<;>injection q
 refine⟨d.fn,he.glob,he.blt,λx k hx hk=> ?_,d.cls,d.GB,(bV m z (λx v l l h=>nomatch h)),(iW A hb ht),λx hx hk=> ?_,λx v c l hk=>absurd hk (a _),λx v c hx hk b hl=> ?_,λx y c h1 h2=> ?_,λy v h=>(nomatch h),λy v l=>a y,λq=>absurd d.loc (U q bY)⟩
 .have hl:=j6 g hx hk;have:=zf (env:=env) hl
  induction k using dm with
  |«local»=>exact this.resolve_right λq=>(by injection q.1)
  |cell=>exact absurd hk (a _)
  |free=>exact this.elim .inr λq=> .inl q.2
  |globalImplicit=>exact this.resolve_right λq=>(by injection q.1)
  |_=>trivial
 .have hk:=hk.resolve_left (a _);refine cG (free x hx hk) λc a3 t o=>HJ (he.cell x hx a3) λc' D E G I J K=> ?_;injection o.symm.trans E with hq;subst hq
  exact lX c D t G I J K
 .refine cG (free x hx hk) λc' a3 t o=> ?_;injection hl.symm.trans t with hq;subst hq
  have b:find (nm x) (app ρ.loc ρ.out)=O v:=b;rw [Dt] at b;rcases a3 with a3|a3
  .induction hq:find (nm x) ρ.loc using zO with
   |none=>rw [hq] at b;exact absurd a3 (he.outs _ v b)
   |some u=>rw [hq] at b;injection b with b;subst b;exact he.wZ x _ c hx a3 hq o
  .induction hq:find (nm x) ρ.loc using zO with
   |none=>rw [hq] at b;exact he.w9 x v c hx a3 b o
   |some u=>
    rcases he.locs _ u hq with q|q<;>rw [a3] at q<;>cases q
 .exact he.apart x y c (f _ (mem_of_lookup h1)) (f _ (mem_of_lookup h2))
end
def wu (M:Model) (A:Around) (use:Option (Value->Sem Unit)) (Q:Value->Shared->Prop) (acc:Value) (C:Addr) (r:Result) (s':Shared):Prop:=
 match r,use with
 | .ok _,aq=>∃m,s'.heap.Ns C m/\∀h',gk C s'.heap h'->Q acc {s' with heap:=h'}
 | .ok _,O u=>cC M A (u acc) (λu_ s''=>∃m,s''.heap.Ns C m/\∀h',gk C s''.heap h'->Q .none {s'' with heap:=h'}) (λu_ u_=>False) s'
 | .error _,_=>False
section
variable {M:Model} {A:Around} {env:dj} {s:Shared}
theorem DQ {c} [Decidable c] {pos} {k:PUnit->Sem α} {Q} {E} (h:cC M A (k ()) Q E s):cC M A (if c then(standAt pos>>=k) else k ()) Q E s:=by
 split
 .exact ay (bG h)
 .exact h
theorem zh {cl}
 (z:clausesOf e=g::gs) (E:∀x,foldedSetIterable g.iter env x=pure x) (l:closureFor scope env=pure cl)
 (b:scope.kind= .function) (c:∀x∈scope.names,x.2= .local->scope.names.lookup x.1=O .local)
 (h:cC M A first (λx d=>cC M A (pyIter x) (λD i=>cC M A newAcc (λacc j=>
  cC M A (newFunctionEnv scope env.globals cl [] env.qual aq .none (O env)) (λcenv k=>
   codeN M A (.compStart e 0 D acc {cenv with scope:=relabel scope env}) (wu M A use Q acc cenv.locals) k) (λa a=>False) j) (λa a=>False) i) (λa a=>False) d) (λa a=>False) s):
 cC M A (comprehension e scope env pos newAcc aj first use) Q (λa a=>False) s:=by
 unfold comprehension;refine U l (U z ?_);refine ay (aV h (λx d p=>ay (bG (ay (nu (E x) (ay (bg (aV p (λD i q=>
  DQ (ay (aV q (λacc j t=>ay (aO (ay (aV t (λcenv k v=> ?_) λa a h'=>h')))) λa a h'=>h')))
   λa a h'=>h'))))))) λa a h'=>h')
 dsimp only;have hv:∀x∈(scope.names.filter λx=>(x.2== .local||x.2== .cell)&&x.1 !=(".0":Str)).reverse,x.2= .local->
  Env.kindOf {cenv with scope:=relabel scope env} x.1=O .local:=λx hx hl=>lookup_relabel_local (c x (gC.mp (mz.mp hx)).1 hl)
 have B:∀x∈(scope.names.filter λx=>(x.2== .local||x.2== .cell)&&x.1 !=(".0":Str)).reverse.drop 1++(scope.names.filter λx=>(x.2== .local||x.2== .cell)&&x.1 !=(".0":Str)).reverse.take 1,
  x.2= .local->Env.kindOf {cenv with scope:=relabel scope env} x.1=O .local:=λx hx hl=>by
  rcases ni.mp hx with h1|h1
  .exact hv x (List.mem_of_mem_drop h1) hl
  .exact hv x (List.mem_of_mem_take h1) hl
 refine bg (ay (rj (bg (Gz (h:=aq) (iQ v λr s' y=> ?_) Zk))))
 induction r using Except.casesOn with
 |ok f=>
  induction use using zO with
  |none=>
   exact aK y λm y hn=>ay (bg (eW (wpAny_comp_letGo (cenv:={cenv with scope:=relabel scope env}) b _ s' m hv hn λh' F a n=>aO (y h' n))))
  |some u=>
   refine ay (pO (ay (bg (aV y (λa C o=> ?_) λa a h'=>h'))));exact aK o λm o hn=>ay (eW (wpAny_comp_letGo (cenv:={cenv with scope:=relabel scope env}) b _ C m B hn λh' F a n=>aO (o h' n)))
 |error x=>rcases use<;>exact y.elim
end
section
variable {prog:Program} {w:World} {A:Around} {s:Shared} {R:Result->Shared->Prop}
theorem xj {Q:α->Shared->Prop} {M} (h:cC M A m Q (λa a=>False) s):cC M A (m.onRaise λx=>do wO x env;standAt theWindowsPlace) Q E s:=
 j3 (aV h (λa a q=>q) λa a f=>f.elim)
theorem zj {elt target iter ifs rest scope pos it acc env}
 (c:codeN (model prog w) A (.compLoop (.ListComp elt (⟨target,iter,ifs,0⟩::rest) scope pos) 0 it acc env) R s)
 (h:cC (model prog w) A (pyIter it) (λa s'=>codeN (model prog w) A (.compLoop (.ListComp elt (⟨target,iter,ifs,0⟩::rest) scope pos) 0 a acc env) R s') (λb b=>False) s):
 codeN (model prog w) A (.compStart (.ListComp elt (⟨target,iter,ifs,0⟩::rest) scope pos) 0 it acc env) R s:=by
 refine dP rfl (xj ((?_:cC _ _ (ask>>=_) _ _ s)));refine ay (eW (BO (iY (λb=> ?_) λb=> ?_)))
 .first
   |exact ay (aO (aO (jb rfl c)))
   |exact aO (jb rfl c)
 .first
   |exact ay (pO (ay (bG (ay (aV h (λa s' h'=>aO (jb rfl h')) λb b x=>x)))))
   |(refine ay (pO ?_);show cC _ _ (standAt iter.pos>>=_) _ _ s;exact ay (bG (ay (aV h (λa s' h'=>aO (jb rfl h')) λb b x=>x))))
theorem zk {kx vx target iter ifs rest scope pos it acc env}
 (c:codeN (model prog w) A (.compLoop (.DictComp kx vx (⟨target,iter,ifs,0⟩::rest) scope pos) 0 it acc env) R s)
 (h:cC (model prog w) A (pyIter it) (λa s'=>codeN (model prog w) A (.compLoop (.DictComp kx vx (⟨target,iter,ifs,0⟩::rest) scope pos) 0 a acc env) R s') (λb b=>False) s):
 codeN (model prog w) A (.compStart (.DictComp kx vx (⟨target,iter,ifs,0⟩::rest) scope pos) 0 it acc env) R s:=by
 refine dP rfl (xj ((?_:cC _ A (ask>>=_) _ _ s)));refine ay (eW (BO (iY (λb=> ?_) λb=> ?_)))
 .first
   |exact ay (aO (aO (jb rfl c)))
   |exact aO (jb rfl c)
 .first
   |exact ay (pO (ay (bG (ay (aV h (λa s' h'=>aO (jb rfl h')) λb b x=>x)))))
   |(refine ay (pO ?_);show cC _ _ (standAt iter.pos>>=_) _ _ s;exact ay (bG (ay (aV h (λa s' h'=>aO (jb rfl h')) λb b x=>x))))
end
noncomputable abbrev yd (ifs:List Expr) (env:dj):Sem Bool:=forIn ifs H λc r=>if r=H then do let ok<-isTrue c env (eval c env);pure (dK ok) else pure (dK r)
def n8 (X:dw) (r:Ap) (n b:Nat) (ns:List (Str×aM)) (t:XT) (xs:List Expr):Prop:=
 ∀A,fQ n b A->∀env ρ w h s,St X w h s->eZ X env ns ρ w h.n s->∀k res,t.f r ρ h k=O res->∀Q:Bool->Shared->Prop,sX X w h.n s k res Q->cC (model X.prog X.w) A (yd xs env) Q (λu_ u_=>False) s
def AK (X:dw) (r:Ap) (n b:Nat) (ns:List (Str×aM)) (tp:Bool) (xi:XI) (x:Expr):Prop:=
 ∀A,fQ n b A->∀env ρ w h s,St X w h s->eZ X env ns ρ w h.n s->∀k res,xi.f r ρ h k=O res->∀Q:Value->Shared->Prop,
  (∀w' h' s' (S:Addr->Prop) iv it,St X w' h' s'->Ext X cT w h.n s w' h'.n s'->As X s'.heap w' h'.n S iv it->(∀b,S b->s.heap.objs.size<=b)->(it.t=0\/tp=H)->(it.t=1->∃o,h'.l.get it.n=O o/\o.t=5)->k it h'=O res->Q iv s')->
  cC (model X.prog X.w) A (eval x env) (λxv s1=>cC (model X.prog X.w) A (pyIter xv) Q (λu_ u_=>False) s1) (λu_ u_=>False) s
def sZ (X:dw) (r:Ap) (n b:Nat) (ns:List (Str×aM)) (T:aeu->Prop) (use:V->Env->M V) (emit:Value->dj->Sem Unit):Prop:=
 ∀A,fQ n b A->∀env ρ w h s,St X w h s->eZ X env ns ρ w h.n s->∀ai,ai<h.n->∀k res,use (bQ ai) ρ h k=O res->∀Q:Unit->Shared->Prop,
  (∀w' h' s' v,St X w' h' s'->Ext X cT w h.n s w' h'.n s'->k v h'=O res->Q () s')->cC (model X.prog X.w) A (emit (.ref (w.ρ ai)) env) Q (λu_ u_=>False) s
section
variable {X:dw} {K:Frag} {r:Ap} {n b:Nat} {ns:List (Str×aM)} {w:Wd} {h:aev} {s:Shared} {env:dj} {ρ:Env}
theorem n8.nil:n8 X r n b ns jh []:=λA d env ρ w h s a he k res e Q c=>aO (c w h s H a .refl e)
theorem DR {M} {env}:∀{xs:List Expr} {s},Q aj s->cC M A (forIn xs aj λc r=>if r=H then do let ok<-isTrue c env (eval c env);pure (dK ok) else pure (dK r)) Q E s:=by
 intro xs
 induction xs with
 |nil=>
  intro s q;exact aO q
 |cons x xs a=>
  intro s q;exact U (dO ..) (ay (aO (a q)))
theorem n8.cons (hx:j4 X r n b ns t x) (d:n8 X r n b ns u xs):n8 X r n b ns (Rv t u) (x::xs):=by
 intro A g env ρ w h s o he k res e Q i;unfold yd;refine U (dO ..) (U (if_pos rfl) (ay (ay (hx A g env ρ w h s o he _ res e _ λj h1 l c a f m=>aO ?_))))
 induction c using zB with
 |true=>exact d A g env ρ j h1 l a (he.ext f) k res m Q (i.ext f)
 |false=>exact DR (i j h1 l aj a f m)
theorem sZ.list (B:bu X) (hx:cN X r n b ns elt x):sZ X r n b ns (λm=>True) (pN elt r) (λacc env=>do let _<-call (.builtin "list.append") [acc,<-eval x env]):=by
 intro A C env ρ w h s D he g i k res e Q E;refine ay (hx A C env ρ w h s D he _ res e _ λp h1 j u y c q hu a=>(dF (dg a) λo a m t=>aC (dH a) λa F=>aC (dH a) λa hz=> ?_));have hz:=nY hz
 induction ((c.rep _ o t).2) using Mine.Rep.casesOn with
 |list xs items ep G l hn d=>
  have hl:j.heap.IsList (p.ρ g) items:=gf _ l rfl _ rfl;have hz:(app xs [u]).length<=1000000:=hz;rw [mL] at a hz;refine cL (q.ρ g i) (eW (au (bH slot_list_append hl.typeIs entry_list_append ?_ (args_list_append _ _))));refine(?_:wpAny _ _ (updateSeq (p.ρ g) (·.push y)>>=λm=>ret .none) _ _ j);refine au (ly l rfl (av (bV .none rfl (av ?_))));have f:=d.length;simp only [aN] at f;have v:=c.turn B t (eS (·.push y)) j.toks (o':=bK (xs++[u])) (λz I=> .list _ (items.push y) _ I (bD _ l rfl) (by simp at hz⊢;lia) (U pH ((d.mono z).append (.cons _ _ _ _ (hu.mono z) .nil)))) (aX rfl);exact E _ _ _ _ v.1 (q.trans v.2) a
 |_=>exact nn (aH F) rfl
theorem sZ.dict (F:bu X) (p:Pos) (hx:cN X r n b ns a x) (hy:cN X r n b ns c y):sZ X r n b ns (λG=>True) (VP a c r) (λacc env=>match acc with
 | .ref D=>do
  let i<-eval x env;let B<-holding [i] (eval y env)
  standAt {x.pos with endLine:=y.pos.endLine,endCol:=y.pos.endCol}
  holding [i,B] (dictSet D i B)
 |_=>pure ()):=by
 intro A j env ρ w h s I he J l k res e Q L;refine ay (hx A j env ρ w h s I he _ res e _ λM h1 P u z m q hu R=>(ay (bg (hy A j env ρ M h1 P m (he.ext q) _ res R _ λw2 h2 s2 v z2 g t hv f=>(ay (bG (bg (eW (dF (dg f) λo f G C=>aC (dH f) λf S=> ?_)))))))))
 induction ((g.rep _ o C).2) using Mine.Rep.casesOn with
 |dict V es ep hr hg hn hd cc E=>
  exact aK (bB f) λd f e3=>aC (dH f) λf hz=>cL ((q.trans t).ρ J l) (Fo F g C (hu.mono t.dX) hv e3 (ru hz) (j.c (k:=0) rfl) λs' a c=>L _ _ _ _ a ((q.trans t).trans c) f)
 |_=>exact nn (aH S) rfl
noncomputable def turnT (iter:Expr) (iv:Value) (target:Expr) (ifs:List Expr) (emit:Sem Unit) (next:Sem Fin) (env:dj):Sem Fin:=do
 standAt iter.pos
 match<-pyNext iv with
 |none=>pure (.done .next)
 |some v=>
  letOwnedTupleGo target iv v
  assign target env v
  let mut ok:=H
  for c in ifs do
   if ok then ok<-isTrue c env (eval c env)
  if ok then emit
  next
theorem La {M} {next}
 (h:cC M A (pyNext iv) (λo c=>match o with
  |none=>Q (.done .next) c
  |some v=>cC M A (letOwnedTupleGo target iv v) (λa e=>cC M A (assign target env v) (λa f=>cC M A (yd ifs env) (λok d=>
   if ok=H then cC M A emit (λa i=>cC M A next Q E i) E d else cC M A next Q E d) E f) E e) E c) E s):cC M A (turnT iter iv target ifs emit next env) Q E s:=by
 refine ay (bG (ay (aV h (λo c h1=> ?_) λa a x=>x)))
 induction o using zO with
 |none=>exact aO h1
 |some v=>
  refine ay (aV h1 (λa e h2=>ay (aV h2 (λa f j=>ay (aV j (λok d g=> ?_) λa a x=>x)) λa a x=>x)) λa a x=>x)
  induction ok using zB with
  |false=>exact g
  |true=>exact ay (aV g (λa a q=>q) λa a x=>x)
theorem rA {M} {E} {Q:α->Shared->Prop} (h:cC M A t Q (λa a=>False) s):cC M A t Q E s:=aV h (λa a q=>q) λa a f=>f.elim
theorem eZ.Wo (e:eZ X env ns ρ w n s) (x:Ext X F w n s w' n' s') (hF:∀a o,F a->s.heap.get? a=O o->ef o=aj) (hl:¬F env.locals) (A:∀c l,s.heap.IsCell c l->¬F c):eZ X env ns ρ w' n' s':=by
 have k:=x.keep hF;have d:∀a,¬F a->w.role a=aq->a∉X.tabs->∀o,s.heap.get? a=O o->s'.heap.get? a=O o:=λa B h1 h2 o f=>x.old a o h1 h2 B f;refine aK e.loc λm hv hm=> ?_;have u:=e.DC;refine⟨e.fn,e.glob,e.blt,e.kind,e.cls,e.GB,(bV m (uL hm (d _ hl u.1 u.2.2)) (λy v h1 h2 f=> ?_)),⟨(x.role _ hm.lt).trans u.1,u.2⟩,λy h1 h2=> ?_,λy v c h1 h2 f p=> ?_,λy v c h1 h2 f p=> ?_,e.apart,e.locs,e.outs,e.N8⟩
 .refine dN (hv y v h1 h2 f) λz hz q=> ?_;exact bV z hz (q.mono k)
 .exact HJ (e.cell y h1 h2) λc l t i a3 j g=>lX c l t ((x.role _ g.lt).trans i) a3 j (ig g (d _ (A _ _ g) i j))
 .refine aK (e.wZ y v c h1 h2 f p) λz q hz=>HJ (e.cell y h1 (.inl h2)) λc' l t i a3 j g=> ?_;injection p.symm.trans t with hq;subst hq
  exact bV z (ig hz (d _ (A _ _ g) i j)) (q.mono k)
 .refine aK (e.w9 y v c h1 h2 f p) λz q hz=>HJ (e.cell y h1 (.inr h2)) λc' l t i a3 j g=> ?_;injection p.symm.trans t with hq;subst hq
  exact bV z (ig hz (d _ (A _ _ g) i j)) (q.mono k)
theorem eZ.iter (e:eZ X env ns ρ w n s) (i:As X s.heap w n S iv a) (x:Ext X S w n s w' n' s'):eZ X env ns ρ w' n' s':=by
 refine e.Wo x i.is.fixed (λd=> ?_) λc k g d=> ?_
 .exact i.frame e _ d (.inl rfl)
 .refine HG (i.is.K8 c d) λo vs h1 h2=>dN g λo' j f=> ?_;injection h1.symm.trans j with hq;subst hq
  rw [h2] at f;injection f
theorem DS (ax:bu X) (M:10<=X.h₀.objs.size) (htab:∀a∈X.tabs,a<X.h₀.objs.size) (hA:fQ n b A) (ht:rq X r n b ns tgt target) (hif:n8 X r n b ns Ia ifs) (hu:sZ X r n b ns T use emit)
 (P:∀g,compTurn ex 0 g (.ref D) cenv=turnT iter g target ifs (emit (.ref D) cenv) (again (.compLoop ex 0 g (.ref D) cenv)) cenv)
 (Zr:∀g,(model X.prog X.w).den (.compLoop ex 0 g (.ref D) cenv)=(compTurn ex 0 g (.ref D) cenv).onRaise (λx=>do wO x cenv;oX x)) (p:∀g,A.under (.compLoop ex 0 g (.ref D) cenv)=A) (u:∀g,(Code.compLoop ex 0 g (.ref D) cenv).quiet=H) (z:∀y,aZ y ns≠O .cell) {s₀:Shared} (hC:s₀.heap.objs.size<=cenv.locals)
 (i:∀l h' B s',St X l h' s'->eZ X cenv ns B l h'.n s'->Ext X cT w₀ n₀ s₀ l h'.n s'->ai<h'.n->l.ρ ai=D->kk h'=O res->R (.ok .next) s'):
 ∀m J ρ w h s S g,St X w h s->eZ X cenv ns ρ w h.n s->As X s.heap w h.n S g J->(∀b,S b->s₀.heap.objs.size<=b)->(J.t=0\/iP target=H)->Ext X cT w₀ n₀ s₀ w h.n s->ai<h.n->w.ρ ai=D->
  turns r tgt Ia (use (bQ ai)) kk m J ρ h=O res->codeN (model X.prog X.w) A (.compLoop ex 0 g (.ref D) cenv) R s:=by
 intro m
 induction m with
 |zero=>intro _ _ _ _ _ _ _ _ _ _ _ _ _ _ _ e;exact fn e
 |succ m ih=>
  intro J ρ w h s S g hs he hi hS hp x C hD e;refine dP rfl (U (p g) (U (Zr g) (rZ (U (P g) (rA (La ?_))))));have e:vW J h kk (λv J h=>tgt.f r ρ v h λρ h=>Ia.f r ρ h λb h=>af (turns r tgt Ia (use (bQ ai)) kk m J ρ h) (use (bQ ai) ρ h λd h=>turns r tgt Ia (use (bQ ai)) kk m J ρ h) b)=O res:=e;have hSx:∀a,S a->cT a\/s₀.heap.objs.size<=a:=λa ha=> .inr (hS a ha);have hFx:∀a,AI cenv ns a->cT a\/s₀.heap.objs.size<=a:=λa ha=>by
   rcases ha with rfl|⟨y,_,h2,_⟩
   .exact .inr hC
   .exact absurd h2 (z _)
  have go:∀{F B l h' s'},St X l h' s'->eZ X cenv ns B l h'.n s'->As X s'.heap l h'.n S g F->(F.t=0\/iP target=H)->Ext X cT w₀ n₀ s₀ l h'.n s'->ai<h'.n->l.ρ ai=D->turns r tgt Ia (use (bQ ai)) kk m F B h'=O res->
   cC (model X.prog X.w) A (again (.compLoop ex 0 g (.ref D) cenv)) (λi s'=>match i with| .done f=>R (.ok f) s'| .again c'=>c'.quiet=H/\codeN (model X.prog X.w) A c' R s') (λd d=>False) s':=
   λa1 a2 a3 a4 a5 a6 a7 a8=>aO ⟨u g,ih _ _ _ _ _ S g a1 a2 a3 hS a4 a5 a6 a7 a8⟩
  refine aV (eW<|Be ax M htab hs hA.handled hi hp e (E:=λd d=>False) (Q:=λo s1=>match o with
   |none=>R (.ok .next) s1
   |some v=>cC (model X.prog X.w) A (assign target cenv v) (λd s3=>cC (model X.prog X.w) A (yd ifs cenv) (λok s4=>
    if ok=H then cC (model X.prog X.w) A (emit (.ref D) cenv) (λd s5=>cC (model X.prog X.w) A (again (.compLoop ex 0 g (.ref D) cenv)) (λi s'=>match i with| .done f=>R (.ok f) s'| .again c'=>c'.quiet=H/\codeN (model X.prog X.w) A c' R s') (λd d=>False) s5) (λd d=>False) s4
    else cC (model X.prog X.w) A (again (.compLoop ex 0 g (.ref D) cenv)) (λi s'=>match i with| .done f=>R (.ok f) s'| .again c'=>c'.quiet=H/\codeN (model X.prog X.w) A c' R s') (λd d=>False) s4) (λd d=>False) s3) (λd d=>False) s1)
   (λh' s' V k x' ek=> ?_) (λh' s' v y F V k x' hv hi' RL ek=> ?_)) (λo s1 q=> ?_) λd d f=>f
  .exact i w h' ρ s' V (k▸he.iter hi x') (k▸x.nZ x' hSx) (k▸C) hD ek
  .have G:=he.iter hi x';have x1:=x.nZ x' hSx;rw [<-k] at G x1 hv hi' C;refine ht A hA cenv ρ w h' s' V G v y hv _ res ek _ λVj w2 h2 s2 hs2 Vi x2 e2=> ?_;have x3:=x1.nZ x2 hFx;have L:=aR C x2.oE;refine hif A hA cenv Vj w2 h2 s2 hs2 Vi _ res e2 _ λw3 h3 s3 c JD x4 e3=> ?_;have Wq:=Vi.ext x4;have Wr:=(hi'.ext x2 (AI.fixed G) (λb hb=>hi'.frame G b hb)).ext x4 (λd d f=>f.elim) (λd d f=>f);have j:=aR L x4.oE;have I:=(x4.ρ ai L).trans ((x2.ρ ai C).trans hD)
   induction c using zB with
   |false=>exact go JD Wq Wr RL (x3.trans x4) j I e3
   |true=>
    exact U (if_pos rfl) (cL I (hu A hA cenv Vj w3 h3 s3 JD Wq ai j _ res e3 _ λw4 h4 s4 v4 Vh x5 e4=>U I (go Vh (Wq.ext x5) (Wr.ext x5 (λd d f=>f.elim) (λd d f=>f)) RL ((x3.trans x4).trans x5) (aR j x5.oE) ((x5.ρ ai j).trans I) e4)))
  .induction o using zO with
   |none=>exact q
   |some v=>exact eW q
end
section
variable {X:dw} {K:Frag} {r:Ap} {n b:Nat} {ns:List (Str×aM)} {w:Wd} {h:aev} {s:Shared} {env:dj} {ρ:Env}
theorem As.self {m:Nat} (v:St X w h s) (i:As X s.heap w h.n S iv a) (hl:a.t=1->∃o,h.l.get a.n=O o/\o.t=5) (q:Q iv s):wpAny (model prog ww) A (pyIter iv) Q E s:=by
 have y:=i.is;clear i
 induction y using Mine.GO.casesOn with
 |one z a g B=>
  induction B using Mine.SrcR.casesOn with
  |tup t items ep i p ht C d xs f=>exact wpAny_pyIter_tupleiter d q
  |range x c xs hv d=>exact wpAny_pyIter_rangeiter d q
  |Cn x t i d=>exact wpAny_pyIter_striter_ascii d q
  |Co x t i d=>exact wpAny_pyIter_striter_wide d q
  |bytes b t i d=>exact KBw.pyIter_self d q
  |list j k u d=>exact wpAny_pyIter_listiter d q
  |keys j m k c u d=>exact wpAny_pyIter_keyiter d q
 |zip i hi g=>
  refine dN (hl rfl) λo F G=> ?_
  induction ((v.rep i o F).2) using Mine.Rep.casesOn with
  |zip J L M P R V i1 i2 a b p r1 r2 r3 r4 D u hz h1 h2 h3 h4=>exact wpAny_pyIter_zip hz q
  |_=>exact nn G rfl
 |enum e z m old t items ep xs g I he p ht C d f=>exact wpAny_pyIter_enum he q
structure uT (X:dw) (ex target iter:Expr) (ifs:List Expr) (emit:Value->dj->Sem Unit):Prop where
 cl:clausesOf ex=[⟨target,iter,ifs,0⟩]
 under:∀(A:Around) iv D cenv,A.under (.compLoop ex 0 iv (.ref D) cenv)=A
 den:∀iv D cenv,(model X.prog X.w).den (.compLoop ex 0 iv (.ref D) cenv)=(compTurn ex 0 iv (.ref D) cenv).onRaise (λx=>do wO x cenv;oX x)
 quiet:∀iv D cenv,(Code.compLoop ex 0 iv (.ref D) cenv).quiet=H
 turn:∀iv D cenv,compTurn ex 0 iv (.ref D) cenv=turnT iter iv target ifs (emit (.ref D) cenv) (again (.compLoop ex 0 iv (.ref D) cenv)) cenv
 start:∀{A:Around} {iv:Value} {D:Addr} {cenv:dj} {R:Result->Shared->Prop} {s:Shared},codeN (model X.prog X.w) A (.compLoop ex 0 iv (.ref D) cenv) R s->
  cC (model X.prog X.w) A (pyIter iv) (λit' s'=>codeN (model X.prog X.w) A (.compLoop ex 0 it' (.ref D) cenv) R s') (λu_ u_=>False) s->codeN (model X.prog X.w) A (.compStart ex 0 iv (.ref D) cenv) R s
theorem uT.list (elt target iter) ifs sc pos:uT X (.ListComp elt [⟨target,iter,ifs,0⟩] sc pos) target iter ifs (λacc env=>do let _<-call (.builtin "list.append") [acc,<-eval elt env]) where
 cl:=rfl
 under:=λA a a a=>Around.under_of_weight (A:=A) rfl
 den:=λa a a=>rfl
 quiet:=λa a a=>rfl
 turn:=λa a a=>rfl
 start:=zj
theorem uT.dict (x y target iter) ifs sc pos:uT X (.DictComp x y [⟨target,iter,ifs,0⟩] sc pos) target iter ifs (λacc env=>match acc with
 | .ref D=>do
  let d<-eval x env;let e<-holding [d] (eval y env)
  standAt {x.pos with endLine:=y.pos.endLine,endCol:=y.pos.endCol}
  holding [d,e] (dictSet D d e)
 |_=>pure ()) where
 cl:=rfl
 under:=λA c c c=>Around.under_of_weight (A:=A) rfl
 den:=λc c c=>rfl
 quiet:=λc c c=>rfl
 turn:=λc c c=>rfl
 start:=zk
def uU (X:dw) (o:aeu) (t:Sem Value):Prop:=∀{A:Around} {w:Wd} {h:aev} {s:Shared} {Q:Value->Shared->Prop} {E:Value->Shared->Prop},St X w h s->
 (∀w' s',St X w' ⟨HT.ins o h.l h.n,h.n+1⟩ s'->Ext X cT w h.n s w' (h.n+1) s'->w'.ρ h.n=s.heap.objs.size->s'.heap.objs.size=s.heap.objs.size+1->Q (.ref s.heap.objs.size) s')->wpAny (model X.prog X.w) A t Q E s
theorem uU.list (e:bu X):uU X (bK []) (newList []):=by
 intro A w h s Q E f g;refine dZ ?_ (by show(0:Nat)<=jr;exact iB _);exact jB (f.newList e (xs:=[]) (ys:=[]) .nil (by simp) s.toks) λi a c d=>g i _ a c d (bI ..)
theorem uU.dict (f:bu X):uU X (d7 [] 0) newDict:=by
 intro A w h s Q E g i;exact au (wpAny_alloc (av (jB (g.push f (cH #[] 0) (d7 [] 0) s.toks rfl 0 λe k h1 h2 j=> .dict [] #[] 0 h1 h2 (of_decide_eq_true rfl) ⟨.nil,⟨0,λp hp=>(aU hp).elim⟩,iI⟩ 0 (U j rfl)) λe a c d=>i e _ a c d (bI ..))))
theorem yf (ax:bu X) (hbase:10<=X.h₀.objs.size) (htab:∀a∈X.tabs,a<X.h₀.objs.size) (hc:DP ns sc) (Zs:kQ iter=aj) (hI:AK X r n b ns tp xi iter) (ht:rq X r n b sc.names tgt target) (htp:tp=H->iP target=H)
 (hif:n8 X r n b sc.names Ia ifs) (hu:sZ X r n b sc.names T use emit) (cx:uT X ex target iter ifs emit) (hn:uU X o newAcc)
 (hA:fQ n b A) (hs:St X w h s) (he:eZ X env ns ρ w h.n s) {k:V->aev->Option Res}
 (e:xi.f r ρ h (λit h=>new o h λacc h=>turns r tgt Ia (use acc) (k acc) 2000 it (compEnv ρ) h)=O res) pos
 (fin:∀C w' h' s' ai,St X w' h' s'->Ext X cT w h.n s w' h'.n s'->ai<h'.n->s.heap.objs.size<=C->w'.role C=aq->X.h₀.objs.size<=C->C∉X.tabs->(∃m,s'.heap.Ns C m)->k (bQ ai) h'=O res->wu (model X.prog X.w) A Bf Q (.ref (w'.ρ ai)) C (.ok .next) s'):
 cC (model X.prog X.w) A (comprehension ex sc env pos newAcc aj (eval iter env) Bf) Q (λu_ u_=>False) s:=by
 refine cG (zg he hc.frees) λcl c3 c1 c2=> ?_;have hcell:∀x∈sc.names,x.2≠.cell:=λp hp q=>by
  rcases(hc.frees p hp).2 with⟨h,_⟩|h|h<;>rw [q] at h<;>injection h
 have S7:∀y,aZ y sc.names≠O .cell:=λy e=>by
  exact jB (lP e) λp hp u_ e2=>hcell p hp e2
 refine zh cx.cl (λx=> ?_) c1 hc.fn (λx hx hl=> ?_) (hI A hA env ρ w h s hs he _ res e _ λw1 h1 s1 S iv it hs1 x1 hi1 hS1 hp1 hz1 e1=> ?_)
 .rcases iter<;>first|rfl|exact ft Zs
 .have:=j6 (λp hp=>(hc.frees p hp).1) (hc.frees x hx).1 (H9 hc.uniq hx);exact U this (U hl rfl)
 refine aC (dH e1) λe1 hle=>eW<|hn hs1 λw2 s2 hs2 x2 Zt hsz=>eW<|wpAny_newFunctionEnv hcell (by intro y hy;simp at hy) (λh' hns hsb=> ?_) hc.fn
 refine aC (hs2.i9 ax (h':=h') (tk:=s2.toks+([]:List (Str×Value)).length) (U hsb.1 (U (bI ..) (gW _))) λa ob e=>hsb.extBut a ob (cg (bh e)) (az _ e)) λx3 JD=> ?_;have hCt:s2.heap.objs.size∉X.tabs:=λhm=>absurd (htab _ hm) (bC.mpr hs2.size);have Wr:=(hi1.ext x2 (λu_ u_ f=>f.elim) (λu_ u_ f=>f)).ext x3 (λu_ u_ f=>f.elim) (λu_ u_ f=>f);have hlt:=aI x1.size x2.size;have loop:∀R,(∀w' h'' s',St X w' h'' s'->Ext X cT w h.n s w' h''.n s'->h1.n<h''.n->w'.ρ h1.n=s1.heap.objs.size->(w'.role s2.heap.objs.size=aq/\∃m,s'.heap.Ns s2.heap.objs.size m)->k (bQ h1.n) h''=O res->R (.ok .next) s')->
  codeN (model X.prog X.w) A (.compLoop ex 0 iv (.ref s1.heap.objs.size) (compEnvC sc cl s2.heap.objs.size env)) R {s2 with heap:=h',toks:=s2.toks+([]:List (Str×Value)).length}:=λR hR=>by
  refine DS ax hbase htab hA ht hif hu (λiv=>cx.turn iv _ _) (λiv=>cx.den iv _ _) (λiv=>cx.under A iv _ _) (λiv=>cx.quiet iv _ _) S7 (w₀:=w) (n₀:=h.n) (s₀:=s) (cenv:=compEnvC sc cl s2.heap.objs.size env) hlt (λw' h'' ρ' s' a1 a2 a3 a4 a5 a6=> ?_) 2000 it (compEnv ρ) w2 _ _ S iv JD ((eZ.ext (he.ext (x1.trans x2)) x3).comp hc c2 c3 hns (l9 hs2 (br _)) hs2.size hCt) Wr hS1 (hp1.imp id htp) ((x1.trans x2).trans x3) (bM _) Zt e1;exact aK a2.loc λm' u_ hm'=>hR w' h'' s' a1 a3 a4 a5 ⟨a2.DC.1,m',hm'⟩ a6
 have key:=loop (wu (model X.prog X.w) A Bf Q (.ref s1.heap.objs.size) s2.heap.objs.size) λw' h'' s' a1 a2 a3 a4 a5 a6=>by
  have:=fin s2.heap.objs.size w' h'' s' h1.n a1 a2 a3 hlt a5.1 hs2.size hCt a5.2 a6;rw [a4] at this;exact this
 refine cx.start key (eW<|Wr.self (m:=0) JD (λZu=> ?_) key);exact dN (hz1 Zu) λoz g1 g2=>bV oz (HT.v7 _ (cg (hs1.rep _ oz g1).1) g1) g2
end
section
variable {X:dw} {K:Frag} {r:Ap} {n b:Nat} {ns:List (Str×aM)} {w:Wd} {h:aev} {s:Shared} {env:dj} {ρ:Env}
theorem St.gone (d:bu X) (f:St X w h s) (g:w.role C=aq) (hb:X.h₀.objs.size<=C) (hm:s.heap.Ns C m) (c:gk C s.heap h'):St X w h {s with heap:=h'}/\Ext X (λa=>a=C) w h.n s w h.n {s with heap:=h'}/\o9 X s.heap w h.n h' w h.n:=
 f.iter d g hb (λo e=>uS hm e) (tk:=s.toks) (cV c.1.symm) c.extBut
def OA (X:dw) (r:Ap) (n b:Nat) (ns:List (Str×aM)) (e:XE) (x:Expr):Prop:=
 ∀A,fQ n b A->∀env ρ w h s,St X w h s->eZ X env ns ρ w h.n s->∀k res,e.f r ρ h k=O res->∀(Q:Unit->Shared->Prop) (use:Value->Sem Unit),
  (∀C w' h' s' v y,St X w' h' s'->Ext X cT w h.n s w' h'.n s'->VR X s'.heap w' h'.n v y->s.heap.objs.size<=C->w'.role C=aq->X.h₀.objs.size<=C->C∉X.tabs->(∃m,s'.heap.Ns C m)->k v h'=O res->
   cC (model X.prog X.w) A (use y) (λu_ s''=>∃m,s''.heap.Ns C m/\∀h',gk C s''.heap h'->Q () {s'' with heap:=h'}) (λu_ u_=>False) s')->cC (model X.prog X.w) A (evalThenUse x env use) Q (λu_ u_=>False) s
theorem cN.comp (i:bu X) (c:10<=X.h₀.objs.size) (d:∀a∈X.tabs,a<X.h₀.objs.size) (P:DP ns sc) (g:kQ iter=aj) (R:AK X r n b ns tp xi iter) (ht:rq X r n b sc.names tgt target) (l:tp=H->iP target=H)
 (o:n8 X r n b sc.names Ia ifs) (he:cN X r n b sc.names elt el) pos:
 cN X r n b ns (yN elt tgt xi Ia) (.ListComp el [⟨target,iter,ifs,0⟩] sc pos)/\OA X r n b ns (yN elt tgt xi Ia) (.ListComp el [⟨target,iter,ifs,0⟩] sc pos):=by
 refine⟨λA t env ρ w h s u j k res e Q V=> ?_,λA t env ρ w h s u j k res e Q p hU=> ?_⟩
 .refine(?_:cC _ _ (comprehension (.ListComp el [⟨target,iter,ifs,0⟩] sc pos) sc env (firstIterPos [⟨target,iter,ifs,0⟩] pos) (newList []) aj (eval iter env)) _ _ s);exact yf i c d P g R ht l o (sZ.list i he) (uT.list _ _ _ _ _ _) (uU.list i) t u j e _ (Bf:=aq) λC v h' s' x y z a3 B D E S F G=>fF F λm hm=>bV m hm (λh'' I=>(fh (y.gone i D E hm I) λJ L q3=>V v h' _ _ _ L (z.nZ J λa ha=> .inr (ha▸B)) ((VR.ref x a3).mono q3) G))
 .refine(?_:cC _ _ (comprehension (.ListComp el [⟨target,iter,ifs,0⟩] sc pos) sc env (firstIterPos [⟨target,iter,ifs,0⟩] pos) (newList []) aj (eval iter env) (O p)>>=λM=>pure ()) _ _ s);refine ay (yf i c d P g R ht l o (sZ.list i he) (uT.list _ _ _ _ _ _) (uU.list i) t u j e _ (Bf:=O p) λC v h' s' x y z a3 B D E S F G=>(aV (hU C v h' s' _ _ y z (VR.ref x a3) B D E S F G) (λM s'' q=> ?_) λM M f=>f));exact aK q λm J L=>bV m L (λh' I=>aO (J h' I))
theorem cN.Ws (i:bu X) (c:10<=X.h₀.objs.size) (d:∀a∈X.tabs,a<X.h₀.objs.size) (P:DP ns sc) (g:kQ iter=aj) (R:AK X r n b ns tp xi iter) (ht:rq X r n b sc.names tgt target) (l:tp=H->iP target=H)
 (o:n8 X r n b sc.names Ia ifs) (hk:cN X r n b sc.names ka kx) (hv:cN X r n b sc.names va vx) pos:
 cN X r n b ns (EY ka va tgt xi Ia) (.DictComp kx vx [⟨target,iter,ifs,0⟩] sc pos)/\OA X r n b ns (EY ka va tgt xi Ia) (.DictComp kx vx [⟨target,iter,ifs,0⟩] sc pos):=by
 refine⟨λA t env ρ w h s u j k res e Q V=> ?_,λA t env ρ w h s u j k res e Q p hU=> ?_⟩
 .refine(?_:cC _ _ (comprehension (.DictComp kx vx [⟨target,iter,ifs,0⟩] sc pos) sc env (firstIterPos [⟨target,iter,ifs,0⟩] pos) newDict aj (eval iter env)) _ _ s);exact yf i c d P g R ht l o (sZ.dict i pos hk hv) (uT.dict _ _ _ _ _ _ _) (uU.dict i) t u j e _ (Bf:=aq) λC v h' s' x y z a3 B D E S F G=>fF F λm hm=>bV m hm (λh'' I=>(fh (y.gone i D E hm I) λJ L q3=>V v h' _ _ _ L (z.nZ J λa ha=> .inr (ha▸B)) ((VR.ref x a3).mono q3) G))
 .refine(?_:cC _ _ (comprehension (.DictComp kx vx [⟨target,iter,ifs,0⟩] sc pos) sc env (firstIterPos [⟨target,iter,ifs,0⟩] pos) newDict aj (eval iter env) (O p)>>=λM=>pure ()) _ _ s);refine ay (yf i c d P g R ht l o (sZ.dict i pos hk hv) (uT.dict _ _ _ _ _ _ _) (uU.dict i) t u j e _ (Bf:=O p) λC v h' s' x y z a3 B D E S F G=>(aV (hU C v h' s' _ _ y z (VR.ref x a3) B D E S F G) (λM s'' q=> ?_) λM M f=>f));exact aK q λm J L=>bV m L (λh' I=>aO (J h' I))
structure zl (X:dw) (env:dj) (ns:List (Str×aM)) (w:Wd) (m:Nat) (s:Shared) (kn:Env->aev->Option Res) (kr:V->aev->Option Res) (res:Res) (Q:Flow->Shared->Prop):Prop where
 next:∀ρ' w' h' s',St X w' h' s'->eZ X env ns ρ' w' h'.n s'->Ext X (AI env ns) w m s w' h'.n s'->kn ρ' h'=O res->Q .next s'
 ret:∀w' h' s' v y,St X w' h' s'->Ext X (AI env ns) w m s w' h'.n s'->VR X s'.heap w' h'.n v y->kr v h'=O res->Q (.ret y) s'
def jW (X:dw) (r:Ap) (n b:Nat) (ns:List (Str×aM)) (st:XS) (x:Stmt):Prop:=
 ∀A,fQ n b A->∀env ρ w h s,St X w h s->eZ X env ns ρ w h.n s->∀kn kr res,st.f r ρ h kn kr=O res->∀Q:Flow->Shared->Prop,zl X env ns w h.n s kn kr res Q->cC (model X.prog X.w) A (exec x env) Q (λu_ u_=>False) s
def ja (X:dw) (r:Ap) (n b:Nat) (ns:List (Str×aM)) (st:XS) (xs:List Stmt):Prop:=
 ∀A,fQ n b A->∀env ρ w h s,St X w h s->eZ X env ns ρ w h.n s->∀kn kr res,st.f r ρ h kn kr=O res->∀Q:Flow->Shared->Prop,zl X env ns w h.n s kn kr res Q->cC (model X.prog X.w) A (execs xs env) Q (λu_ u_=>False) s
theorem zl.ext (g:zl X env ns w m s kn kr res Q) (x:Ext X (AI env ns) w m s w' m' s'):zl X env ns w' m' s' kn kr res Q:=
 ⟨λk f i j a c d e=>g.next k f i j a c (x.trans d) e,λf i j v y a c d e=>g.ret f i j v y a (x.trans c) d e⟩
theorem Ext.none (x:Ext X cT w m s w' m' s'):Ext X F w m s w' m' s':=x.weaken λa h=>h.elim
theorem jW.bad x:jW X r n b ns lq x:=λa a a a a a a a a a a a e=>fn e
theorem ja.nil:ja X r n b ns vZ []:=λA d env ρ w h s a he f g res e Q c=>eW (wpAny_execs_nil (c.next ρ w h s a he .refl e))
theorem ja.cons (hx:jW X r n b ns a x) (f:ja X r n b ns c xs):ja X r n b ns (fB a c) (x::xs):=by
 intro A o env ρ w h s t he u p res e Q q;refine kU (hx A o env ρ w h s t he _ p res e _ ⟨λg i h1 j d k l m=> ?_,λi h1 j v y d l hv m=> ?_⟩)
 .exact f A o env g i h1 j d k u p res m Q (q.ext l)
 .exact q.ret i h1 j v y d l hv m
theorem eZ.Lb (he:eZ X env ns ρ w h.n s):interactive env=false:=by
 unfold interactive;refine U he.fn ?_;rfl
theorem jW.expr pos (g:jx x=aj) (hx:cN X r n b ns a x):jW X r n b ns (Rx a) (.Expr x pos):=by
 intro A i env ρ w h s j he p q res e Q k;have c:swapsWith x aq pos.line env=pure false:=by rcases x<;>first|rfl|exact ft g
 refine Kr (hx A i env ρ w h s j he _ res e _ λl h1 m u y d f hu o=> ?_) he.Lb c;exact k.next ρ l h1 m d (he.ext f) f.none o
theorem jW.ret pos (hx:cN X r n b ns a x):jW X r n b ns (yO a) (.Return (O x) pos):=by
 intro A d env ρ w h s f he o g res e Q i;exact mP (hx A d env ρ w h s f he g res e _ λj h1 k u y c l hu m=>i.ret j h1 k u y c l.none hu m)
theorem jW.Zv pos:jW X r n b ns (yO (xC dc)) (.Return aq pos):=by
 intro A d env ρ w h s a he f g res e Q c;exact eW<|wpAny_Return_none (c.ret w h s _ _ a .refl .none e)
theorem jW.ite pos (ht:j4 X r n b ns t te) (p:ja X r n b ns a xs) (q:ja X r n b ns c ys):jW X r n b ns (Dn t a c) (.If te xs ys pos):=by
 intro A g env ρ w h s u he i j res e Q k;refine SH (ht A g env ρ w h s u he _ res e _ λl h1 m c' d f o=> ?_)
 induction c' using zB with
 |true=>exact p A g env ρ l h1 m d (he.ext f) i j res o Q (k.ext f.none)
 |false=>exact q A g env ρ l h1 m d (he.ext f) i j res o Q (k.ext f.none)
abbrev RQ (Q:Flow->Shared->Prop):Result->Shared->Prop:=λr s'=>match r with| .ok f=>Q f s'| .error _=>False
theorem RQ.to {M} (x:codeN M A c (RQ Q) s):codeN M A c (λr s'=>match r with| .ok f=>Q f s'| .error _=>False) s:=
 iQ x λr s' q=>by induction r using Except.casesOn with|ok f=>exact q|error e=>exact q.elim
theorem Lc (u:fQ n b A) (ht:j4 X r n b ns t te) (hb:ja X r n b ns body xs):
 ∀m ρ w h s,St X w h s->eZ X env ns ρ w h.n s->E1 r t body kn kr m ρ h=O res->zl X env ns w h.n s kn kr res Q->codeN (model X.prog X.w) A (.whileLoop te xs [] env) (RQ Q) s:=by
 intro m
 induction m with
 |zero=>intro _ _ _ _ _ _ e;exact fn e
 |succ m D=>
  intro ρ w h s E he e i;refine dP rfl ?_;show cC _ A ((whileTurn te xs [] env).onRaise (λx=>do wO x env;oX x)) _ _ s;refine rZ (rA ?_);have e:t.f r ρ h (λx h=>af (kn ρ h) (body.f r ρ h (λρ h=>E1 r t body kn kr m ρ h) kr) x)=O res:=e;refine ay (ht A u env ρ w h s E he _ res e _ λz h1 B c d g C=> ?_)
  induction c using zB with
  |false=>
   exact ay (eW<|wpAny_execs_nil (aO (i.next ρ z h1 B d (he.ext g) g.none C)))
  |true=>
   refine ay (hb A u env ρ z h1 B d (he.ext g) _ kr res C _ ⟨λj k h2 l a o p q=> ?_,λk h2 l v y a p hv q=> ?_⟩)
   .exact aO ⟨rfl,D j k h2 l a o q (i.ext (g.none.trans p))⟩
   .exact aO (i.ret k h2 l v y a (g.none.trans p) hv q)
theorem jW.while pos (ht:j4 X r n b ns t te) (hb:ja X r n b ns body xs):jW X r n b ns (JX t body) (.While te xs [] pos):=by
 intro A a env ρ w h s c he f g res e Q d;exact HU (RQ.to (Lc a ht hb 100 ρ w h s c he e d))
theorem S8 (ax:bu X) (i:10<=X.h₀.objs.size) (C:∀a∈X.tabs,a<X.h₀.objs.size) (L:fQ n b A) (ht:rq X r n b ns tgt target) (hb:ja X r n b ns body xs)
 (hQ:zl X env ns w₀ n₀ s₀ kn kr res Q):
 ∀m j ρ w h s S z,St X w h s->eZ X env ns ρ w h.n s->As X s.heap w h.n S z j->(∀b,S b->s₀.heap.objs.size<=b)->(j.t=0\/iP target=H)->Ext X (AI env ns) w₀ n₀ s₀ w h.n s->
  forL r tgt body kn kr m j ρ h=O res->codeN (model X.prog X.w) A (.forLoop target z xs [] env) (RQ Q) s:=by
 intro m
 induction m with
 |zero=>intro _ _ _ _ _ _ _ _ _ _ _ _ _ e;exact fn e
 |succ m ih=>
  intro j ρ w h s S z hs he hi hS hp x e;refine dP rfl ?_;show cC _ A ((forTurn target z xs [] env).onRaise (λx=>do wO x env;oX x)) _ _ s;refine rZ (rA ?_);have e:vW j h (kn ρ) (λv j h=>tgt.f r ρ v h λρ h=>body.f r ρ h (λρ h=>forL r tgt body kn kr m j ρ h) kr)=O res:=e;have D:∀a,S a->AI env ns a\/s₀.heap.objs.size<=a:=λa ha=> .inr (hS a ha);refine ay (bG (ay (j3 (GA (aV (eW<|Be ax i C hs L.handled hi hp e (E:=λc c=>False) (Q:=λo M=>match o with
   |none=>Q .next M
   |some v=>cC (model X.prog X.w) A (assign target env v) (λc B=>cC (model X.prog X.w) A (execs xs env) (λf P=>match f with
    | .next| .cont=>cC (model X.prog X.w) A (again (.forLoop target z xs [] env)) (λR s'=>match R with| .done f=>RQ Q (.ok f) s'| .again c'=>c'.quiet=H/\codeN (model X.prog X.w) A c' (RQ Q) s') (λc c=>False) P
    | .brk=>False
    | .ret v=>Q (.ret v) P) (λc c=>False) B) (λc c=>False) M)
   (λh' s' k d F V=> ?_) (λh' s' v y it' k d F hv l RL V=> ?_)) (λo M q=> ?_) λc c f=>f)))))
  .exact hQ.next ρ w h' s' k (d▸he.iter hi F) (d▸x.nZ F D) V
  .have g:=he.iter hi F;have x1:=x.nZ F D;rw [<-d] at g x1 hv l;refine ht A L env ρ w h' s' k g v y hv _ res V _ λVj w2 h2 s2 hs2 p x2 e2=> ?_;have G:=l.ext x2 (AI.fixed g) (λb hb=>l.frame g b hb);refine hb A L env Vj w2 h2 s2 hs2 p _ kr res e2 _ ⟨λρ3 w3 h3 B u Wq I e3=> ?_,λw3 h3 B v3 y3 u I hv3 e3=> ?_⟩
   .exact aO ⟨rfl,ih it' ρ3 w3 h3 B S z u Wq (G.ext I (AI.fixed p) λb hb=>G.frame p b hb) hS RL ((x1.trans x2).trans I) e3⟩
   .exact hQ.ret w3 h3 B v3 y3 u ((x1.trans x2).trans I) hv3 e3
  .induction o using zO with
   |none=>exact aO ⟨rfl,DB (eW<|wpAny_execs_nil q)⟩
   |some v=>
    refine ay (aV (eW q) (λc s2 q2=>ay (aV q2 (λc B q3=>ay (aV q3 (λf P J=> ?_) λc c f=>f)) λc c f=>f)) λc c f=>f)
    induction f using PySem.Flow.casesOn with
    |next=>exact J
    |cont=>exact J
    |brk=>exact J.elim
    |ret v=>exact aO J
theorem jW.for (p:bu X) (c:10<=X.h₀.objs.size) (d:∀a∈X.tabs,a<X.h₀.objs.size) (f:kQ iter=aj) (q:AK X r n b ns tp xi iter) (ht:rq X r n b ns tgt target) (g:tp=H->iP target=H) pos (hb:ja X r n b ns body xs):
 jW X r n b ns (VU tgt xi body) (.For target iter xs [] pos):=by
 intro A m env ρ w h s t he D E res e Q u;refine N7 (q A m env ρ w h s t he _ res e _ λv h1 y S z B i o j k l F C=>RQ.to ?_) (λx=>by rcases iter<;>first|rfl|exact ft f);exact S8 p c d m ht hb u 2000 B ρ v h1 y S z i (he.ext o) j k (l.imp id g) o.none C
end
section
variable {X:dw} {K:Frag} {r:Ap} {n b:Nat} {ns:List (Str×aM)} {w:Wd} {h:aev} {s:Shared} {env:dj} {ρ:Env}
theorem eZ.congr (he:eZ X env ns ρ w n s) {ρ'} (h1:∀y,find y ρ'.loc=find y ρ.loc) (h2:∀y,find y ρ'.out=find y ρ.out):eZ X env ns ρ' w n s:=by
 refine aK he.loc λm hv hm=> ?_;refine⟨he.fn,he.glob,he.blt,he.kind,he.cls,he.GB,(bV m hm (λx v a b c=>hv x v a b ((h1 _).symm.trans c))),he.DC,he.cell,λx v c a b d e=>he.wZ x v c a b ((h1 _).symm.trans d) e,λx v c a b d e=>he.w9 x v c a b ((h2 _).symm.trans d) e,he.apart,
  λy v e=>he.locs y v ((h1 _).symm.trans e),λy v e=>he.outs y v ((h2 _).symm.trans e),he.N8⟩
theorem DU (l:bu X):∀{xs:List Str} {vs} {ys} {ρ} {s} {Q},(∀x∈xs,aY x=H/\(aZ (nm x) ns=O .local\/aZ (nm x) ns=O .cell))->xs.length=vs.length->eg X s.heap w h.n vs ys->St X w h s->eZ X env ns ρ w h.n s->
 (∀e s',St X w h s'->eZ X env ns e w h.n s'->storeAll (xs.map nm) vs ρ=O e->Ext X (AI env ns) w h.n s w h.n s'->Q () s')->wpAny (model X.prog X.w) A (assignInOrder (xs.map λx=>bindName env x) ys) Q (λk k=>False) s:=by
 intro xs
 induction xs with
 |nil=>
  intro vs ys ρ s Q _ hl hv f he g
  induction vs using zL with
  |nil=>cases hv;exact av (g ρ s f he rfl .refl)
  |cons _ _=>cases hl
 |cons x xs m=>
  intro vs ys ρ s Q hx hl hv f he g;cases hv with
  |nil=>cases hl
  |cons v y vs ys hv i=>
   refine aC (hx x aE) λh2 h1=>(?_:wpAny _ _ (holding ys (bindName env x y)>>=λk=>assignInOrder (xs.map λx=>bindName env x) ys) _ _ s);exact au (bP (wpAny_bindName (zd l f he h1 h2 hv λs' a c d=>(m (λx hm=>hx x (aD _ hm)) (Nat.succ.inj hl) (i.mono (d.keep (AI.fixed he))) a c λe j o c' p q=>g e j o c' p (d.trans q)))))
theorem uV (e:storeAll l vs ρ=O ρ'):ρ'.out=ρ.out:=by
 induction l generalizing vs ρ with
 |nil=>
  induction vs using zL with
  |nil=>exact cL (aF e) rfl
  |cons _ _=>exact fn e
 |cons x l d=>
  refine HG (l7 e) λv us c=> ?_;subst c;intro f;exact d (ρ:=gg ρ x v) f
theorem pC {l:List Nat} {vs:List V} {ρ a:Env} (e:storeAll l vs ρ=O a) (d:l.Nodup) (z:Nat):(z∉l/\find z a.loc=find z ρ.loc)\/∃(i:Nat) (v:V),l[i]? =O z/\vs[i]? =O v/\find z a.loc=O v:=by
 induction l generalizing vs ρ with
 |nil=>
  induction vs using zL with
  |nil=>refine cL (aF e) ?_;exact .inl ⟨by exact aU,rfl⟩
  |cons _ _=>exact fn e
 |cons x l f=>
  refine HG (l7 e) λv us c=> ?_;subst c;intro g;rw [gA] at d;rcases f (ρ:=gg ρ x v) g d.2 with⟨h1,h2⟩|⟨i,u,h1,h2,j⟩
  .have h2:find z a.loc=find z (setIn x v ρ.loc):=h2;rw [jU] at h2;by_cases hz:z=x
   .rw [if_pos hz] at h2;exact .inr (j0 0 v (U hz rfl) rfl h2)
   .rw [if_neg hz] at h2;exact .inl ⟨by exact List.not_mem_cons_of_ne_of_not_mem hz h1,h2⟩
  .exact .inr (j0 (i+1) u h1 h2 j)
theorem Cr (d:l.Nodup) (e:storeAll l vs ρ=O ρ1) (f:storeAll l.reverse vs.reverse ρ=O Vj) z:find z ρ1.loc=find z Vj.loc:=by
 have hl:=mQ e;rcases pC e d z with⟨h1,h2⟩|⟨i,v,h1,h2,m⟩
 .rcases pC f (List.pairwise_reverse.mpr (d.imp λh=>h.symm)) z with⟨c,a⟩|⟨j,u,c,a,g⟩
  .exact U h2 (U a rfl)
  .exact absurd (mz.mp (cW c)) h1
 .rcases pC f (List.pairwise_reverse.mpr (d.imp λh=>h.symm)) z with⟨c,a⟩|⟨j,u,c,a,g⟩
  .exact absurd (mz.mpr (cW h1)) c
  .have k:j<l.length:=by have:=(bZ.mp c).1;simpa using this
   rw [List.getElem?_reverse k] at c;rw [List.getElem?_reverse (cL hl k)] at a;rw [<-hl,<-((List.getElem?_inj ((bZ.mp h1).1) d).mp (h1.trans c.symm)),h2] at a;injection a with a;subst a
   exact U m (U g rfl)
theorem eg.reverse (hv:eg X g w m vs ys):eg X g w m vs.reverse ys.reverse:=by
 induction vs generalizing ys with
 |nil=>cases hv;exact .nil
 |cons v vs a=>
  cases hv with
  |cons _ y _ ys hv c=>refine U List.reverse_cons (U List.reverse_cons ?_);exact(a c).append (.cons _ _ _ _ hv .nil)
theorem FD (c:nO (.Tuple ts z p) (.Tuple vs z' p')=H) env:
 swappedStores [.Tuple ts z p] (.Tuple vs z' p') env=pure aq\/∃xs,swappedStores [.Tuple ts z p] (.Tuple vs z' p') env=pure (O xs)/\xs.length=ts.length/\xs.eraseDups.length=xs.length/\
  xs=ts.filterMap (λ| .Name id pos=>if env.kindOf id==O .local&&pos.line==(ts.head?.map (·.pos.line)).getD 0 then O id else aq|_=>aq):=by
 have c:(af H (vs.all (foldedForSure 8)) (vs.all (constantsAlone 8)):Bool)=true:=c;show ite _ _ _=_\/∃xs,ite _ _ _=_/\_;dsimp only;refine HF (λa=> .inl rfl) λa=>HF (λa=> .inl rfl) λa=>HF (λa=> .inl rfl) λd=>HF (λa=> .inl rfl) λe=>HF (λf=>absurd (by rw [f] at c;exact c) e) λa=> ?_;have d:=iy.mp (Bool.eq_false_iff.mpr d);exact .inr (qO _ rfl (bne_eq_false_iff_eq.mp d.1) (bne_eq_false_iff_eq.mp d.2) rfl)
theorem OB x l:N1 x l=H↔x∈l:=by
 induction l with
 |nil=>exact⟨λh=>(ff h),λh=>((aU h).elim)⟩
 |cons y l a=>
  have e:N1 x (y::l)=(af (N1 x l) H (ak x y):Bool):=rfl;rw [e,aT]
  induction hb:ak x y using zB with
  |true=>exact⟨λc=> .inl (aH hb),λc=>rfl⟩
  |false=>exact⟨λh=> .inr (a.mp h),λh=>a.mpr (h.resolve_left (fV hb))⟩
theorem uW:∀{l},ie l=H->l.Nodup:=by
 intro l
 induction l with
 |nil=>
  intro _;exact iI
 |cons x r a=>
  intro h;unfold ie at h;split at h
  .exact ff h
  .rename_i hm;exact gA.mpr ⟨λq=>(by rw [(OB x r).mpr q] at hm;exact ft hm),a h⟩
theorem Ct (m:∀e x,f e=O x->∃p,e= .Name x p):∀{ts} {l},fY ns ts=O l->(ts.filterMap f).length=ts.length->(ts.filterMap f).map nm=l/\∀x∈ts.filterMap f,aY x=H/\(aZ (nm x) ns=O .local\/aZ (nm x) ns=O .cell):=by
 intro ts
 induction ts with
 |nil=>
  intro l h _;injection h with hq;subst hq;exact⟨rfl,λx hx=>(aU hx).elim⟩
 |cons t ts o=>
  intro l h hl;refine kK (pg h) λy u d=> ?_;subst d;intro hy j;refine yF (nc hy) λz p d k=> ?_;subst d;subst k;intro hz hk;rw [nH] at hl⊢
  induction g:f (.Name z p) using zO with
  |none=>
   rw [g] at hl;have:=List.length_filterMap_le f ts;simp at hl;lia
  |some x=>
   rw [g] at hl;refine fF (m _ _ g) λv e=> ?_;cases e;simp only [iJ,Nat.add_right_cancel_iff] at hl;refine aC (o j hl) λc a=>⟨by simp [a],λq i=> ?_⟩;rcases aT.mp i with rfl|i
   .exact⟨hz,hk⟩
   .exact c q i
theorem FE (u:bu X) (C:A.handled=aq) (ht:fY ns ts=O l) (D:ie l=H) (hx:∀x∈xs,aY x=H/\(aZ (nm x) ns=O .local\/aZ (nm x) ns=O .cell)) (i:xs.map nm=l)
 (E:St X w h s) (he:eZ X env ns ρ w h.n s) (hv:VR X s.heap w h.n v y) (e:(B5 l).f r ρ v h kn=O res)
 (F:∀g s',St X w h s'->eZ X env ns g w h.n s'->Ext X (AI env ns) w h.n s w h.n s'->kn g h=O res->Q .next s'):wpAny (model X.prog X.w) A (assignStores env y (O xs) stores) Q (λG G=>False) s:=by
 refine aK (xe u E C hv e) λvs hu e=>dN (bB e) λg k I=> ?_;have j:xs.length=vs.length:=cL (mQ k) (cL i (gG (eL nm)));refine au (fm (au (U j (hu λys s' m B o=>au (DU u (xs:=xs.reverse) (vs:=vs.reverse) (λx p=>hx x (mz.mp p)) (by simp [j]) (eg.reverse o) m (he.ext B) λJ q a c t d=> ?_)))));rw [List.map_reverse,i] at t;refine av (F g q a (c.congr (λz=>Cr (uW D) k t z) λz=>U (uV k) (U (uV t) rfl)) (B.none.trans d) I)
theorem OC (a:jx x=aj):swapsWithSole [t] x l env=pure false:=by rcases x<;>first|rfl|exact ft a
theorem OD (a:jx x=H):∃c,swapsWithSole [t] x l env=pure c:=by rcases x<;>first|exact ff a|exact⟨_,rfl⟩|(rcases t<;>exact⟨_,rfl⟩)
theorem zm (a:bk t=aj):assignAll y ((assignEach [t] env).map (·.2))=PySem.assign t env y:=by rcases t<;>first|rfl|exact ft a
theorem DV (h:iP x=aj):swappedStores [t] x env=pure none:=by
 induction t using aS with
 |Tuple|List=>rcases x<;>first|rfl|exact ft h
 |_=>rfl
theorem Ld (g:nO t x=H)
 (d:∀ts z p,t= .Tuple ts z p->∃l,fY ns ts=O l/\ie l=H/\tgt=B5 l\/∀ρ v h k,tgt.f r ρ v h k=aq) (c:∀ts p,t= .List ts p->∀ρ v h k,tgt.f r ρ v h k=aq) env:
 (∀ρ v h k,tgt.f r ρ v h k=aq)\/swappedStores [t] x env=pure aq\/∃xs ts l,swappedStores [t] x env=pure (O xs)/\fY ns ts=O l/\ie l=H/\tgt=B5 l/\xs.map nm=l/\∀x∈xs,aY x=H/\(aZ (nm x) ns=O .local\/aZ (nm x) ns=O .cell):=by
 induction hx:iP x using zB with
 |false=>exact .inr (.inl (DV hx))
 |true=>
  refine Vt (ia hx) λvs B C j=> ?_;subst j;clear hx
  induction t using aS with
  |Tuple ts z p=>
   obtain⟨l,⟨m,u,y⟩|hbad⟩:=d ts z p rfl
   .rcases FD g env with a|⟨xs,a,h2,A,o⟩
    .exact .inr (.inl a)
    .have i:=Ct (f:=λe:Expr=>match e with| .Name id pos=>if env.kindOf id==O .local&&pos.line==(ts.head?.map (·.pos.line)).getD 0 then O id else aq|_=>aq) (λe x h=>by
      clear a h2 A o m g d c
      induction e using aS with
      |Name id pos=>
       replace h:ite _ _ _=_:=h;by_cases q:(env.kindOf id==O .local&&pos.line==(ts.head?.map (·.pos.line)).getD 0)=H
       .rw [if_pos q] at h;exact⟨pos,by exact U (aF h) rfl⟩
       .rw [if_neg q] at h;exact fn h
      |_=>exact fn h) m (cL o h2)
     rw [<-o] at i;exact .inr (.inr ⟨xs,ts,l,a,m,u,y,i⟩)
   .exact .inl hbad
  |List ts p=>exact .inl (c ts p rfl)
  |_=>exact .inr (.inl rfl)
theorem jW.assign (R:bu X) pos (hx:cN X r n b ns a x) (ht:rq X r n b ns tgt t) (S:jx x=aj) (B:nO t x=H)
 (j:∀ts z p,t= .Tuple ts z p->∃l,fY ns ts=O l/\ie l=H/\tgt=B5 l\/∀ρ v h k,tgt.f r ρ v h k=aq) (g:∀ts p,t= .List ts p->∀ρ v h k,tgt.f r ρ v h k=aq) (C:bk t=aj):jW X r n b ns (jv tgt a) (.Assign [t] x pos):=by
 intro A D env ρ w h s V he J kr res e Q L;refine ay (bG (U (OC S) (NK (ay (hx A D env ρ w h s V he _ res e _ λM h1 P u y m o hu E=> ?_)))));rcases Ld B j g env with q|q|⟨xs,ts,l,q,q1,q2,q3,q4,q5⟩
 .exact fn ((q ρ u h1 J).symm.trans E)
 .refine U q (NK ((?_:cC _ _ (assignAll y ((assignEach [t] env).map (·.2))>>=λu_=>pure qp) _ _ P)));exact U (zm C) (ay (ht A D env ρ M h1 P m (he.ext o) u y hu J res E _ λi w2 h2 s2 F G x2 I=>aO (L.next i w2 h2 s2 F G (o.none.trans x2) I)))
 .exact U q (NK (eW<|FE R D.handled q1 q2 q5 q4 m (he.ext o) hu (q3▸E) λi s' a c d I=>L.next i M h1 s' a c (o.none.trans d) I))
theorem jW.GP (ax:bu X) pos (hx:cN X r n b ns a x) (hu:OA X r n b ns a x) (ht:rq X r n b ns tgt t) (G:jx x=H) (p:bk t=aj):jW X r n b ns (jv tgt a) (.Assign [t] x pos):=by
 intro A I env ρ w h s hs he kn kr res e Q hQ;refine fF (OD (t:=t) (l:=pos.line) (env:=env) G) λc P=>ay (bG (U P (NK ?_)));by_cases v:c=H
 .refine U (if_pos v) (ay (hu A I env ρ w h s hs he _ res e _ _ λC R h1 J u y f B S g D V hC4 hC5 e1=>(U (zm p) (ht A I env ρ R h1 J f (he.ext B) u y S kn res e1 _ λi w2 h2 s2 j k E e2=> ?_))));have F:¬AI env ns C:=λq=>by
   rcases q with q|⟨z,q1,L,q3⟩
   .refine aK he.loc λm0 M h0=> ?_;exact absurd (q▸h0.lt) (bC.mpr g)
   .exact HJ (he.cell z q1 (.inl L)) λc' ov a1 M M M a5=>absurd (aF (q3.symm.trans a1)▸a5.lt) (bC.mpr g)
  refine fF hC5 λm hm=> ?_;have d:=uL hm λo e=>E.old C o D hC4 F e;exact bV m d (λh' hh=>aO (fh (j.gone ax ((E.role C hm.lt).trans D) V d hh) λL q1 q3=>hQ.next i w2 h2 _ q1 (k.Wo L (λa o ha e=>uS (ha▸d) e) (λq=>F (.inl q.symm)) λc ov G q=>rt d (q▸G)) ((B.none.trans E).nZ L λa ha=> .inr (ha▸g)) e2))
 .refine U (if_neg v) (ay (hx A I env ρ w h s hs he _ res e _ λR h1 J u y f B hu e1=>(U (DV (by rcases x<;>first|rfl|exact ff G)) (NK ((?_:cC _ _ (assignAll y ((assignEach [t] env).map (·.2))>>=λM=>pure qp) _ _ J))))));exact U (zm p) (ay (ht A I env ρ R h1 J f (he.ext B) u y hu kn res e1 _ λi w2 h2 s2 j k E e2=>aO (hQ.next i w2 h2 s2 j k (B.none.trans E) e2)))
end
theorem s8 {d:Type}:∀{ns:List Str} {vs:List d} {i} {x},ns.Nodup->ns[i]? =O x->i<vs.length->∃v,vs[i]? =O v/\(ns.zip vs).lookup x=O v:=by
 intro ns
 induction ns with
 |nil=>exact λ_ h _=>fn h
 |cons n ns e=>
  intro vs i x c h hl;rcases vs with _|⟨v,vs⟩
  .exact absurd hl (ku _)
  .have c:=gA.mp c
   induction i using zN with
   |zero=>injection h with h;subst h;exact bV v rfl (U bJ (U (beq_self_eq_true n) rfl))
   |succ i=>
    exact dN (e (vs:=vs) c.2 h (lC hl)) λu a b=>bV u a (U bJ (U (beq_eq_false_iff_ne.mpr λ(q:x=n)=>c.1 (q▸cW h)) b))
theorem s9 {b:Type}:∀{ns:List Str} {vs:List b} {i} {x},ns.Nodup->ns[i]? =O x->vs.length<=i->(ns.zip vs).lookup x=none:=by
 intro ns
 induction ns with
 |nil=>exact λ_ h _=>fn h
 |cons n ns c=>
  intro vs i x a h hl;rcases vs with _|⟨v,vs⟩
  .rfl
  .have a:=gA.mp a
   induction i using zN with
   |zero=>exact absurd hl (Nat.not_succ_le_zero _)
   |succ i=>exact U bJ (U (beq_eq_false_iff_ne.mpr λ(q:x=n)=>a.1 (q▸cW h)) (c a.2 h (qK hl)))
theorem zo {l m:List (Str×α)}:(l++m).lookup x=(l.lookup x).or (m.lookup x):=by
 induction l with
 |nil=>rfl
 |cons p l a=>
  obtain⟨k,v⟩:=p;refine U qt (U bJ (U bJ ?_))
  induction x==k using zB with
  |true=>rfl
  |false=>exact a
theorem Le {b c:Type} {f g:b->Option c}:∀{l:List b},(∀x∈l,f x=g x)->l.filterMap f=l.filterMap g:=by
 intro l
 induction l with
 |nil=>
  intro _;exact rfl
 |cons a l d=>
  intro h;exact U nH (U nH (U (h a aE) (U (d λx hx=>h x (aD _ hx)) rfl)))
theorem Lf {e f:Type}:∀{P} {c} {L} {x:e} {d:f},P.length=c.length->(P++x::L).zip c++[(x,d)]=(P++x::L).zip (c++[d]):=by
 intro P
 induction P with
 |nil=>
  intro c L x d h;rcases c with _|⟨_,_⟩
  .exact congrArg ((x,d):: ·) vC.symm
  .injection h
 |cons a P g=>
  intro c L x d h;rcases c with _|⟨b,c⟩
  .injection h
  .exact congrArg ((a,b):: ·) (g (Nat.succ.inj h))
theorem AL {ns:List Str} {vs:List Value} (a:ns.Nodup) (hl:ns.length=vs.length):(ns.filterMap λn=>((ns.zip vs).lookup n).map (n, ·))=ns.zip vs:=by
 induction ns generalizing vs with
 |nil=>rfl
 |cons n ns b=>
  induction vs using zL with
  |nil=>cases hl
  |cons v vs=>
   rw [gA] at a;have h1:((n::ns).zip (v::vs)).lookup n=O v:=by simp [fC]
   refine U nH (U h1 ?_);have h2:(ns.filterMap λm=>(((n::ns).zip (v::vs)).lookup m).map (m, ·))=ns.filterMap λm=>((ns.zip vs).lookup m).map (m, ·):=by
    refine Le λm hm=> ?_;have:(m==n)=false:=by simp;intro q;subst q;exact a.1 hm
    exact U fC (U bJ (U this rfl))
   refine(?_:_::_=_);refine U h2 (U (b a.2 (Nat.succ.inj hl)) ?_);rfl
theorem Ib {a b:Type}:∀{ns:List a} {vs ds:List b},vs.length<=ns.length->ns.zip vs++(ns.drop vs.length).zip ds=ns.zip (vs++ds):=by
 intro ns vs
 induction vs generalizing ns with
 |nil=>
  intro ds h;exact U vC rfl
 |cons v vs c=>
  intro ds h;rcases ns with _|⟨n,ns⟩
  .exact absurd h (Nat.not_succ_le_zero _)
  .exact congrArg (_:: ·) (c (ds:=ds) (qK h))
section
variable {M:Model} {A:Around} {E:Value->Shared->Prop} {s:Shared}
theorem AN {names:List Str} (l:names.Nodup) (hl:vals.length<=names.length) (f:Str×Value->List (Str×Value)->Sem (ForInStep (List (Str×Value))))
 (r:∀x d k,f (x,d) k=if(k.lookup x).isNone then pure (.yield (k++[(x,d)])) else pure (.yield k)):
 ∀ds i j,i+ds.length=names.length->(j=0/\i<=vals.length\/i=vals.length+j)->∀c,c.length=j->
  forIn ((names.drop i).zip ds) (names.zip vals++(names.drop vals.length).zip c) f=pure (names.zip vals++(names.drop vals.length).zip (c++ds.drop (vals.length+j-i))):=by
 intro ds
 induction ds with
 |nil=>
  intro i j hi m c hx;simp
 |cons d ds o=>
  intro i j hi m c hx;have e:=hi▸Nat.lt_add_of_pos_right (jL _);have p:=iu e;have h:=(p7 i ds.length).trans hi;have g:=bA e;refine U p (U fC (U (dO ..) (U (r ..) ?_)));by_cases a:i<vals.length
  .have n:=m.elim (λq=>q.1) λq=>absurd a (bC.mpr (q▸d9 _ _));subst n;have:c=[]:=iK.mp hx;refine U this (aK (s8 l g a) λv h2 y=>U zo (U h2 ((?_:(forIn ((names.drop (i+1)).zip ds) _ f)=_))));exact U (o (i+1) 0 h (.inl ⟨rfl,a⟩) [] rfl) (U ((i6 (xG a)).symm) rfl)
  .have b:=m.elim (λq=>q.1▸Nat.le_antisymm q.2 (mE a)) λq=>q;have h1:=s9 l g (mE a);have h2:((names.drop vals.length).zip c).lookup names[i]=none:=by
    refine s9 (i:=j) (l.sublist (List.drop_sublist _ _)) ?_ (cV hx);refine U (List.getElem?_drop) (cL b ?_);exact g
   refine U zo (U h1 (U h2 ((?_:(forIn ((names.drop (i+1)).zip ds) _ f)=_))));have t:names.zip vals++(names.drop vals.length).zip c++[(names[i],d)]=names.zip vals++(names.drop vals.length).zip (c++[d]):=by
    refine U (List.append_assoc ..) (congrArg _ ?_);have hz:names.drop vals.length=(names.drop vals.length).take j++names[i]::names.drop (i+1):=by
     exact cL p (U b (cL sU ((l8 j _).symm)))
    exact U hz (Lf (U (List.length_take_of_le ((jG ..).symm▸Nat.le_sub_of_add_le' (b▸gQ e))) (U hx rfl)))
   refine U t (U (o (i+1) (j+1) h (.inr (congrArg (·+1) b)) (c++[d]) (by simp [hx])) ?_);have u:=mC (cV (congrArg (·+1) b).symm);have w:vals.length+j-i=0:=gG (Nat.eq_sub_of_add_eq' b);refine U u (U w ?_);simp
theorem Lg {names:List Str} {vals:List Value} (c:names.Nodup) (hm:k<=vals.length):((names.take k).filter λn=>((names.zip vals).lookup n).isNone)=[]:=by
 rw [qD];intro x hx;obtain⟨i,hi,a⟩:=nD hx;rw [List.length_take] at hi;have b:names[i]? =O x:=by
  rw [List.getElem_take] at a;refine cL a ?_;exact bA (aR hi (Nat.min_le_right _ _))
 refine dN (s8 (vs:=vals) c b (aR hi (aI (Nat.min_le_left _ _) hm))) λv d h=>U h ?_;exact bY
theorem S9 {p:Arguments} (h1:p.posonlyargs=[]) (h2:p.kwonlyargs=[]) (h:p.vararg=aq) (i:p.kwarg=aq):p=⟨[],p.args,aq,[],p.kw_defaults,aq,p.defaults⟩:=by
 rcases p with⟨a,b,c,d,e,f,g⟩
 obtain rfl:a=[]:=h1;obtain rfl:d=[]:=h2;obtain rfl:c=none:=h;obtain rfl:f=none:=i;rfl
theorem xm (h1:fd.params.posonlyargs=[]) (h2:fd.params.args.map (·.arg)=names) (o:fd.params.kwonlyargs=[]) (p:fd.params.vararg=aq) (q:fd.params.kwarg=aq) (g:names.Nodup)
 (r:∀{Q},Q od s->wpAny M A (sC fd.defaults) Q E s) (i:(od.getD #[]).toList=ds) (hl:vals.length<=names.length) (a:ds.length<=names.length) (hm:names.length-ds.length<=vals.length)
 (u:Q (names.zip (vals++ds.drop (ds.length-(names.length-vals.length)))) s):wpAny M A (bindArgs fd ⟨vals,[]⟩) Q E s:=by
 unfold bindArgs;refine U (S9 h1 o p q) ?_;dsimp only;refine U h2 (bp (au (r (U i (uc (λh=> ?_) λf=> ?_)))))
 .exfalso;exact absurd hl (Nat.not_le_of_lt (of_decide_eq_true (mK h).1))
 have l:ds.drop (ds.length-names.length)=ds:=by refine U (mC a) ?_;rfl
 refine uc (λh=> ?_) λf=> ?_
 .have e:=Lg (vals:=vals) g (k:=names.length-(ds.drop (ds.length-names.length)).length) (by refine U l ?_;exact hm);have h:(!(List.filter (λn=>((names.zip vals).lookup n).isNone) (names.take (names.length-(ds.drop (ds.length-names.length)).length))).isEmpty)=true:=h;rw [e] at h;exfalso;exact ff h
 have m:=AN (vals:=vals) g hl (λx b=>if(b.lookup x.fst).isNone=H then pure (.yield (b++[(x.fst,x.snd)])) else pure (.yield b)) (λf f f=>rfl) ds (names.length-ds.length) 0 (i6 a) (.inl ⟨rfl,hm⟩) [] rfl;rw [vC,qL,List.nil_append,Nat.add_zero,sw1 hl a,Ib hl] at m;have j:∀d,d=ds->forIn ((names.drop (names.length-d.length)).zip d) (names.zip vals) (λx b=>if(b.lookup x.fst).isNone=H then(pure (.yield (b++[(x.fst,x.snd)])):Sem _) else pure (.yield b))=pure (names.zip (vals++ds.drop (ds.length-(names.length-vals.length)))):=λd e=>by refine U e ?_;exact m
 refine au (Eq.mpr (congrArg (λt=>wpAny M A t _ E s) (j _ l)) (av (U jz (U (pure_bind ..) (U (if_neg (show ¬(!([]:List Str).isEmpty)=H from bY)) (av (U (qL ..) ?_)))))));have c:names.length=(vals++ds.drop (ds.length-(names.length-vals.length))).length:=by refine U cY (U jG ?_);exact sw2 hl hm
 exact(AL g c).symm▸u
end
section
variable {prog:Program} {w:World} {A:Around} {s:Shared} {R:Result->Shared->Prop}
theorem jE (j:A.depth<mJ) (z:s.heap.get? a=O o)
 (q:o.data= .func fd) (r:fd.scope.isCoroutine=aj) (n:fd.scope.isGenerator=aj) (k:fd.body= .stmts body) (u:s.heap.CodeRec fd.code fd.qualname)
 (h:cC (model prog w) A.in1 (bindArgs fd args) (λb f=>
  cC (model prog w) A.in1 (newFunctionEnv fd.scope fd.globals fd.closure b (fd.qualname++".<locals>.") (O a) fd.code aq fd.builtins)
   (λenv e=>e.heap.NoLimit/\codeN (model prog w) A (.func body env) R e) (λl l=>False) f) (λl l=>False) s):
 codeN (model prog w) A (.call (.ref a) args) R s:=by
 refine dP rfl ((?_:cC _ A.in1 (callAny (.ref a) args) _ _ s));refine ay (eW (jc z (pK u λc B vs D hq y v x=> ?_)));simp only [q,callFunction,r,n,k,y];rw [y] at h;exact ay (m:=field (.ref c) 1) (eW (fO v x hq (ay (aO (ay (aV h (λb f p=>ay (aV p (λenv e i=>ay (eW (wpAny_enterFrame i.1 j (aO (jb rfl i.2))))) λl l h'=>h'.elim)) λl l h'=>h'.elim))))))
theorem oU (j:A.depth<mJ) (z:s.heap.get? a=O o)
 (q:o.data= .func fd) (r:fd.scope.isCoroutine=aj) (n:fd.scope.isGenerator=aj) (k:fd.body= .expr body) (u:s.heap.CodeRec fd.code fd.qualname)
 (h:cC (model prog w) A.in1 (bindArgs fd args) (λb f=>
  cC (model prog w) A.in1 (newFunctionEnv fd.scope fd.globals fd.closure b (fd.qualname++".<locals>.") (O a) fd.code aq fd.builtins)
   (λenv e=>e.heap.NoLimit/\codeN (model prog w) A (.expr body env) R e) (λl l=>False) f) (λl l=>False) s):
 codeN (model prog w) A (.call (.ref a) args) R s:=by
 refine dP rfl ((?_:cC _ A.in1 (callAny (.ref a) args) _ _ s));refine ay (eW (jc z (pK u λc B vs D hq y v x=> ?_)));simp only [q,callFunction,r,n,k,y];rw [y] at h;exact ay (m:=field (.ref c) 1) (eW (fO v x hq (ay (aO (ay (aV h (λb f p=>ay (aV p (λenv e i=>ay (eW (wpAny_enterFrame i.1 j (aO (jb rfl i.2))))) λl l h'=>h'.elim)) λl l h'=>h'.elim))))))
theorem tn {id} (a:oR.contains id=aj) (hb:entryFor table id=O b)
 (h:cC (model prog w) (A.under (.builtin id args)) (b args) (λc s'=>match c with| .done f=>R (.ok f) s'| .again c'=>c'.quiet=H/\codeN (model prog w) A c' R s') (λe s'=>R (.error e) s') s):codeN (model prog w) A (.builtin id args) R s:=by
 refine dP (by show(!(oR.contains id))=H;refine U a ?_;rfl) ?_;refine(?_:cC _ _ (match entryFor table id with|some b=>b args|none=>unsupported ((withoutEnding? id "#data").getD id)) _ _ s);refine U hb ?_;exact h
theorem jX {id} (hq:(Code.builtin id args).quiet=H) (i:oR.contains id=aj) (hb:entryFor table id=O b)
 (h:wpAny (model prog w) A.in1 (checkBuiltinCall id args) (λj a=>cC (model prog w) (A.under (.builtin id args)) (b args)
  (λk s'=>match k with| .done f=>R (.ok f) s'| .again c'=>c'.quiet=H/\codeN (model prog w) A c' R s') (λe s'=>R (.error e) s') a) (λe s'=>R (.error e) s') s):codeN (model prog w) A (.call (.builtin id) args) R s:=dP rfl (ay (eW (f5 h (λj a c=>aO (jb hq (tn i hb c))) λj j h'=>h')))
end
section
variable {prog:Program} {w:World} {A:Around} {C:Addr} {R:Result->Shared->Prop} {h:Heap} {g:Array GenState} {d:Drawn} {t:Nat} {os:OsState}
theorem Wt (Y:Makes (model prog w) h C) (hi:Looks (model prog w) h (typeLookup (.ref C) "__init__") (O init))
 (hb:∀c,Looks (model prog w) h (bindSpecial init c) (init,[c])) (i:(O init !=O (ud "object.__init__"))=H\/(rest=[]/\kw=[]))
 (hq:codeN (model prog w) (A.under (.builtin "type.__call__" ⟨.ref C::rest,kw⟩)) (.call init ⟨.ref (h.objs.size+1)::rest,kw⟩) (InitBack (h.objs.size+1) R) ⟨(h.push eT).push (fH C h.objs.size),g,d,t,os⟩):
 codeN (model prog w) A (.call (.ref C) ⟨rest,kw⟩) R ⟨h,g,d,t,os⟩:=by
 have p:=Y;obtain⟨⟨G,od,q,I,m,J,K,u⟩,f,base,c,x,call,j⟩:=Y;refine dP rfl ?_;refine(?_:cC _ _ (load C>>=_) _ _ _);refine ay (eW (jc m ?_));refine(?_:cC _ _ (callAny.viaDunder (.ref C) _) _ _ _);refine ay (eW (call.at ?_));dsimp only;refine ay (aO (ay (aO ?_)));refine aO (a:=Fin.again (.call (.builtin "type.__call__") ⟨.ref C::rest,kw⟩)) (jb rfl ?_);refine jX (vD _ (by decide+kernel)) (by exact rfl) entry_typeCall (check_slot tc_kind tc_split j (tc_args _ _ _) ?_);have hm:Looks (model prog w) h (mroOf (.ref C)) q.mro:=((Looks.ld (part:=aq) m).andThen .now).andThen .now;refine(?_:cC _ _ (mroOf (.ref C)>>=_) _ _ _);refine ay (eW (hm.at ?_));refine U u ?_;refine ay (eW (f.at ?_));dsimp only;refine ay (aO ?_);refine ay (bg (eW (wpAny_call (new_K p hi i ?_))));have k:∀b o,h.get? b=O o->((h.push eT).push (fH C h.objs.size)).get? b=O o:=λb o e=>az _ (az _ e);have hx:((h.push eT).push (fH C h.objs.size)).get? (h.objs.size+1)=O (fH C h.objs.size):=by
  have:=aJ (h.push eT) (o:=fH C h.objs.size) rfl
  rwa [bI] at this
 have n:Looks (model prog w) ((h.push eT).push (fH C h.objs.size)) (typeOf (.ref (h.objs.size+1))) (.ref C):=(Looks.ld hx).andThen .now;have y:=c.keeps k;have B:=hi.keeps k;have D:=(hb (.ref (h.objs.size+1))).keeps k;have E:Looks (model prog w) ((h.push eT).push (fH C h.objs.size)) (isInstance (.ref (h.objs.size+1)) (.ref C)) true:=by unfold isInstance;exact n.andThen y
 have F:Looks (model prog w) ((h.push eT).push (fH C h.objs.size)) (specialOf (.ref (h.objs.size+1)) "__init__") (O init):=by unfold specialOf;exact n.andThen B
 refine ay (eW (E.at ?_));refine ay (bg ?_);refine ay (eW (F.at ?_));refine bg (ay (eW (D.at ?_)));refine ay (nU (iQ hq λr s' z=> ?_));rcases r with e|(v|_|_|_)<;>first|exact z|exact z.elim|skip
 refine gc z λl=> ?_;subst l;intro z;exact aO (aO z)
end
theorem DW d x r v vs:nR d (x::r) (v::vs)=(aA aq (λl=>O ((x,v)::l)) (nR d r vs):Option (List (Nat×V))):=rfl
theorem Cu d x r:nR d (x::r) []=(af aq (aA aq (λv=>aA aq (λl=>O ((x,v)::l)) (nR d r [])) (sW d (ez (len d) (aG (len r) 1)))) (bO (aG (len r) 1) (len d)):Option (List (Nat×V))):=rfl
theorem Ic:∀{xs} {vs} {l},nR d xs vs=O l->vs.length<=xs.length/\xs.length<=vs.length+d.length/\l=xs.zip (vs++d.drop (d.length-(xs.length-vs.length))):=by
 intro xs
 induction xs with
 |nil=>
  intro vs l e;rcases vs with _|⟨v,vs⟩
  .injection e with e;subst e;simp
  .exact fn e
 |cons x r b=>
  intro vs l e;rcases vs with _|⟨v,vs⟩
  .rw [Cu] at e;refine aC (dH e) λe h1=>aK (nT e) λv e hv=>aK (nT e) λf e hl=> ?_;injection e with e;subst e
   refine iO (b hl) λa3 m c=> ?_;have h1:r.length+1<=d.length:=by have:=aB h1;rw [len_eq,len_eq] at this;exact this
   rw [mO,len_eq,len_eq] at hv;have hv:d[d.length-(r.length+1)]? =O v:=hv;refine iW (iB _) (aI h1 (rX _ _)) ?_;have a:d.length-(r.length+1)<d.length:=Nat.sub_lt (aR (jL _) h1) (jL _);have i:d.drop (d.length-(r.length+1))=v::d.drop (d.length-r.length):=by
    refine U (iu a) ?_;have j:d[d.length-(r.length+1)]=v:=by rw [bA a] at hv;exact aF hv
    exact U j (U (i6 (xG h1)) rfl)
   exact U a3 (U i (U fC rfl))
  .rw [DW] at e;refine aK (nT e) λf e hl=> ?_;injection e with e;subst e
   refine iO (b hl) λa3 k c=>iW (Nat.succ_le_succ k) (aI (Nat.succ_le_succ c) (cV (Nat.succ_add ..).symm)) (U a3 ?_);simp only [iJ,Nat.add_sub_add_right,qt,fC]
section
variable {X:dw} {w:Wd} {n:Nat} {g:Heap}
theorem DX {names:List Str}:∀{vs} {ys},(∀x∈names,aY x=H)->eg X g w n vs ys->∀{x} {v},aY x=H->find (nm x) ((names.map nm).zip vs)=O v->
 ∃y,(names.zip ys).lookup x=O y/\VR X g w n v y:=by
 induction names with
 |nil=>intro vs ys _ _ x v _ e;exact fn e
 |cons a names c=>
  intro vs ys hp hv x v hx e;cases hv with
  |nil=>exact fn e
  |cons u z us i hu b=>
   rw [dI,fC,eX] at e;by_cases h:nm x=nm a
   .have h':=gU hx (hp a aE) h;subst h';rw [if_pos rfl] at e;injection e with e;subst e
    exact bV z (by simp [fC]) hu
   .rw [if_neg h] at e;refine dN (c (λy hy=>hp y (aD _ hy)) b hx e) λy d f=>bV y ?_ f;have:(x==a)=false:=beq_eq_false_iff_ne.mpr λq=>h (U q rfl);refine U fC (U bJ (U this ?_));exact d
theorem Ie {names:List Str} {v:V} (e:find y ((names.map nm).zip vs)=O v):∃x∈names,nm x=y:=by
 induction names generalizing vs with
 |nil=>exact fn e
 |cons a names b=>
  induction vs using zL with
  |nil=>exact fn e
  |cons u us=>
   rw [dI,fC,eX] at e;by_cases h:y=nm a
   .exact bV a aE h.symm
   .rw [if_neg h] at e;exact dN (b e) λx c d=>bV x (aD _ c) d
end
theorem Ig {kindOf}:∀{l} {m},l.lookup x=aq->bindL kindOf l m x=m x:=by
 intro l
 induction l with
 |nil=>
  intro _ _;exact rfl
 |cons b l c=>
  obtain⟨a,v⟩:=b;intro m h;rw [bJ] at h
  induction hb:x==a using zB with
  |true=>rw [hb] at h;exact sn h
  |false=>
   rw [hb] at h;refine U (c h) ?_;split
   .exact if_neg (by simpa using hb)
   .rfl
theorem Ih {kindOf}:∀{l} {m},l.lookup x=aq->bindC kindOf l m x=m x:=by
 intro l
 induction l with
 |nil=>
  intro _ _;exact rfl
 |cons b l c=>
  obtain⟨a,v⟩:=b;intro m h;rw [bJ] at h
  induction hb:x==a using zB with
  |true=>rw [hb] at h;exact sn h
  |false=>
   rw [hb] at h;refine U (c h) ?_;split
   .rfl
   .exact if_neg (by simpa using hb)
theorem zp {l:List (Str×Value)} (h:x∉l.map eG):l.lookup x=none:=by
 induction l with
 |nil=>rfl
 |cons p l b=>
  obtain⟨a,v⟩:=p;rw [dI,aT,not_or] at h;exact U bJ (U (beq_eq_false_iff_ne.mpr h.1) (b h.2))
theorem Lh {kindOf} (hk:kindOf x=O .local):∀{l} {m} {y},(l.map eG).Nodup->l.lookup x=O y->bindL kindOf l m x=O y:=by
 intro l
 induction l with
 |nil=>
  intro _ _ _ h;exact fn h
 |cons d l e=>
  obtain⟨a,v⟩:=d;intro m y b h;rw [dI,gA] at b;rw [bJ] at h
  induction hb:x==a using zB with
  |true=>
   rw [hb] at h;injection h with h;subst h
   have c:x=a:=by simpa using hb
   subst c;exact U (Ig (zp b.1)) (U (if_pos hk) (if_pos rfl))
  |false=>
   rw [hb] at h;exact e b.2 h
theorem Li {kindOf} (hk:kindOf x≠O .local):∀{l} {m} {y},(l.map eG).Nodup->l.lookup x=O y->bindC kindOf l m x=O y:=by
 intro l
 induction l with
 |nil=>
  intro _ _ _ h;exact fn h
 |cons d l e=>
  obtain⟨a,v⟩:=d;intro m y b h;rw [dI,gA] at b;rw [bJ] at h
  induction hb:x==a using zB with
  |true=>
   rw [hb] at h;injection h with h;subst h
   have c:x=a:=by simpa using hb
   subst c;exact U (Ih (zp b.1)) (U (if_neg hk) (if_pos rfl))
  |false=>
   rw [hb] at h;exact e b.2 h
theorem cellsFrom_some:∀{l} {k} {acc} {x},((∃c,acc.lookup x=O c)\/(x,NameKind.cell)∈l)->∃c,(cellsFrom k l acc).lookup x=O c:=by
 intro l
 induction l with
 |nil=>
  intro _ _ _ h;exact h.resolve_right λq=>(aU q).elim
 |cons d r b=>
  obtain⟨a,kd⟩:=d;intro k acc x h;unfold cellsFrom;split
  .rename_i hk;refine b ?_;rcases h with⟨c,h⟩|h
   .left
    refine U bJ ?_;split
    .exact⟨_,rfl⟩
    .exact⟨c,h⟩
   .rcases aT.mp h with h|h
    .cases h;exact .inl ⟨k,by exact List.lookup_cons_self⟩
    .exact .inr h
  .rename_i hk;refine b ?_;rcases h with h|h
   .exact .inl h
   .rcases aT.mp h with h|h
    .cases h;exact absurd rfl hk
    .exact .inr h
structure OE (sc:Scope) (names:List Str):Prop where
 fn:sc.kind= .function
 co:sc.isCoroutine=aj
 gen:sc.isGenerator=aj
 plain:∀p∈sc.names,aY p.1=H
 Tc:∀p∈sc.names,p.2≠.free
 GB:∀x k,aZ (nm x) sc.names=O k->(x==("__debug__":Str))=aj
 cls:∀x k,aZ (nm x) sc.names=O k->(x==("__classdict__":Str))=aj
 params:∀x∈names,aY x=H/\(aZ (nm x) sc.names=O .local\/aZ (nm x) sc.names=O .cell)
 nodup:names.Nodup
section
variable {X:dw} {w:Wd} {h:aev} {s s₁:Shared}
theorem eZ.call (r:∀a∈X.tabs,a<X.h₀.objs.size) (D:St X w h s) (G:St X w h s₁) (b:OE fd.scope names) (I:fd.globals=mainNs) (hb:fd.builtins=builtinsNs) (t:gH fd.scope.names=aj->∀c q,X.jQ fd.scope.names=O (c,q)->fd.code= .ref c/\fd.qualname++".<locals>."=q) (hv:eg X s₁.heap w h.n vs ys) (hl:names.length=ys.length)
 (x:InCallC s (callEnvC fd s.heap.objs.size a).locals (bindL (callEnvC fd s.heap.objs.size a).kindOf (names.zip ys) λE=>aq) (callEnvC fd s.heap.objs.size a).cells (bindC (callEnvC fd s.heap.objs.size a).kindOf (names.zip ys) λE=>aq) s₁):
 eZ X (callEnvC fd s.heap.objs.size a) fd.scope.names ⟨(names.map nm).zip vs,[]⟩ w h.n s₁:=by
 have d:∀y,aZ y fd.scope.names≠O .free:=λy e=>by
  exact jB (lP e) λp hp E J=>b.Tc p hp J
 have F:=D.size;have f:∀c,s.heap.objs.size<=c->w.role c=aq/\X.h₀.objs.size<=c/\c∉X.tabs:=λc j=>iW (by
  induction K:w.role c using zO with
  |none=>rfl
  |some i=>exact absurd (D.lim c i K).2.2 (bC.mpr j)) (aI F j) (λht=>absurd (r c ht) (bC.mpr (aI F j)))
 have l:∀y k,aY y=H->aZ (nm y) fd.scope.names=O k->(callEnvC fd s.heap.objs.size a).kindOf y=O k:=λy k hy hk=>j6 b.plain hy hk;have u:∀y∈names,aY y=true:=λy hy=>(b.params y hy).1;have A:((names.zip ys).map eG).Nodup:=U (List.map_fst_zip (cV hl)) b.nodup;have m:∀y,aY y=H->aZ (nm y) fd.scope.names=O .cell->∃c,(callEnvC fd s.heap.objs.size a).cells.lookup y=O c:=λy hy hk=>by
  exact cellsFrom_some (.inr (mem_of_lookup (j6 b.plain hy hk)))
 refine⟨b.fn,I,hb,λy k hy hk=> ?_,b.cls,b.GB,(bV _ x.toInCall.ns (λy v hy hk o=> ?_)),f _ x.toInCall.fresh,λy hy hk=> ?_,λy v c hy hk o j=> ?_,λy v c hy hk=>absurd hk (d _),λy z c h1 h2=>name_of_addr x.apart (mem_of_lookup h1) (mem_of_lookup h2),λy v o=> ?_,λy v o=>(nomatch o),t⟩
 .have:=l y k hy hk
  induction k using dm with
  |«local»=>exact this
  |cell=>exact this
  |free=>exact absurd hk (d _)
  |globalImplicit=>exact this
  |_=>trivial
 .exact dN (DX u hv hy o) λz h1 h2=>bV z (Lh (l y _ hy hk) A h1) h2
 .exact fF (m y hy (hk.resolve_right (d _))) λc j=>iO (f c (gQ ((x.above y c (mem_of_lookup j))))) λL M P=>lX c _ j M P L (x.cell y c j)
 .refine dN (DX u hv hy o) λz h1 h2=>bV z ?_ h2;have:=x.cell y c j;rw [Li (by refine U (l y _ hy hk) ?_;decide) A h1] at this;exact this
 .refine aK (Ie o) λQ B=> ?_;subst B;intro C;exact(b.params Q C).2
structure Vk (X:dw) (fd:mF) (names:List Str) (dv:List V):Prop where
 sc:OE fd.scope names
 clo:fd.closure=[]
 glob:fd.globals=mainNs
 blt:fd.builtins=builtinsNs
 N8:gH fd.scope.names=aj->∀c q,X.jQ fd.scope.names=O (c,q)->fd.code= .ref c/\fd.qualname++".<locals>."=q
 pos:fd.params.posonlyargs=[]
 args:fd.params.args.map (·.arg)=names
 kwo:fd.params.kwonlyargs=[]
 va:fd.params.vararg=aq
 kwa:fd.params.kwarg=aq
 few:dv.length<=names.length
 Ds:∀w h s,St X w h s->∃od,(∀{M:Model} {A:Around} {E:Value->Shared->Prop} {Q:Option (Array Value)->Shared->Prop},Q od s->wpAny M A (sC fd.defaults) Q E s)/\eg X s.heap w h.n dv (od.getD #[]).toList
theorem uX (ax:bu X) (z:∀a∈X.tabs,a<X.h₀.objs.size) (B:X.h₀.NoLimit) (J:cStatics∉X.tabs) (R:Vk X fd names dv)
 (I:St X w h s) (hv:eg X s.heap w h.n vs ys) (hl:nR dv (names.map nm) vs=O l) {P:dj->Shared->Prop}
 (hP:∀env s₁,St X w h s₁->eZ X env fd.scope.names ⟨l,[]⟩ w h.n s₁->Ext X cT w h.n s w h.n s₁->(∀c,AI env fd.scope.names c->cT c\/s.heap.objs.size<=c)->P env s₁):
 wpAny (model X.prog X.w) A (bindArgs fd ⟨ys,[]⟩) (λb s₁=>wpAny (model X.prog X.w) A (newFunctionEnv fd.scope fd.globals fd.closure b (fd.qualname++".<locals>.") (O a) fd.code aq fd.builtins) (λenv u=>u.heap.NoLimit/\P env u) E' s₁) E s:=by
 refine dN (R.Ds w h s I) λod K C=>iO (Ic hl) λm=> ?_;subst m;intro L Q;simp only [eL] at L Q hP;have j:=hv.length;have d:=C.length;have D:=hv.append (C.drop (dv.length-(names.length-vs.length)));have i:wpAny (model X.prog X.w) A (bindArgs fd ⟨ys,[]⟩) (λb s'=>s'=s/\b=names.zip (ys++((od.getD #[]).toList).drop ((od.getD #[]).toList.length-(names.length-ys.length)))) E s:=xm (M:=model X.prog X.w) (A:=A) (E:=E) (s:=s) (fd:=fd) (names:=names) R.pos R.args R.kwo R.va R.kwa R.sc.nodup (vals:=ys) (ds:=(od.getD #[]).toList) (od:=od) (λq=>K q) rfl (le_of_eq_of_le (id (gG j)) L) (by have:=R.few;exact le_of_eq_of_le (id (gG d)) this) (sr.mpr (j▸d▸Q)) ⟨rfl,rfl⟩;have S:ys++((od.getD #[]).toList).drop ((od.getD #[]).toList.length-(names.length-ys.length))=ys++((od.getD #[]).toList).drop (dv.length-(names.length-vs.length)):=cL d (cL j rfl);rw [S] at i;generalize F:ys++((od.getD #[]).toList).drop (dv.length-(names.length-vs.length))=zs at i D;have V:names.length=zs.length:=by
  refine cL F (U cY (U jG (cL d (cL j ?_))));exact sw2 L (sr.mpr Q)
 have hnl:s.heap.NoLimit:=by
  exact aK B λmc h2 h1=>bV mc (uL h1 λo e=>I.base _ o e J) h2
 refine f5 i (λb s' q=> ?_) λu_ u_ f=>f;refine gc q λm hq1=> ?_;subst m;subst hq1;refine U R.clo ?_;have v:∀y k,aY y=H->aZ (nm y) fd.scope.names=O k->fd.scope.names.lookup y=O k:=λy k hy hk=>j6 R.sc.plain hy hk;refine wpAny_newFunctionEnv_cells R.sc.fn (λp hp=> ?_) λenv r s1 x=> ?_
 .have hm:=(List.of_mem_zip hp).1;refine aC (R.sc.params p.1 hm) λh2 h1=> ?_;rcases h2 with h2|h2
  .exact .inl (v _ _ h1 h2)
  .refine .inr ⟨v _ _ h1 h2, ?_⟩;refine fF (cellsFrom_some (k:=s'.heap.objs.size+1) (acc:=[]) (.inr (mem_of_lookup (v _ _ h1 h2)))) λc hc=>U hc ?_;rfl
 .have r:env=callEnvC fd s'.heap.objs.size a:=r;subst r;refine HG x.done λh' tk m=> ?_;subst m;intro t;refine aC (I.i9 ax (h':=h') (tk:=tk) (gQ x.toInCall.ns.lt) t) λx1 G=>⟨hnl.keeps t,hP _ _ G (eZ.call z I G R.sc R.glob R.blt R.N8 (D.mono x1.dX) V x) x1 λc hc=> ?_⟩
  right
  rcases hc with rfl|⟨y,_,_,q⟩
  .exact x.toInCall.fresh
  .exact gQ (x.above y c (mem_of_lookup q))
theorem rB (a:fQ (n+1) 0 A) (hb:b<=190) env:fQ n b (A.deeper env):=
 a.next rfl (Around.deeper_units ..) (aI (jR hb 3) (aB rfl)) rfl (d:=1) rfl
theorem zq (b:fQ n 0 A):A.depth<mJ:=iZ (i0 b.depth) (aB rfl)
structure Zw (X:dw) (r:Ap) (n b:Nat) (a:Addr) (F:Fn) (names:List Str) (fd:mF) (body:List Stmt):Prop where
 obj:∃o,X.h₀.get? a=O o/\o.data= .func fd
 nt:a∉X.tabs
 data:Vk X fd names F.Ds
 text:fd.body= .stmts body
 code:∀w h s,St X w h s->s.heap.CodeRec fd.code fd.qualname
 names:F.params=names.map nm
 ok:ja X r n b fd.scope.names F.body body
theorem Wu (M:bu X) (j:∀a∈X.tabs,a<X.h₀.objs.size) (m:X.h₀.NoLimit) (t:cStatics∉X.tabs) (R:Zw X r n b a F names fd body) (hb:b<=190)
 (G:fQ (n+1) 0 A) (u:St X w h s) (hv:eg X s.heap w h.n vs ys) (hl:nR F.Ds F.params vs=O l) (e:F.body.f r ⟨l,[]⟩ h (λd h=>k dc h) k=O res)
 (I:Goes (PV X) X w h.n s k res Q):codeN (model X.prog X.w) A (.call (.ref a) ⟨ys,[]⟩) (RV Q) s:=by
 refine dN R.obj λo S V=> ?_;rw [R.names] at hl;refine jE (zq G) (u.base a o S R.nt) V R.data.sc.co R.data.sc.gen R.text (R.code w h s u) (aV (eW (uX M j m t R.data u hv hl (E:=λd d=>False) (E':=λd d=>False) (P:=λenv J=>codeN (model X.prog X.w) A (.func body env) (RV Q) J) λenv J x z K p=>tN ?_)) (λd d q=>eW q) λd d f=>f);refine aV (R.ok _ (rB G hb env) _ _ w h _ x z _ k res e (λf c=>match f with| .ret v=>Q v c|_=>Q .none c) ⟨λρ' B i c C L a3 D=> ?_,λB i c v y C L a3 D=> ?_⟩) (λf c q=> ?_) λd d f=>f.elim
 .exact I B i c dc .none C (K.nZ a3 p) .none D
 .exact I B i c v y C (K.nZ L p) a3 D
 .rcases f<;>exact q
end
section
variable {X:dw} {K:Frag} {w:Wd} {h:aev} {s:Shared} {r:Ap} {n:Nat}
theorem RV.call {M} {Q} (x:codeN M A (.call f ⟨ys,[]⟩) (RV Q) s):cC M A (call f ys) Q (λb b=>False) s:=
 nU (iQ x λr s' z=>by rcases r with e|(v|_|_|_)<;>first|exact z.elim|exact z)
structure Td (K:Frag) (C f:Addr):Prop where
 makes:makesIn K C=H
 init:findIn K (.ref C) "__init__"=O (O (.ref f))
 fn:typeIn K (.ref f)=O (.type "function")
theorem Ii C ys:(Code.builtin "type.__call__" ⟨.ref C::ys,[]⟩).weight=1:=by kernel_rfl
theorem Lj C ys:(Code.builtin "type.__call__" ⟨.ref C::ys,[]⟩).cUnits=1:=by kernel_rfl
theorem OG (a:fQ (n+1) 0 A) C ys:fQ n 0 (A.under (.builtin "type.__call__" ⟨.ref C::ys,[]⟩)):=
 a.next rfl (congrArg (A.units+ ·) (Lj C ys)) (aB rfl) (congrArg (A.depth+ ·) (Ii C ys)) rfl
theorem St.OH (g:bu X) (i:St X w h s) (C:Addr):∃d,St X d ⟨HT.ins (uC C []) h.l h.n,h.n+1⟩ {s with heap:=(s.heap.push eT).push (fH C s.heap.objs.size)}/\
 Ext X cT w h.n s d (h.n+1) {s with heap:=(s.heap.push eT).push (fH C s.heap.objs.size)}/\d.ρ h.n=s.heap.objs.size+1:=by
 have h1:((s.heap.push eT).push (fH C s.heap.objs.size)).objs.size=s.heap.objs.size+2:=U (bI ..) (U (bI ..) rfl);have j:((s.heap.push eT).push (fH C s.heap.objs.size)).get? (s.heap.objs.size+1)=O (fH C s.heap.objs.size):=by
  have:=aJ (s.heap.push eT) (o:=fH C s.heap.objs.size) rfl
  rwa [bI] at this
 refine gc (i.new g (o:=uC C []) (b:=s.heap.objs.size+1) (own:=λa=>decide (s.heap.objs.size<=a)&&decide (a<s.heap.objs.size+2)) (by simp) (s':={s with heap:=(s.heap.push eT).push (fH C s.heap.objs.size)})
  (by show _<=((s.heap.push eT).push (fH C s.heap.objs.size)).objs.size;refine U h1 ?_;exact d9 (fK (jH (fU s))) 2)
  (λa f=>by
   simp only [aP,decide_eq_true_eq] at f;exact⟨f.1,by show _<((s.heap.push eT).push (fH C s.heap.objs.size)).objs.size;refine U h1 ?_;exact f.2⟩)
  (λa m e=>az _ (az _ e)) rfl rfl 0 _ rfl
  (λk h1 h2 p=> .inst C [] s.heap.objs.size #[] 0 (U h2 h1) (by simp) (U h2 (cg (bM _))) (U h2 j) (az _ (aJ _ rfl)) .nil (of_decide_eq_true rfl) (λx t q=>absurd rfl q))) λa c=> ?_
 exact f9 _ a c (if_pos rfl)
theorem Te (q:bu X) (R:JC X K) (u:Ck X r n) {T:B8} {C:Addr} (x:∀f,T.init C=O f->∃F,Ft X F/\Td F C f) (B:fQ (n+1) 0 A) (m:St X w h s) (hv:eg X s.heap w h.n vs ys)
 (e:SD T r C vs h k=O res) (D:Goes (PV X) X w h.n s k res Q):codeN (model X.prog X.w) A (.call (.ref C) ⟨ys,[]⟩) (RV Q) s:=by
 refine aK (bB e) λf e E=>aK (x f E) λS c hF=> ?_;have i:=hF.In m;refine jB (m.OH q C) λj G o a3=> ?_;obtain⟨a,g,d,t,os⟩:=s;refine Wt (makes_of i c.makes) (looks_findIn i c.init) (λb=>bind_fn i b c.fn) (.inl rfl) ?_;have hx:VR X ((a.push eT).push (fH C a.objs.size)) j (h.n+1) (bQ h.n) (.ref (a.objs.size+1)):=by
  have:=VR.ref (X:=X) (g:=(a.push eT).push (fH C a.objs.size)) (w:=j) (n:=h.n+1) h.n (bM _)
  rwa [a3] at this
 refine iQ (u.fn _ (OG B _ _) j _ _ G f (bQ h.n::vs) (.ref (a.objs.size+1)::ys) (.cons _ _ _ _ hx (hv.mono o.dX)) _ res e (λv s'=>v= .none/\Q (.ref (a.objs.size+1)) s') λI h2 J v y L p M l=> ?_) λP s' z=> ?_
 .refine gc (dH l) λht l=> ?_;have hy:y= .none:=by
   induction M using Mine.VR.casesOn<;>first|rfl|exact nn (aH ht) rfl
  exact⟨hy,D I h2 J _ _ L (o.trans p) (hx.mono p.dX) l⟩
 .rcases P with e|(v|_|_|_)<;>first|exact z.elim|exact z
theorem Lk (a:Ft X K) (b:St X w h s) (c:Td K C f) {M}:ry M (.ref C) s.heap:=by
 have Y:=makes_of (M:=M) (a.In b) c.makes;obtain⟨e,od,g,i,d,_⟩:=Y.obj;exact bV .machine (.inr (.inl rfl)) ((Looks.ld d).andThen ((Y.call.andThen (Looks.of_pure rfl))))
theorem yg (b:g.get? a=O o) (c:o.data= .func fd) {M}:ry M (.ref a) g:=bV .frame (.inl rfl) ((Looks.ld b).andThen (U c .now))
end
structure Tf (X:dw) (r:Ap) (n b:Nat) (L:Lm) (fd:mF) (names:List Str) (body:Expr):Prop where
 data:Vk X fd names []
 text:fd.body= .expr body
 names:L.params=names.map nm
 ok:cN X r n b fd.scope.names L.body body
section
variable {X:dw} {w:Wd} {h:aev} {s:Shared} {r:Ap} {n b:Nat}
theorem Tg (C:bu X) (g:∀a∈X.tabs,a<X.h₀.objs.size) (i:X.h₀.NoLimit) (p:cStatics∉X.tabs) (R:Tf X r n b L fd names body) (hb:b<=190)
 (D:s.heap.get? a=O o) (F:o.data= .func fd) (G:fd.code= .ref c) (j:s.heap.CodeRec (.ref c) fd.qualname)
 (z:fQ (n+1) 0 A) (I:St X w h s) (hv:eg X s.heap w h.n vs ys) (hl:nR [] L.params vs=O l) (e:L.body.f r ⟨l,[]⟩ h k=O res)
 (J:Goes (PV X) X w h.n s k res Q):codeN (model X.prog X.w) A (.call (.ref a) ⟨ys,[]⟩) (RV Q) s:=by
 rw [R.names] at hl;refine oU (zq z) D F R.data.sc.co R.data.sc.gen R.text (G.symm▸j) (aV (eW (uX C g i p R.data I hv hl (E:=λd d=>False) (E':=λd d=>False) (P:=λenv B=>codeN (model X.prog X.w) A (.expr body env) (RV Q) B) λenv B t u K M=>yV ?_)) (λd d q=>eW q) λd d f=>f);refine aV (R.ok _ (rB z hb env) _ _ w h _ t u k res e Q λS x m v y V a2 a3 a4=> ?_) (λf m q=>q) λd d f=>f.elim;exact J S x m v y V (K.trans a2) a3 a4
theorem zu {pos:Pos} l (h:nC l):nC (l++[rawInt pos.line,rawInt pos.col,c]):=by
 fun_induction nC l with
 |case1=>exact h
 |case2 a t b u x d e=>exact e h
 |case3 l h1 h2=>exact h.elim
theorem AO (l m) (h:nC l) (e:codeAmong pos l=O c):codeAmong pos (l++m)=O c:=by
 fun_induction nC l with
 |case1=>exact fn e
 |case2 a t b u x d f=>
  simp only [qt,codeAmong] at e⊢;split at e
  .rename_i q;refine U (if_pos q) ?_;exact e
  .rename_i q;refine U (if_neg q) ?_;exact f h e
 |case3 l h1 h2=>exact h.elim
theorem AP {pos d:Pos} l (h:nC l) (hn:codeAmong d l=aq) (e:codeAmong d (l++[rawInt pos.line,rawInt pos.col,c])=O cv):d.line=pos.line/\d.col=pos.col/\cv=c:=by
 fun_induction nC l with
 |case1=>
  simp only [List.nil_append,rawInt,codeAmong] at e;split at e
  .rename_i q;simp only [aP,beq_iff_eq,Int.natCast_inj] at q;exact iW q.1.symm q.2.symm ((aF e).symm)
  .exact fn e
 |case2 a t b u x f g=>
  simp only [qt,codeAmong] at e hn;split at e
  .rename_i q;rw [if_pos q] at hn;exact sn hn
  .rename_i q;rw [if_neg q] at hn;exact g h hn e
 |case3 l h1 h2=>exact h.elim
theorem St.code (ax:bu X) (d:St X w h s) {P c:Addr} (C:P∈X.tabs) (hp:s.heap.get? P=O ⟨.none,aq,.fields ps,#[]⟩) (ht:nC ps.toList) (hn:codeAmong pos ps.toList=aq) (hq:∀j,X.qw P pos.line pos.col=O j->j=q)
 (hx:mU P s.heap h') (l:s.heap.objs.size<=c) (D:c<h'.objs.size) (p:h'.CodeRec (.ref c) q) (E:h'.get? P=O ⟨.none,aq,.fields (ps++ #[rawInt pos.line,rawInt pos.col,.ref c]),#[]⟩):
 St X w h {s with heap:=h',toks:=tk}/\Ext X cT w h.n s w h.n {s with heap:=h',toks:=tk}/\w.role c=aq/\c∉X.tabs:=by
 have u:=(d.tab P C).low;have F:=gQ (iZ l D);have x:Ext X cT w h.n s w h.n {s with heap:=h',toks:=tk}:=⟨F,br _,λg g=>rfl,λg g=>rfl,λg g=>rfl,λa o g h2 g e=>hx a o (λq=>h2 (q▸C)) e,rfl,rfl⟩;have k:=x.dX;have m:∀a i,w.role a=O i->a≠P:=λa i G q=>absurd u (bC.mpr (q▸(d.lim a i G).2.1));have v:w.role c=none:=by
  induction G:w.role c using zO with
  |none=>rfl
  |some i=>exact absurd (d.lim c i G).2.2 (bC.mpr l)
 have y:c∉X.tabs:=λq=>absurd (d.tab c q).low (bC.mpr (aI d.size l));refine qN ⟨λi o e=> ?_,λa i e=> ?_,λa o e ht=>hx a o (λq=>ht (q▸C)) (d.base a o e ht),aI d.size F,λB z=> ?_⟩ x v y
 .exact aC (d.rep i o e) λrr hi=>⟨hi,rr.keep ax k hi (λg h=>h) λa o h1 e=>hx a o (m a i h1) e⟩
 .refine fh (d.lim a i e) λa2 a1 a3=> ?_;exact iW a1 a2 (aR a3 F)
 .by_cases A:B=P
  .subst A;obtain⟨_,ps',e1,e2,e3⟩:=d.tab B z;cases hp.symm.trans e1;refine⟨u,_,E,by simpa using (zu (c:= .ref c) (pos:=pos) ps.toList ht),λf j cv h1 h2=> ?_⟩;have h2:codeAmong f (ps.toList++[rawInt pos.line,rawInt pos.col,.ref c])=O cv:=by simpa using h2
   induction I:codeAmong f ps.toList using zO with
   |some J=>
    refine Sl (e3 f j J h1 I) λc' K=> ?_;subst K;intro r1 R r3;have L:cv= .ref c':=by
     have:=AO ps.toList [rawInt pos.line,rawInt pos.col,.ref c] ht I;rw [this] at h2;exact(aF h2).symm
    refine pK r3 λS V vs t g3 e g1 g2=> ?_;cases e;exact aC (k.fix c' V r1 R (v8 g2 g3) g1) λj p'=>⟨c',L,p',R,c',V,vs,t,rfl,j,g2,g3⟩
   |none=>
    have:=AP ps.toList ht I h2;refine Rd this λhl M Q=> ?_;rw [hl,M] at h1;exact U (hq j h1) (qO c Q v y p)
  .exact(d.tab B z).keep k λo g e=>hx B o A e
theorem cN.lam (G:bu X) pos (v:gH ns=aj) (hc:X.jQ ns=O (c,q')) (I:q'++"<lambda>"=q) (hP:P∈X.tabs)
 (x:∀w h s,St X w h s->CodeHd s.heap c P) (y:X.qw P pos.line pos.col=O q) (J:∀w h s,St X w h s->∃z,s.heap.Ns ic z/\s.heap.BuiltinsAt z P) (K:ic≠P)
 (B:∀env,defaultsOf params env=([],[])) (m:∀env,closureFor scope env=pure []) (hl:∀pm L f,X.lam (aG (cJ pos.line 4096) pos.col) (kla_fn "<lambda>" q params body scope [] pm L f)):
 cN X r n b ns (xC (NS (aG (cJ pos.line 4096) pos.col))) (.Lambda params body scope pos):=by
 intro A hA env ρ w h s u he k res e Q hQ;refine gc (he.N8 v c q' hc) λg p=> ?_;obtain⟨low,ps,hp,ht,M⟩:=u.tab P hP;refine dN (J w h s u) λz C D=>eW (kla_eval (B env) (U p (U I ?_)));have j:∀s' a,St X w h s'->s'.heap.objs.size<=a->w.role a=aq/\a∉X.tabs:=λs' a h1 h2=>⟨by
  induction E:w.role a using zO with
  |none=>rfl
  |some i=>exact absurd (h1.lim a i E).2.2 (bC.mpr h2),λq=>absurd (h1.tab a q).low (bC.mpr (aI h1.size h2))⟩
 induction l:codeAmong pos ps.toList using zO with
 |some L=>
  refine Sl (M pos q L y l) λc' R=> ?_;subst R;intro E t d;refine kla_makeFunctionHit (m env) he.glob C g (x w h s u) hp ht l D λf h' tk hk S=>aC (u.i9 G (h':=h') (tk:=tk) S hk) λV F=>aC (F.i9 G (h':=h'.push {cls:= .type "function",data:= .func (kla_fn "<lambda>" q params body scope [] ((z "__name__").getD .none) (.ref c') f)}) (tk:=tk) (by show h'.objs.size<=_;refine U (bI ..) ?_;exact gW _) (λa o e=>az _ e)) λx2 s2=> ?_;exact aC (j _ h'.objs.size F (br _)) λn2 n1=>hQ w h _ _ _ s2 (V.trans x2) (.lam _ h'.objs.size _ _ c' n1 n2 (aJ _ rfl) rfl rfl E t (d.keeps λb o e=>az _ (hk b o e)) (hl _ _ _)) e
 |none=>
  refine kla_makeFunction (m env) he.glob C g (x w h s u) hp ht l K D λc' f h' tk hx hge hlt d RL=>uy (u.code G hP hp ht l (λq'' e=>aF (e.symm.trans y)) (tk:=tk) hx hge hlt d RL) λV F E t=>aC (F.i9 G (h':=h'.push (kla_obj "<lambda>" q params body scope [] ((z "__name__").getD .none) c' f)) (tk:=tk) (by show h'.objs.size<=_;refine U (bI ..) ?_;exact gW _) (λa o e=>az _ e)) λx2 s2=> ?_;exact aC (j _ h'.objs.size F (br _)) λn2 n1=>hQ w h _ _ _ s2 (V.trans x2) (.lam _ h'.objs.size _ _ c' n1 n2 (aJ _ rfl) rfl rfl E t (d.push _) (hl _ _ _)) e
end
def qh (X:dw) (m:Nat):Prop:=∀n A,fQ n 0 A->∀w h s,St X w h s->∀vs ys,eg X s.heap w h.n vs ys->∀k res,BW m vs h k=O res->∀Q:Value->Shared->Prop,
 Goes (PV X) X w h.n s k res Q->cC (model X.prog X.w) A (call (oQ m) ys) Q (λu_ u_=>False) s
structure Ll (X:dw) (K:Frag) (T:B8):Prop where
 cls:∀C f,T.init C=O f->∃F,Ft X F/\Td F C f
 bi:∀m,qh X m
 fnk:∀a F,T.fn a=O F->∃o fd,X.h₀.get? a=O o/\o.data= .func fd/\a∉X.tabs
 fn:∀a F,T.fn a=O F->ak F.prim 0=H->∃b names fd body,b<=190/\∀r n,Ck X r n->Zw X r n b a F names fd body
 prim:∀a F,T.fn a=O F->ak F.prim 0=aj->∀r n,Ck X r n->∀A,fQ (n+1) 0 A->∀w h s,St X w h s->∀vs ys,eg X s.heap w h.n vs ys->∀k res,with2 vs (λa w=>r w [a,bL F.prim,aW 0] h k)=O res->
  ∀Q:Value->Shared->Prop,Goes (PV X) X w h.n s k res Q->codeN (model X.prog X.w) A (.call (.ref a) ⟨ys,[]⟩) (RV Q) s
 lam:∀j L,T.lam j=O L->∃b names body,b<=190/\∀fd,X.lam j fd->∀r n,Ck X r n->Tf X r n b L fd names body
theorem tU M {f} (h:∀a,f≠.ref a) g:ry M f g:=by
 refine bV .machine (.inr (.inl rfl)) ?_;have:keeperOf f=pure .machine:=by
  rcases f<;>first|rfl|exact absurd rfl (h _)
 refine U this ?_;exact .now
def Ln (y:Value):Bool:=Value.rec aj aj aj (λu_=>aj) (λu_ u_=>aj) (λu_ u_=>aj) (λu_ u_=>aj) (λu_ u_=>aj) (λu_=>aj) (λu_=>aj) (λu_=>H) y
theorem wz k a (e:oQ k= .ref a):False:=by
 have q:=if h:k<18 then(by decide+kernel:∀k,k<18->Ln (oQ k)=aj) k h else i6 (mE h)▸(rfl:Ln (oQ (k-18+18))=aj);rw [e] at q;exact ft q
section
variable {X:dw} {K:Frag} {T:B8} {r:Ap} {n:Nat} {w:Wd} {h:aev} {s:Shared}
theorem Lo (q:bu X) (c:∀a∈X.tabs,a<X.h₀.objs.size) (d:X.h₀.NoLimit) (f:cStatics∉X.tabs) (g:Ll X K T) (i:Ck X r n) (j:fQ (n+1) 0 A) (m:St X w h s) (hv:eg X s.heap w h.n vs ys)
 (e:Zj T r a vs h k=O res) (o:Goes (PV X) X w h.n s k res Q):codeN (model X.prog X.w) A (.call (.ref a) ⟨ys,[]⟩) (RV Q) s:=by
 refine aK (nT e) λF e hF=> ?_
 induction hp:ak F.prim 0 using zB with
 |false=>
  rw [hp] at e;exact g.prim a F hF hp r n i A j w h s m vs ys hv k res e Q o
 |true=>
  rw [hp] at e;refine aK (nT e) λl e hl=> ?_;obtain⟨b,names,fd,p,hb,R⟩:=g.fn a F hF hp;exact Wu q c d f (R r n i) hb j m hv hl e o
theorem Lp (b:St X w h s) (c:Ll X K T) (e:Zj T r a vs h k=O res) {M}:ry M (.ref a) s.heap:=aK (nT e) λF e hF=>vQ (c.fnk a F hF) λo fd h1 h2 d=>yg (b.base a o h1 d) h2
theorem Lq m:Ck X (run T 0) m:=⟨λa a a a a a a a a a a a a a e=>(fn e),λa a a a a a a a a a e=>(fn e),λa a a a a a a a a a a a e=>fn e⟩
theorem Lr (z:bu X) (M:JC X K) (d:∀a∈X.tabs,a<X.h₀.objs.size) (g:X.h₀.NoLimit) (q:cStatics∉X.tabs) (t:Ll X K T) (B:Ck X r n):Ck X (apply T r) (n+1):=by
 refine⟨λA v w h s i f P u vs ys hv k res e Q x=> ?_,λw h s i f P u vs k res e=> ?_,λA v w h s i a vs ys hv k res e Q x=>Lo z d g q t B v i hv e x⟩
 .induction u using Mine.VR.casesOn with
  |fn a=>exact RV.call (Lo z d g q t B v i hv e x)
  |cls C=>exact RV.call (Te z M B (λf u=>t.cls C f u) v i hv e x)
  |bi m=>exact t.bi m _ A v w h s i vs ys hv k res e Q x
  |lam j a o fd c S ht D E y F G p hl=>
   have e:VX T r j vs h k=O res:=e;refine aK (bB e) λL e V=>dN (bB e) λl I e=> ?_;obtain⟨b,names,J,hb,R⟩:=t.lam j L V;exact RV.call (Tg z d g q (R fd hl r n B) hb D E y p v i hv I e x)
  |_=>exact fn e
 .induction u using Mine.VR.casesOn with
  |fn a=>exact Lp i t e
  |cls C=>
   have e:SD T r C vs h k=O res:=e;exact aK (bB e) λf e u=>aK (t.cls C f u) λu_ c hF=>Lk hF i c
  |bi m=>exact tU _ (wz m) _
  |lam j a o fd c S ht D E y F G p hl=>exact yg D E
  |_=>exact fn e
theorem OI (e:bu X) (f:JC X K) (b:∀a∈X.tabs,a<X.h₀.objs.size) (c:X.h₀.NoLimit) (d:cStatics∉X.tabs) (g:Ll X K T):∀n,Ck X (run T n) n:=by
 intro n
 induction n with
 |zero=>
  exact Lq _
 |succ n i=>
  exact Lr e f b c d g i
end
structure Vl (X:dw) (g:Heap) (w:Wd) (n:Nat) (p:V×V) (q:Value×Value):Prop where
 key:VR X g w n p.1 q.1
 val:VR X g w n p.2 q.2
def Wv (X:dw) (w:Wd) (m:Nat) (s:Shared) (k:List (V×V)->aev->Option Res) (res:Res) (Q:List (Value×Value)->Shared->Prop):Prop:=
 ∀w' h' s' vs ys,St X w' h' s'->Ext X cT w m s w' h'.n s'->iU (Vl X s'.heap w' h'.n) vs ys->k vs h'=O res->Q ys s'
def RM (X:dw) (r:Ap) (n b:Nat) (ns:List (Str×aM)) (l:XP) (ks:List (Option Expr)) (es:List Expr):Prop:=
 ∀A,fQ n b A->∀env ρ w h s,St X w h s->eZ X env ns ρ w h.n s->∀k res,l.f r ρ h k=O res->∀pos (Q:List (Value×Value)->Shared->Prop),Wv X w h.n s k res Q->cC (model X.prog X.w) A (evalPairs (pairTrees ks es env pos)) Q (λu_ u_=>False) s
section
variable {X:dw} {r:Ap} {n b:Nat} {ns:List (Str×aM)} {w:Wd} {h:aev} {s:Shared}
theorem Vl.mono (k:o9 X g w n g' w' n') (x:Vl X g w n p q):Vl X g' w' n' p q:=⟨x.key.mono k,x.val.mono k⟩
theorem RM.nil:RM X r n b ns VN [] []:=λA d env ρ w h s a he k res e pos Q c=>eW (evalPairs_nil (c w h s [] [] a .refl .nil e))
theorem Ti
 (h:cC (model prog ww) A (eval k env) (λl c=>cC (model prog ww) A (eval v env) (λm d=>cC (model prog ww) A (evalPairs (pairTrees ks vs env pos)) (λr f=>Q ((l,m)::r) f) E d) E c) E s):
 cC (model prog ww) A (evalPairs (pairTrees (some k::ks) (v::vs) env pos)) Q E s:=ay (aV h (λa a g=>ay (bg (ay (aV g (λa a i=>ay (bG (aO (ay (bg (aV i (λa a j=>aO j) λa a e=>e)))))) λa a e=>e)))) λa a e=>e)
theorem Ww
 (a:keys.all (·.isSome)=H) (hl:keys.length=values.length) (l:keys≠[]) (f:keys.length<=15)
 (h:cC (model prog ww) A (evalPairs (pairTrees keys values env pos)) (λvs c=>cC (model prog ww) A (sE s.heap.objs.size vs) (λg d=>Q (.ref s.heap.objs.size) d) E c) E
  {s with heap:=s.heap.push {cls:= .type "dict",data:= .dict #[]}}):
 cC (model prog ww) A (eval (.Dict keys values pos) env) Q E s:=by
 have hn:=pairTrees_length keys values env pos a hl;have k:pairTrees keys values env pos≠[]:=by
  intro he;rw [he] at hn;exact l (iK.mp hn.symm)
 rw [arm_eval_Dict,zip_pairTrees keys values env pos a hl,dictDisplay_pairs _ k (by refine U hn ?_;lia)];refine ay (bG (ay (NJ wpAny_alloc (ay (bg ?_)))));rw [if_pos (U hn f)];refine ay (aV h (λvs c i=> ?_) λg g e=>e);exact bg (ay (aV i (λg d j=>aO (aO (aO j))) λg g e=>e))
theorem RM.cons (t:cN X r n b ns a k) (z:cN X r n b ns c v) (hl:RM X r n b ns l ks es):RM X r n b ns (Rr a c l) (some k::ks) (v::es):=by
 intro A d env ρ w h s B he R res e pos Q C;exact Ti (t A d env ρ w h s B he _ res e _ λD h1 E u x f g hu F=>z A d env ρ D h1 E f (he.ext g) _ res F _ λG h2 I S y i j m J=>hl A d env ρ G h2 I i ((he.ext g).ext j) _ res J pos _ λK L M vs ys o p q P=>C K L M _ _ o ((g.trans j).trans p) (.cons ⟨(hu.mono j.dX).mono p.dX,m.mono p.dX⟩ q) P)
theorem GQ (m:bu X) (f:St X w h s) (hu:VR X s.heap w h.n u x) (hv:VR X s.heap w h.n v y) (e:Di (bQ i) u v h k=O res) (p:A.units<cLine)
 (q:∀h' s',St X w h' s'->h'.n=h.n->Ext X cT w h.n s w h.n s'->k dc h'=O res->Q () s'):wpAny (model X.prog X.w) A (dictSet (w.ρ i) x y) Q (λg g=>False) s:=by
 refine dF (dg e) λo e g j=>aC (dH e) λe t=> ?_
 induction (f.rep _ o j).2 using Mine.Rep.casesOn with
 |dict z C ep D E hn F G l=>
  exact aK (bB e) λd e B=>aC (dH e) λe hz=>Fo m f j hu hv B (ru hz) p λs' a c=>q _ s' a rfl c e
 |_=>exact nn (aH t) rfl
theorem DY (g:bu X) (j:A.units<cLine):∀{vs} {ys} {h} {s},St X w h s->iU (Vl X s.heap w h.n) vs ys->vX (bQ i) vs h k=O res->∀{Q},
 (∀h' s',St X w h' s'->h'.n=h.n->Ext X cT w h.n s w h.n s'->k (bQ i) h'=O res->Q ⟨⟩ s')->wpAny (model X.prog X.w) A (sE (w.ρ i) ys) Q (λa a=>False) s:=by
 intro vs
 induction vs with
 |nil=>
  intro _ h s c hv e Q d;cases hv;exact av (d h s c rfl .refl e)
 |cons p vs l=>
  intro _ h s c hv e Q d;cases hv with
  | @cons _ q _ ys hp hvs=>
   unfold sE;exact U (dO ..) (au (au (GQ g c hp.key hp.val e j λh1 z m f a3 o=>av (l m (f▸hvs.mono λa a=>Vl.mono a3.dX) o λh2 t u v x y=>d h2 t u (v.trans f) (a3.trans (f▸x)) y))))
theorem zv:∀{ks:List (Option Expr)} {d:List Expr},l0 ks d=H->ks.all (·.isSome)=H/\ks.length=d.length
 |[],[],_=>⟨rfl,rfl⟩
 |[],_::_,h=>ff h
 |_::_,[],h=>by
  rename_i k ks;rcases k<;>exact ff h
 |k::ks,e::d,h=>by
  induction k using zO with
  |none=>exact ff h
  |some k=>
   exact gc (zv (show l0 ks d=H from h)) λa c=>⟨by exact a,by exact(λ{a b}=>Iff.mpr Nat.succ_inj) c⟩
theorem cN.dict (ax:bu X) pos (hall:l0 ks es=H) (hlen:ks.length<=15) (hl:RM X r n b ns l ks es):cN X r n b ns (JW l) (.Dict ks es pos):=by
 intro A hA env ρ w h s hs he k res e Q hQ;refine gc (zv hall) λh1 h2=> ?_;have hc:=hA.c (k:=0) rfl;refine jB (hs.push ax (cH #[] 0) (d7 [] 0) s.toks rfl 0 λw' k h1 h2 h3=> .dict [] #[] 0 h1 h2 (of_decide_eq_true rfl) ⟨.nil,⟨0,λp hp=>(aU hp).elim⟩,iI⟩ 0 (U h3 rfl)) λw' a1 a2 a3=> ?_;have go:=hl A hA env ρ w' _ _ a1 (he.ext a2) _ res e pos (λys s'=>cC (model X.prog X.w) A (sE s.heap.objs.size ys) (λu_ s''=>Q (.ref s.heap.objs.size) s'') (λu_ u_=>False) s') λw2 h2 s2 vs ys b1 b2 b3 e2=> ?_
 .induction hk:ks using zL with
  |nil=>
   subst hk;exact U (iK.mp h2.symm) (λΓ p hΓ hc=>wpAny_Dict_empty (go Γ p hΓ hc Γ p hΓ hc) Γ p hΓ)
  |cons a ks'=>
   exact cL hk (Ww h1 h2 (U hk (λq=>(by injection q))) hlen go)
 .have Zt:=(b2.ρ h.n (bM _)).trans a3;exact cL Zt (eW<|DY ax hc b1 b3 e2 λh3 s3 c1 c2 c3 e3=>hQ w2 h3 s3 _ _ c1 (c2.symm▸((a2.trans b2).trans c3)) (U c2 (.ref h.n (aR (bM _) b2.oE))) e3)
end
section
variable {X:dw} {w:Wd} {h:aev} {s:Shared} {A:Around}
theorem DZ (c:(d==lD)=aj) (a:s.heap.get? d=O (cH es ep))
 (e:Q (.ref s.heap.objs.size) {s with heap:=s.heap.push {cls:= .type "dict_keyiterator",data:= .fields #[.ref d,.int 0 0,.int es.size 0,.int ep 0]}}):wpAny (model X.prog X.w) A (pyIter (.ref d)) Q E s:=by
 have b:s.TypeIs (.ref d) "dict":=bV _ a rfl;have f:kh d=pure ():=by unfold kh;refine U c ?_;rfl
 refine wpAny_pyIter_slot b Ay (bH Ay b F.entry_dict_iter ?_ (F.args_dict_iter_1 _));refine(?_:wpAny _ _ ((Builtin.Dict.notOrdered "__iter__" ⟨[.ref d],[]⟩>>=λg=>pure (gu d))>>=_) _ _ s);refine au (au (nj b (av ((?_:wpAny _ _ (kh d>>=_) _ _ s)))));exact U f (bp (au (gM a rfl (au (uf a rfl (au (dZ (av ⟨_,rfl,"dict_keyiterator",_,(bV _ (aJ _ rfl) rfl),ow.lookup,e⟩))))))))
theorem St.one (f:bu X) (d:St X w h s) (c:∀a∈X.tabs,a<X.h₀.objs.size) ob t (g:o9 X s.heap w h.n (s.heap.push ob) w h.n->SrcR X (s.heap.push ob) w h.n s.heap.objs.size a):
 ∃S,St X w h {s with heap:=s.heap.push ob,toks:=t}/\Ext X cT w h.n s w h.n {s with heap:=s.heap.push ob,toks:=t}/\As X (s.heap.push ob) w h.n S (.ref s.heap.objs.size) (gh a)/\∀b,S b->s.heap.objs.size<=b:=by
 refine aC (d.junk f ob t) λe i=>qO (λb=>b=s.heap.objs.size) i e ⟨λb hb=> ?_,.one _ _ (λb=>Iff.rfl) (g e.dX)⟩ (λb hb=>cV hb.symm);subst hb;exact iW (l9 d (br _)) d.size (λhm=>absurd (c _ hm) (bC.mpr d.size))
theorem Ij (r:bu X) (m:10<=X.h₀.objs.size) (d:∀a∈X.tabs,a<X.h₀.objs.size) (j:St X w h s) (hv:VR X s.heap w h.n v y) (e:JO v h k=O res)
 (u:∀s' S I F,St X w h s'->Ext X cT w h.n s w h.n s'->As X s'.heap w h.n S I F->(∀b,S b->s.heap.objs.size<=b)->F.t=0->k F h=O res->Q I s'):wpAny (model X.prog X.w) A (pyIter y) Q (λp p=>False) s:=by
 have e:(af (af (af
  (look v h λo h=>af (af aq (k (gh (rY v.n (len o.kvs) 0 o.c)) h) (ak o.t 2)) (k (gh (gp v.n 0)) h) (ak o.t 1))
  (k (gh (dR (kM (λc=>vStr [c]) v.l))) h) (ak v.t 3)) (k (gh (dR (kM aW v.l))) h) (ak v.t 4)) (k (gh (dR v.xs)) h) (ak v.t 5):Option Res)=O res:=e
 refine sI e (λK e=> ?_) λp e=>sI e (λL e=> ?_) λp e=>sI e (λM e=> ?_) λp e=> ?_
 .refine fJ (hv.ia (aH K)) λt items ep x q D ht hn z=>U q (lI (items:=items) (gf _ x rfl _ rfl) (qQ (j.one r d {cls:= .type "tuple_iterator",data:= .fields #[.ref t,.int 0 0]} s.toks (a:=dR v.xs) λE=> .tup t items ep 0 D ht (az _ x) (f9 _ (aJ _ rfl) rfl rfl) v.xs (z.mono E)) λS f g a3 i=> ?_));exact u _ S _ _ g f a3 i rfl e
 .refine oK (hv.jN (aH L)) λb t l q hn=> ?_;rw [l,qb,jI] at e;refine U q (KBw.pyIter_bytes (pM (j.one r d {cls:= .type "bytes_iterator",data:= .fields #[.bytes b t,.int 0 0]} s.toks (a:=dR ((b.toList.drop 0).map λc=>aW c.toNat)) λE=> .bytes b t 0 (f9 _ (aJ _ rfl) rfl rfl)) λS a3 g f i=> ?_));exact u _ S _ _ g f a3 i rfl e
 .refine aK (hv.qc (aH M)) λt hn q=> ?_;rw [qb] at e;refine U q ?_
  induction J:(⟨v.l.toArray⟩:Str).cps.all (·<128) using zB with
  |true=>
   refine wpAny_pyIter_ascii J (pM (j.one r d {cls:= .type "str_ascii_iterator",data:= .fields #[.str ⟨v.l.toArray⟩ t,.int 0 0]} s.toks (a:=dR (((⟨v.l.toArray⟩:Str).cps.toList.drop 0).map λc=>vStr [c])) λE=> .Cn _ t 0 (f9 _ (aJ _ rfl) rfl rfl)) λS a3 g f i=> ?_);exact u _ S _ _ g f a3 i rfl e
  |false=>
   refine wpAny_pyIter_wide J (pM (j.one r d {cls:= .type "str_iterator",data:= .fields #[.str ⟨v.l.toArray⟩ t,.int 0 0]} s.toks (a:=dR (((⟨v.l.toArray⟩:Str).cps.toList.drop 0).map λc=>vStr [c])) λE=> .Co _ t 0 (f9 _ (aJ _ rfl) rfl rfl)) λS a3 g f i=> ?_);exact u _ S _ _ g f a3 i rfl e
 refine dF (dg e) λo e P R=> ?_;have B:=(j.rep _ o R).2;refine gc (hv.eB P) λhy hi=>U hy (sI e (λh1 e=> ?_) λp e=> ?_)
 .refine jM (B.l6 (aH h1)) λitems ep x D hn z=>iH (items:=items) (gf _ x rfl _ rfl) (pM (j.one r d {cls:= .type "list_iterator",data:= .fields #[.ref (w.ρ v.n),.int 0 0]} s.toks (a:=gp v.n 0) λp=> .list v.n 0 hi (f9 _ (aJ _ rfl) rfl rfl)) λS a3 g f i=> ?_);exact u _ S _ _ g f a3 i rfl e
 .refine aC (dH e) λe h2=>iX (B.kR (aH h2)) λG ep C D x hn V=> ?_;rw [len_eq,V.all.length,aN] at e;refine DZ (jO j m D) x (pM (j.one r d {cls:= .type "dict_keyiterator",data:= .fields #[.ref (w.ρ v.n),.int 0 0,.int G.size 0,.int ep 0]} s.toks (a:=rY v.n G.size 0 o.c) λp=> .keys v.n G.size 0 o.c hi (f9 _ (aJ _ rfl) rfl (U C rfl))) λS a3 g f i=> ?_);exact u _ S _ _ g f a3 i rfl e
theorem AK.e (ax:bu X) (hbase:10<=X.h₀.objs.size) (htab:∀a∈X.tabs,a<X.h₀.objs.size) (ha:cN X r n b ns a x) tp:AK X r n b ns tp (iE a) x:=by
 intro A hA env ρ w h s hs he k res e Q hQ;exact ha A hA env ρ w h s hs he _ res e _ λw1 h1 s1 v y hs1 x1 hv e1=>eW<|Ij ax hbase htab hs1 hv e1 λs2 S iv it a1 a2 a3 a4 a5 e2=>hQ w1 h1 s2 S iv it a1 (x1.trans a2) a3 (λb hb=>aI x1.size (a4 b hb)) (.inl a5) (λq=>by rw [a5] at q;exact nn q rfl) e2
end
theorem D0 n (a c):vS (n+1) a c=mD a::vS n (a+c) c:=rfl
theorem Ls (n a):NV (n+1) a=aW a::NV n (a+1):=rfl
theorem Bg X:∀n a c,pq X c (vS n a c) a/\(vS n a c).length=n:=by
 intro n
 induction n with
 |zero=>
  intro a c;exact⟨.nil a,rfl⟩
 |succ n b=>
  intro a c;exact gc (b (a+c) c) λh1 h2=>U (D0 ..) (⟨.cons _ _ _ (λg w n t=> .mD a t) h1,by simp [h2]⟩)
theorem Tj X:∀n a,pq X 1 (NV n a) (a:Int)/\(NV n a).length=n:=by
 intro n
 induction n with
 |zero=>
  intro a;exact⟨.nil _,rfl⟩
 |succ n b=>
  intro a;exact gc (b (a+1)) λh1 h2=>U (Ls ..) (⟨.cons _ _ _ (λg w n t=> .nat a t) (by simpa using h1),by simp [h2]⟩)
theorem D3 (a:0<c):((x+c).fdiv c).toNat=(if 0<=x then x/c+1 else 0:Int).toNat:=by
 refine U (oZ _ (Int.le_of_lt a)) (U (congrArg (x+ ·) (Int.one_mul c).symm) (U (Int.add_mul_ediv_right _ _ (Int.ne_of_gt a)) ?_));split
 .rfl
 .rename_i h;have:x/c<0:=Int.ediv_neg_of_neg_of_pos (Int.lt_of_not_ge h) a;refine U (Int.toNat_of_nonpos this) ?_;rfl
theorem pR:0<=cK a b c:=by
 refine(?_:0<=(if 0<c then(if a<b then(b-a-1)/c+1 else 0) else(if b<a then(a-b-1)/(-c)+1 else 0)));by_cases d:0<c
 .refine U (if_pos d) ?_;by_cases q:a<b
  .exact U (if_pos q) (Int.le_add_one (Int.ediv_nonneg (JG q) (Int.le_of_lt d)))
  .exact U (if_neg q) (Int.le_refl 0)
 .refine U (if_neg d) ?_;by_cases q:b<a
  .exact U (if_pos q) (Int.le_add_one (Int.ediv_nonneg (JG q) (Int.neg_nonneg_of_nonpos (kI.mp d))))
  .exact U (if_neg q) (Int.le_refl 0)
theorem Bh (hc:c≠0):(vU a b c:Int)=cK a b c:=by
 refine cL (Int.toNat_of_nonneg (pR (a:=a) (b:=b) (c:=c))) (congrArg (λn:Nat=>(n:Int)) ?_);unfold vU cK;by_cases h:0<c
 .have e:=decide_eq_true h;refine U e ((?_:((b-a+c-1).fdiv c).toNat=_));have e2:b-a+c-1=(b-a-1)+c:=Int.add_right_comm (b-a) c (-1);refine U e2 (U (D3 h) (U (if_pos h) ?_));by_cases hab:a<b
  .exact U (if_pos hab) (U (if_pos (JG hab)) rfl)
  .exact U (if_neg hab) (U (if_neg λq=>hab (Rc q)) rfl)
 .have e:=decide_eq_false h;have hlt:=Int.lt_iff_le_and_ne.mpr ⟨kI.mp h,hc⟩;refine U e (U (decide_eq_true hlt) ((?_:((a-b-c-1).fdiv (-c)).toNat=_)));have e2:a-b-c-1=(a-b-1)+ -c:=Int.add_right_comm (a-b) (-c) (-1);refine U e2 (U (D3 (Int.neg_pos_of_neg hlt)) (U (if_neg (show ¬c>0 by exact h)) ?_));by_cases hab:a>b
  .exact U (if_pos hab) (U (if_pos (JG hab)) rfl)
  .exact U (if_neg hab) (U (if_neg λq=>hab (Rc q)) rfl)
theorem Cv (e:a.natAbs<=1000000000000) (hb:b.natAbs<=1000000000000):cK a b c<=2000000000000:=by
 have d:∀x y z:Int,z.natAbs<=1000000000000->x.natAbs<=1000000000000->x<z->(z-x-1)/y+1<=2000000000000:=λx y z hz hx h=>tC (eu (Int.ediv_le_self y (JG h)) (tD (Int.sub_le_sub (nab hz).2 (nab hx).1) 1)) 1;refine(?_:(if 0<c then(if a<b then(b-a-1)/c+1 else 0) else(if b<a then(a-b-1)/(-c)+1 else 0))<=_);by_cases f:0<c
 .refine U (if_pos f) ?_;by_cases q:a<b
  .exact U (if_pos q) (d _ _ _ hb e q)
  .exact U (if_neg q) (by decide)
 .refine U (if_neg f) ?_;by_cases q:b<a
  .exact U (if_pos q) (d _ _ _ e hb q)
  .exact U (if_neg q) (by decide)
theorem fits (h: -9000000000000<=x) (h':x<=9000000000000):ug x=true:=cM.mpr ⟨decide_eq_true (eu (by decide) h),decide_eq_true (vM h' (by decide))⟩
theorem Lu (h:x.natAbs<=1000000000000):ug x=true:=fits (eu (by decide) (nab h).1) (eu (nab h).2 (by decide))
theorem xo (e:a.natAbs<=1000000000000) (hb:b.natAbs<=1000000000000) (d:c.natAbs<=1000000000000):p8 a b c=true:=by
 unfold p8;refine U (Lu e) (U (Lu hb) (U (Lu d) (U (fits (eu (by decide) pR) (eu (Cv e hb) (by decide))) (cz.mpr (.inr (HF (λf=> ?_) λf=> ?_))))))
 .exact fits (eu (by decide) (tF (nab hb).1 (tD (nab d).1 1))) (eu (tF (nab hb).2 (tD (nab d).2 1)) (by decide))
 .exact fits (eu (by decide) (tF (nab hb).1 (tC (nab d).1 1))) (eu (tF (nab hb).2 (tC (nab d).2 1)) (by decide))
section
variable {X:dw} {w:Wd} {n:Nat} {g:Heap}
theorem Cw v:(dU v).natAbs=v.n:=by
 unfold dU
 induction ak v.s 0 using zB with
 |true=>exact Int.natAbs_natCast v.n
 |false=>show(Int.negOfNat v.n).natAbs=v.n;rcases v.n<;>rfl
theorem nv (h:small v=H):(dU v).natAbs<=1000000000000:=U (Cw ..) (aB h)
structure wA (X:dw) (ys:List Value) (l:List V) (a b c:Int):Prop where
 ha:a.natAbs<=1000000000000
 hb:b.natAbs<=1000000000000
 hc:c.natAbs<=1000000000000
 ne:c≠0
 val:pq X c l a
 len:(l.length:Int)=cK a b c
 args:(∃u,ys=[.int b u]/\a=0/\c=1)\/(∃t u,ys=[.int a t,.int b u]/\c=1)\/∃t u v,ys=[.int a t,.int b u,.int c v]
theorem zx (e:xT u v=O l):ak u.t 2=H/\ak v.t 2=H/\small u=H/\small v=H/\pq X 1 l (dU u)/\(l.length:Int)=cK (dU u) (dU v) 1:=by
 refine aC (dH e) λe h1=>aC (dH e) λe h2=>aC (dH e) λe f=>aC (dH e) λe i=>A4 h1 h2 f i ?_
 induction a:ak (aG u.s v.s) 0 using zB with
 |true=>
  rw [a] at e;have e:=e;injection e with e;subst e
  have d:=aH a;have hu:dU u=(u.n:Int):=by unfold dU;refine U (show u.s=0 by exact Nat.eq_zero_of_add_eq_zero_right d) ?_;rfl
  have hv:dU v=(v.n:Int):=by unfold dU;refine U (show v.s=0 by exact Nat.eq_zero_of_add_eq_zero_left d) ?_;rfl
  refine gc (Tj X (ez v.n u.n) u.n) λb c=>U hu (U hv (⟨b,(U c ?_)⟩));unfold cK;refine U (if_pos (Int.one_pos)) ((?_:((v.n-u.n:Nat):Int)=_));by_cases q:(u.n:Int)<v.n
  .exact(U (if_pos q) (U (Int.ediv_one _) (U (Int.sub_add_cancel _ _) (Int.ofNat_sub (gQ (Int.ofNat_lt.mp q))))))
  .exact(U (if_neg q) (congrArg dQ (mC (qH.mp (kI.mp q)))))
 |false=>
  rw [a] at e;have e:=e;injection e with e;subst e
  exact aC (Bg X (vU (dU u) (dU v) 1) (dU u) 1) λc b=>⟨b,by refine U c ?_;exact Bh (rU Int.zero_ne_one)⟩
theorem Ik (hu:VR X g w n u y) (hz:VR X g w n v z) (hx:VR X g w n x z') (e:JL u v x=O l):∃a b c,wA X [y,z,z'] l a b c:=by
 refine aC (dH e) λe h1=>aC (dH e) λe h2=>aC (dH e) λe m=>aC (dH e) λe o=>aC (dH e) λe p=>aC (dH e) λe r=>fF (hu.cO h1) λt B=>fF (hz.cO h2) λC D=>fF (hx.cO m) λf E=> ?_
 induction i:ak x.n 0 using zB with
 |true=>rw [i] at e;exact fn e
 |false=>
  rw [i] at e;have d:dU x≠0:=λq=>fV i (cL (Cw ..) (U q rfl));refine aC (Bg X (vU (dU u) (dU v) (dU x)) (dU u) (dU x)) λj k=> ?_;rw [(aF e)] at k j;exact⟨dU u,dU v,dU x,nv o,nv p,nv r,d,k,by refine U j ?_;exact Bh d,.inr (.inr ⟨t,C,f,by exact U B (U D (U E rfl))⟩)⟩
theorem zy (hv:eg X g w n vs ys) (e:xU vs=O l):∃a b c,wA X ys l a b c:=by
 induction vs using zL with
 |nil=>exact fn e
 |cons u j=>
  induction j using zL with
  |nil=>
   exact dN hv.tM λy q hu=>yD (zx (X:=X) (show xT (aW 0) u=O l from e)) λd k h2 k f i=>fF (hu.cO h2) λt e=>⟨0,dU u,1,by decide,nv f,by decide,by exact rU Int.zero_ne_one,i,d,.inl (f9 t (e▸q) rfl rfl)⟩
  |cons v m=>
   induction m using zL with
   |nil=>
    exact vQ hv.wc λy z q hu hz=>yD (zx (X:=X) e) λd h1 h2 o f i=>fF (hu.cO h1) λt e=>fF (hz.cO h2) λp r=>⟨dU u,dU v,1,nv o,nv f,by exact aB rfl,by exact rU Int.zero_ne_one,i,d,.inr (.inl (m7 t p (e▸r▸q) rfl))⟩
   |cons x B=>
    induction B using zL with
    |nil=>
     exact kK hv.cons_of λy E C q hu=>vQ C.wc λz F D hz hx=>U q (U D (Ik hu hz hx e))
    |cons=>exact fn e
end
section
variable {X:dw} {w:Wd} {h:aev} {s:Shared} {A:Around}
theorem Lv (j:bu X) (i:∀a∈X.tabs,a<X.h₀.objs.size) (o:St X w h s) (hv:eg X s.heap w h.n vs ys) (e:xU vs=O l)
 (p:∀s' S k,St X w h s'->Ext X cT w h.n s w h.n s'->As X s'.heap w h.n S k (gh (dR l))->(∀b,S b->s.heap.objs.size<=b)->Q k s'):
 wpAny (model X.prog X.w) A (call (.type "range") ys) (λq r=>wpAny (model X.prog X.w) A (pyIter q) Q (λf f=>False) r) (λf f=>False) s:=by
 refine Vt (zy hv e) λa b c R=> ?_;have d:∀t u v tk,wpAny (model X.prog X.w) A (pyIter (.ref s.heap.objs.size)) Q (λf f=>False) {s with heap:=s.heap.push {cls:= .type "range",data:= .fields #[.int a t,.int b u,.int c v]},toks:=tk}:=by
  intro t u v tk;refine aC (o.junk j {cls:= .type "range",data:= .fields #[.int a t,.int b u,.int c v]} tk) λx y=>wpAny_pyIter_range (IsRange.new s.heap a b c t u v) (xo R.ha R.hb R.hc) ?_;refine qQ (y.one j i {cls:= .type "range_iterator",data:= .fields #[rawInt a,rawInt (cK a b c),rawInt c]} tk (a:=dR l) λf=> .range a c l R.val (by
   refine U R.len ?_;exact aJ _ rfl)) λS z B C D=> ?_
  exact p _ S _ B (x.trans z) C λb hb=>aI (by show s.heap.objs.size<=(s.heap.push _).objs.size;refine U (bI ..) ?_;exact gW _) (D b hb)
 rcases R.args with⟨u,rfl,rfl,rfl⟩|⟨t,u,rfl,rfl⟩|⟨t,u,v,rfl⟩
 .exact call_range_1 (d _ _ _ _)
 .exact call_range_2 (d _ _ _ _)
 .refine call_range_3 R.ne (d _ _ _ _) (.inl (oY ?_));by_cases m:c.natAbs=0
  .refine U m ?_;decide+kernel
  .have:c.natAbs.log2<64:=(Nat.log2_lt m).mpr (iZ R.hc (of_decide_eq_true rfl));lia
end
section
variable {X:dw} {r:Ap} {n b:Nat} {ns:List (Str×aM)} {G:Str->Option V}
theorem Bj (e:jT G ns m fe=H):∃x p v,fe= .Name x p/\aY x=H/\aZ (nm x) ns=O .globalImplicit/\G x=O v/\v.t=9/\v.n=m:=by
 unfold jT at e
 induction hb:Sz G ns fe using zO with
 |none=>rw [hb] at e;exact ff e
 |some j=>
  rw [hb] at e;refine cL (aH e) ?_;unfold Sz at hb;refine nK (RB hb) λx p hb he=> ?_
  induction hx:aY x using zB with
  |false=>rw [hx] at hb;exact fn hb
  |true=>
   induction hk:aZ (nm x) ns using zO with
   |none=>rw [hx,hk] at hb;exact fn hb
   |some k=>
    rw [hx,hk] at hb
    induction k using dm with
    |globalImplicit=>
     induction hv:G x using zO with
     |none=>rw [hv] at hb;exact fn hb
     |some v=>
      rw [hv] at hb;exact gc (dH hb) λa hb=>⟨x,p,v,he,hx,hk,hv,aH a,aF hb⟩
    |_=>exact fn hb
theorem Lw (d:jV X G) (e:jT G ns m fe=H) (f:fQ n b A) (g:St X w h s) (he:eZ X env ns ρ w h.n s)
 (i:∀c s',St X c h s'->Ext X cT w h.n s c h.n s'->Q (oQ m) s'):cC (model X.prog X.w) A (eval fe env) Q (λa a=>False) s:=by
 obtain⟨x,p,v,rfl,hx,hk,j,k,hm⟩:=Bj e;refine cN.glob (r:=λa a a a=>aq) (n:=n) (b:=b) d x p hx hk v j A f env ρ w h s g he (λu h'=>O ⟨ρ,u,h'⟩) ⟨ρ,v,h⟩ rfl Q λc h' s' u y l o a3 q=> ?_;cases q;have hy:y=oQ m:=by
  refine cL hm ?_
  induction a3 using Mine.VR.casesOn<;>first|rfl|exact nn k rfl
 exact U hy (i c s' l o)
theorem D4 (a:∀o m p,fe≠.Attribute o m p):eval (.Call fe args [] pos) env=(do callWith pos (<-eval fe env) [] (backTo pos (starEach args env)) []):=by
 rcases fe<;>first|rfl|exact absurd rfl (a _ _ _)
theorem GS (e:jT G ns m fe=H):∀o a p,fe≠.Attribute o a p:=by
 obtain⟨x,p,v,rfl,_⟩:=Bj e;exact λc c c q=>(by injection q)
theorem qi (i:jV X G) (e:jT G ns m fe=H) (hl:AH X r n b ns l args) (a:args.any bk=aj) (d:fQ n b A) (j:St X w h s) (he:eZ X env ns ρ w h.n s) pos
 (o:l.f r ρ h k=O res) (p:KJ X w h.n s k res (λys s'=>cC (model X.prog X.w) A (call (oQ m) ys) Q (λc c=>False) s')):
 cC (model X.prog X.w) A (eval (.Call fe args [] pos) env) Q (λc c=>False) s:=U (D4 (GS e)) (ay (Lw i e d j he λB C q g=>(DN (first:=[]) hl a d q (he.ext g) pos o λt h2 u vs ys v x y z=>⟨tU _ (wz m) _,(p t h2 u vs ys v (g.trans x) y z)⟩)))
theorem AK.range (j:bu X) (c:∀a∈X.tabs,a<X.h₀.objs.size) (m:jV X G) (o:jT G ns 1 fe=H) (hl:AH X r n b ns l args) (d:args.any bk=aj) tp pos:AK X r n b ns tp (EZ l) (.Call fe args [] pos):=by
 intro A p env ρ w h s t he k res e Q u;refine qi m o hl d p t he pos e λv h2 M vs ys y i z B=>aK (bB B) λP C D=>aV (eW (Lv j c y z D (Q:=Q) λE S F I J K L=> ?_)) (λg g q=>eW q) λg g f=>f;exact u v h2 E S F _ I (i.trans J) K (λx hx=>aI i.size (L x hx)) (.inl rfl) (λq=>nn q rfl) C
theorem AK.zip (ax:bu X) (gx:jV X G) (eb:jT G ns 9 fe=H) (C:cN X r n b ns a x) (hc:cN X r n b ns c y) (p:[x,y].any bk=aj) pos:AK X r n b ns H (VQ a c) (.Call fe [x,y] [] pos):=by
 intro A hA env ρ w h s hs he k res e Q hQ;have D:bk x=aj/\bk y=false:=by
  simp only [gj,List.any_nil,pY,iy] at p;exact p
 have e:(dS a (dS c ko)).f r ρ h (λvs h=>match vs with
  |[x,y]=>gS x h λm h=>gS y h λm h=>new (ES x.n 0 y.n 0) h λz h=>look z h λo h=>af aq (k (yK z.n) h) (ak o.t 5)
  |_=>aq)=O res:=e
 refine qi gx eb (.cons D.1 C (.cons D.2 hc .nil)) p hA hs he pos e λF h2 d vs ys I b2 b3 j=>HG (wc j) λu v B=> ?_;subst B;intro j;refine vQ b3.wc λyu yv B=> ?_;subst B;intro hu hv;refine gR (fS j) λo1 j u6 J t1=>gR (fS j) λo2 j v6 K t2=>gc (hu.eB u6) λL M=>gc (hv.eB v6) λP R=>U L (U P (sV (I.listAt J t1) λi1 p1 g1 n1 m m=>sV (I.listAt K t2) λi2 p2 g2 n2 m m=> ?_));have j:look (bQ h2.n) ⟨HT.ins (ES u.n 0 v.n 0) h2.l h2.n,h2.n+1⟩ (λo h=>af aq (k (yK h2.n) h) (ak o.t 5))=O res:=j;refine dF (dg j) λo j m ho=>aC (dH j) λj h5=>(?_:cC _ _ (call (.type "zip") _) _ _ _);refine eW<|call_zip_2 (xs:=i1) (ys:=i2) (gf _ g1 rfl _ rfl) (gf _ g2 rfl _ rfl) λh' z1 z2 z3 z4 z5 z6 z7=> ?_
 refine gc (I.new ax (o:=ES u.n 0 v.n 0) (b:=d.heap.objs.size+4) (own:=λa=>decide (d.heap.objs.size<=a)&&decide (a<d.heap.objs.size+5)) (by simp) (s':={d with heap:=h'}) (U z6 (d9 (fK (jH (fU d))) 5))
  (λa C=>by
   simp only [aP,decide_eq_true_eq] at C;exact⟨C.1,by show _<h'.objs.size;refine U z6 ?_;exact C.2⟩) (λa ob e=>z7 a ob e) rfl rfl 0 _ rfl
  (λkk q1 E q3=>by
   refine .zip u.n 0 v.n 0 (d.heap.objs.size+2) (d.heap.objs.size+3) d.heap.objs.size (d.heap.objs.size+1) .none .none (U E q1) (by simp) (by simp) (by simp) (by simp) (qN (Z.off_ne (fK (jH (fU d))) 2 3 rfl) (U E (Z.off_ne (fK (jH (fU d))) 2 4 rfl)) (U E (Z.off_ne (fK (jH (fU d))) 3 4 rfl)) (Nat.ne_add_one (fK (jH (fU d)))))
    (qN (cI M) (cI R) (cg M) (cg R)) (U E z1) z2 z3 (U (kk.ρ u.n M) z4) (U (kk.ρ v.n R) z5))) λc1 c2=> ?_
 refine eW<|wpAny_pyIter_zip (s:={d with heap:=h'}) z1 (hQ _ _ _ (λm=>False) _ (yK h2.n) c1 (b2.trans c2) ⟨λb hb=>hb.elim, ?_⟩ (λb hb=>hb.elim) (.inr rfl) (λm=>bV o ho (aH h5)) j)
 have:=GO.zip (X:=X) (g:=h') (w:=⟨λi=>if i=h2.n then d.heap.objs.size+4 else F.ρ i,λa=>if(decide (d.heap.objs.size<=a)&&decide (a<d.heap.objs.size+5))=H then O h2.n else F.role a,λi=>if i=h2.n then 0 else F.uh i⟩) (n:=h2.n+1) (S:=λm=>False) h2.n (bM _) (λm q=>q);simpa using this
end
noncomputable abbrev xq (t:Addr):Obj:={cls:= .type "tuple_iterator",data:= .fields #[.ref t,.int 0 0]}
noncomputable abbrev rE (a:Addr):Obj:={cls:= .type "enumerate",data:= .fields #[.none,.bool aj,.ref a,rawInt 0,.none,.none]}
theorem Lx t items ep:
 Meets (Builtin.«enumerate.__new__» ⟨[.type "enumerate",.ref t],[]⟩) (λf R s=>s.heap.get? t=O (gi items ep)/\R (.ok (.ret (.ref (s.heap.push (xq t)).objs.size))) {s with heap:=(s.heap.push (xq t)).push (rE s.heap.objs.size)}):=
 .of_wp λprog w A R s h=>by
  obtain⟨hp,g,d,tk,os⟩:=s;refine aC h λh hl=> ?_;have a:=sub_enumerate;have c:Heap.IsTuple (fU ⟨hp,g,d,tk,os⟩) t items:=gf _ hl rfl ep rfl;wp_walk using wpAny_loadPart' hl;refine wpAny_stack_any λi=>Kp λe=> ?_;rcases e<;>(wp_walk using wpAny_loadPart' hl,lI c;exact bV _ rfl h)
section
variable {X:dw} {r:Ap} {n b:Nat} {ns:List (Str×aM)} {G:Str->Option V} {w:Wd} {h:aev} {s:Shared} {A:Around}
theorem AQ {items} (hl:s.heap.get? t=O (gi items ep))
 (q:Q (.ref (s.heap.objs.size+1)) {s with heap:=(s.heap.push (xq t)).push (rE s.heap.objs.size)}):wpAny (model prog ww) A (call (.type "enumerate") [.ref t]) Q E s:=by
 refine callType_new F.called_enumerate rfl (F.typeCall_enumerate_1 _) (F.newCall_enumerate_1 _) (λobj=>um obj _) F.entry_enumerate_new (Lx t items ep) ⟨hl, ?_⟩;have hz:(s.heap.push (xq t)).objs.size=s.heap.objs.size+1:=bI ..;refine(?_:_/\_);refine U hz (⟨(bV (rE s.heap.objs.size) ?_ rfl),q⟩);have:=aJ (s.heap.push (xq t)) (o:=rE s.heap.objs.size) rfl;rw [hz] at this;exact this
theorem AK.enum (C:bu X) (m:∀a∈X.tabs,a<X.h₀.objs.size) (L:jV X G) (M:jT G ns 10 fe=H) (P:cN X r n b ns a x) (g:[x].any bk=aj) pos:AK X r n b ns H (Rt a) (.Call fe [x] [] pos):=by
 intro A R env ρ w h s S he k res e Q hQ;have y:bk x=false:=by
  simp only [gj,List.any_nil,pY] at g;exact g
 have e:(dS a ko).f r ρ h (λvs h=>match vs with
  |[x]=>af aq (k (vV 0 (dR x.xs)) h) (ak x.t 5)
  |_=>aq)=O res:=e
 refine qi L M (.cons y P .nil) g R S he pos e λD h2 d vs ys v E b3 p=>dN (tM p) λu j=> ?_;subst j;intro p;refine dN b3.tM λyu j=> ?_;subst j;intro hu;refine aC (dH p) λp h5=>fJ (hu.ia (aH h5)) λt items ep F hy hr ht hn z=>U hy ((?_:cC _ _ (call (.type "enumerate") _) _ _ _));refine eW<|AQ F (aC (v.junk C (xq t) d.toks) λI c1=>aC (c1.junk C (rE d.heap.objs.size) d.toks) λJ d1=> ?_)
 have K:((d.heap.push (xq t)).push (rE d.heap.objs.size)).get? (d.heap.objs.size+1)=O (rE d.heap.objs.size):=by
  have:=aJ (d.heap.push (xq t)) (o:=rE d.heap.objs.size) rfl;rw [(bI ..)] at this;exact this
 refine eW<|wpAny_pyIter_enum (i:=0) (old:= .none) K ?_
 have own:∀c,(c=d.heap.objs.size+1\/c=d.heap.objs.size)->D.role c=aq/\X.h₀.objs.size<=c/\c∉X.tabs:=λc B=>by
  have l:d.heap.objs.size<=c:=by rcases B with rfl|rfl<;>omega
  exact iW (l9 v l) (aI v.size l) (λhm=>absurd (m _ hm) (bC.mpr (aI v.size l)))
 refine hQ D h2 _ (λc=>c=d.heap.objs.size+1\/c=d.heap.objs.size) _ (vV 0 (dR u.xs)) d1 (E.trans (I.trans J)) ⟨own, ?_⟩ (λc B=> ?_) (.inr rfl) (λq=>nn q rfl) p
 .exact .enum (d.heap.objs.size+1) d.heap.objs.size 0 .none t items ep u.xs (λc=>Iff.rfl) (Nat.succ_ne_self _) K hr ht (az _ (az _ F)) (f9 _ (az _ (aJ _ rfl)) rfl rfl) (by simpa using z.mono (I.trans J).dX)
 .have:=E.size;rcases B with rfl|rfl<;>omega
end
section
variable {X:dw} {r:Ap} {n b:Nat} {ns:List (Str×aM)} {G:Str->Option V} {w:Wd} {h:aev} {s:Shared} {A:Around}
theorem rF {e} (h:kQ e=aj):qI op e=false:=by
 rcases e<;>first|rfl|exact ft h
theorem Tn {M} {l op₁ op₂ ops r₁ r₂ rs pos whole}
 (h:cC M A (eval l env) (λa s₁=>cC M A (testChain pos a (op₁::op₂::ops) (eval r₁ env::eval r₂ env::evalEach rs env)) Q E s₁) E s) (hm:lastMarks (op₁::op₂::ops) (r₁::r₂::rs)=aj):
 cC M A (isTrue (.Compare l (op₁::op₂::ops) (r₁::r₂::rs) pos) env whole) Q E s:=by
 refine(?_:cC M A (do testChain pos (<-eval l env) (op₁::op₂::ops) (markedEach (op₁::op₂::ops) (r₁::r₂::rs) (evalEach (r₁::r₂::rs) env))) Q E s);exact U (markedEach_of_false _ _ _ hm) (ay h)
theorem Wx {M} {r o}
 (h:cC M A r (λb e=>cC M A (compareOp op a b) (λc f=>cC M A (truthy c) (λt d=>if t then cC M A (testChain pos b (i::ops) (o::rs)) Q E d else Q aj d) E f) E e) E s):
 cC M A (testChain pos a (op::i::ops) (r::o::rs)) Q E s:=by
 show cC M A (do
  let j<-holding [a] r
  standAt pos
  let c<-holding [a,j] (compareOp op a j)
  release [a,j] [c]
  if<-holding [c,j] (truthy c) then testChain pos j (i::ops) (o::rs) else pure aj) Q E s
 refine ay (bg (aV h (λb e k=>ay (bG (ay (bg (aV k (λc f l=>
  ay (eW (wpAny_release (ay (bg (aV l (λt d g=> ?_) λm m x=>x)))))) λm m x=>x))))) λm m x=>x))
 induction t using zB with
 |false=>exact aO g
 |true=>exact g
theorem Wy {M} {a} {r}
 (h:cC M A r (λb d=>cC M A (compareOp op a b) (λc e=>cC M A (truthy c) Q E e) E d) E s):cC M A (testChain pos a [op] [r]) Q E s:=by
 show cC M A (do
  let j<-holding [a] r
  standAt pos
  let c<-operate [a,j] (compareOp op a j)
  holding [c] (truthy c)) Q E s
 exact ay (bg (aV h (λb d f=>ay (bG (ay (oS (aV f (λc e g=>bg g) λi i x=>x))))) λi i x=>x))
theorem j4.Zx (hf:nV X b f op) (hg:nV X b g Zi) pos (h1:kQ r1=aj) (h2:kQ r2=aj) (hx:cN X r n b ns x l) (hy:cN X r n b ns y r1) (hz:cN X r n b ns z r2):
 j4 X r n b ns (Ru f g x y z) (.Compare l [op,Zi] [r1,r2] pos):=by
 intro A hA env ρ w h s hs he k res e Q hQ;refine Tn (hx A hA env ρ w h s hs he _ res e _ λw1 h1 s1 u u' hs1 x1 hu e1=> ?_) (rF h2);refine Wx (hy A hA env ρ w1 h1 s1 hs1 (he.ext x1) _ res e1 _ λw2 h2 s2 v v' hs2 x2 hv e2=>(eW (hf A n hA w2 h2 s2 hs2 u v u' v' (hu.mono x2.dX) hv _ res e2 _ λw3 h3 s3 c JD x3 e3=>(eW (gK ?_)))))
 induction c using zB with
 |false=>
  exact hQ w3 h3 s3 aj JD ((x1.trans x2).trans x3) e3
 |true=>
  exact Wy (hz A hA env ρ w3 h3 s3 JD (((he.ext x1).ext x2).ext x3) _ res e3 _ λw4 h4 s4 t t' Vh x4 ht e4=>(eW (hg A n hA w4 h4 s4 Vh v t v' t' ((hv.mono x3.dX).mono x4.dX) ht _ res e4 _ λw5 h5 s5 c Zy x5 e5=>(eW<|gK (hQ w5 h5 s5 c Zy ((((x1.trans x2).trans x3).trans x4).trans x5) e5)))))
theorem cN.Zz i z (p pos):cN X r n b ns (xC (mD (-i))) (.UnaryOp .USub (.Constant (.int i) z p) pos):=by
 intro A f env ρ w h s c he k res e Q d;have go:wpAny (model X.prog X.w) A (unaryOp .USub (.int i s.toks)) Q (λa a=>False) {s with toks:=s.toks+1}:=PyProof.Rows.neg_int ((d.ext r5).tok c.tok (VR.mD (-i) _) e);exact eW (wpAny_UnaryOp (λa a a=>go))
end
set_option backward.match.sparseCases false
structure mq (X:dw) (K:Frag) (G:Str->Option V) (Ms:Nat->List (Nat×Nat)) (r:Ap) (n b:Nat):Prop where
 ax:bu X
 kx:JC X K
 gx:jV X G
 hbase:10<=X.h₀.objs.size
 htab:∀a∈X.tabs,a<X.h₀.objs.size
 rk:Ck X r n
 mo:∀x,aY x=H->Cm X K (Ms (nm x)) x
 om:∀x,aY x=H->qx X b x (Sx (nm x))
 vm:∀x,aY x=H->xg X b x (Sy (nm x))
 fl:∀x,aY x=H->∀c,find c (Ms (aG (cJ (nm x) 128) 1))≠aq->X.fld c x
 Cx:∀ns a x g g' p p',jT G ns 0 g=H->jT G ns 7 g'=H->bk x=aj->cN X r n b ns a x->cN X r n b ns (B0 a) (.Call g [.Call g' [x] [] p'] [] p)
 yh:∀ns a c x y g g' p p',jT G ns 6 g=H->jT G ns 9 g'=H->bk x=aj->bk y=aj->cN X r n b ns a x->cN X r n b ns c y->cN X r n b ns (yM a c) (.Call g [.Call g' [x,y] [] p'] [] p)
 uY:∀ns o v l args m ap g p p',aY m=H->nm m=nm "extend"->lZ v=H->ak ap.endLine p.line=H->jT G ns 1 g=H->args.any bk=aj->cN X r n b ns o v->AH X r n b ns l args->
  cN X r n b ns (vY o l) (.Call (.Attribute v m ap) [.Call g args [] p'] [] p)
section
variable {X:dw} {K:Frag} {G:Str->Option V} {Ms:Nat->List (Nat×Nat)} {r:Ap} {n b:Nat}
theorem OA.bad x:OA X r n b ns fu x:=λa a a a a a a a a a a e=>fn e
theorem j4.bad x:j4 X r n b ns qW x:=λa a a a a a a a a a a e=>fn e
theorem tS.bad op x:tS X r n b ns op qW x:=λa a a a a a a a a a a e=>fn e
theorem n8.bad x:n8 X r n b ns qW x:=λa a a a a a a a a a a e=>fn e
theorem AK.bad tp x:AK X r n b ns tp HM x:=λa a a a a a a a a a a e=>fn e
theorem qj (a:∀e,cN X r n b ns (f e) e):∀{es},es.any bk=aj->AH X r n b ns (Gu f es) es:=by
 intro es
 induction es with
 |nil=>
  intro _;exact .nil
 |cons e es c=>
  intro h;rw [gj,iy] at h;exact .cons h.1 (a e) (c h.2)
theorem xr:∀{ks} {es},(∀e,O e∈ks->cN X r n b ns (f e) e)->(∀e∈es,cN X r n b ns (f e) e)->l0 ks es=H->RM X r n b ns (mkPairs f ks es) ks es:=by
 intro ks
 induction ks with
 |nil=>
  intro es h1 h2 h
  induction es using zL with
  |nil=>exact .nil
  |cons=>exact ff h
 |cons k ks a=>
  intro es h1 h2 h
  induction es using zL with
  |nil=>induction k using zO<;>exact ff h
  |cons e es=>
   induction k using zO with
   |none=>exact ff h
   |some k=>exact .cons (h1 _ aE) (h2 _ aE) (a (λe he=>h1 e (aD _ he)) (λe he=>h2 e (aD _ he)) h)
theorem FF (a:∀e,cN X r n b ns (f e) e) (h:l0 ks es=H):RM X r n b ns (mkPairs f ks es) ks es:=xr (λe c=>a e) (λe c=>a e) h
theorem D5 {ns:List (Str×aM)} {f:Expr->XE} (a:∀e,cN X r n b ns (f e) e):∀(o:Option Expr),S2 X r n b ns (Gv f o) o
 |none=> .none
 |some e=> .some (a e)
theorem tX:∀{e},inner G ns m e=O args->∃g p,e= .Call g args [] p/\jT G ns m g=H/\args.any bk=false:=by
 intro e h
 induction e using aS with
 |Call g as ks p=>
  induction ks using zL with
  |cons=>exact fn h
  |nil=>
   induction q:as.any bk using zB with
   |true=>
    have e:inner G ns m (.Call g as [] p)=none:=by unfold inner;dsimp only;exact U q rfl
    exact fn (e.symm.trans h)
   |false=>
    induction a:jT G ns m g using zB with
    |true=>
     have e:inner G ns m (.Call g as [] p)=O as:=by unfold inner;dsimp only;exact U q (U a rfl)
     have e:=aF (e.symm.trans h);exact j0 g p (U e rfl) a (e▸q)
    |false=>
     have e:inner G ns m (.Call g as [] p)=none:=by unfold inner;dsimp only;exact U q (U a rfl)
     exact fn (e.symm.trans h)
 |_=>exact fn h
theorem Wz (h:[x,y].any bk=aj):bk x=aj/\bk y=false:=by
 simp only [gj,List.any_nil,pY,iy] at h;exact h
theorem ZA (h:[x].any bk=aj):bk x=false:=by
 simp only [gj,List.any_nil,pY] at h;exact h
theorem zA {P:α->Prop} (h:c=H->P x) (h':c=aj->P y):P (lA c y x):=by
 induction c using zB with
 |true=>exact h rfl
 |false=>exact h' rfl
theorem in1 {P:α->Prop} {f:Expr->α} (h:∀a,o=O [a]->P (f a)) (h':P y):P (match (generalizing:=false) o with|some [a]=>f a|_=>y):=by
 induction o using zO with
 |none=>exact h'
 |some l=>match l with
  |[a]=>exact h a rfl
  |[]|_::_::_=>exact h'
theorem inO {P:α->Prop} {f:List Expr->α} (h:∀a,o=O a->P (f a)) (h':P y):P (match (generalizing:=false) o with|some a=>f a|none=>y):=by
 induction o using zO with
 |none=>exact h'
 |some l=>exact h l rfl
theorem in2 {P:α->Prop} {f:Expr->Expr->α} (h:∀a b,o=O [a,b]->P (f a b)) (h':P y):P (match (generalizing:=false) o with|some [a,b]=>f a b|_=>y):=by
 induction o using zO with
 |none=>exact h'
 |some l=>match l with
  |[a,b]=>exact h a b rfl
  |[]|[_]|_::_::_::_=>exact h'
set_option smartUnfolding false in
theorem Ly (c:mq X K G Ms r n b) (h:∀e,cN X r n b ns (f e) e) pos (j:∀o m p,g≠.Attribute o m p) (i:args.any bk=aj):cN X r n b ns (Ry G ns f g args) (.Call g args [] pos):=by
 have gen:=cN.call c.rk pos j i (h g) (qj h i)
 induction args using BQ with
 |one a=>
  refine zA (P:=λx=>cN X r n b ns x (.Call g [a] [] pos)) (λt=> ?_) λu=>zA (P:=λx=>cN X r n b ns x (.Call g [a] [] pos)) (λv=> ?_) λu=>gen
  .refine in1 (P:=λx=>cN X r n b ns x (.Call g [a] [] pos)) (λx k=> ?_) gen;refine vQ (tX k) λl q e k d=>U e ?_;exact c.Cx ns _ x g l pos q t k (ZA d) (h x)
  .refine in2 (P:=λx=>cN X r n b ns x (.Call g [a] [] pos)) (λx y s=> ?_) gen;refine vQ (tX s) λl q e s d=>U e ?_;exact c.yh ns _ _ x y g l pos q v s (Wz d).1 (Wz d).2 (h x) (h y)
 |zero=>exact gen
 |more=>exact gen
set_option smartUnfolding false in
theorem Lz (c:mq X K G Ms r n b) (j:∀e,cN X r n b ns (f e) e) (ap pos) (hx:aY m=H) (hn:lZ o=H) (d:ak ap.endLine pos.line=H) (g:bE (len args) 30=H) (h:args.any bk=aj):
 cN X r n b ns (Rz G Ms ns f o m args) (.Call (.Attribute o m ap) args [] pos):=by
 have gen:cN X r n b ns (HN Ms f o (nm m) args) (.Call (.Attribute o m ap) args [] pos):=cN.HN c.kx c.rk ap pos hx hn d (cL (len_eq ..) (cD.mp g)) h (j o) (qj j h) (c.mo m hx) (c.om m hx) (c.vm m hx);refine zA (P:=λx=>cN X r n b ns x (.Call (.Attribute o m ap) args [] pos)) (λhe=> ?_) λq=>gen
 induction args using BQ with
 |one a=>
  refine inO (P:=λx=>cN X r n b ns x (.Call (.Attribute o m ap) [a] [] pos)) (λk h1=> ?_) gen;refine oK (tX h1) λl p h1 e i=>U e ?_;exact c.uY ns _ o _ k m ap l pos p hx (aH he) hn d h1 i (j o) (qj j i)
 |zero=>exact gen
 |more=>exact gen
def IP (X:dw) (r:Ap) (n b:Nat) (ns:List (Str×aM)) (t e:Expr) (x:XI):Prop:=∃tp,AK X r n b ns tp x e/\(tp=H->iP t=H)
theorem IP.bad:IP X r n b ns t e HM:=bV aj (AK.bad _ _) ff
set_option smartUnfolding false in
theorem Il (c:mq X K G Ms r n b) (d:∀e,cN X r n b ns (f e) e) (hp:pairsOk G ns t (.Call g args kws p)=H):IP X r n b ns t (.Call g args kws p) (A6 G ns f (.Call g args kws p)):=by
 induction kws using zL with
 |cons=>exact IP.bad
 |nil=>
  refine zA (P:=IP X r n b ns t (.Call g args [] p)) (λi=>IP.bad) λa=>zA (P:=IP X r n b ns t (.Call g args [] p)) (λh1=>bV aj (AK.range c.ax c.htab c.gx h1 (qj d a) a aj _) ff) λi=> ?_;have hq:(lA (jT G ns 9 g) (lA (jT G ns 10 g) H (iP t)) (iP t):Bool)=true:=hp;clear hp;refine zA (P:=IP X r n b ns t (.Call g args [] p)) (λj=> ?_) λj=>zA (P:=IP X r n b ns t (.Call g args [] p)) (λh=> ?_) λi=>bV aj (AK.e c.ax c.hbase c.htab (d _) aj) ff
  .rw [j] at hq
   induction args using Vs with
   |two x y=>
    exact bV H (AK.zip c.ax c.gx j (d x) (d y) a _) (λi=>hq)
   |zero=>exact IP.bad
   |one=>exact IP.bad
   |more=>exact IP.bad
  .rw [j,h] at hq
   induction args using BQ with
   |one x=>
    exact bV H (AK.enum c.ax c.htab c.gx h (d x) a _) (λi=>hq)
   |zero=>exact IP.bad
   |more=>exact IP.bad
theorem uZ (c:mq X K G Ms r n b) (a:∀e,cN X r n b ns (f e) e) (hp:pairsOk G ns t e=H):kQ e=aj/\IP X r n b ns t e (A6 G ns f e):=by
 have gen:IP X r n b ns t e (iE (f e)):=bV aj (AK.e c.ax c.hbase c.htab (a e) aj) ff
 induction e using aS with
 |Call g args d p=>exact⟨rfl,Il c a hp⟩
 |Set=>exact ff hp
 |_=>exact⟨rfl,gen⟩
theorem OJ (a:bu X) t:rq X r n b ns (match tgtName ns t with|some x=>kq x|none=>B6) t:=by
 induction hx:tgtName ns t using zO with
 |some x=>
  refine ux (nc hx) λy p hk e hy hz=>U e (U hz ?_);exact rq.loc a y p hy hk
 |none=>exact rq.bad _
set_option smartUnfolding false in
theorem zC (c:bu X) t:rq X r n b ns (lY ns t) t:=by
 have gen:=OJ (r:=r) (n:=n) (b:=b) c (ns:=ns) t
 induction t using aS with
 |Tuple a z p=>
  refine(?_:rq X r n b ns (match fY ns a with|some l=>(match ie l with|true=>B5 l|false=>B6)|none=>B6) _)
  induction hl:fY ns a using zO with
  |none=>exact rq.bad _
  |some l=>exact zA (P:=λx=>rq X r n b ns x (.Tuple a z p)) (λd=>rq.tup c hl _ _) λd=>rq.bad _
 |_=>exact gen
end
section
variable {X:dw} {K:Frag} {G:Str->Option V} {Ms:Nat->List (Nat×Nat)} {r:Ap} {n b:Nat}
theorem LA (c:mq X K G Ms r n b) op pos (hx:cN X r n b ns x l) (hy:cN X r n b ns y r'):cN X r n b ns (mkBin op x y) (.BinOp l op r' pos):=by
 induction op using PySem.Operator.casesOn with
 |Add=>exact cN.bin (Om c.ax c.htab) pos hx hy
 |Sub=>exact cN.bin N9 pos hx hy
 |Mult=>exact cN.bin Oa pos hx hy
 |FloorDiv=>exact cN.bin Ob pos hx hy
 |Mod=>exact cN.bin Oc pos hx hy
 |Pow=>exact cN.bin Od pos hx hy
 |LShift=>exact cN.bin Oe pos hx hy
 |RShift=>exact cN.bin Og pos hx hy
 |BitAnd=>exact cN.bin Oh pos hx hy
 |BitOr=>exact cN.bin SJ pos hx hy
 |_=>exact cN.bad _
theorem se (c:mq X K G Ms r n b) op:nV X b (E2 op).f op:=by
 induction op using PySem.CmpOp.casesOn with
 |Eq=>exact SO c.hbase
 |NotEq=>exact SP c.hbase
 |Lt=>exact SQ
 |Gt=>exact SS
 |LtE=>exact SR
 |GtE=>exact SV
 |Is=>exact SW
 |IsNot=>exact HY
 |In=>exact S0 c.hbase
 |NotIn=>exact H7 c.hbase
structure LB (X:dw) (G:Str->Option V) (Ms:Nat->List (Nat×Nat)) (r:Ap) (n b k:Nat):Prop where
 e:∀ns e,cN X r n b ns (cS G Ms k ns e) e
 u:∀ns e,jx e=H->OA X r n b ns (cS G Ms k ns e) e
 t:∀ns e,j4 X r n b ns (oO G Ms k ns e) e
 bs:∀ns op es,tS X r n b ns op (E3 G Ms k ns (KW op) es) es
 ifs:∀ns es,n8 X r n b ns (uH G Ms k ns es) es
theorem ZC {P:α->Prop} (h:c=aj->d=aj->P x) (h':P y):P (match (generalizing:=false) c,d with|false,aj=>x|_,_=>y):=by
 induction c using zB with
 |true=>exact h'
 |false=>induction d using zB with
  |true=>exact h'
  |false=>exact h rfl rfl
def CP (X:dw) (r:Ap) (n b:Nat) (ns:List (Str×aM)) (e:Expr) (x:XE):Prop:=cN X r n b ns x e/\(jx e=H->OA X r n b ns x e)
section
variable {ns:List (Str×aM)}
theorem CP.bad:CP X r n b ns e fu:=⟨cN.bad _,λa=>OA.bad _⟩
theorem CP.no (h:jx e=aj) (k:cN X r n b ns x e):CP X r n b ns e x:=⟨k,λq=>ft (q.symm.trans h)⟩
theorem CP.if(h:c=H->CP X r n b ns e x):CP X r n b ns e (lA c fu x):=zA h λa=>CP.bad
theorem CP.unless (h:c=aj->CP X r n b ns e x):CP X r n b ns e (lA c x fu):=zA (λa=>CP.bad) h
theorem CP.dec {d:Decidable p} (h:p->CP X r n b ns e x):CP X r n b ns e (Decidable.casesOn d (λa=>fu) (λa=>x)):=by
 induction d using Decidable.casesOn with
 |isTrue q=>exact h q
 |isFalse _=>exact CP.bad
variable (c:mq X K G Ms r n b) {k:Nat} (ih:LB X G Ms r n b k)
include c ih
set_option smartUnfolding false in
theorem OL op a p:CP X r n b ns (.UnaryOp op a p) (cS G Ms (k+1) ns (.UnaryOp op a p)):=by
 induction op using PySem.UnaryOp.casesOn with
 |USub=>
  induction a using aS with
  |Constant q z d=>
   induction q using lW with
   |int i=>exact CP.no rfl (cN.Zz i z d p)
   |_=>exact CP.bad
  |_=>exact CP.bad
 |_=>exact CP.bad
set_option smartUnfolding false in
theorem Im op es p:CP X r n b ns (.BoolOp op es p) (cS G Ms (k+1) ns (.BoolOp op es p)):=by
 induction es using Vs with
 |two x y=>
  induction op using PySem.BoolOp.casesOn with
  |And=>exact CP.no rfl (cN.bool (Ff c.hbase) .And p (ih.e ns x) (ih.e ns y))
  |Or=>exact CP.no rfl (cN.bool (Ff c.hbase) .Or p (ih.e ns x) (ih.e ns y))
 |zero=>exact CP.bad
 |one=>exact CP.bad
 |more=>exact CP.bad
set_option smartUnfolding false in
theorem LC l ops es p:CP X r n b ns (.Compare l ops es p) (cS G Ms (k+1) ns (.Compare l ops es p)):=by
 induction ops using BQ with
 |one op=>
  induction es using BQ with
  |one y=>exact CP.unless λa=>CP.no rfl (cN.cmp (se c op) p (rF a) (ih.e ns l) (ih.e ns y))
  |zero=>exact CP.bad
  |more=>exact CP.bad
 |zero=>exact CP.bad
 |more=>exact CP.bad
set_option smartUnfolding false in
theorem Io f args kws p:CP X r n b ns (.Call f args kws p) (cS G Ms (k+1) ns (.Call f args kws p)):=by
 induction kws using zL with
 |cons=>exact CP.bad
 |nil=>
  refine CP.unless λa=> ?_
  induction f using aS with
  |Attribute o m d=>exact CP.if λhm=>CP.if λhn=>CP.if λhl=>CP.if λg=>CP.no rfl (Lz c (ih.e ns) d p hm hn hl g a)
  |_=>exact CP.no rfl (Ly c (ih.e ns) p (λo m p q=>Expr.noConfusion q) a)
set_option smartUnfolding false in
theorem LD (o i) p:CP X r n b ns (.Subscript o i p) (cS G Ms (k+1) ns (.Subscript o i p)):=by
 induction i using aS with
 |Slice a hi d f=>
  induction d using zO with
  |none=>exact CP.no rfl (cN.cut c.ax f p (ih.e ns o) (D5 (ih.e ns) a) (D5 (ih.e ns) hi))
  |some _=>exact CP.bad
 |_=>exact CP.no rfl (cN.sub p rfl (ih.e ns o) (ih.e ns _))
set_option smartUnfolding false in
theorem Ip ks es p:CP X r n b ns (.Dict ks es p) (cS G Ms (k+1) ns (.Dict ks es p)):=
 CP.if λh=>CP.if λh2=>CP.no rfl (cN.dict c.ax p h2 (by
  have h:=cD.mp h;rw [len_eq] at h;exact pZ h) (FF (ih.e ns) h2))
set_option smartUnfolding false in
theorem OM elt gens sc p:CP X r n b ns (.ListComp elt gens sc p) (cS G Ms (k+1) ns (.ListComp elt gens sc p)):=by
 induction gens using BQ with
 |one g=>
  rcases g with⟨f,q,i,a⟩
  refine CP.dec λl=>CP.if λm=>CP.if λhp=>uw (uZ c (ih.e ns) hp) λs o d j=> ?_;have h:=cN.comp c.ax c.hbase c.htab (Cp m) d o (zC c.ax f) j (ih.ifs sc.names i) (ih.e sc.names elt) p;rw [<-l] at h;exact⟨h.1,λt=>h.2⟩
 |zero=>exact CP.bad
 |more g=>rcases g with⟨_,_,_,_⟩;exact CP.bad
set_option smartUnfolding false in
theorem ON (x y) gens sc p:CP X r n b ns (.DictComp x y gens sc p) (cS G Ms (k+1) ns (.DictComp x y gens sc p)):=by
 induction gens using BQ with
 |one g=>
  rcases g with⟨f,q,i,a⟩
  refine CP.dec λl=>CP.if λm=>CP.if λhp=>uw (uZ c (ih.e ns) hp) λs o d j=> ?_;have h:=cN.Ws c.ax c.hbase c.htab (Cp m) d o (zC c.ax f) j (ih.ifs sc.names i) (ih.e sc.names x) (ih.e sc.names y) p;rw [<-l] at h;exact⟨h.1,λt=>h.2⟩
 |zero=>exact CP.bad
 |more g=>rcases g with⟨_,_,_,_⟩;exact CP.bad
set_option smartUnfolding false in
theorem LG ns e:CP X r n b ns e (cS G Ms (k+1) ns e):=by
 induction e using aS with
 |Name x p=>exact CP.no rfl (cN.name c.gx x p)
 |Constant q z p=>exact CP.no rfl (cN.const q z p)
 |BinOp l op u p=>exact CP.no rfl (LA c op p (ih.e ns l) (ih.e ns u))
 |UnaryOp op a p=>exact OL c ih op a p
 |BoolOp op g p=>exact Im c ih op g p
 |IfExp t x y p=>exact CP.no rfl (cN.ite p (ih.t ns t) (ih.e ns x) (ih.e ns y))
 |Compare l j g p=>exact LC c ih l j g p
 |Call f args m p=>exact Io c ih f args m p
 |Attribute o a p=>exact CP.if λv=>CP.if λhn=>CP.no rfl (cN.attr c.kx p v hn (ih.e ns o))
 |Subscript o i p=>exact LD c ih o i p
 |List g p=>exact CP.unless λh=>CP.no rfl (cN.list c.ax p (qj (ih.e ns) h))
 |Tuple g z p=>exact CP.unless λh=>CP.no rfl (cN.tuple c.ax c.htab z p (qj (ih.e ns) h))
 |Dict ks g p=>exact Ip c ih ks g p
 |ListComp s d sc p=>exact OM c ih s d sc p
 |DictComp x y d sc p=>exact ON c ih x y d sc p
 |_=>exact CP.bad
set_option smartUnfolding false in
theorem OO l ops es p:j4 X r n b ns (oO G Ms (k+1) ns (.Compare l ops es p)) (.Compare l ops es p):=by
 induction ops using Vs with
 |one op=>
  induction es using BQ with
  |one y=>exact zA (P:=λx=>j4 X r n b ns x (.Compare l [op] [y] p)) (λf=>j4.bad _) λd=>j4.cmp (se c op) p (rF d) (ih.e ns l) (ih.e ns y)
  |zero=>exact j4.bad _
  |more=>exact j4.bad _
 |two op a=>
  induction es using Vs with
  |two y z=>
   exact ZC (P:=λx=>j4 X r n b ns x (.Compare l [op,a] [y,z] p)) (λh1 h2=>j4.Zx (se c op) (se c a) p h1 h2 (ih.e ns l) (ih.e ns y) (ih.e ns z)) (j4.bad _)
  |zero=>exact j4.bad _
  |one=>exact j4.bad _
  |more=>exact j4.bad _
 |zero=>exact j4.bad _
 |more=>exact j4.bad _
theorem Tp ns e:j4 X r n b ns (oO G Ms (k+1) ns e) e:=by
 have g:=Ff (b:=b) c.hbase
 induction e using aS with
 |UnaryOp op a p=>
  induction op using PySem.UnaryOp.casesOn with
  |Not=>exact j4.not p (ih.t ns a)
  |_=>exact j4.ofE g (ih.e ns _) λenv=>rfl
 |BoolOp op d p=>
  induction op using PySem.BoolOp.casesOn with
  |And=>exact j4.bools p (ih.bs ns .And d)
  |Or=>exact j4.bools p (ih.bs ns .Or d)
 |IfExp t x y p=>exact j4.ite p (ih.t ns t) (ih.t ns x) (ih.t ns y)
 |Compare l f d p=>exact OO c ih l f d p
 |_=>exact j4.ofE g (ih.e ns _) λenv=>rfl
end
theorem iD (c:mq X K G Ms r n b):∀k,LB X G Ms r n b k:=by
 intro k
 induction k with
 |zero=>
  exact⟨λa a=>cN.bad _,λa a a=>OA.bad _,λa a=>j4.bad _,λa a a=>tS.bad _ _,λa a=>n8.bad _⟩
 |succ k ih=>
  refine⟨λns e=>(LG c ih ns e).1,λns e=>(LG c ih ns e).2,Tp c ih,λns op d=> ?_,λns d=> ?_⟩
  .induction d using zL with
   |nil=>exact tS.bad _ _
   |cons x d=>
    induction d using zL with
    |nil=>exact tS.one (ih.t ns x)
    |cons y d=>exact tS.more (ih.t ns x) (ih.bs ns op (y::d))
  .induction d using zL with
   |nil=>exact n8.nil
   |cons x d=>exact n8.cons (ih.t ns x) (ih.ifs ns d)
end
set_option backward.match.sparseCases true
section
variable {X:dw} {K:Frag} {G:Str->Option V} {Ms:Nat->List (Nat×Nat)} {r:Ap} {n b:Nat}
theorem ja.bad x:ja X r n b ns lq x:=λa a a a a a a a a a a a e=>fn e
set_option smartUnfolding false in
theorem yi (c:mq X K G Ms r n b) ns t:rq X r n b ns (Dq G Ms ns t) t:=by
 have f:=iD c 30;have h:rq X r n b ns (lY ns t) t:=zC c.ax t
 induction t using aS with
 |Attribute o a p=>exact zA (P:=λx=>rq X r n b ns x (.Attribute o a p)) (λg=>rq.attr c.ax c.kx p g (λd k=>c.fl a g d k) (f.e ns o)) λj=>rq.bad _
 |Subscript o i p=>exact zA (P:=λx=>rq X r n b ns x (.Subscript o i p)) (λj=>rq.bad _) λj=>rq.sub c.ax _ (f.e ns _) (f.e ns _)
 |_=>exact h
set_option tactic.hygienic true in
theorem D6:∃l,fY ns ts=O l/\ie l=H/\Dq G Ms ns (.Tuple ts z p)=B5 l\/∀ρ v h k,(Dq G Ms ns (.Tuple ts z p)).f r ρ v h k=none:=by
 refine(?_:∃l,fY ns ts=O l/\ie l=H/\lY ns (.Tuple ts z p)=B5 l\/∀ρ v h k,(lY ns (.Tuple ts z p)).f r ρ v h k=aq);unfold lY;dsimp only;split
 .rename_i l hl;split
  .rename_i c;exact⟨l,.inl (iW hl c rfl)⟩
  .exact⟨l,.inr λa a a a=>rfl⟩
 .exact⟨[],.inr λa a a a=>rfl⟩
set_option smartUnfolding false in
theorem OP (c:mq X K G Ms r n b) ns (t e) p k:jW X r n b ns (Dr G Ms (k+1) ns (.Assign [t] e p)) (.Assign [t] e p):=by
 have g:=iD c 30;refine zA (P:=λx=>jW X r n b ns x (.Assign [t] e p)) (λa=> ?_) λf=>jW.bad _;have d:bk t=false:=by rcases t<;>first|rfl|exact ff a
 induction h:jx e using zB with
 |true=>exact jW.GP c.ax p (g.e ns e) (g.u ns e h) (yi c ns t) h d
 |false=>exact jW.assign c.ax p (g.e ns e) (yi c ns t) h a (λts z p q=>U q D6) (λts p q=>U q (λf f f f=>rfl)) d
set_option smartUnfolding false in
theorem FG (c:mq X K G Ms r n b):∀k,(∀ns s,jW X r n b ns (Dr G Ms k ns s) s)/\∀ns ss,ja X r n b ns (qX G Ms k ns ss) ss:=by
 intro k
 induction k with
 |zero=>
  exact⟨λj j=>jW.bad _,λj j=>ja.bad _⟩
 |succ k g=>
  have q:=(g).1;have l:=(g).2;have g:=iD c 30;refine⟨λns s=> ?_,λns ss=> ?_⟩
  .induction s using fc with
   |Expr e p=>exact zA (P:=λx=>jW X r n b ns x (.Expr e p)) (λj=>jW.bad _) λh=>jW.expr p h (g.e ns e)
   |Return e p=>
    induction e using zO with
    |none=>exact jW.Zv p
    |some e=>exact jW.ret p (g.e ns e)
   |Assign ts e p=>
    induction ts using BQ with
    |one t=>
     exact OP c ns t e p k
    |zero=>exact jW.bad _
    |more=>exact jW.bad _
   |If t a d p=>exact jW.ite p (g.t ns t) (l ns a) (l ns d)
   |For t u f i p=>
    induction i using zL with
    |nil=>
     refine zA (P:=λx=>jW X r n b ns x (.For t u f [] p)) (λhp=> ?_) λj=>jW.bad _;exact uw (uZ c (g.e ns) hp) λw v m o=>jW.for c.ax c.hbase c.htab m v (zC c.ax t) o p (l ns f)
    |cons=>exact jW.bad _
   |While t f i p=>
    induction i using zL with
    |nil=>exact jW.while p (g.t ns t) (l ns f)
    |cons=>exact jW.bad _
   |_=>exact jW.bad _
  .induction ss using zL with
   |nil=>exact ja.nil
   |cons s ss=>exact ja.cons (q ns s) (l ns ss)
end
set_option backward.match.sparseCases false
theorem eE (e:with1 vs f=O r):∃v,vs=[v]/\f v=O r:=by
 induction vs using zL with
 |nil=>exact fn e
 |cons v l=>
  refine aC (dH e) λe h=> ?_
  induction l using zL with
  |nil=>exact bV v rfl e
  |cons _ _=>exact ff h
theorem eg.one (h:eg X g w n [v] ys):∃y,ys=[y]/\VR X g w n v y:=by
 cases h with
 |cons _ y _ _ hv a=>cases a;exact bV y rfl hv
section
variable {X:dw} {w:Wd} {h:aev} {s:Shared}
theorem St.tk (a:bu X) (b:St X w h s) t:St X w h {s with toks:=t}/\Ext X cT w h.n s w h.n {s with toks:=t}:=b.i9 a (h':=s.heap) (tk:=t) (br _) λc c e=>e
theorem Tq (f:bu X):qh X 14:=by
 intro n A j w h s g vs ys hv k res d Q i;refine eW ?_;refine dN (eE d) λv b=> ?_;subst b;intro e;refine dN hv.one λy b=> ?_;subst b;intro hy;refine gc (dH e) λh2 e=>fF (hy.cO h2) λt b=> ?_;subst b;refine call_abs_int λu tk=>aC (g.tk f tk) λc a=> ?_;have:(if dU v<0 then-dU v else dU v)=dQ v.n:=by
  have:=Cw v;by_cases q:dU v<0
  .exact(U (if_pos q) ((Int.ofNat_natAbs_of_nonpos (Int.le_of_lt q)).symm.trans (congrArg dQ this)))
  .exact(U (if_neg q) ((Int.natAbs_of_nonneg (kI.mp q)).symm.trans (congrArg dQ this)))
 exact U this (i w h _ _ _ a c (.nat v.n u) e)
theorem Tr (g:bu X):qh X 15:=by
 intro n A i w h s d vs ys hv k res c Q f;refine eW ?_;refine dN (eE c) λv a=> ?_;subst a;intro e;refine dN hv.one λy a=> ?_;subst a;intro hy
 induction h2:ak v.t 2 using zB with
 |true=>
  rw [h2] at e;refine fF (hy.cO h2) λt a=> ?_;subst a;exact call_int_int (f w h _ _ _ d .refl hy e)
 |false=>
  rw [h2] at e;refine gc (dH e) λh1 e=> ?_
  induction hy using Mine.VR.casesOn with
  |bool b=>
   refine call_int_bool ?_
   induction b using zB with
   |true=>exact f w h _ _ _ d.tok r5 (.nat 1 _) e
   |false=>exact f w h _ _ _ d.tok r5 (.nat 0 _) e
  |_=>exact nn (aH h1) rfl
theorem tY (e:Dg l v=O m):ak v.t 2=H/\v.s=0/\v.n<l/\v.n=m:=aC (dH e) λe h1=>aC (dH e) λe h2=>aC (dH e) λe a=>qN h1 (aH h2) (cD.mp a) (aF e)
theorem Cy (h:v.s=0):dU v=(v.n:Int):=by unfold dU;refine U h ?_;rfl
theorem Tt (j:bu X):qh X 16:=by
 intro n A l w h s d vs ys hv k res b Q f;refine eW ?_;refine dN (eE b) λv a=> ?_;subst a;intro e;refine dN hv.one λy a=> ?_;subst a;intro hy;refine aK (bB e) λc e g=>qP (tY g) λa=> ?_;subst a;intro h2 i m;refine fF (hy.cO h2) λt a=> ?_;subst a;exact U (Cy i) (chr_of_range (cj (V.n v)) (by omega) (f w h _ _ _ d.tok r5 (.str [v.n] _ (of_decide_eq_true rfl)) e))
theorem Tv (i:bu X):qh X 17:=by
 intro n A j w h s d vs ys hv k res b Q f;refine eW ?_;refine dN (eE b) λv a=> ?_;subst a;intro e;refine dN hv.one λy a=> ?_;subst a;intro hy;refine aC (dH e) λe g=> ?_
 induction hy using Mine.VR.casesOn with
 |str l t hn=>
  induction l using zL with
  |nil=>exact fn e
  |cons c l=>
   induction l using zL with
   |nil=>exact P.ord_of_char (f w h _ _ _ d.tok r5 (.nat c _) e)
   |cons _ _=>exact fn e
 |_=>exact nn (aH g) rfl
theorem OQ m (h:find m JQ=aq):qh X m:=by
 intro n A a w h' s b vs ys hv k res e Q c;unfold BW at e;rw [h] at e;exact fn e
theorem collect_list {items} (a:s.heap.get? l=O (gq items ep)) (hz:items.size<=1000000)
 (c:∀h',(∀b o',s.heap.get? b=O o'->h'.get? b=O o')->s.heap.objs.size<=h'.objs.size->Q items.toList {s with heap:=h'}):wpAny (model prog ww) A (collect (.ref l)) Q E s:=
 bW (Az l (.inl rfl) a rfl rfl (λh' hk d=>c h' hk d) (aI hz bw))
theorem Iq l items ep:Meets (Builtin.«tuple.__new__» ⟨[.type "tuple",.ref l],[]⟩)
 (λk R s=>s.heap.get? l=O (gq items ep)/\items.size<=1000000/\∀h':Heap,(∀b o',s.heap.get? b=O o'->h'.get? b=O o')->s.heap.objs.size<=h'.objs.size->R (.ok (.ret (.ref h'.objs.size))) {s with heap:=h'.push (gi items 0)}):=
 .of_wp λprog w A R s h=>by
  obtain⟨hp,g,d,tk,os⟩:=s;refine iO h λh ht hz=> ?_;have f:=sub_tuple_self;have a:=init_tuple_lookup;have i:=madeHere_tuple;have j:iz ⟨hp,g,d,tk,os⟩ (.ref l) "list":=bV _ ht rfl;wp_walk using AutoSeq1.wpAny_loadPart' ht,jd j,collect_list (s:=⟨hp,g,d,tk,os⟩) ht hz;intro h' hk c;refine(?_:wpAny _ _ (Builtin.Tuple.tupleExact items.toList.toArray>>=λv=>ret v) _ _ _);have e:items.toList.toArray=items:=rfl;exact au (dZ (av (bV _ rfl (h h' hk c))) (aI hz bw))
theorem LH (m:bu X) (d:∀a∈X.tabs,a<X.h₀.objs.size):qh X 4:=by
 intro n A J w h s i vs ys hv k res f Q p;refine eW ?_;refine dN (eE f) λv b=> ?_;subst b;intro e;refine dN hv.one λy b=> ?_;subst b;intro hy
 induction j:ak v.t 5 using zB with
 |true=>
  rw [j] at e;refine gc (dH e) λz e=> ?_
  induction hy using Mine.VR.casesOn with
  |tup xs t items ep B ht g hn c=>exact call_tuple_same (gf _ g rfl _ rfl) (p w h _ _ _ i .refl (.tup xs t items ep B ht g hn c) e)
  |_=>exact nn (aH j) rfl
 |false=>
  rw [j] at e;obtain⟨C,o,D,E,e⟩:=fS e;refine gc (dH e) λhz e=>gc (hy.eB C) λb=> ?_;subst b;intro K;refine sV (i.listAt D E) λitems ep g hn c z=>(?_:wpAny _ _ (call (.type "tuple") _) _ _ _);refine callType_new F.called_tuple rfl (F.typeCall_tuple_1 _) (F.newCall_tuple_1 _) (λobj=>um obj _) F.entry_tuple_new (Iq _ items ep) (iW g hn (λh' hk l=>(aC (i.i9 m (h':=h') (tk:=s.toks) l hk) λq G=>(fh (G.newTuple m d (c.mono q.dX) hn s.toks) λr u x=> ?_))));have I:items.toList.toArray=items:=rfl;rw [I] at u r x;exact⟨(bV _ (aJ _ rfl) rfl),p w h _ _ _ u (q.trans r) x e⟩
end
set_option backward.match.sparseCases true
theorem tu:Slot "bytearray" "__len__" "bytearray.__len__":=
 .of (owner:="bytearray") (n:="__len__") (by refine U (typeLookup_type ..) (U bz ?_);kernel_rfl) rfl rfl rfl
  (by first|exact .inl rfl|exact .inr (by decide+kernel)) (by refine U (isSubtype_type ..) ?_;kernel_rfl)
theorem zD:entryFor table "bytearray.__len__"=O Builtin.«bytearray.__len__»:=nI (by kernel_rfl)
theorem AR a:argsOk "bytearray.__len__" ⟨[a],[]⟩:=by unfold argsOk;kernel_rfl
section
variable {X:dw} {w:Wd} {h:aev} {s:Shared} {prog:Program} {ww:World} {A:Around} {E:Value->Shared->Prop}
theorem OR {items} (a:s.heap.get? t=O (gi items ep)) (hz:items.size<=1000000) (q:Q (.int items.size (s.toks+1)) {s with toks:=s.toks+1+1}):wpAny (model prog ww) A (call (.builtin "len") [.ref t]) Q E s:=by
 have b:s.TypeIs (.ref t) "tuple":=bV _ a rfl;exact xR b F.slot_tuple_len (λd c=>call_meets F.slot_tuple_len b F.entry_tuple_len (F.args_tuple_len_1 _) (AutoSeq1.tuple___len___tuple_0 t items ep) ⟨a,c⟩) (lF (fK items)) (by lia) q
theorem LI (c:(d==lD)=aj) (a:s.heap.get? d=O (cH es ep)) (hz:es.size<=1000000) (q:Q (.int es.size (s.toks+1)) {s with toks:=s.toks+1+1}):wpAny (model prog ww) A (call (.builtin "len") [.ref d]) Q E s:=by
 have b:s.TypeIs (.ref d) "dict":=bV _ a rfl;refine xR b F.slot_dict_len (λf e=>bH F.slot_dict_len b F.entry_dict_len ?_ (F.args_dict_len_1 _)) (lF (fK es)) (by lia) q;refine(?_:wpAny _ _ (dictSize d>>=_) _ _ s);refine au (au (gM a rfl (av ((?_:wpAny _ _ (mX d>>=_) _ _ s)))));have hp:mX d=pure 0:=by unfold mX;refine U c ?_;rfl
 exact U hp (au (av (au (wpAny_mkInt (av (bV _ rfl e))))))
theorem LJ (c:s.heap.get? a=O (gX b)) (hz:b.size<=1000000) (q:Q (.int b.size (s.toks+1)) {s with toks:=s.toks+1+1}):wpAny (model prog ww) A (call (.builtin "len") [.ref a]) Q E s:=by
 have d:s.TypeIs (.ref a) "bytearray":=bV _ c rfl;refine xR d tu (λf e=>bH tu d zD ?_ (AR _)) (lF (fK b)) (by lia) q;refine(?_:wpAny _ _ (Builtin.Bytes.payload (.ref a)>>=λb=>retInt b.size) _ _ s);exact au (au (au (jc c (av (av (au (wpAny_mkInt (av (bV _ rfl e)))))))))
theorem Tw (ax:bu X) (hbase:10<=X.h₀.objs.size):qh X 0:=by
 intro n A hA w h s hs vs ys hv k res e₀ Q hQ;refine eW ?_;refine dN (eE (show with1 vs (λv=>af (af (af
  (look v h λo h=>af (af (af aq (k (aW (len o.bs)) h) (ak o.t 3)) (k (aW (len o.kvs)) h) (ak o.t 2)) (k (aW (len o.xs)) h) (ak o.t 1))
  (k (aW (len v.l)) h) (ak v.t 3)) (k (aW (len v.l)) h) (ak v.t 4)) (k (aW (len v.xs)) h) (ak v.t 5))=O res from e₀)) λv oG=> ?_;subst oG;intro e
 refine dN hv.one λy oG=> ?_;subst oG;intro hy;have fin:∀m:Nat,k (aW m) h=O res->Q (.int (m:Int) (s.toks+1)) {s with toks:=s.toks+1+1}:=λm e=>by
  exact aC (hs.tk ax (s.toks+1+1)) λc a=>hQ w h _ _ _ a c (.nat m _) e
 refine sI e (λh5 e=> ?_) λu_ e=>sI e (λh4 e=> ?_) λu_ e=>sI e (λh3 e=> ?_) λu_ e=> ?_
 .refine fJ (hy.ia (aH h5)) λt items ep hg q hr ht hn hvs=> ?_;rw [len_eq,hvs.length,aN] at e;refine U q ?_;exact OR hg hn (fin _ e)
 .refine oK (hy.jN (aH h4)) λb t l q hn=> ?_;rw [len_eq,l,eL,aN] at e;refine U q ?_;exact len_bytes (by lia) (fin _ e)
 .refine aK (hy.qc (aH h3)) λt hn q=> ?_;rw [len_eq] at e;refine U q ?_;exact P.len_str (by have:(⟨v.l.toArray⟩:Str).length=v.l.length:=rfl;lia) (fin _ e)
 refine dF (dg e) λo e h6 ho=> ?_;have rep:=(hs.rep _ o ho).2;refine U ((hy.eB h6).1) (sI e (λh1 e=> ?_) λu_ e=>sI e (λh2 e=> ?_) λu_ e=> ?_)
 .refine jM (rep.l6 (aH h1)) λitems ep hg hr hn hvs=> ?_;rw [len_eq,hvs.length,aN] at e;exact call_len_list (gf _ hg rfl _ rfl) (by lia) (fin _ e)
 .refine iX (rep.kR (aH h2)) λes ep u_ hr hg hn hd=> ?_;rw [len_eq,hd.all.length,aN] at e;exact LI (jO hs hbase hr) hg hn (fin _ e)
 .refine aC (dH e) λe h3=>qQ (rep.Gy (aH h3)) λb hg hr hn l=> ?_;rw [len_eq,l,eL,aN] at e;exact LJ hg hn (fin _ e)
end
theorem tZ (e:with2 vs f=O r):∃u v,vs=[u,v]/\f u v=O r:=by
 induction vs using zL with
 |nil=>exact fn e
 |cons u l=>
  refine dN (eE e) λv a=> ?_;subst a;intro e;exact m7 u v rfl e
theorem eg.two (h:eg X g w n [u,v] ys):∃x y,ys=[x,y]/\VR X g w n u x/\VR X g w n v y:=by
 cases h with
 |cons _ x _ _ hu c=>
  refine dN (eg.one c) λy a=> ?_;subst a;intro hv;exact j0 x y rfl hu hv
section
variable {X:dw} {b:Nat}
theorem Ir (u:bu X):qx X b "append" ⟨BX,λt=>ak t 1⟩:=by
 intro t ht;have ht:=aH ht;subst ht;refine yC (.inl rfl) ("list.append") ⟨yw,F.slot_list_append,F.type_list_append⟩ (λA n I w h s l x y hv B o m d vs ys f k res g Q C=>(aK (eE g) λv e D=> ?_));rw [D] at f;refine dN f.one λz E hz=>aC (dH e) λe G=>aC (dH e) λe i=>U ((hv.eB B).1) (U E (jM ((l.rep _ o m).2.l6 d) λitems ep j p hn c=> ?_));have a:=nY i;rw [mL] at e a;rw [cY,c.length,aN] at a;refine eW<|bH slot_list_append (bV _ j rfl) entry_list_append ?_ (args_list_append _ _)
 refine(?_:wpAny _ _ (updateSeq (w.ρ x.n) (·.push z)>>=λG=>ret .none) _ _ s);refine au (ly j rfl (av (bV .none rfl ?_)));have q:=l.turn u m (eS (·.push z)) s.toks (o':=bK (o.xs++[v])) (λr p=> .list _ (items.push z) _ p (bD _ j rfl) (U (qE ..) a) (U pH ((c.mono r).append (.cons _ _ _ _ (hz.mono r) .nil)))) (t8 d rfl);exact C _ _ _ _ _ q.1 q.2 .none e
theorem Tz (a:10<=X.h₀.objs.size) (G:bu X):qx X b "get" ⟨Ss,λt=>ak t 2⟩:=by
 intro t ht;refine U (aH ht) (yC (.inr (.inl rfl)) ("dict.get") ⟨F.plainAttrs_dict,F.slot_dict_get,F.type_dict_get⟩ (λA n I w h s g m y hv J o K i vs ys d k res f Q p=>(nK (tZ f) λu v e L=> ?_)));rw [L] at d;refine vQ d.two λx z M hu hz=>aC (dH e) λe P=>aK (bB e) λr e j=>U ((hv.eB J).1) (U M (iX ((g.rep _ o K).2.kR i) λes ep P R B hn S=>eW<|bH F.slot_dict_get (bV _ B rfl) F.entry_dict_get ?_ (F.args_dict_get_3 _ _ _)));refine(?_:wpAny _ _ (dictGet (w.ρ m.n) x>>=_) _ _ s);refine au (Fi B S hu j (I.c (k:=1) rfl) λt r' C=>(aC (g.tk G t) λD E=> ?_))
 induction r using zO with
 |some v'=>
  exact aK C λV l q=>U q (av (bV V rfl (p w h _ _ _ E D l e)))
 |none=>
  refine U C ((?_:wpAny _ _ (Builtin.Dict.missed (w.ρ m.n) x>>=_) _ _ _));exact au (wpAny_missed_other (jO g a R) (av (bV z rfl (p w h _ _ _ E D hz e))))
end
section
variable {X:dw} {b:Nat}
theorem AS (ax:bu X) (a:10<=X.h₀.objs.size):qx X b "setdefault" ⟨qV,λt=>ak t 2⟩:=by
 intro t ht;have ht:=aH ht;subst ht;refine yC (.inr (.inl rfl)) ("dict.setdefault") ⟨F.plainAttrs_dict,F.slot_dict_setdefault,F.type_dict_setdefault⟩ (λA n hA w h s E G y hv h6 o ho l vs ys K k res m Q hQ=> ?_);refine HG (tZ m) λu v f=> ?_;subst f;intro e;refine vQ K.two λx z f=> ?_;subst f;intro hu hz;refine U ((hv.eB h6).1) (aC (dH e) λe u_=>aK (bB e) λr e g=> ?_);have hc:=hA.c (k:=1) rfl;refine iX ((E.rep _ o ho).2.kR l) λI ep p L q hn i=> ?_;have hT:s.TypeIs (.ref (w.ρ G.n)) "dict":=bV _ q rfl;refine fF (x9 hu (mh g hu i)) λJ hh=>eW<|bH F.slot_dict_setdefault hT F.entry_dict_setdefault ?_ (F.args_dict_setdefault_3 _ _ _)
 refine au (bq (nj hT) ((?_:wpAny _ _ (pure (w.ρ G.n,x,O z)) _ _ s)));refine av ((?_:wpAny _ _ (if(w.ρ G.n==lD)=H then _ else(dictSetDefault (w.ρ G.n) x z>>=_)) _ _ s));rw [if_neg (by refine U (jO E a L) ?_;exact bY)];refine au (bP (au (hh s.toks hc (au (yb q i hu g hc _ (λB C=> ?_) λj v' M hj=> ?_)))))
 .rw [B] at e;refine aK (bB e) λd e e1=>aC (dH e) λe P=> ?_;have D:=ru P;rcases wj hu i.all.SK e1 with⟨R,C,rfl⟩|⟨j,v0,R,hj,rfl⟩
  .refine au (fm (au (wpAny_updateDictKeys (s:={s with toks:=s.toks+J}) (hz:=aI hn bw) q rfl (av ?_))));have S:(I.push ⟨hashOf X u,x,z⟩).size<=1000000:=by
    have:=i.all.length;rw [cY] at D;simp at D this⊢;lia
   have ab:=E.turn ax ho (Obj.mapDictKeys λI=>I.push ⟨hashOf X u,x,z⟩) (s.toks+J) (o':=d7 (o.kvs++[(u,v)]) (cnt o.c o.kvs (o.kvs++[(u,v)]))) (λk L=> .dict _ _ (ep+1) L (bD _ q rfl) S ((Ba i hu hz R C).mono k) _ (by refine U (Fj ..) (U cY (U p ?_));simp;exact rfl)) (t8 l rfl);exact av (bV z rfl (hQ _ _ _ _ _ ab.1 ab.2 (hz.mono ab.2.dX) e))
  .exact nomatch (show(O (O v0):Option (Option V))=O aq from R.symm.trans (B▸g))
 .rw [M] at e;have e:=e;refine dN (i.all.get hj) λen h1 h2=> ?_;have Zu:I[j]? =O en:=by refine cL bx ?_;exact h1
  exact bq (gM (s:={s with toks:=s.toks+J}) q rfl) (U Zu (aC (E.tk ax (s.toks+J)) λa2 a1=>au (fm (av (av (bV en.val rfl (hQ w h _ _ _ a1 a2 h2.val e)))))))
end
section
variable {X:dw} {b:Nat} {w:Wd} {h:aev} {s:Shared}
theorem LK (K:bu X) (u:St X w h s) (hv:VR X s.heap w h.n ov y) (L:ov.t=6) (E:h.l.get ov.n=O o) (j:o.t=1) (hz:VR X s.heap w h.n x z)
 (e:gS x h (λys h=>put ov.n (bK (app o.xs ys)) h k)=O res) (M:Goes (PV X) X w h.n s k res Q):wpAny (model X.prog X.w) A (call (.builtin "list.extend") [y,z]) Q (λv v=>False) s:=by
 refine gR (fS e) λP e R B S=>aC (dH e) λe C=>gc (hv.eB L) λi=> ?_;subst i;intro lv;refine gc (hz.eB R) λi=> ?_;subst i;intro lx;refine sV (u.listAt E j) λitems ep r hn m G=>sV (u.listAt B S) λc V p hn2 d v=> ?_;have f:=nY C;rw [mL] at e f;have hl:=m.length;have D:=d.length;simp only [aN] at hl D;rw [cY] at f;have g:=bw;refine bH k9 (bV _ r rfl) F.entry_list_extend ?_ (F.args_list_extend_2 _ _);refine(?_:wpAny _ _ (uo (.ref (w.ρ ov.n)) (.ref (w.ρ x.n)) .none) _ _ s);refine bq (jd (bV _ p rfl)) ?_;have h1:(nk (.ref (w.ρ ov.n)) (.ref (w.ρ x.n))||cU "list"==cU "list"||cU "list"==cU "tuple")=true:=by simp
 refine Zc h1 (au (au (dz p rfl (av (au (au (dz r rfl (av ?_))))))));have h2:(!items.isEmpty&&nq (items.size+c.size))=false:=by
  have:nq (items.size+c.size)=false:=by unfold nq;simp;lia
  exact U this (U (Bool.and_false ..) rfl)
 refine U h2 ((?_:wpAny _ _ (updateSeq (w.ρ ov.n) (·++c)>>=λv=>ret .none) _ _ s));have q:(items++c).size<=1000000:=by simp;lia
 refine au (ly r rfl (av (bV .none rfl ?_)) (by first|exact aI q g|exact aI hn g));have I:=u.turn K E (eS (·++c)) s.toks (o':=bK (o.xs++P.xs)) (λJ G=> .list _ (items++c) _ G (bD _ r rfl) q (U fR ((m.mono J).append (d.mono J)))) (t8 j rfl);exact M _ _ _ _ _ I.1 I.2 .none e
theorem D7 (m:bu X) (p:St X w h s) {items} (q:T="list"\/T="tuple") (r:s.heap.get? a=O ob) (t:ob.cls= .type T) (u:ob.data= .seq items ep) (hn:items.size<=1000000) (hv:eg X s.heap w h.n xs items.toList)
 (e:k (bQ h.n) ⟨HT.ins (bK xs) h.l h.n,h.n+1⟩=O res) (v:Goes (PV X) X w h.n s k res Q):wpAny (model X.prog X.w) A (call (.type "list") [.ref a]) Q (λx x=>False) s:=by
 refine call_list_seq a q r t u (λh' c' hk c=> ?_) (aI hn bw);have d:=bh c;refine gc (p.new m (o:=bK xs) (b:=s.heap.objs.size) (own:=λa=>a==s.heap.objs.size) (ReflBEq.rfl) (s':={s with heap:=h'}) (gQ d)
  (λa y=>by have:a=s.heap.objs.size:=(by simpa using y);subst this;exact⟨br _,d⟩) (λa f e=>hk a f e) rfl rfl 0 _ rfl
  (λz B j E=> .list xs items c' (U j B) (U j c) hn (hv.mono z))) λC D=> ?_
 refine v _ _ _ _ _ C D ?_ e;have:=VR.ref (X:=X) (g:=h') (w:=⟨λi=>if i=h.n then s.heap.objs.size else w.ρ i,λa=>if(a==s.heap.objs.size)=H then O h.n else w.role a,λi=>if i=h.n then 0 else w.uh i⟩) (n:=h.n+1) h.n (bM _);simpa using this
end
section
variable {X:dw} {K:Frag} {G:Str->Option V} {Ms:Nat->List (Nat×Nat)} {r:Ap} {n b:Nat}
def pS (X:dw) (r:Ap) (n b:Nat) (ns:List (Str×aM)) (e:Expr):Prop:=∀a bd sc pos,e= .Lambda a bd sc pos->cN X r n b ns (xC (NS (aG (cJ pos.line 4096) pos.col))) e
theorem GU (c:mq X K G Ms r n b) (h:pS X r n b ns e):cN X r n b ns (VW (cS G Ms 30 ns) e) e:=by
 have d:=(iD c 30).e ns e
 induction e using aS with
 |Lambda a f sc p=>exact h _ _ _ _ rfl
 |_=>exact d
theorem LL (c:mq X K G Ms r n b) ns body (hl:∀ks vs p f,body=[.Return (O (.Dict ks vs p)) f]->(∀e,O e∈ks->pS X r n b ns e)/\∀e∈vs,pS X r n b ns e):ja X r n b ns (qY G Ms ns body) body:=by
 have base:∀l,qY G Ms ns l=qX G Ms 100 ns l->ja X r n b ns (qY G Ms ns l) l:=λl h=>h▸(FG c 100).2 ns l
 induction body using zL with
 |nil=>exact base _ (by unfold qY;rfl)
 |cons g r0=>
  induction r0 using zL with
  |cons=>induction g using fc with
   |Return o p=>induction o using zO with
    |none=>exact base _ (by unfold qY;rfl)
    |some e=>rcases e<;>exact base _ (by unfold qY;rfl)
   |_=>exact base _ (by unfold qY;rfl)
  |nil=>
   induction g using fc with
   |Return o f=>
    induction o using zO with
    |none=>exact base _ (by unfold qY;rfl)
    |some e=>
     induction e using aS with
     |Dict ks vs p=>
      refine gc (hl ks vs p f rfl) λh1 h2=>(?_:ja X r n b ns (match bE (len ks) 16 with|true=>(match l0 ks vs with|true=>_|false=>lq)|false=>lq) _)
      induction d:bE (len ks) 16 using zB with
      |false=>exact ja.bad _
      |true=>
       induction a:l0 ks vs using zB with
       |false=>exact ja.bad _
       |true=>
        refine ja.cons (jW.ret f (cN.dict c.ax p a ?_ (xr (λe he=>GU c (h1 e he)) (λe he=>GU c (h2 e he)) a))) ja.nil;have h:=cD.mp d;rw [len_eq] at h;exact pZ h
     |_=>exact base _ (by unfold qY;rfl)
   |_=>exact base _ (by unfold qY;rfl)
end
theorem Iu v l n:NW (v::l) n=(af aq (af aq (NW l (aG n v.n)) (ak v.s 0)) (ak v.t 2):Option Nat):=rfl
theorem OS:∀{l} {a m},NW l a=O m->(∀v∈l,ak v.t 2=H/\v.s=0)/\∀j,j<=l.length->a+((l.take j).map V.n).sum<=m/\(j=l.length->a+((l.take j).map V.n).sum=m):=by
 intro l
 induction l with
 |nil=>
  intro a m e;injection e with e;subst e
  exact⟨λv hv=>((aU hv).elim),λj b=>by simp⟩
 |cons v l d=>
  intro a m e;rw [Iu] at e;refine aC (dH e) λe h2=>aC (dH e) λe f=>aC (d e) λc g=>⟨λu hu=> ?_,λj b=> ?_⟩
  .rcases aT.mp hu with rfl|hu
   .exact⟨h2,aH f⟩
   .exact g u hu
  .induction j using zN with
   |zero=>
    have:=(c 0 (iB _)).1;simp at this⊢;exact i0 this
   |succ j=>
    have:=c j (qK b);simp only [List.take_succ_cons,dI,List.sum_cons,iJ,Nat.add_right_cancel_iff] at this⊢;exact⟨by lia,λq=>by have:=this.2 q;lia⟩
theorem xu {xs:List V}:∀{j},j<=xs.length->preSum (λi=>(((xs.map V.n).getD i 0:Nat):Int)) j=((((xs.take j).map V.n).sum:Nat):Int):=by
 intro j
 induction j with
 |zero=>exact λ_=>rfl
 |succ j c=>
  intro b;have a:j<xs.length:=b;refine(?_:preSum _ j+_=_);have d:(xs.map V.n).getD j 0=xs[j].n:=by simp [cZ,bA a]
  refine U (c (Nat.le_of_succ_le b)) (U (wR a) (U kc (U List.sum_append ((?_:_+(((xs.map V.n).getD j 0:Nat):Int)=_)))));exact U d (Int.ofNat_add_ofNat (List.sum (sR V.n (List.take j xs))) (V.n xs[j]))
section
variable {X:dw}
theorem TF (J:bu X):qh X 11:=by
 intro n A K w h s F vs ys hv k res l Q L;refine eW ?_;refine dN (eE l) λv d=> ?_;subst d;intro e;refine dN hv.one λy d=> ?_;subst d;intro hy;refine gR (fS e) λo e M P R=>aK (bB e) λm e hm=>gc (dH e) λB e=>gc (hy.eB M) λd=> ?_;subst d;intro lv;refine sV (F.listAt P R) λitems ep x hn p hr=>aC (OS hm) λG S=> ?_;have c:o.xs.length=items.size:=by refine U p.length ?_;simp
 refine bW (call_sum_walk (iH (gf _ x rfl _ rfl) ?_));have C:∀i y,items[i]? =O y->∃t,y=gO ((((o.xs.map V.n).getD i 0:Nat)):Int) t:=by
  intro i y hi;have q:i<o.xs.length:=by
   exact U c ((fN.mp hi).1)
  have hu:=bA q;refine aK (p.get hu) λz D hz=> ?_;rw [bx,hi] at hz;injection hz with hz;subst hz
  refine gc (S _ (mu q)) λq1 q2=>fF (D.cO q1) λt d=> ?_;subst d;refine⟨t,(U (Cy q2) ?_)⟩;simp [cZ,hu]
 have f:∀j,j<=items.size->preSum (λi=>(((o.xs.map V.n).getD i 0:Nat):Int)) j<=1000000000000/\0<=preSum (λi=>(((o.xs.map V.n).getD i 0:Nat):Int)) j:=by
  intro j r;exact U (xu (le_of_le_of_eq r (id (gG c)))) (⟨qH.mpr (aI (f7 (G j (le_of_le_of_eq r (id (gG c)))).1) (aB B)),cj _⟩)
 refine jf s.heap.objs.size [s.heap.objs.size,w.ρ v.n] [s.heap.objs.size] items.size (λi v=>items[i]? =O v) (λi I=>I.IsListIter s.heap.objs.size (w.ρ v.n) i/\I.IsList (w.ρ v.n) items) (λi=>(((o.xs.map V.n).getD i 0:Nat):Int)) rfl (Walks.list (A:=A.in1) K.handled s.heap.objs.size (w.ρ v.n) (cg (bh x)) items) ⟨(f9 _ (aJ _ rfl) rfl rfl),(gf _ (az _ x) rfl _ rfl)⟩ ?_ C ?_ ?_
 .intro b hb;have g:(s.heap.push {cls:= .type "list_iterator",data:= .fields #[.ref (w.ρ v.n),.int 0 0]}).objs.size=s.heap.objs.size+1:=bI ..;refine U g ?_;have:=bh x;rcases aT.mp hb with rfl|hb
  .exact bM _
  .refine U (eH.mp hb) ?_;exact cI this
 .intro j r;have h1:=f j (gQ r);have h2:=f (j+1) r;have h3:preSum (λi=>(((o.xs.map V.n).getD i 0:Nat):Int)) (j+1)=preSum (λi=>(((o.xs.map V.n).getD i 0:Nat):Int)) j+(((o.xs.map V.n).getD j 0:Nat):Int):=rfl;exact⟨(⟨eu (by decide) (cj _),vM (eu (Int.le_add_of_nonneg_left h1.2) (h3▸h2.1)) (by decide)⟩),eu (by decide) h2.2,vM h2.1 (by decide)⟩
 .intro h' tk t' hk E;refine aC (F.i9 J (h':=h') (tk:=tk) E λa ob e=>hk a ob (by
   intro hm;have h1:=bh e;rw [eH.mp hm] at h1;exact j9 _ h1) (az _ e)) λa2 a1=> ?_
  have u:preSum (λi=>(((o.xs.map V.n).getD i 0:Nat):Int)) items.size=dQ m:=by
   refine U (xu (cV (id (gG c)))) ?_;have:=(G items.size (cV (id (gG c)))).2 c.symm;simp at this⊢;lia
  exact U u (L w h _ _ _ a1 a2 (.nat m t') e)
end
section
variable {X:dw}
theorem u0 m (h:m=1\/m=7\/m=9\/m=10\/17<m):qh X m:=by
 refine OQ m ?_;rcases h with rfl|rfl|rfl|rfl|h
 .rfl
 .rfl
 .rfl
 .rfl
 .exact i6 h▸(rfl:find (m-18+18) JQ=aq)
end
section
variable {X:dw} {b:Nat}
theorem TG x:qx X b x ⟨Rk,λa=>aj⟩:=λt ht=>ff ht
theorem TH x:xg X b x ⟨Rl,λa=>aj⟩:=λt ht=>ff ht
theorem TJ (h1:qx X b "append" ⟨BX,λt=>ak t 1⟩) (h2:qx X b "extend" ⟨xW,λt=>af (ak t 3) H (ak t 1)⟩) (a:qx X b "get" ⟨Ss,λt=>ak t 2⟩) (c:qx X b "setdefault" ⟨qV,λt=>ak t 2⟩)
 {x} (hx:aY x=H):qx X b x (Sx (nm x)):=by
 unfold Sx
 induction d:ak (nm x) (nm "append") using zB with
 |true=>have:=gU hx rfl (aH d);subst this;exact h1
 |false=>
  induction e:ak (nm x) (nm "extend") using zB with
  |true=>have:=gU hx rfl (aH e);subst this;exact h2
  |false=>
   induction f:ak (nm x) (nm "get") using zB with
   |true=>have:=gU hx rfl (aH f);subst this;exact a
   |false=>
    induction g:ak (nm x) (nm "setdefault") using zB with
    |true=>have:=gU hx rfl (aH g);subst this;exact c
    |false=>exact TG x
theorem TL (h1:xg X b "index" ⟨EX,λt=>ak t 5⟩) (h2:xg X b "join" ⟨Gs,λt=>af (ak t 4) H (ak t 3)⟩) {x} (hx:aY x=H):xg X b x (Sy (nm x)):=by
 unfold Sy
 induction a:ak (nm x) (nm "index") using zB with
 |true=>have:=gU hx rfl (aH a);subst this;exact h1
 |false=>
  induction c:ak (nm x) (nm "join") using zB with
  |true=>have:=gU hx rfl (aH c);subst this;exact h2
  |false=>exact TH x
end
theorem lS (e:jump d h k=O r):∃h',h.n<=h'.n/\(∀i o,h'.l.get i=O o->h.l.get i=O o)/\k h'=O r:=aC (dH e) λe h1=>f9 _ (aB h1) (λi o e=>HT.Kl e) e
section
variable {X:dw} {r:Ap} {n b:Nat} {ns:List (Str×aM)} {w:Wd} {h h':aev} {s:Shared} {env:dj} {ρ:Env}
theorem St.jump (f:bu X) (d:St X w h s) (hn:h.n<=h'.n) (hl:∀i o,h'.l.get i=O o->h.l.get i=O o):St X w h' s/\Ext X cT w h.n s w h'.n s:=by
 have x:Ext X cT w h.n s w h'.n s:=⟨br _,hn,λc c=>rfl,λc c=>rfl,λc c=>rfl,λc c c c c e=>e,rfl,rfl⟩;refine⟨⟨λi o e=> ?_,λa i e=> ?_,d.base,d.size,d.tab⟩,x⟩
 .exact aC (d.rep i o (hl i o e)) λr hi=>⟨aR hi hn,r.keep f x.dX hi (λc e=>e) λc c c e=>e⟩
 .exact fh (d.lim a i e) λg j a3=>iW (aR j hn) g a3
theorem jW.jump (j:bu X) (hx:jW X r n b ns a x):jW X r n b ns (sJ d a) x:=by
 intro A F env ρ w h s I he J L res e Q E;refine cG (lS (show Mine.jump aj h (λh=>a.f r ρ h (λρ h=>Mine.jump d h λh=>J ρ h) (λv h=>Mine.jump d h λh=>L v h))=O res from e)) λh1 e M P=>aC (I.jump j M P) λk l=>hx A F env ρ w h1 s l (he.ext k) _ _ res e Q ⟨λm o h2 p c q t u=> ?_,λo h2 p v y c t hv u=> ?_⟩
 .exact ju (lS u) λz B C D=>aC (c.jump j C B) λi g=>E.next m o z p g (q.ext i) ((k.none.trans t).trans i.none) D
 .exact ju (lS u) λz B C D=>aC (c.jump j C B) λi g=>E.ret o z p v y g ((k.none.trans t).trans i.none) (hv.mono i.dX) D
theorem cN.jump (j:bu X) (hx:cN X r n b ns a x):cN X r n b ns (xJ d a) x:=by
 intro A o env ρ w h s p he k res e Q q;exact ju (lS (show Mine.jump aj h (λh=>a.f r ρ h λv h=>Mine.jump d h λh=>k v h)=O res from e)) λh1 t u e=>aC (p.jump j u t) λl c=>hx A o env ρ w h1 s c (he.ext l) _ res e Q λz h2 B v y g C hv D=>ju (lS D) λE F I J=>aC (g.jump j I F) λm i=>q z E B v y i ((l.trans C).trans m) (hv.mono m.dX) J
variable {K:Frag} {G:Str->Option V} {Ms:Nat->List (Nat×Nat)}
theorem Ys (h:c=aj->cN X r n b ns x e):cN X r n b ns (lA c x fu) e:=zA (P:=λx=>cN X r n b ns x e) (λa=>cN.bad _) h
theorem Yt {s} (h:c=H->jW X r n b ns x s):jW X r n b ns (lA c lq x) s:=zA (P:=λx=>jW X r n b ns x s) h λa=>jW.bad _
theorem Bk (h:xX e=H):jx e=false:=by rcases e<;>first|rfl|exact ff h
set_option smartUnfolding false in
theorem ny (c:mq X K G Ms r n b):∀k ns e,cN X r n b ns (nQ G Ms k ns e) e:=by
 intro k
 induction k with
 |zero=>
  intro _ _;exact cN.bad _
 |succ k a=>
  intro ns e;have i:=(iD c 30).e ns e
  induction e using aS with
  |Tuple d z p=>exact Ys λh=>cN.tuple c.ax c.htab z p (qj (a ns) h)
  |List d p=>exact Ys λh=>cN.list c.ax p (qj (a ns) h)
  |Compare l g d p=>
   induction g using BQ with
   |one op=>
    induction d using BQ with
    |one y=>exact Ys λj=>cN.cmp (se c op) p (rF j) (a ns l) (a ns y)
    |zero=>exact cN.bad _
    |more=>exact cN.bad _
   |zero=>exact cN.bad _
   |more=>exact cN.bad _
  |Call f args m p=>exact cN.jump c.ax i
  |_=>exact i
set_option smartUnfolding false in
theorem Iv (c:mq X K G Ms r n b) ns e:CP X r n b ns e (J4 G Ms ns e):=by
 have m:=iD c 30
 induction e using aS with
 |ListComp i d sc p=>
  induction d using BQ with
  |one g=>
   rcases g with⟨j,u,k,a⟩
   refine CP.dec λo=>CP.if λq=>CP.if λhp=>uw (uZ c (m.e ns) hp) λv t f l=> ?_;have h:=cN.comp (ns:=ns) c.ax c.hbase c.htab (Cp q) f t (zC c.ax j) l (m.ifs _ k) (ny c 30 _ i) p;rw [<-o] at h;exact⟨h.1,λx=>h.2⟩
  |zero=>exact CP.bad
  |more g=>rcases g with⟨_,_,_,_⟩;exact CP.bad
 |_=>exact CP.bad
set_option smartUnfolding false in
theorem Cz (c:mq X K G Ms r n b) ns e:j4 X r n b ns (N2 G Ms ns e) e:=by
 induction e using aS with
 |Compare l a d p=>
  induction a using BQ with
  |one op=>
   induction d using BQ with
   |one y=>exact zA (P:=λx=>j4 X r n b ns x (.Compare l [op] [y] p)) (λg=>j4.bad _) λf=>j4.cmp (se c op) _ (rF f) (ny c 30 ns _) (ny c 30 ns _)
   |zero=>exact j4.bad _
   |more=>exact j4.bad _
  |zero=>exact j4.bad _
  |more=>exact j4.bad _
 |_=>exact j4.bad _
set_option smartUnfolding false in
theorem Iw (c:mq X K G Ms r n b) ns e:j4 X r n b ns (E4 G Ms ns e) e:=by
 have g:=(iD c 30).t ns e
 induction e using aS with
 |BoolOp op d p=>
  induction d using Vs with
  |two x y=>
   have:=j4.bools (ns:=ns) p (tS.more (op:=op) (Cz c ns x) (tS.one (Cz c ns y)));rcases op<;>exact this
  |zero=>exact j4.bad _
  |one=>exact j4.bad _
  |more=>exact j4.bad _
 |Compare a f d p=>exact Cz c ns (.Compare a f d p)
 |_=>exact g
set_option smartUnfolding false in
theorem Iz (c:mq X K G Ms r n b) ns e:cN X r n b ns (J5 G Ms ns e) e:=zA (P:=λx=>cN X r n b ns x e) (λa=>(iD c 30).e ns e) λa=>ny c 30 ns e
set_option smartUnfolding false in
theorem IA (c:mq X K G Ms r n b) ns e:cN X r n b ns (J8 G Ms ns e) e:=by
 have i:=ny c 30 ns e
 induction e using aS with
 |Call f args d p=>
  induction d using zL with
  |cons=>exact cN.bad _
  |nil=>exact Ys λa=>zA (P:=λx=>cN X r n b ns x (.Call f args [] p)) (λj=>(iD c 30).e ns _) λg=>cN.call c.rk p (λo m q h=>by rw [h] at g;exact ft g) a ((iD c 30).e ns f) (qj (ny c 30 ns) a)
 |_=>exact i
set_option smartUnfolding false in
theorem IB (c:mq X K G Ms r n b) ns e:CP X r n b ns e (J6 G Ms ns e):=
 zA (P:=CP X r n b ns e) (λa=>Iv c ns e) λa=>CP.unless λh=>CP.no h (Iz c ns e)
theorem ja.pad (m:bu X):ja X r n b ns E6 []:=by
 intro A q env ρ w h s t he o u res e Q p;refine ju (lS (show Mine.jump aj h (λh=>Mine.jump aj h λh=>o ρ h)=O res from e)) λh1 z B e=>aC (t.jump m B z) λC f=>ju (lS e) λh2 D E e=>aC (f.jump m E D) λF g=> ?_;have x:=C.trans F;exact ja.nil (r:=r) A q env ρ w h2 s g (he.ext x) o u res e Q ⟨λi j k l a c d e=>p.next i j k l a c (x.none.trans d) e,λj k l v y a d hv e=>p.ret j k l v y a (x.none.trans d) hv e⟩
set_option smartUnfolding false in
theorem IC (c:mq X K G Ms r n b) ns (t e):CP X r n b ns e (Ka G Ms ns t e):=
 zA (P:=CP X r n b ns e) (λa=>CP.if λh=>CP.no (Bk h) (cN.jump c.ax ((iD c 30).e ns e))) λa=>IB c ns e
theorem LM (c:mq X K G Ms r n b) p (d:nO t e=H) (he:CP X r n b ns e a):jW X r n b ns (jv (Dq G Ms ns t) a) (.Assign [t] e p):=by
 have f:bk t=false:=by rcases t<;>first|rfl|exact ff d
 induction g:jx e using zB with
 |true=>exact jW.GP c.ax p he.1 (he.2 g) (yi c ns t) g f
 |false=>exact jW.assign c.ax p he.1 (yi c ns t) g d (λts z p q=>U q D6) (λts p q=>U q (λi i i i=>rfl)) f
set_option smartUnfolding false in
theorem IE (c:mq X K G Ms r n b) ns s:jW X r n b ns (Kc G Ms ns s) s:=by
 have d:=(FG c 100).1 ns s
 induction s using fc with
 |Assign ts e p=>
  induction ts using BQ with
  |one t=>
   exact Yt λf=>Yt λh=>Yt λa=>LM c p a (CP.no (Bk h) (cN.jump c.ax ((iD c 30).e ns e)))
  |zero=>exact jW.bad _
  |more=>exact jW.bad _
 |_=>exact d
set_option smartUnfolding false in
theorem IG (c:mq X K G Ms r n b) ns s:jW X r n b ns (E7 G Ms ns s) s:=by
 have g:=(FG c 100).1 ns s
 induction s using fc with
 |Return e p=>
  induction e using zO with
  |none=>exact jW.bad _
  |some e=>exact jW.ret p (IA c ns e)
 |Assign ts e p=>
  induction ts using BQ with
  |one t=>
   exact Yt λf=>LM c p f (IC c ns t e)
  |zero=>exact jW.bad _
  |more=>exact jW.bad _
 |If t a d p=>
  induction d using zL with
  |cons=>exact jW.bad _
  |nil=>
   refine jW.ite p (Iw c ns t) ?_ (ja.pad c.ax)
   induction a using BQ with
   |one s=>
    exact ja.cons (IE c ns s) ja.nil
   |zero=>exact ja.bad _
   |more=>exact ja.bad _
 |_=>exact g
theorem LN (c:mq X K G Ms r n b) ns:∀body:List Stmt,ja X r n b ns (Ke G Ms ns body) body:=by
 intro body
 induction body with
 |nil=>
  exact ja.nil
 |cons s d a=>
  exact ja.cons (jW.jump c.ax (IG c ns s)) a
end
section
variable {prog:Program} {ww:World} {A:Around}
theorem LO (n:A.handled=aq) (I d) (l:d≠I) es ep:Walks prog ww A I [I,d] [I] es.size (λi v=>∃j,es[i]? =O j/\v=j.key) (λi h=>h.IsKeyIter I d i es.size ep/\h.get? d=O (cH es ep)) where
 sub:=λb hb=>by simp at hb;simp [hb]
 frame:=λg g g a hk=>⟨a.1.at λo e=>hk I aE o e,hk d (mW rfl) _ a.2⟩
 item:=λi s Q E hi a k=>by
  refine wo n a.1 a.2 rfl (λj hx h' c f=> ?_) (λhx=> ?_)
  .exact k _ h' s.toks (bV j hx rfl) ⟨c,f.extBut _ _ l a.2⟩ λb o hb e=>f.extBut b o (λh=>hb (by simp [h])) e
  .rw [eF] at hx;lia
 done:=λs Q E a k=>by
  refine wo n a.1 a.2 rfl (λj hx h' c f=> ?_) (λhx h' m=> ?_)
  .have:=(fN.mp hx).1;lia
  .exact k h' s.toks λb o hb e=>m b o (λh=>hb (by simp [h])) e
 self:=λg g g g a k=>wpAny_pyIter_keyiter a.1 k
theorem GV d (c:(d==lD)=aj) es ep (X:dw):KdlSrc X.prog X.w "dict" d d es.size (λi v=>∃b,es[i]? =O b/\v=b.key) (λh=>h.get? d=O (cH es ep)) where
 type:=λa hm=>bV _ hm rfl
 there:=λa hm=>⟨bh hm,bh hm⟩
 keep:=λa a hm hk=>hk d (.inl rfl) _ hm
 notList:=rfl
 notTuple:=rfl
 hint:=λa a a a hm hq=>kdl_hint_dict (bV _ hm rfl) hq
 iter:=λA s e hm=>j0 _ _ (λa a hq=>DZ c hm hq) (LO e _ d (cg (bh hm)) es ep) ⟨(f9 _ (aJ _ rfl) rfl rfl),az _ hm⟩
end
section
variable {X:dw} {w:Wd} {h:aev} {s:Shared}
theorem St.tabAt (b:St X w h s) (c:h.l.get i=O o) (ht:o.t=2):∃a ep,s.heap.get? (w.ρ i)=O (cH a ep)/\a.size<=1000000/\gV X s.heap w h.n o.kvs a.toList/\w.role (w.ρ i)=O i:=by
 obtain⟨a,ep,d,e,hn,f,_⟩:=(b.rep i o c).2.kR ht;exact lJ a ep e hn f d
theorem FH (b:St X w h s) (a:10<=X.h₀.objs.size) (c:w.role (w.ρ i)=O i):(w.ρ i==lD)=false:=by
 have:=(b.lim _ i c).2.1;have h2:lD<10:=by decide
 exact beq_eq_false_iff_ne.mpr (iA (aR h2 (aI a this)))
theorem D8 (a:iU (ri X g w n) kvs es):eg X g w n (kvs.map eG) (es.map DictEntry.key):=by
 induction a with
 |nil=>exact .nil
 |cons x _ b=>exact .cons _ _ _ _ x.key b
theorem zE {b:Array bf} (h:ItemsOf (λi v=>∃c,b[i]? =O c/\v=c.key) acc b.size):acc.toList=b.toList.map DictEntry.key:=by
 apply List.ext_getElem?;intro i;refine U lu (U bx (U bx ?_))
 induction d:acc[i]? using zO with
 |none=>
  rw [eF] at d;have:b[i]? =none:=by rw [eF];have:=h.1;exact le_of_eq_of_le (id (gG this)) d
  refine U this ?_;rfl
 |some v=>
  refine aK (h.2 i v d) λc e=> ?_;subst e;intro f;refine U f ?_;rfl
theorem Bl (m:bu X) (p:St X w h s) {b:Addr} (hb:s.heap.objs.size<=b) (hk:∀b o,s.heap.get? b=O o->h'.get? b=O o) (c:h'.get? b=O (gq acc c')) (hv:eg X s.heap w h.n xs acc.toList) (hn:acc.size<=1000000)
 (e:k (bQ h.n) ⟨HT.ins (bK xs) h.l h.n,h.n+1⟩=O res) (q:Goes (PV X) X w h.n s k res Q):Q (.ref b) {s with heap:=h',toks:=tk}:=by
 have d:=bh c;refine gc (p.new m (o:=bK xs) (b:=b) (own:=λa=>a==b) (ReflBEq.rfl) (s':={s with heap:=h',toks:=tk}) (aI hb (gQ d))
  (λa r=>by have:a=b:=(by simpa using r);subst this;exact⟨hb,d⟩) (λa f e=>hk a f e) rfl rfl 0 _ rfl
  (λt u j y=> .list xs acc c' (U j u) (U j c) hn (hv.mono t))) λv x=> ?_
 refine q _ _ _ _ _ v x ?_ e;have:=VR.ref (X:=X) (g:=h') (w:=⟨λi=>if i=h.n then b else w.ρ i,λa=>if(a==b)=H then O h.n else w.role a,λi=>if i=h.n then 0 else w.uh i⟩) (n:=h.n+1) h.n (bM _);simpa using this
theorem D9 (l:List (V×V)):kM eG l=l.map eG:=by
 induction l with
 |nil=>rfl
 |cons a l b=>show a.1::kM eG l=_;refine U b ?_;rfl
theorem OT (l:bu X) (b:10<=X.h₀.objs.size):qh X 5:=by
 intro n A x w h s f vs ys hv k res g Q m;refine eW ?_;refine dN (eE g) λv c=> ?_;subst c;intro e;refine dN hv.one λy c=> ?_;subst c;intro hy;refine sI e (λz e=> ?_) λi e=> ?_
 .refine aC (dH e) λe i=>fJ (hy.ia (aH z)) λt items ep j q r ht hn d=>U q ?_;exact D7 l f (.inr rfl) j rfl rfl hn d e m
 refine dF (dg e) λo e B u=>U ((hy.eB B).1) (sI e (λh1 e=> ?_) λi e=> ?_)
 .exact aC (dH e) λe i=>sV (f.listAt u (aH h1)) λitems ep j hn d i=>D7 l f (.inl rfl) j rfl rfl hn d e m
 refine aC (dH e) λe h2=>aC (dH e) λe i=>sV (f.tabAt u (aH h2)) λC ep j hn D r=>kdl_call (GV _ (FH f b r) C ep X) x.handled j (aI hn bw) λh' tk acc c' hk p a=> ?_;have E:=a.1;rw [D9] at e;exact Bl l f (br _) hk p (U (zE a) (D8 D.all)) (by lia) e m
end
theorem Bm lt (x y) l:EU lt x (y::l)=bif lt x y then x::y::l else y::EU lt x l:=by
 refine(?_:(af (y::EU lt x l) (x::y::l) (lt x y):List V)=_);rcases lt x y<;>rfl
theorem Bo lt x:∀l:List V,(EU lt x l).Perm (x::l):=by
 intro l
 induction l with
 |nil=>
  exact List.Perm.refl _
 |cons y l a=>
  refine U (Bm ..) ?_
  induction lt x y using zB with
  |true=>exact List.Perm.refl _
  |false=>exact((a).cons y).trans (List.Perm.swap x y l)
theorem FI lt x l:oN lt (x::l)=EU lt x (oN lt l):=rfl
theorem jY lt:∀l:List V,(oN lt l).Perm l:=by
 intro l
 induction l with
 |nil=>
  exact List.Perm.refl _
 |cons x l a=>
  refine U (FI ..) ?_;exact(Bo lt x _).trans ((a).cons x)
section
variable {α:Type} (R:α->α->Prop) (f:V->α) (lt:V->V->Bool)
theorem Ea (d:∀a b c,R a b->R b c->R a c) {x:V}:∀{l},(∀y∈l,(lt x y=H->R (f x) (f y))/\(lt x y=aj->R (f y) (f x)))->l.Pairwise (λa b=>R (f a) (f b))->(EU lt x l).Pairwise (λa b=>R (f a) (f b)):=by
 intro l
 induction l with
 |nil=>
  intro _ _;show([x]:List V).Pairwise _;exact List.pairwise_singleton _ _
 |cons y l i=>
  intro h p;refine U (Bm ..) ?_;have hy:=h y aE;rw [iV] at p
  induction e:lt x y using zB with
  |true=>
   refine iV.mpr ⟨λz hz=> ?_,iV.mpr p⟩;rcases aT.mp hz with rfl|hz
   .exact hy.1 e
   .exact d _ _ _ (hy.1 e) (p.1 z hz)
  |false=>
   refine iV.mpr ⟨λz hz=> ?_,i (λz hz=>h z (aD _ hz)) p.2⟩;rcases aT.mp ((Bo lt x l).mem_iff.mp hz) with rfl|hz
   .exact hy.2 e
   .exact p.1 z hz
theorem u7 (d:∀a b c,R a b->R b c->R a c):∀{l},(∀x∈l,∀y∈l,(lt x y=H->R (f x) (f y))/\(lt x y=aj->R (f y) (f x)))->(oN lt l).Pairwise (λa b=>R (f a) (f b)):=by
 intro l
 induction l with
 |nil=>
  intro _;exact List.Pairwise.nil
 |cons x l e=>
  intro h;refine Ea R f lt d (λy hy=>h x aE y (aD _ ((jY lt l).mem_iff.mp hy))) (e λa i b hb=>h a (aD _ i) b (aD _ hb))
end
section
variable {X:dw} {g:Heap} {w:Wd} {n:Nat}
theorem eg.mem (h:eg X g w n vs ys) (hv:v∈vs):∃y,y∈ys/\VR X g w n v y:=by
 obtain⟨i,hi,rfl⟩:=nD hv;refine aK (h.get (bA hi)) λy r hy=> ?_;exact bV y (cW hy) r
theorem VR.int_at (h:VR X g w n v y) (h2:v.t=2) t:VR X g w n v (.int (dU v) t):=by
 induction h using Mine.VR.casesOn with
 |nat k a=>exact .nat k t
 |neg k a=>exact .neg k t
 |_=>exact nn h2 rfl
theorem VR.TM (h:VR X g w n v y) (a:v.t=3) t:VR X g w n v (.str ⟨v.l.toArray⟩ t):=by
 induction h using Mine.VR.casesOn with
 |str l b hn=>exact .str l t hn
 |_=>exact nn a rfl
theorem eg.ints (h:eg X g w n vs ys) (h2:∀v∈vs,v.t=2):IntsAre ys (vs.map dU):=by
 induction vs generalizing ys with
 |nil=>cases h;exact .nil
 |cons v vs b=>
  cases h with
  |cons _ y _ ys hv c=>
   refine fF (hv.cO (U (h2 v aE) rfl)) λt a=> ?_;subst a;exact .cons _ _ (b c λu hu=>h2 u (aD _ hu))
theorem eg.strs (h:eg X g w n vs ys) (b:∀v∈vs,v.t=3):StrsAre ys (vs.map λv=>⟨v.l.toArray⟩):=by
 induction vs generalizing ys with
 |nil=>cases h;exact .nil
 |cons v vs c=>
  cases h with
  |cons _ y _ ys hv d=>
   have a:=b v aE
   induction hv using Mine.VR.casesOn with
   |str l t hn=>exact .cons _ _ (c d λu hu=>b u (aD _ hu))
   |_=>exact nn a rfl
theorem LP:∀{vs} {ys},(∀v∈vs,v.t=2/\∃y,VR X g w n v y)->IntsAre ys (vs.map dU)->eg X g w n vs ys:=by
 intro vs
 induction vs with
 |nil=>
  intro ys _ h;cases h;exact .nil
 |cons v vs a=>
  intro ys hv h;cases h with
  |cons i t b=>
   obtain⟨h2,y,r⟩:=hv v aE;exact .cons _ _ _ _ (r.int_at h2 t) (a (λu hu=>hv u (aD _ hu)) b)
theorem LQ:∀{vs} {ys},(∀v∈vs,v.t=3/\∃y,VR X g w n v y)->StrsAre ys (vs.map λv=>⟨v.l.toArray⟩)->eg X g w n vs ys:=by
 intro vs
 induction vs with
 |nil=>
  intro ys _ h;cases h;exact .nil
 |cons v vs a=>
  intro ys hv h;cases h with
  |cons i t b=>
   obtain⟨c,y,r⟩:=hv v aE;exact .cons _ _ _ _ (r.TM c t) (a (λu hu=>hv u (aD _ hu)) b)
theorem zF:∀{l},qA t l=H->∀v∈l,v.t=t:=by
 intro l
 induction l with
 |nil=>
  intro _ v hv;exact(aU hv).elim
 |cons u l c=>
  intro e v hv;refine aC (wh e) λb a=> ?_;rcases aT.mp hv with rfl|hv
  .exact a
  .exact c b v hv
theorem zG (h:eg X g w n l ys) (h2:∀v∈l,v.t=2) (ho:IntsAre out ns') (hp:ns'.Perm (l.map dU)) (hs:ns'.Pairwise (·<= ·)):eg X g w n (oN wX l) out:=by
 have mem:∀v∈oN wX l,v∈l:=λv hv=>(jY wX l).mem_iff.mp hv;have e:(oN wX l).map dU=ns':=by
  refine yx (le:=λa b:Int=>a<=b) (λa b u_ u_ h1 h2=>Int.le_antisymm h1 h2) ?_ hs (((jY wX l).map dU).trans hp.symm);rw [wU];refine u7 (λa b:Int=>a<=b) dU wX (λa b c=>eu) λx hx y hy=>dN (h.mem hx) λa u_ ra=>dN (h.mem hy) λb u_ rb=> ?_;rw [tR ra rb (U (h2 x hx) rfl) (U (h2 y hy) rfl)];simp only [decide_eq_true_eq,decide_eq_false_iff_not];lia
 refine LP (λv hv=>⟨h2 v (mem v hv), ?_⟩) (U e ho);exact dN (h.mem (mem v hv)) λy u_ r=>⟨y,r⟩
theorem zH (h:eg X g w n l ys) (h3:∀v∈l,v.t=3) (ho:StrsAre out ss') (hp:ss'.Perm (l.map λv=>⟨v.l.toArray⟩)) (hs:ss'.Pairwise (λa b=>¬b.cps.toList<a.cps.toList)):eg X g w n (oN Ri l) out:=by
 have mem:∀v∈oN Ri l,v∈l:=λv hv=>(jY Ri l).mem_iff.mp hv;have e:(oN Ri l).map (λv=>(⟨v.l.toArray⟩:Str))=ss':=by
  refine yx (le:=λa b:Str=>¬b.cps.toList<a.cps.toList) (λa b u_ u_ h1 h2=> ?_) ?_ hs (((jY Ri l).map _).trans hp.symm)
  .obtain⟨a⟩:=a;obtain⟨b⟩:=b;have:a.toList=b.toList:=List.le_antisymm (jA.mp h1) (jA.mp h2);exact U (Array.toList_inj.mp this) rfl
  .rw [wU];refine u7 (λa b:Str=>¬b.cps.toList<a.cps.toList) (λv=>⟨v.l.toArray⟩) Ri (λa b c h1 h2=>jA.mpr (List.le_trans (jA.mp h1) (jA.mp h2))) λx hx y hy=>(?_:(NU x.l y.l=H->_)/\(NU x.l y.l=aj->_));refine U (KO ..) ?_;simp only [decide_eq_true_eq,decide_eq_false_iff_not];exact⟨λq=>jA.mpr (List.le_of_lt q),λq=>q⟩
 refine LQ (λv hv=>⟨h3 v (mem v hv), ?_⟩) (U e ho);exact dN (h.mem (mem v hv)) λy u_ r=>⟨y,r⟩
end
section
variable {prog:Program} {ww:World} {A:Around} {E:Value->Shared->Prop} {s:Shared}
theorem LR (f:s.heap.get? a=O (seqObj "list" vs.toArray n)) (h2:vs.length<2) (h:P (.done (.ret .none)) {s with heap:=sortedHeap s.heap a vs vs.toArray}):
 wpAny (model prog ww) A (Builtin.«list.sort» ⟨[.ref a],[]⟩) P E s:=by
 refine U (list_sort_plain ..) ?_;have l:=bh f;refine au (listItems_at f rfl (au (listUpdate_at f rfl ?_ (aI (by simp;lia) bw) (of_decide_eq_true rfl))));obtain⟨j,c⟩:∃j,(s.heap.update a (eS λk=> #[])).get? a=O (seqObj "list" #[] j):=⟨_,get?_update_seq f (λk=> #[])⟩;have d:(((s.heap.update a (eS λk=> #[])).push (seqObj "tuple" vs.toArray 0)).push (seqObj "list" #[] 0)).get? a=O (seqObj "list" #[] j):=by
  refine U (pJ _ _ _ (cg (U (size_push' ..) (U (jF ..) (cI l))))) (U (pJ _ _ _ (cg (U (jF ..) l))) ?_);exact c
 refine au (seqEpoch_at c rfl (au (vN (au (wpAny_newList (bP ((?_:wpAny (model prog ww) A _ P E {s with heap:=((s.heap.update a (eS λk=> #[])).push (seqObj "tuple" vs.toArray 0)).push (seqObj "list" #[] 0)}))))))));have e:=h2;refine U (if_pos e) (U (if_pos e) (bp (bp ?_)));dsimp only;have b:(arrOf (SortSt.mk' general' (vs.toArray.zip vs.toArray) #[] 7 aq)).map (·.2)=vs.toArray:=by
  refine(?_:(vs.toArray.zip vs.toArray).map (·.2)=_);apply Array.ext (by simp);intro i h1 h2;simp
 refine au (seqEpoch_at d rfl (au (listUpdate_at d rfl ?_ (of_decide_eq_true rfl) (by refine U b ?_;exact aI (by simp;lia) (xE bw)))));simp only [bne_self_eq_false,kF,if_false];exact U b (av h)
end
theorem zI {c:Nat->Nat->(Bool->Shared->Prop)->Shared->Prop} {d:Nat->Nat->Option Bool} {s:Shared} (f:∀i j b C,d i j=O b->C b s->c i j C s):∀(t:PySem.W.KasT (Array Nat)) {p:Array Nat} {G:Array Nat->Shared->Prop},uF d t=O p->G p s->t.kasWp c G s
 | .ret a,p,G,e,hG=>by
  injection e with e;subst e;exact hG
 | .ask i j k,p,G,e,hG=>by
  exact aK (nT (show(aA aq (λb=>uF d (k b)) (d i j):Option (Array Nat))=O p from e)) λb e hb=>f i j b _ hb (zI f (k b) e hG)
section
variable {prog:Program} {ww:World} {A:Around} {E:Value->Shared->Prop} {s:Shared}
theorem LS (y:s.heap.get? a=O (seqObj "list" vs.toArray n)) (h2:2<=vs.length) (z:vs.length<64)
 (f:∀h' Q,(∀b o,b≠a->s.heap.get? b=O o->h'.get? b=O o)->Q κ {s with heap:=h'}->wpAny (model prog ww) A (keyKind' vs.toArray) Q (λc c=>False) {s with heap:=h'})
 (m:∀h' i j b C,(∀b o,b≠a->s.heap.get? b=O o->h'.get? b=O o)->lt i j=O b->C b {s with heap:=h'}->wpAny (model prog ww) A (keyLt' κ (vs.getD i dY) (vs.getD j dY)) C (λc c=>False) {s with heap:=h'})
 (hp:uF lt (vH vs.length)=O p) (h:p.size=vs.length->P (.done (.ret .none)) {s with heap:=sortedHeap s.heap a vs (List.toArray (p.toList.map λi=>vs.getD i dY))}):
 wpAny (model prog ww) A (Builtin.«list.sort» ⟨[.ref a],[]⟩) P E s:=by
 refine U (list_sort_plain ..) ?_;have F:=bh y;refine au (listItems_at y rfl (au (listUpdate_at y rfl ?_ (aI (by simp;lia) bw) (of_decide_eq_true rfl))));obtain⟨B,q⟩:∃B,(s.heap.update a (eS λc=> #[])).get? a=O (seqObj "list" #[] B):=⟨_,get?_update_seq y (λc=> #[])⟩;have r:(((s.heap.update a (eS λc=> #[])).push (seqObj "tuple" vs.toArray 0)).push (seqObj "list" #[] 0)).get? a=O (seqObj "list" #[] B):=by
  refine U (pJ _ _ _ (cg (U (size_push' ..) (U (jF ..) (cI F))))) (U (pJ _ _ _ (cg (U (jF ..) F))) ?_);exact q
 have I:∀b o,b≠a->s.heap.get? b=O o->(((s.heap.update a (eS λc=> #[])).push (seqObj "tuple" vs.toArray 0)).push (seqObj "list" #[] 0)).get? b=O o:=λb o hb e=>
  az _ (az _ ((Heap.get?_update_ne _ _ _ _ hb).trans e))
 refine au (seqEpoch_at q rfl (au (vN (au (wpAny_newList (bP ?_))) (by show vs.length<=_;exact aI (by lia) bw))));refine(?_:wpAny (model prog ww) A _ P E {s with heap:=((s.heap.update a (eS λc=> #[])).push (seqObj "tuple" vs.toArray 0)).push (seqObj "list" #[] 0)});have t:¬vs.toArray.size<2:=U pI ((λ{a b}=>Iff.mpr bC) h2);refine U (if_neg t) (U (if_neg t) (au (f5 (f _ (λu s'=>u=κ/\s'={s with heap:=((s.heap.update a (eS λc=> #[])).push (seqObj "tuple" vs.toArray 0)).push (seqObj "list" #[] 0)}) I ⟨rfl,rfl⟩) (λu V hk=> ?_) λc c x=>x.elim)));refine gc hk λk l=> ?_;subst k;subst l;refine au (f5 (PySem.W.kat_run (Q:=λd s'=>p.size=vs.length/\arrOf d=p.map (PySem.W.kas_item (vs.toArray.zip vs.toArray))/\failedOf d=aq/\s'={s with heap:=((s.heap.update a (eS λc=> #[])).push (seqObj "tuple" vs.toArray 0)).push (seqObj "list" #[] 0)})
  (G:=λJ s'=>J=p/\s'={s with heap:=((s.heap.update a (eS λc=> #[])).push (seqObj "tuple" vs.toArray 0)).push (seqObj "list" #[] 0)}) rfl h2 z (λJ d s' K L a3 M=> ?_) (zI (λi j b C hb R=>m _ i j b C I hb R) _ hp ⟨rfl,rfl⟩)) ?_ λc c e=>e)
 .refine gc M λk l=> ?_;subst k;subst l;exact qN K L a3 rfl
 rintro⟨⟨⟩,d⟩ s' ⟨v,D,S,rfl⟩;dsimp only;refine U (PySem.W.kat_snds (ks:=vs) rfl D) (au (seqEpoch_at r rfl (au (listUpdate_at r rfl ?_ (iB _) (aI (cV (U pI (U (eL ..) (U aN (U v rfl))))) (aI (by lia) (xE bw)))))));refine U S ?_;simp only [bne_self_eq_false,kF,if_false];exact av (h v)
end
theorem sN:∀{l} {p},risingS p l=H->(p::l).Pairwise (λa b=>¬b.cps.toList<a.cps.toList):=by
 intro l
 induction l with
 |nil=>
  intro p _;exact List.pairwise_singleton _ _
 |cons x l c=>
  intro p h;have h:(!Spec.ltCps x.cps.toList p.cps.toList&&risingS x l)=true:=h;rw [aP] at h;have h1:¬x.cps.toList<p.cps.toList:=by
   have:=h.1;rw [ltCps_eq] at this;simpa using this
  have c:=c h.2;refine iV.mpr ⟨λy hy=> ?_,c⟩;rcases aT.mp hy with rfl|hy
  .exact h1
  .exact jA.mpr (List.le_trans (jA.mp h1) (jA.mp ((iV.mp c).1 y hy)))
theorem mZ (h:sortedS l=H):l.Pairwise (λa b=>¬b.cps.toList<a.cps.toList):=by
 induction l using zL with
 |nil=>exact .nil
 |cons x l=>exact sN h
section
variable {X:dw} {w:Wd} {h:aev} {s:Shared}
theorem LU (p:St X w h s) (c:10<=X.h₀.objs.size) (hy:VR X s.heap w h.n v y) (e:items v h k=O res):
 ∃l r,eg X s.heap w h.n l r/\r.length<=1000000/\k l h=O res/\∀A E Q,A.handled=aq->
  (∀h' tk,(∀b o,s.heap.get? b=O o->h'.get? b=O o)->s.heap.objs.size<=h'.objs.size->Q r {s with heap:=h',toks:=tk})->wpAny (model X.prog X.w) A (collect y) Q E s:=by
 refine sI e (λz e=> ?_) λm e=> ?_
 .exact fJ (hy.ia (aH z)) λt items ep f q m m hn d=>lJ v.xs _ d (U aN hn) e (λA E Q u i=>q▸bW (Az t (.inr rfl) f rfl rfl (λh' hk a=>i h' s.toks hk a) (aI hn bw)))
 refine dF (dg e) λo e B x=> ?_;have hy:=(hy.eB B).1;refine sI e (λh1 e=> ?_) λm e=> ?_
 .exact sV (p.listAt x (aH h1)) λitems ep f hn d m=>lJ o.xs _ d (U aN hn) e (λA E Q u i=>hy▸bW (Az _ (.inl rfl) f rfl rfl (λh' hk a=>i h' s.toks hk a) (aI hn bw)))
 refine aC (dH e) λe h2=>sV (p.tabAt x (aH h2)) λC ep f hn D F=> ?_;rw [D9] at e;exact lJ _ _ (D8 D.all) (U (eL ..) (U aN hn)) e (λA E Q u i=>hy▸bW (kdu_collect (GV _ (FH p c F) C ep X) u f (aI hn bw) λh' tk acc hk j a=>U (zE j) (i h' tk hk a)))
end
theorem Eb v l:qa (v::l)=af aj (af (af aj (qa l) (allInts v.xs)) aj (isNil v.xs)) (ak v.t 5):=rfl
theorem wB (h:qa (u::l)=H):(u.t=5/\u.xs≠[]/\allInts u.xs=H)/\qa l=true:=by
 rw [Eb] at h;exact aC (bT h) λh a=>aC (bF h) λh hn=>gc (bT (x:=qa l) (b:=allInts u.xs) h) λhi h=>⟨(iW (aH a) (λq=>by rw [q] at hn;exact ft hn) hi),h⟩
theorem zJ:∀{l},qa l=H->∀v∈l,v.t=5/\v.xs≠[]/\allInts v.xs=true:=by
 intro l
 induction l with
 |nil=>
  intro _ v hv;exact(aU hv).elim
 |cons u l a=>
  intro h v hv;exact(aT.mp hv).elim (λq=>q▸(wB h).1) (a (wB h).2 v)
section
variable {X:dw} {g:Heap} {w:Wd} {n:Nat} {A:Around}
theorem LV:∀{xs ys} {d f},eg X g w n xs d->eg X g w n ys f->xK xs ys=O t->xs.length=ys.length->Q t s->∀i,PySem.W.KatLex prog ww A H aj Q (d.zip f) i s:=by
 intro xs
 induction xs with
 |nil=>
  intro ys d f hx _ e _ q i;exact U hx.nil_of (PySem.W.kat_nil ((uO e).2▸q))
 |cons a xs r=>
  intro ys d f hx hy e hl q i;refine jM (r9 e) λc F l hb m h=> ?_;subst hb;refine vQ hx.cons_of λx d u o hx=>vQ hy.cons_of λy f z p hy=>fF (o.cO l) λB h1=>fF (p.cO m) λC h2=> ?_;have j:=tQ o p l m;refine U u (U z (U h1 (U h2 (PySem.W.kat_cons ((intKind prog ww).eqBool (a:=dU a) (b:=dU c) (intKind_is _ _ _ _) (intKind_is _ _ _ _) ?_)))));rcases h with⟨h1,h2⟩|⟨h1,D⟩
  .exact cL j (U h1 (PySem.W.kat_yes (r hx hy h2 (Nat.succ.inj hl) q (i+1))))
  .refine cL j (U h1 (PySem.W.kat_no ?_));rw [D,(tR o p l m)] at q
   induction i using zN with
   |zero=>exact oneLt_int q
   |succ i=>
    refine(?_:wpAny _ _ (oneLt' aj _ _) _ _ _);exact U (oneLt'_eq ..) (NI (au (CmpOf.ints_lt (P:=λk v=>(k=0/\v= .int (dU a) B)\/(k=1/\v= .int (dU c) C)) (λk=>if k=0 then dU a else dU c) (λk v h=>by rcases h with⟨rfl,rfl⟩|⟨rfl,rfl⟩<;>exact⟨_,rfl⟩) 0 1 _ _ s _ _ (.inl ⟨rfl,rfl⟩) (.inr ⟨rfl,rfl⟩) (gK q))))
end
theorem OU (c:a.t=5) (e:Sn a b=O t):xK a.xs b.xs=O t/\a.xs.length=b.xs.length:=by
 have e:(af aq
  (af (af (af aq (af aq (xK a.xs b.xs) (ak (len a.xs) (len b.xs))) (ak a.t 5)) (O (NU a.l b.l)) (ak a.t 3)) (O (wX a b)) (ak a.t 2)) (ak a.t b.t):Option Bool)=O t:=e
 refine aC (dH e) λe d=> ?_;rw [c] at e;refine gc (dH e) λhl e=> ?_;rw [len_eq,len_eq] at hl;exact⟨e,aH hl⟩
section
variable {X:dw} {w:Wd} {h:aev} {s:Shared} {A:Around}
theorem OV:∀{l} {ys},eg X g w n l ys->qa l=H->∃b:List Value,PySem.W.KatTups g ys b/\b.length=l.length/\∀v∈b,∃i t,v=gO i t:=by
 intro l
 induction l with
 |nil=>
  intro _ h _;exact f9 [] (U h.nil_of trivial) rfl (λv hv=>(aU hv).elim)
 |cons v l e=>
  intro _ hl h;refine vQ hl.cons_of λy ys j hv hl=> ?_;obtain⟨⟨k,m,o⟩,a⟩:=wB h;exact cG (e hl a) λb p r x=>fJ (hv.ia k) λt items ep z B C C hn d=>Sk (List.exists_cons_of_ne_nil m) λu us c=>dN (d.get (i:=0) (v:=u) (U c rfl)) λf D F=>fF (F.cO (by rw [j5 o u (U c (aE ..))];rfl)) λtk G=>U j (U B (f9 (f::b) (PySem.W.KatTups.cons z rfl rfl (by refine cL D ?_;simp) r) (congrArg (·+1) x) (λv hv=>(aT.mp hv).elim (λq=>Ve _ _ (q.trans G)) (p v))))
theorem OW {x y} (p:VR X g w n a x) (r:VR X g w n c y) (m:a.t=5) (u:c.t=5) (hb:Sn a c=O b) (v:s.heap=g) (q:C b s):
 wpAny (model prog ww) A (keyLt' (tuples' (cU "int" !=cU "tuple")) x y) C (λf f=>False) s:=by
 refine gc (OU m hb) λz k=>fJ (p.ia m) λt items ep o h1 f f hn i=>fJ (r.ia u) λF d B j h2 f f D e=> ?_;rw [<-v] at o j;have l:decide (items.size<d.size)=false:=by
  rw [i.length,e.length,aN,aN] at k;refine U k ?_;exact decide_eq_false (j9 _)
 exact U h1 (U h2 (PySem.W.kat_lt o rfl j rfl (U l (LV i e z k q 0))))
theorem II (hl:eg X g w n l ys):∀p:List Nat,eg X g w n (kM (λi=>aA dc (λv=>v) (sW l i)) p) (p.map λi=>ys.getD i dY):=by
 intro p
 induction p with
 |nil=>
  exact .nil
 |cons i p a=>
  refine .cons _ _ _ _ ?_ a;refine(?_:VR X g w n (aA dc (λv=>v) (sW l i)) (ys.getD i dY));refine U (mO ..) ?_
  induction hi:l[i]? using zO with
  |none=>
   have:=hl.get_none hi;refine U cZ (U this ?_);exact .none
  |some v=>
   refine dN (hl.get hi) λy hy hv=>U cZ (U hy ?_);exact hv
end
section
variable {X:dw} {w:Wd} {h:aev} {s:Shared}
theorem FJ (e:Rj l=O r):l.length<64/\((qA 2 l=H/\r=oN wX l)\/(qA 3 l=H/\r=oN Ri l)\/(l.length<=1/\r=l)\/(2<=l.length/\JM l=O r)):=by
 refine aC (dH e) λe a=> ?_;have a:=cD.mp a;rw [len_eq] at a;refine⟨a, ?_⟩
 induction h2:qA 2 l using zB with
 |true=>rw [h2] at e;exact .inl ⟨rfl,(aF e).symm⟩
 |false=>
  rw [h2] at e
  induction b:qA 3 l using zB with
  |true=>rw [b] at e;exact .inr (.inl ⟨rfl,(aF e).symm⟩)
  |false=>
   rw [b] at e
   induction h1:bO (len l) 1 using zB with
   |true=>
    rw [h1] at e;have h1:=aB h1;rw [len_eq] at h1;exact .inr (.inr (.inl ⟨h1,(aF e).symm⟩))
   |false=>
    rw [h1] at e;refine .inr (.inr (.inr ⟨?_,e⟩));rcases Nat.lt_or_ge l.length 2 with q|q
    .have:bO (len l) 1=true:=U (len_eq ..) (mw (pZ q));rw [this] at h1;exact ft h1
    .exact q
theorem IJ (ax:bu X) (B:10<=X.h₀.objs.size):qh X 8:=by
 intro n A hA w h s hs vs ys hv k res K Q hQ;refine eW ?_;refine dN (eE K) λv d=> ?_;subst d;intro e;refine dN hv.one λy d=> ?_;subst d;intro hy;refine ux (LU hs B hy e) λl zs L hl hz e=>aK (bB e) λr e hr=>aC (dH e) λe J=>aC (FJ hr) λD F=> ?_;have u:=hl.length;have hT:∀{p:Array Nat},2<=l.length->JM l=O r->qa l=H/\∃p,uF (λi j=>aA aq (λa=>aA aq (λb=>Sn a b) (sW l j)) (sW l i)) (vH l.length)=O p/\r=kM (λi=>aA dc (λv=>v) (sW l i)) p.toList:=by
  intro _ _ e;refine aC (dH e) λe S=>dN (nT e) λp hp e=> ?_;rw [len_eq] at hp;exact yC S p hp ((aF e).symm)
 refine Calls.call_function_entry kind_sorted plain_sorted entry_sorted (args_sorted1 _) (au (m:=checkCount "sorted" 1 1 _) (av (au (L _ _ _ hA.handled λh1 tk hk M=>(au (wpAny_newList ?_ (aI hz bw)))))));have f:(h1.push (seqObj "list" zs.toArray 0)).get? h1.objs.size=O (seqObj "list" zs.toArray 0):=aJ _ rfl;have z:∀out:Array Value,eg X s.heap w h.n r out.toList->out.size<=1000000->Q (.ref h1.objs.size) {s with heap:=sortedHeap (h1.push (seqObj "list" zs.toArray 0)) h1.objs.size zs out,toks:=tk}:=by
  intro out V P;refine fF (sortedHeap_at (out:=out) f) λc' hc'=>Bl ax hs M (λb o eb=> ?_) hc' V ?_ e hQ
  .have hb:=bh (hk b o eb);exact U (sortedHeap_old (cg hb) (U (size_push' ..) (cI hb))) (az _ (hk b o eb))
  .exact P
 refine au (bP (bH slot_list_sort (bV _ f rfl) entry_list_sort ?_ (args_list_sort _)));have G:∀{r'} {out:Array Value},eg X s.heap w h.n r' out.toList->r'.length=l.length->out.size<=1000000:=λV q=>by
  have q1:=V.length;simp only [aN] at q1;lia
 rcases D with⟨h2,rfl⟩|⟨h3,rfl⟩|⟨hfew,rfl⟩|⟨h2,hsT⟩
 .have hm:=zF h2;exact list_sort_tree f (hl.ints hm) (lt_of_eq_of_lt (id (gG u)) F) λout ns' S a2 a3=>bV _ rfl (av (bV _ rfl (z out (zG hl hm S a2 a3) (G (zG hl hm S a2 a3) (jY _ _).length_eq))))
 .have hm:=zF h3;have hS:=hl.strs hm;exact list_sort_treeK strKind_oneLt f hS.keysOf (λv₁ v₂ rest q=>keyKind_strs (cL q hS)) (lt_of_eq_of_lt (id (gG u)) F) λst' hp hs'=>bV _ rfl (av (bV _ rfl (jB (sorted_out_str hS hp hs') λss' b1 b2 b3=>z _ (zH hl hm b1 b2 (mZ b3)) (G (zH hl hm b1 b2 (mZ b3)) (jY _ _).length_eq))))
 .exact LR f (by lia) (bV _ rfl (av (bV _ rfl (z _ hl (G hl rfl)))))
 .refine dF (hT (p:= #[]) h2 hsT) λp d=> ?_;subst d;intro I hp;have R:=u.symm;rw [<-R] at hp h2;have up:∀h',(∀b o,b≠h1.objs.size->(h1.push (seqObj "list" zs.toArray 0)).get? b=O o->h'.get? b=O o)->eg X h' w h.n l zs:=λh' x=>by
   exact hl.mono (⟨br _,λJ J=>rfl,λJ J=>rfl,λa o c1 J J c2=>⟨c1,x a o (cg (bh (hk a o c2))) (az _ (hk a o c2))⟩⟩)
  refine LS (κ:=tuples' (cU "int" !=cU "tuple")) f h2 (lt_of_eq_of_lt R F) (λh' Q' x q=> ?_) (λh' i j b C x hb q=> ?_) hp λhps=>bV _ rfl (av (bV _ rfl (z _ ((II hl p.toList)) (by simp;lia))))
  .refine cG (OV (up h' x) I) λfs f3 f1 f2=>PySem.W.kat_kind (s:={s with heap:=h',toks:=tk}) f1 (by lia) (λv hv=> ?_) rfl q;refine Sk (f3 v hv) λi t d=> ?_;subst d;exact .now
  .have hv:=up h' x;rw [mO,mO] at hb;refine aK (nT hb) λa hb ha=>dN (nT hb) λc hc hb=>dN (hv.get ha) λya hya va=>dN (hv.get hc) λyc hyc vc=>U cZ (U cZ (U hya (U hyc ?_)));exact OW va vc (zJ I a (cW ha)).1 (zJ I c (cW hc)).1 hb rfl q
end
namespace B
theorem LW:mroOf (.type "bytearray")=pure [.type "bytearray",.type "object"]:=by refine U (mroOf_type ..) ?_;kernel_rfl
theorem AU:typeLookup (.type "bytearray") "__new__"=pure (O (.builtin "bytearray.__new__")):=by refine U (typeLookup_type ..) (U bz ?_);kernel_rfl
theorem CA:Slot "bytearray" "__init__" "bytearray.__init__":=
 .of (owner:="bytearray") (n:="__init__") (by refine U (typeLookup_type ..) (U bz ?_);kernel_rfl) rfl rfl rfl
  (by first|exact .inl rfl|exact .inr (by decide+kernel)) (by refine U (isSubtype_type ..) ?_;kernel_rfl)
theorem CB:isSubtype (.type "bytearray") (.type "bytearray")=pure true:=by refine U (isSubtype_type ..) ?_;kernel_rfl
theorem IK:TypeCalled "bytearray" "bytearray.__new__" "bytearray.__init__":=
 ⟨by exact rfl,by decide+kernel,(Ve _ _ LW),madeBy_type LW AU (by decide+kernel),by decide+kernel,CB,CA⟩
theorem Ec:checkTypeCall "bytearray" ⟨[],[]⟩=pure ():=by kernel_rfl
theorem FL:checkBuiltinCall "bytearray.__new__" ⟨[.type "bytearray"],[]⟩=pure ():=by kernel_rfl
theorem CC:plainId "bytearray.__new__"=true:=by decide+kernel
theorem CD:entryFor table "bytearray.__new__"=O Builtin.«list.__new__»:=entryFor_alias (id':="list.__new__") (by rw [qF];kernel_rfl) (by decide+kernel) (by decide+kernel) (by rw [qF];kernel_rfl)
theorem AV:entryFor table "bytearray.__init__"=O Builtin.«bytearray.__init__»:=nI (by kernel_rfl)
theorem CG a:argsOk "bytearray.__init__" ⟨[a],[]⟩:=by unfold argsOk;kernel_rfl
theorem LX:("bytearray.__new__".splitOn ".__new__").headD ""="bytearray":=U split_bytearray rfl
theorem FN:typeLookup (.type "bytearray") "__release_buffer__"=pure (O (.builtin "bytearray.__release_buffer__")):=by refine U (typeLookup_type ..) (U bz ?_);kernel_rfl
theorem wC:typeLookup (.type "bytearray") "__buffer__"=pure (O (.builtin "bytearray.__buffer__")):=by refine U (typeLookup_type ..) (U bz ?_);kernel_rfl
theorem j7:typeLookup (.type "bytes") "__buffer__"=pure (O (.builtin "bytes.__buffer__")):=by refine U (typeLookup_type ..) (U bz ?_);kernel_rfl
theorem FO:typeLookup (.type "bytes") "__release_buffer__"=pure none:=by refine U (typeLookup_type ..) (U bz ?_);kernel_rfl
theorem TN:isSubtype (.type "bytes") (.type "bytes")=pure true:=by refine U (isSubtype_type ..) ?_;kernel_rfl
theorem Ed:typeLookup (.type "bytearray") "__bytes__"=pure none:=by refine U (typeLookup_type ..) (U bz ?_);kernel_rfl
theorem Ef:typeLookup (.type "bytearray") "__index__"=pure none:=by refine U (typeLookup_type ..) (U bz ?_);kernel_rfl
theorem CH:typeLookup (.type "int") "__bytes__"=pure none:=by refine U (typeLookup_type ..) (U bz ?_);kernel_rfl
theorem int_index:typeLookup (.type "int") "__index__"=pure (O (.builtin "int.__index__")):=by refine U (typeLookup_type ..) (U bz ?_);kernel_rfl
theorem kX:Slot "bytearray" "extend" "bytearray.extend":=
 .of (owner:="bytearray") (n:="extend") (by refine U (typeLookup_type ..) (U bz ?_);kernel_rfl) rfl rfl rfl
  (by first|exact .inl (by decide+kernel)|exact .inr rfl) (by refine U (isSubtype_type ..) ?_;kernel_rfl)
theorem xM:entryFor table "bytearray.extend"=O Builtin.«bytearray.extend»:=nI (by kernel_rfl)
theorem zK (a c):argsOk "bytearray.extend" ⟨[a,c],[]⟩:=by unfold argsOk;kernel_rfl
theorem e1:("bytearray.__buffer__".endsWith ("."++"__buffer__"))=true:=by decide+kernel
theorem e2:("bytes.__buffer__".endsWith ("."++"__buffer__"))=true:=by decide+kernel
theorem e3:("bytearray.__release_buffer__".endsWith ("."++"__release_buffer__"))=true:=by decide+kernel
set_option linter.deprecated false in
theorem d1:("bytearray.__buffer__".dropRight ("__buffer__".length+1))="bytearray":=by decide+kernel
set_option linter.deprecated false in
theorem d2:("bytes.__buffer__".dropRight ("__buffer__".length+1))="bytes":=by decide+kernel
set_option linter.deprecated false in
theorem d3:("bytearray.__release_buffer__".dropRight ("__release_buffer__".length+1))="bytearray":=by decide+kernel
end B
section
variable {prog:Program} {ww:World} {A:Around} {E:Value->Shared->Prop} {s:Shared}
theorem rG (b:s.TypeIs a "bytearray") (q:Q aj s):wpAny (model prog ww) A (vO a) Q E s:=by
 refine au (au (bU b B.FN ?_));dsimp only;exact U B.e3 (NI (U B.d3 (fL b B.CB (av q))))
theorem AW (b:s.TypeIs a "bytearray") (q:Q H s):wpAny (model prog ww) A (wV a "__buffer__") Q E s:=by
 refine bq (bU b B.wC) ?_;dsimp only;exact U B.e1 (NI (U B.d1 (fL b B.CB q)))
theorem pD (b:s.TypeIs a "bytes") (q:Q H s):wpAny (model prog ww) A (wV a "__buffer__") Q E s:=by
 refine bq (bU b B.j7) ?_;dsimp only;exact U B.e2 (NI (U B.d2 (fL b B.TN q)))
theorem zM (b:s.TypeIs a "bytes") (q:Q aj s):wpAny (model prog ww) A (vO a) Q E s:=au (au (bU b B.FO (av (av q))))
theorem Bp {a:Addr} {Q:Bool->Shared->Prop} (q:Q aj s):cC (model prog ww) A (Builtin.Bytes.exported (.ref a)) Q E s:=by
 intro Γ p hΓ hcl;refine(?_:Q (List.any ((Γ.code,p)::Γ.below) _) s);have key:∀f:Code×Pos->Bool,(∀x,yS x.1=H->f x=aj)->((Γ.code,p)::Γ.below).any f=false:=λf hf=>by
  rw [List.any_eq_false];intro x hx;have:yS x.1=true:=by
   rcases aT.mp hx with rfl|hx
   .exact hcl.1
   .exact hcl.2 x hx
  exact U (hf x this) bY
 rw [key]
 .exact q
 .intro x hx;rcases x with⟨c,pp⟩
  induction c using PySem.Code.casesOn with
  |builtin id as=>
   have hx:(!(oR.contains id))=true:=hx;have n:∀k,oR.contains k=H->¬id=k:=λk hk q=>by rw [q,hk] at hx;exact ff hx
   have dh:Builtin.Bytes.decodersThatHold.contains id=false:=by
    unfold oR at hx;simp only [gv,List.contains_eq_mem,ni,decide_eq_false_iff_not,not_or] at hx⊢;exact hx.2
   delta Builtin.Bytes.exported.match_1;show(dite _ _ _:Bool)=aj;refine U (dif_neg (n _ rfl)) (U (dif_neg (n _ rfl)) (U (dif_neg (n _ rfl)) (U (dif_neg (n _ rfl)) (U (dif_neg (n _ rfl)) ?_))));obtain⟨pos,kw⟩:=as
   induction pos using zL with
   |nil=>rfl
   |cons v r=>
    refine(?_:(Builtin.Bytes.sameRef v (gu a)&&Builtin.Bytes.decodersThatHold.contains id)=aj);exact U dh (Bool.and_false _)
  |_=>rfl
end
section
variable {prog:Program} {ww:World} {A:Around} {E:Value->Shared->Prop} {s:Shared}
theorem zP {M} (c:s.heap.get? a=O (gX b)) (q:Q b s):wpAny M A (Builtin.Bytes.payload (.ref a)) Q E s:=au (au (jc c (av (av q))))
theorem OX (c:s.heap.get? a=O (gX b)) (q:Q () s):cC (model prog ww) A (Builtin.Bytes.checkResize (.ref a)) Q E s:=by
 refine ay (ay (Bp ((?_:cC _ _ (wW (.ref a)>>=λn=>pure (decide (n>0))) _ _ s))));exact ay (ay (eW (jc c (aO (aO (V3 (ne_true_of_eq_false rfl) (aO q)))))))
theorem Bq {id} (q:Q (O b) s):wpAny (model prog ww) A (gD id (.bytes b t) full) Q E s:=by
 have a:=kg s b t;exact bq (bU a B.j7) (bq (pD a) (NI (bq (bU a B.j7) (bq (zM a) (au (av (av q)))))))
theorem IL {id} (d:s.heap.get? a=O (gX b)) (q:Q (O b) s):wpAny (model prog ww) A (gD id (.ref a) full) Q E s:=by
 have c:s.TypeIs (.ref a) "bytearray":=bV _ d rfl;exact bq (bU c B.wC) (bq (AW c) (NI (bq (bU c B.wC) (bq (rG c) (au (zP d (av q)))))))
theorem FP (i:s.heap.get? a=O (gX b)) (hz:(b++c).size<=1000000)
 (q:Q .none {s with heap:=s.heap.update a (g6 (·++c))}):cC (model prog ww) A (call (.builtin "bytearray.extend") [.ref a,.bytes c t]) Q E s:=by
 have d:=kg s c t;refine nU (jX (plainId_quiet B.kX.plain _) rfl B.xM (B.kX.check _ _ _ _ _ _ _ _ (bV _ i rfl) (B.zK _ _) (U (jq B.kX.plain ..) (ay (nu (a:=((.ref a:Value),(.bytes c t:Value))) rfl (NJ (bU d B.j7) (iY (λj=> ?_) λh=>absurd rfl h)))))));refine ay (pO (ay (eW (zP i (ay (ay (rj (ay (eW (bU d B.j7 (ay (eW (pD d (V4 (ay (eW (bU d B.j7 (ay (eW (Bq (aO (aO (iY (λj=> ?_) λh=>absurd rfl h)))))))))))))))))))))));have g:cC (model prog ww) A.in1 (Builtin.Bytes.write (.ref a) (·++c)>>=λj=>ret .none) (λk s'=>match k with| .done f=>(match (Except.ok f:Result) with| .ok (.ret v)=>Q v s'| .ok _=>False| .error e=>E e s')| .again c'=>c'.quiet=H/\codeN (model prog ww) A c' (λr s'=>match r with| .ok (.ret v)=>Q v s'| .ok _=>False| .error e=>E e s') s') (λe s'=>(match (Except.error e:Result) with| .ok (.ret v)=>Q v s'| .ok _=>False| .error e=>E e s')) s:=by
  refine ay ((?_:cC _ _ (updateBytearray a (·++c)) _ _ s));refine NJ (jc i) (NJ (wpAny_update i) (eW (BP (bD (g6 (·++c)) i rfl) ?_ ?_)))
  .refine(?_:(if(b++c).size>jr then O "bytearray:memory" else aq)=aq);exact U (if_neg (bC.mpr (aI hz bw))) rfl
  .exact aO q
 exact iY (λj=>ay (OX i g)) λj=>g
end
theorem AX:PlainAttrs "bytearray":=
 ⟨(bV ("bytearray.__getattribute__") (by refine U (typeLookup_type ..) (U bz ?_);kernel_rfl) rfl),by refine U (typeLookup_type ..) (U bz ?_);kernel_rfl⟩
theorem zQ:typeOf (.builtin "bytearray.extend")=pure (.type "method_descriptor"):=by show builtinType _=_;refine U builtinType_eq_fast ?_;kernel_rfl
section
variable {X:dw} {b:Nat}
theorem IQ (r:bu X) (g:St X w h s) (j:h.l.get i=O o) (d:o.t=3) (hz:VR X s.heap w h.n v z) (e:(af aq (put i (yH (app o.bs v.l)) h k) (ak v.t 4):Option Res)=O res) (u:Goes (PV X) X w h.n s k res Q):cC (model X.prog X.w) A (call (.builtin "bytearray.extend") [.ref (w.ρ i),z]) Q (λx x=>False) s:=by
 refine aC (dH e) λe y=>aC (dH e) λe a=>oK (hz.jN (aH y)) λc tk B hz hn=>qQ ((g.rep _ o j).2.Gy d) λf m p C D=> ?_;have hl:app o.bs v.l=(f++c).toList.map bS:=U D (U B (U (mL ..) (U fR (U kc rfl))));rw [hl] at e a;have a:0+(0+(len ((f++c).toList.map bS)+0))<=1000000:=aB a;rw [len_eq,eL,aN,oB,oB] at a;refine U hz (FP m a ?_);have q:=g.turn r j (g6 (·++c)) s.toks (o':=yH ((f++c).toList.map bS)) (λF p=> .E8 (f++c) p (bD _ m rfl) a) (t8 d rfl);exact u _ _ _ _ _ q.1 q.2 .none e
theorem Eg (a:eg X g w n vs ys) (e:xW ov o vs h k=O res):∃v z,ys=[z]/\VR X g w n v z/\
 (af (af aq (af aq (put ov.n (yH (app o.bs v.l)) h k) (ak v.t 4)) (ak o.t 3)) (gS v h λys h=>put ov.n (bK (app o.xs ys)) h k) (ak o.t 1):Option Res)=O res:=by
 refine aK (eE e) λv e q=> ?_;rw [q] at a;exact dN a.one λz c hz=>j0 v z c hz e
theorem IS (m:bu X):qx X b "extend" ⟨xW,λt=>af (ak t 3) H (ak t 1)⟩:=by
 intro t ht;have f:t=1\/t=3:=by
  have ht:(af (ak t 3) H (ak t 1):Bool)=true:=ht
  induction h1:ak t 1 using zB with
  |true=>exact .inl (aH h1)
  |false=>rw [h1] at ht;exact .inr (aH ht)
 rcases f with q|q
 .subst q;refine yC (.inl rfl) ("list.extend") ⟨yw,k9,F.type_list_extend⟩ (λA n p w h s g r y hv i o j a vs ys d k res c Q l=>(kK (Eg d c) λv z e q hz=> ?_));rw [a] at e;refine U q ?_;exact eW (LK m g hv i j a hz e l)
 .subst q;refine yC (.inr (.inr rfl)) ("bytearray.extend") ⟨AX,B.kX,zQ⟩ (λA n p w h s g r y hv i o j a vs ys d k res c Q l=>(kK (Eg d c) λv z e q hz=> ?_));rw [a] at e;refine U q (U ((hv.eB i).1) ?_);exact IQ m g j a hz e l
end
section
variable {prog:Program} {ww:World} {A:Around} {E:Value->Shared->Prop} {s:Shared}
theorem IT (h:TypeCalled T newId initId)
 (n:checkTypeCall T ⟨args,[]⟩=pure ()) (i:entryFor table initId=O Bi) (o:oR.contains initId=aj)
 (k:codeAny (model prog ww) A.in1 (.call (.builtin newId) ⟨.type T::args,[]⟩) (wants Q₁ (λb b=>False)) s)
 (j:∀obj d,Q₁ obj d->d.TypeIs obj T/\argsOk initId ⟨obj::args,[]⟩/\
  cC (model prog ww) A.in1.in1 (Bi ⟨obj::args,[]⟩) (λp s'=>match p with| .done f=>wants (λr a=>r= .none/\Q obj a) (λb b=>False) (.ok f) s'| .again c'=>c'.quiet=H/\codeN (model prog ww) A.in1 c' (wants (λr a=>r= .none/\Q obj a) (λb b=>False)) s') (λb b=>False) d):
 cC (model prog ww) A (call (.type T) args) Q (λb b=>False) s:=by
 refine Sk h.mro λc z l=>nU (dP rfl ((?_:cC _ _ (callAny (.type T) _) _ _ _)));refine aO ⟨vD _ (by decide+kernel),tn rfl PySem.F.entry_type_call (U (Around.under_plain (weight_type_call_type T args []) rfl) ?_)⟩;unfold Builtin.«type.__call__»;dsimp only;refine U (h.notType) (U (h.canCreate) (U n (NK (U l (NK (U h.made (NK (NK (ay (bg (eW (wpAny_call (codeAny_mono k λr d y=> ?_)))))))))))));rcases r with e|(_|_|_|obj)<;>first|exact y.elim|skip
 refine iO (j _ _ y) λt u w=>NJ (fL u h.sub) (ay (bg (NJ (bU u h.init.lookup) ?_)));dsimp only;refine U (h.init.bind obj) (bg (ay (aO (ay (nU (iQ (jX (R:=wants (λr a=>r= .none/\Q obj a) (λb b=>False)) (plainId_quiet h.init.plain _) o i (h.init.check _ _ _ _ _ _ _ _ u w ?_)) λm a g=> ?_))))))
 .exact U (jq h.init.plain ..) (aV t (λb b q=>q) λb b f=>f.elim)
 .rcases m with e|(_|_|_|v)<;>first|exact g.elim|skip
  refine gc g λx=> ?_;subst x;intro hq;exact aO (aO hq)
theorem Eh (h:Q₁ (.ref s.heap.objs.size) {s with heap:=s.heap.push (gX #[])}):codeAny (model prog ww) A (.call (.builtin "bytearray.__new__") ⟨[.type "bytearray"],[]⟩) (wants Q₁ E) s:=by
 refine codeAny_of_tree (au (gb B.FL (av ⟨plainId_quiet B.CC _,codeAny_builtin_stack B.CD rfl λp b=> ?_⟩)));have a:=B.CB;obtain⟨hp,g,d,tk,os⟩:=s;simp only [(B.LX)];wp_walk;exact h
theorem LY (h:Q (.ref s.heap.objs.size) {s with heap:=(s.heap.push (gX #[])).update s.heap.objs.size (g6 λc=> #[])}):cC (model prog ww) A (call (.type "bytearray") []) Q (λc c=>False) s:=by
 refine IT (Q₁:=λobj b=>obj= .ref s.heap.objs.size/\b={s with heap:=s.heap.push (gX #[])}) B.IK B.Ec B.AV rfl (Eh ⟨rfl,rfl⟩) λobj b d=>gc d λf g=> ?_;subst f;subst g;have e:(s.heap.push (gX #[])).get? s.heap.objs.size=O (gX #[]):=aJ _ rfl;have i:iz {s with heap:=s.heap.push (gX #[])} (.ref s.heap.objs.size) "bytearray":=bV _ e rfl;refine iW i (B.CG _) (NJ (rG i) (V4 (ay (nu (a:=([aq,aq,aq]:List (Option Value))) (by kernel_rfl) (ay (nu (a:=()) rfl (ay (nu (a:=()) rfl (ay (ay (Bp ((?_:cC _ _ (wW (.ref s.heap.objs.size)>>=λn=>pure (decide (n>0))) _ _ _)))))))))))));refine ay (ay (eW (jc e (aO (aO (iY (λh=>absurd h (ne_true_of_eq_false rfl)) λc=>ay ((?_:cC _ _ (updateBytearray s.heap.objs.size (λc=> #[])) _ _ _))))))));refine NJ (jc e) (NJ (wpAny_update e) (eW (BP (bD (g6 λc=> #[]) e rfl) rfl ((?_:cC _ _ ((pure ():Sem Unit)>>=λc=>ret dY) _ _ _)))));exact ay (aO (aO ⟨rfl,h⟩))
theorem TP (j:s.TypeIs y T) (h1:typeLookup (.type T) "__bytes__"=pure aq) (hz:b.size<=jr)
 (c:∀{l} {E'} {d},d aq s->wpAny (model prog ww) l (asStr? y) d E' s)
 (e:(typeLookup (.type T) "__index__"=pure aq/\∀{l} {E'} {d},d (O b) s->wpAny (model prog ww) l (gD "bytes.__new__" y H) d E' s)\/
  (∃i n t,typeLookup (.type T) "__index__"=pure (O i)/\y= .int (dQ n) t/\n<1000000/\b=m6 n 0))
 (h:∀t k,Q (.bytes b t) {s with toks:=k}):codeAny (model prog ww) A (.call (.builtin "bytes.__new__") ⟨[.type "bytes",y],[]⟩) (wants Q E) s:=by
 refine codeAny_of_tree (au (gb (F.bm_newCall _) (av ⟨plainId_quiet F.bm_plain _,iG F.bm_entry (U (jq F.bm_plain _) (bq (gb (a:=H) rfl) (bm_if_false rfl (bq (gb F.bm_sub) (bm_if_false rfl (bq (gb (F.bm_bind _)) (bq (gb (a:=()) rfl) (bq (gb (a:=()) rfl) (bm_if_false rfl (bq (bU j h1) (au (au (c (av (bm_if_false rfl ?_)))))))))))))))⟩)));rcases e with⟨h2,f⟩|⟨i,n,t,h2,hy,hn,hb⟩
 .refine bq (bU j h2) (tH rfl ?_)
  first
   |show wpAny _ _ (gD "bytes.__new__" y H>>=_) _ _ _
   |(refine au ?_;show wpAny _ _ (gD "bytes.__new__" y H>>=_) _ _ _)
  refine bq f (au (fm (au (wpAny_mkBytes ?_ hz))));refine tH rfl ?_
  first
   |exact av (h _ _)
   |exact au (av (av (h _ _)))
 .refine bq (bU j h2) (NI (au (qJ (gb (U hy rfl) ?_))));dsimp only;have o:(dQ n).toNat=n:=rfl;have m:(dQ n:Int)=(n:Int):=rfl;have g:Builtin.Bytes.fitsIndex (dQ n)=true:=cM.mpr ⟨decide_eq_true (show-(2^63:Int)<=(n:Int) by exact Int.neg_ofNat_le_natCast (2^63) n),decide_eq_true (show(n:Int)<2^63 by lia)⟩;have p:¬(dQ n<0):=U m (lF n);have q:¬(dQ n>2^63-34):=by refine U m ?_;lia
  have r:Builtin.Bytes.tooLong n=false:=decide_eq_false (bC.mpr (aI (gQ hn) bw));simp only [g,Bool.not_true,kF,if_false,p,q,o,r];refine cL hb (au (fm (au (wpAny_mkBytes ?_ hz))));refine tH rfl ?_
  first
   |exact av (h _ _)
   |exact au (av (av (h _ _)))
theorem GW (h:s.TypeIs y T) (h1:typeLookup (.type T) "__bytes__"=pure aq) (hz:b.size<=jr)
 (d:∀{g} {E'} {e},e aq s->wpAny (model prog ww) g (asStr? y) e E' s)
 (f:(typeLookup (.type T) "__index__"=pure aq/\∀{g} {E'} {e},e (O b) s->wpAny (model prog ww) g (gD "bytes.__new__" y H) e E' s)\/
  (∃i n t,typeLookup (.type T) "__index__"=pure (O i)/\y= .int (dQ n) t/\n<1000000/\b=m6 n 0))
 (j:∀t k,Q (.bytes b t) {s with toks:=k}):wpAny (model prog ww) A (call (.type "bytes") [y]) Q E s:=callType_codes (Q₁:=λobj a=>a.TypeIs obj "bytes"/\Q obj a) F.bm_called (F.bm_typeCall _) F.entry_object_init (TP h h1 hz d f λt k=>⟨PySem.W.typeIs_bytes _ _ _,j t k⟩) λobj a c=>iW c.1 (um obj _) (object_init_meets F.bm_called.init.lookup F.bm_called.made rfl prog ww A.in1 _ a (iW c.1 rfl c.2))
end
section
variable {X:dw}
theorem OY (m:bu X):qh X 3:=by
 intro n A B w h s p vs ys hv k res c Q r;refine aC (dH c) λe h1=> ?_
 induction vs using zL with
 |cons=>exact ff h1
 |nil=>
  cases hv;refine LY ?_;have t:(s.heap.push (gX #[])).get? s.heap.objs.size=O (gX #[]):=aJ _ rfl;have d:=bD (g6 λj=> #[]) t rfl;have f:=bh d;refine gc (p.new m (o:=yH []) (b:=s.heap.objs.size) (own:=λa=>a==s.heap.objs.size) (ReflBEq.rfl) (s':={s with heap:=(s.heap.push (gX #[])).update s.heap.objs.size (g6 λj=> #[])}) (gQ f)
   (λa u=>by have:a=s.heap.objs.size:=(by simpa using u);subst this;exact⟨br _,f⟩) (λa v e=>(dG _ _ (λq=>absurd (bh e) (by refine cL q ?_;exact j9 _))).trans (az _ e)) rfl rfl 0 _ rfl
   (λC x l D=> .E8 #[] (U l x) (U l d) (of_decide_eq_true rfl))) λy z=> ?_
  refine r _ _ _ _ _ y z ?_ e;have:=VR.ref (X:=X) (g:=(s.heap.push (gX #[])).update s.heap.objs.size (g6 λj=> #[])) (w:=⟨λi=>if i=h.n then s.heap.objs.size else w.ρ i,λa=>if(a==s.heap.objs.size)=H then O h.n else w.role a,λi=>if i=h.n then 0 else w.uh i⟩) (n:=h.n+1) h.n (bM _);simpa using this
end
theorem OZ n:repl n=List.replicate n 0:=by
 induction n with
 |zero=>rfl
 |succ n a=>show 0::repl n=_;refine U a ?_;rfl
theorem Ei v l:BU (v::l)=(aA aq (λn=>aA aq (λl=>O (n::l)) (BU l)) (Dg 256 v):Option (List Nat)):=rfl
theorem Ej:∀{l} {m},BU l=O m->(∀v∈l,v.t=2)/\(∀i∈l.map dU,0<=i/\i<256)/\(byteArr (l.map dU)).toList.map bS=m:=by
 intro l
 induction l with
 |nil=>
  intro m e;injection e with e;subst e
  exact iW (λv hv=>((aU hv).elim)) (λv hv=>((aU hv).elim)) rfl
 |cons v l ih=>
  intro m e;rw [Ei] at e;refine aK (nT e) λn e hn=>aK (nT e) λr e hr=> ?_;injection e with e;subst e
  refine fh (ih hr) λa2 a1 a3=>qP (tY hn) λoG=> ?_;subst oG;intro h2 h3 h4;have ht:=Cy h3;refine iW (λu hu=> ?_) (λi hi=> ?_) ?_
  .rcases aT.mp hu with rfl|hu
   .exact aH h2
   .exact a1 u hu
  .rw [dI] at hi;rcases aT.mp hi with rfl|hi
   .refine U ht ?_;lia
   .exact a2 i hi
  .skip
   simp only [dI,jI] at a3⊢;refine U ht ?_;have:((v.n:Int).toNat.toUInt8).toNat=v.n:=by
    refine(?_:v.n %256=v.n);exact yr h4
   exact cons_eq_cons' this a3
section
variable {X:dw}
theorem LZ (ax:bu X):qh X 2:=by
 intro n A hA w h s hs vs ys hv k res e₀ Q hQ;refine eW ?_;refine dN (eE e₀) λv oG=> ?_;subst oG;intro e;refine dN hv.one λy oG=> ?_;subst oG;intro hy;have fin:∀b t h' kk,(∀c o,s.heap.get? c=O o->h'.get? c=O o)->s.heap.objs.size<=h'.objs.size->b.size<=1000000->k (fq (b.toList.map bS)) h=O res->Q (.bytes b t) {s with heap:=h',toks:=kk}:=λb t h' kk hk hsz hz e=>by
  exact aC (hs.i9 ax (h':=h') (tk:=kk) hsz hk) λa2 a1=>hQ w h _ _ _ a1 a2 (.bytes b t hz) e
 induction h2:ak v.t 2 using zB with
 |true=>
  rw [h2] at e;refine dN (bB e) λm hm e=>gc (uR e) λhz e=>qP (tY hm) λoG=> ?_;subst oG;intro _ h3 h4;refine fF (hy.cO h2) λt oG=> ?_;subst oG;rw [OZ] at e hz;have hl:(m6 v.n (0:UInt8)).toList.map bS=List.replicate v.n 0:=by simp
  rw [<-hl] at e;have Yu:(m6 v.n (0:UInt8)).size<=1000000:=by simpa using hz
  refine GW (typeIs_int _ _ _) B.CH (b:=m6 v.n 0) (aI Yu bw) (λq=>av q) (.inr (uu _ v.n t B.int_index (U (Cy h3) rfl) (by lia) rfl)) λt' kk=>fin _ t' _ kk (λu_ u_ e=>e) (br _) Yu e
 |false=>
  rw [h2] at e;refine dF (dg e) λo e h6 ho=>gc (hy.eB h6) λoG=> ?_;subst oG;intro lv
  induction h1:ak o.t 1 using zB with
  |true=>
   rw [h1] at e;refine dN (bB e) λl hl e=>gc (uR e) λhz e=>fh (Ej hl) λb2 b1 b3=>sV (hs.listAt ho (aH h1)) λitems ep hg hn hvs u_=> ?_;have Yu:(byteArr (o.xs.map dU)).size<=1000000:=by
    have:((byteArr (o.xs.map dU)).toList.map bS).length=(byteArr (o.xs.map dU)).size:=by simp
    rw [b3] at this;lia
   rw [<-b3] at e;exact bW (call_bytes_ints (gf _ (by simpa using hg) rfl _ rfl) (hvs.ints b1) b2 (by simp;exact aI hn bw) hA.handled λh' t kk hk hsz=>fin _ t h' kk hk hsz Yu e)
  |false=>
   rw [h1] at e;refine gc (dH e) λh3 e=>gc (uR e) λhz e=> ?_
   induction ((hs.rep _ o ho).2) using Mine.Rep.casesOn with
   |E8 b hr hg hn=>
    refine GW (bV _ hg rfl) B.Ed (aI hn bw) (λq=> ?_) (.inl ⟨B.Ef,λq=>IL hg q⟩) λt' kk=>fin _ t' _ kk (λu_ u_ e=>e) (br _) hn e;exact au (jc hg (av q))
   |_=>exact nn (aH h3) rfl
end
end
section
open PyProof.Rows PySem.Calls PySem.SeqAt
section
variable {prog:Program} {ww:World} {A:Around} {E:Value->Shared->Prop} {s:Shared}
theorem IU:typeLookup (.type "list") (bX "keys")=pure none:=by rw [typeLookup_type,bz];kernel_rfl
theorem L0:typeLookup (.type "zip") (bX "keys")=pure none:=by rw [typeLookup_type,bz];kernel_rfl
theorem zR:typeLookup (.type "zip") "__getattr__"=pure none:=by rw [typeLookup_type,bz];kernel_rfl
theorem CI:entryFor table "zip.__getattribute__"=O Builtin.«object.__getattribute__»:=
 entryFor_alias (id':="object.__getattribute__") (by rw [qF];kernel_rfl) (by decide+kernel) (by decide+kernel) (by rw [qF];kernel_rfl)
theorem IV:(["__module__","__name__","__qualname__","__doc__","__annotations__"]:List Str).contains (bX "keys")=false:=by decide+kernel
theorem IW {a:Addr} {xs:Array Value} {k:Nat} {Q:Option Value->Shared->Prop} (hx:s.heap.get? a=O {cls:= .type "list",data:= .seq xs k}) (l:A.handled=aq)
 (h:∀h' tk,(∀b i,s.heap.get? b=O i->h'.get? b=O i)->Q aq {s with heap:=h',toks:=tk}):
 wpAny (model prog ww) A (getAttr? (.ref a) (bX "keys")) Q E s:=by
 obtain⟨hp,g,d,tk,os⟩:=s;have j:∀c,(⟨hp,g,d,c,os⟩:Shared).TypeIs (.ref a) "list":=λm=>bV _ hx rfl;have n:=sub_AttributeError;have o:=qz.lookup;have p:=qz.bind (.ref a);have q:=am_list_getattr_none
 repeat (any_goals (first|assumption|exact j _|((with_reducible show wpAny _ _ (call (ud "list.__getattribute__") _ _) _ _ _);refine call_meets qz (j _) am_entry_list_getattribute (F.args_list_getattribute_2 _ _) (meets_getattribute_miss_list a xs k #[] (bX "keys") _ IU IV) (iW hx l (λh' c e f=> ?_)))|wp_step))
 obtain⟨r,t,he⟩:=f.there;refine(?_:wpAny _ _ (getattributeRaised _ _ _ _ _ _ _) _ _ _);unfold getattributeRaised
 repeat (any_goals (first|assumption|wp_step))
 exact h _ _ f.keeps
theorem zS a vs u:
 Meets (Builtin.«object.__getattribute__» ⟨[.ref a,.str (bX "keys") u],[]⟩) (λA R s=>s.heap.get? a=O {cls:= .type "zip",dict:=aq,data:= .fields vs,slots:= #[]}/\raisesAttr (.ref a) (bX "keys") A R s):=
 Meets.of_wp λprog w A R s b=>by
  obtain⟨hp,g,d,tk,os⟩:=s;obtain⟨hx,b⟩:=b;have e:(⟨hp,g,d,tk,os⟩:Shared).TypeIs (.ref a) "zip":=bV _ hx rfl;have c:=L0;unfold Builtin.«object.__getattribute__»
  repeat (any_goals (first|assumption|wp_step))
  exact wpAny_raiseAttrError b.1 b.2 (attrMsg_fits (of_decide_eq_true rfl) (by size_fits))
theorem L1 {a:Addr} {vs:Array Value} {Q:Option Value->Shared->Prop} (hx:s.heap.get? a=O {cls:= .type "zip",data:= .fields vs}) (k:A.handled=aq)
 (h:∀h' tk,(∀b i,s.heap.get? b=O i->h'.get? b=O i)->Q aq {s with heap:=h',toks:=tk}):
 wpAny (model prog ww) A (getAttr? (.ref a) (bX "keys")) Q E s:=by
 obtain⟨hp,g,d,tk,os⟩:=s;have j:∀c,(⟨hp,g,d,c,os⟩:Shared).TypeIs (.ref a) "zip":=λl=>bV _ hx rfl;have m:=sub_AttributeError;have n:=qM.lookup;have o:=qM.bind (.ref a);have p:=zR
 repeat (any_goals (first|assumption|exact j _|((with_reducible show wpAny _ _ (call (ud "zip.__getattribute__") _ _) _ _ _);refine call_meets qM (j _) CI (F.args_zip_getattribute_2 _ _) (zS a vs _) (iW hx k (λh' c e f=> ?_)))|wp_step))
 obtain⟨q,r,he⟩:=f.there;refine(?_:wpAny _ _ (getattributeRaised _ _ _ _ _ _ _) _ _ _);unfold getattributeRaised
 repeat (any_goals (first|assumption|wp_step))
 exact h _ _ f.keeps
theorem rH:entryFor table "dict.update.loop"=O Builtin.«dict.update.loop»:=nI (by kernel_rfl)
theorem kY:plainId "dict.update.loop"=true:=by decide+kernel
end
structure O0 (prog:Program) (ww:World) (A:Around) (I L:Addr) (D:Heap->Prop) (v:Option Value) (D':Heap->Prop):Prop where
 frame:∀h h',D h->(∀o,h.get? I=O o->h'.get? I=O o)->(∀o,h.get? L=O o->h'.get? L=O o)->D h'
 frame':∀h h',D' h->(∀o,h.get? I=O o->h'.get? I=O o)->(∀o,h.get? L=O o->h'.get? L=O o)->D' h'
 step:∀{s:Shared} {E:Value->Shared->Prop} {Q:Value->Shared->Prop},D s.heap->(∀x h',v=O x->D' h'->gk I s.heap h'->Q x {s with heap:=h'})->
  (∀h' e,v=aq->mU I s.heap h'->(∃o,h'.get? e=O o/\o.cls= .type "StopIteration")->E (.ref e) {s with heap:=h'})->wpAny (model prog ww) A (dJ (.ref I)) Q E s
theorem L2 {prog:Program} {ww:World} {A:Around} (f:A.handled=aq) {I L:Addr} (d:L≠I) (m:Nat) (items:Array Value):
 O0 prog ww A I L (λh=>h.IsListIter I L m/\h.IsList L items) items[m]? (λh=>h.IsListIter I L (m+1)/\h.IsList L items) where
 frame:=λh h' a c b=>⟨a.1.at c,a.2.at b⟩
 frame':=λh h' a c b=>⟨a.1.at c,a.2.at b⟩
 step:=λ{s E Q} a hq he=>by
  cases hx:items[m]? with
  |none=>exact wpAny_nextOf_list_end f a.1 a.2 hx λh' e k o=>he h' e hx k o
  |some x=>exact wpAny_nextOf_list_item a.1 a.2 hx λh' c b=>hq x h' hx ⟨c,a.2.extBut b.extBut d⟩ b
section
variable {prog:Program} {ww:World} {A:Around} {E:Value->Shared->Prop} {s:Shared}
theorem u9 {b l:Addr} {i:Nat} {items:Array Value} {x:Value} {Q:Value->Shared->Prop} (a:s.heap.IsTupleIter b l i) (hl:s.heap.IsTuple l items) (hx:items[i]? =O x)
 (g:∀h',h'.IsTupleIter b l (i+1)->gk b s.heap h'->Q x {s with heap:=h'}):wpAny (model prog ww) A (dJ (.ref b)) Q E s:=by
 obtain⟨o,d,h,c⟩:=id a;obtain⟨j,e,_,k,f⟩:=hl;refine au (dW (name:=bX "__next__") a.typeIs fX
  (bH fX a.typeIs o7 ?_ (oA _)))
 refine(?_:wpAny _ _ (field (.ref b) 0>>=_) _ _ s);refine bq (fO d c (x:= .ref l) rfl) ((?_:wpAny _ _ (if(gu l==dY)=H then _ else _) _ _ s));refine NQ bY ((?_:wpAny _ _ (field (.ref b) 1>>=_) _ _ s));refine bq (fO d c (x:= .int i 0) rfl) ((?_:wpAny _ _ (sC (.ref l)>>=_) _ _ s));refine bq (dz e f) ?_;simp only [lG,hx];refine au (mH d c (fG (fW [])) (av (bV x rfl (av (g _ ?_ (gm ..))))));exact f9 _ (bD _ d (sD (i7 c _))) ((xF ..).trans h) (by
  rw [i7 c];exact rfl)
theorem wD {c l:Addr} {i:Nat} {items:Array Value} {Q:Value->Shared->Prop} (j:A.handled=aq) (b:s.heap.IsTupleIter c l i) (hl:s.heap.IsTuple l items) (hx:items[i]? =aq)
 (k:∀h' e,mU c s.heap h'->(∃o,h'.get? e=O o/\o.cls= .type "StopIteration")->E (.ref e) {s with heap:=h'}):wpAny (model prog ww) A (dJ (.ref c)) Q E s:=by
 obtain⟨o,d,n,f⟩:=id b;obtain⟨p,g,_,q,h⟩:=hl;refine au (dW (name:=bX "__next__") b.typeIs fX
  (bH fX b.typeIs o7 ?_ (oA _)))
 refine(?_:wpAny _ _ (field (.ref c) 0>>=_) _ _ s);refine bq (fO d f (x:= .ref l) rfl) ((?_:wpAny _ _ (if(gu l==dY)=H then _ else _) _ _ s));refine NQ bY ((?_:wpAny _ _ (field (.ref c) 1>>=_) _ _ s));refine bq (fO d f (x:= .int i 0) rfl) ((?_:wpAny _ _ (sC (.ref l)>>=_) _ _ s));refine bq (dz g h) ?_;simp only [lG,hx];refine au (fm (au (mH d f (gn rfl) ((?_:wpAny _ _ (newExc (.type "StopIteration") []>>=_) _ _ _)))));refine au (au (dZ ?_ (by size_fits)));refine au (m:=firstArgMember _ _) (gb (a:=dY) (by first|rfl|(simp only [firstArgMember];rfl)) (dZ ?_ (by size_fits)));refine bq wpAny_handled ?_
 first|refine U j ?_|rw [j]
 exact bp (wpAny_throw (k _ _ (((gm ..).extBut.push _).push _) (bV _ (aJ _ rfl) rfl)))
end
theorem O1 {prog:Program} {ww:World} {A:Around} (g:A.handled=aq) {I L:Addr} (f:L≠I) (m:Nat) (items:Array Value):
 O0 prog ww A I L (λh=>h.IsTupleIter I L m/\h.IsTuple L items) items[m]? (λh=>h.IsTupleIter I L (m+1)/\h.IsTuple L items) where
 frame:=λh h' b d c=>⟨b.1.at d,b.2.at c⟩
 frame':=λh h' b d c=>⟨b.1.at d,b.2.at c⟩
 step:=λ{s E Q} b hq he=>by
  cases hx:items[m]? with
  |none=>exact wD g b.1 b.2 hx λh' e k o=>he h' e hx k o
  |some x=>exact u9 b.1 b.2 hx λh' d c=>hq x h' hx ⟨d,b.2.at λo e=>c.extBut L o f e⟩ c
abbrev lT (h:Heap) (z TI TO:Addr) (v f:Value):Prop:=h.get? z=O {cls:= .type "zip",data:= .fields #[v,f,.bool aj,.ref TI,.ref TO]}
inductive L3 (h:Heap):Value->Value->Prop where
 |free:L3 h .none (.bool aj)
 |kept (T:Addr) (f:Bool) (o:Obj) (e:h.get? T=O o):L3 h (rawInt T) (.bool f)
section
variable {prog:Program} {ww:World} {A:Around} {E:Value->Shared->Prop} {s:Shared}
theorem L4 {z I q i1 i2 l1 l2:Addr} {v f a b:Value} {D1 D1' D2 D2':Heap->Prop} {v1 v2:Option Value} {Q:Fin->Shared->Prop} (D:ZipApart z I q i1 i2 l1 l2) (d1:O0 prog ww A i1 l1 D1 v1 D1') (d2:O0 prog ww A i2 l2 D2 v2 D2')
 (hz:lT s.heap z I q v f) (hf:L3 s.heap v f) (hTI:IsPair s.heap I (.ref i1) (.ref i2)) (hTO:IsPair s.heap q a b) (h1:D1 s.heap) (h2:D2 s.heap)
 (hQ:∀h' x y w g a' b',v1=O x->v2=O y->lT h' z I q w g->(w=rawInt s.heap.objs.size/\g= .bool aj\/∃(T:Addr) (o:Obj),v=rawInt (T:Int)/\w=v/\g= .bool H/\s.heap.get? T=O o)->IsPair h' q a' b'->D1' h'->D2' h'->IsPair h' s.heap.objs.size x y->h'.objs.size=s.heap.objs.size+1->
  (∀c o,c≠z->c≠q->c≠i1->c≠i2->s.heap.get? c=O o->h'.get? c=O o)->Q (.done (.ret (.ref s.heap.objs.size))) {s with heap:=h'})
 (hE:∀h' e,(∀c o,c≠z->c≠q->c≠i1->c≠i2->s.heap.get? c=O o->h'.get? c=O o)->(∃o,h'.get? e=O o/\o.cls= .type "StopIteration")->(v1=aq\/v2=aq)->E (.ref e) {s with heap:=h'}):
 wpAny (model prog ww) A (Builtin.«zip.__next__» ⟨[.ref z],[]⟩) Q E s:=by
 refine(?_:wpAny _ _ (field (.ref z) 2>>=_) _ _ _);refine bq (fO hz rfl (x:= .bool aj) rfl) ((?_:wpAny _ _ (field (.ref z) 3>>=_) _ _ _));refine bq (fO hz rfl (x:= .ref I) rfl) (au (dz hTI rfl ((?_:wpAny _ _ (Builtin.SmallTypes.ownedTupleIsFree (.ref z)>>=_) _ _ _))));refine au ?_
 induction hf using Mine.L3.casesOn with
 |free=>
  refine au (fO hz rfl (x:= .none) rfl (av (bq fm (au (fO hz rfl (x:= .ref q) rfl (au (je hz (gn rfl) λt m i=> ?_)))))));replace m:lT t z I q .ellipsis (.bool aj):=m;refine au ?_;simp only [List.zipIdx_cons,List.zipIdx_nil,dO,jz];refine au (au (wpAny_onRaise ((?_:wpAny _ _ (dJ (.ref i1)>>=_) _ _ _))));refine au (d1.step (d1.frame _ _ h1 (λo e=>i.extBut _ o D.i1z e) (λo e=>i.extBut _ o D.l1z e)) (λx u ex J h=>av ?_) λu e ex h he=> ?_);rotate_left
  .obtain⟨oe,p,hce⟩:=he;have RN:lT u z I q .ellipsis (.bool aj):=h _ _ D.i1z.symm m;have ZD:e≠z:=λx=>by subst x;rw [RN] at p;injection p with p;subst p;simp at hce
   exact je RN (gn rfl) λh₃ u_ d=>hE h₃ e (λc o B u_ V u_ x=>d.extBut _ _ B (h _ _ V (i.extBut _ _ B x))) (bV oe (d.extBut _ _ ZD p) hce) (.inl ex)
  have R:IsPair u q a b:=h.extBut _ _ D.TOi1 (i.extBut _ _ D.TOz hTO);refine au (dz R rfl (au (wpAny_updateSeq_pair R λh₃ C d=> ?_)));replace C:IsPair h₃ q x b:=C;refine au (wpAny_letGo (av (au (au (wpAny_onRaise ((?_:wpAny _ _ (dJ (.ref i2)>>=_) _ _ _)))))));have K:D2 h₃:=d2.frame _ _ h2 (λo e=>d.extBut _ o D.TOi2.symm (h.extBut _ o D.i12.symm (i.extBut _ o D.i2z e))) λo e=>d.extBut _ o D.l2TO (h.extBut _ o D.l2i1 (i.extBut _ o D.l2z e));refine au (d2.step K (λy h₄ ey WA l=>av ?_) λh₄ e ey l he=> ?_);rotate_left
  .obtain⟨oe,p,hce⟩:=he;have RO:lT h₄ z I q .ellipsis (.bool aj):=l _ _ D.i2z.symm (d.extBut _ _ D.TOz.symm (h.extBut _ _ D.i1z.symm m));have ZD:e≠z:=λx=>by subst x;rw [RO] at p;injection p with p;subst p;simp at hce
   exact je RO (gn rfl) λk u_ j=>hE k e (λc o B c2 V c4 x=>j.extBut _ _ B (l _ _ c4 (d.extBut _ _ c2 (h.extBut _ _ V (i.extBut _ _ B x))))) (bV oe (j.extBut _ _ ZD p) hce) (.inr ey)
  have S:IsPair h₄ q x b:=l.extBut _ _ D.TOi2 C;refine au (dz S rfl (au (wpAny_updateSeq_pair S λk n j=> ?_)));replace n:IsPair k q x y:=n;refine au (wpAny_letGo (av (av (au (dz n rfl (au (vN ?_)))))));have hsz:k.objs.size=s.heap.objs.size:=by rw [j.1,l.1,d.1,h.1,i.1]
  have RP:lT k z I q .ellipsis (.bool aj):=j.extBut _ _ D.TOz.symm (l.extBut _ _ D.i2z.symm (d.extBut _ _ D.TOz.symm (h.extBut _ _ D.i1z.symm m)));refine au ?_;have WB:z<k.objs.size:=bh RP;have WC:lT (k.push {cls:= .type "tuple",data:= .seq #[x,y]}) z I q .ellipsis (.bool aj):=az _ RP;refine au (je WC (gn rfl) λZE L M=> ?_);replace L:lT ZE z I q (rawInt k.objs.size) (.bool aj):=L;refine je L (fG (fW [Value.bool aj,gu I,gu q])) λG F P=> ?_;replace F:lT G z I q (rawInt k.objs.size) (.bool aj):=F;have up:∀c o,c≠z->k.get? c=O o->G.get? c=O o:=λc o B e=>P.extBut _ _ B (M.extBut _ _ B (az _ e));have RS:IsPair G k.objs.size x y:=P.extBut _ _ (iA WB) (M.extBut _ _ (iA WB) (aJ _ rfl));have hz8:G.objs.size=k.objs.size+1:=by rw [P.1,M.1,bI]
  rw [hsz] at F RS hz8;refine av ((?_:Q (.done (.ret (.ref k.objs.size))) _));refine U hsz ?_;refine hQ G x y _ _ x y ex ey F (.inl ⟨rfl,rfl⟩) (up _ _ D.TOz n) (d1.frame' _ _ J (λo e=>up _ o D.i1z (j.extBut _ o D.TOi1.symm (l.extBut _ o D.i12 (d.extBut _ o D.TOi1.symm e)))) (λo e=>up _ o D.l1z (j.extBut _ o D.l1TO (l.extBut _ o D.l1i2 (d.extBut _ o D.l1TO e)))))
   (d2.frame' _ _ WA (λo e=>up _ o D.i2z (j.extBut _ o D.TOi2.symm e)) λo e=>up _ o D.l2z (j.extBut _ o D.l2TO e)) RS hz8 λc o B c2 V c4 e=>up c o B ((λc o B c2 V c4 e=>j.extBut _ _ c2 (l.extBut _ _ c4 (d.extBut _ _ c2 (h.extBut _ _ V (i.extBut _ _ B e))))) c o B c2 V c4 e)
 |kept T f oT hoT=>
  refine au (fO hz rfl (x:=rawInt T) rfl ((?_:wpAny _ _ (loadIfAlive ((T:Int).toNat)>>=_) _ _ _)));refine U (lG ..) (bq (PySem.W.kdx_alive hoT) (au (fO hz rfl (x:= .bool f) rfl (f5 (Q:=λr s'=>r=aj/\∃t,s'={s with heap:=t}/\lT t z I q (rawInt T) (.bool H)/\gk z s.heap t) ?_ ?_ (λu_ u_ e=>e)))))
  .cases f with
   |true=>
    exact NQ bY (av (Dc rfl _ rfl hz (Heap.SameBut.refl _ _)))
   |false=>
    exact Zc rfl (au (je hz (fG (fW [Value.bool aj,gu I,gu q])) λh₃ WD d=>av (Dc rfl _ rfl WD d)))
  rintro _ _ ⟨rfl,t,rfl,m,i⟩;simp only [kF,if_false];refine cL Array.forIn_toList ?_;simp only [dO,jz];refine au (au (au (bP ((?_:wpAny _ _ (dJ (.ref i1)>>=_) _ _ _)))));refine au (d1.step (d1.frame _ _ h1 (λo e=>i.extBut _ o D.i1z e) (λo e=>i.extBut _ o D.l1z e)) (λx u ex J h=>av ?_) λu e ex h he=> ?_);rotate_left
  .exact hE u e (λc o B u_ V u_ x=>h _ _ V (i.extBut _ _ B x)) he (.inl ex)
  refine av (au (au (bP ((?_:wpAny _ _ (dJ (.ref i2)>>=_) _ _ _)))));refine au (d2.step (d2.frame _ _ h2 (λo e=>h.extBut _ o D.i12.symm (i.extBut _ o D.i2z e)) λo e=>h.extBut _ o D.l2i1 (i.extBut _ o D.l2z e)) (λy h₃ ey K d=>av ?_) λh₃ e ey d he=> ?_);rotate_left
  .exact hE h₃ e (λc o B u_ V c4 x=>d _ _ c4 (h.extBut _ _ V (i.extBut _ _ B x))) he (.inr ey)
  refine av (av (au (vN ?_ (by show(2:Nat)<=jr;exact fit_le rfl))));have hsz:h₃.objs.size=s.heap.objs.size:=by rw [d.1,h.1,i.1]
  refine av ((?_:Q (.done (.ret (.ref h₃.objs.size))) _));refine U hsz ((hQ _ x y _ _ a b ex ey (az _ (d.extBut _ _ D.i2z.symm (h.extBut _ _ D.i1z.symm m))) (.inr (lJ T oT rfl rfl rfl hoT)) (az _ (d.extBut _ _ D.TOi2 (h.extBut _ _ D.TOi1 (i.extBut _ _ D.TOz hTO)))) ?_ ?_ ?_ ?_ λc o B u_ V c4 e=>az _ (d.extBut _ _ c4 (h.extBut _ _ V (i.extBut _ _ B e)))))
  .exact d1.frame' _ _ J (λo e=>az _ (d.extBut _ o D.i12 e)) λo e=>az _ (d.extBut _ o D.l1i2 e)
  .exact d2.frame' _ _ K (λo e=>az _ e) λo e=>az _ e
  .exact hsz▸aJ _ rfl
  .rw [bI,hsz]
end
end
section
open PyProof.Rows PySem.Calls PySem.SeqAt PySem.W
section
variable {X:dw} {w:Wd} {h:aev} {s:Shared} {A:Around}
set_option backward.match.sparseCases false in
theorem Ek (e:pairOf v=O p):v.t=5/\v.xs=[p.1,p.2]:=by
 refine aC (dH e) λe d=>⟨aH d, ?_⟩;revert e;generalize v.xs=l;intro e;rcases l with _|⟨a,_|⟨b,_|⟨c,l⟩⟩⟩
 .exact fn e
 .exact fn e
 .injection e with e;subst e;rfl
 .exact fn e
theorem El {v:V} {y:Value} (g:bu X) (m:St X w h s) {i:Nat} (hv:VR X s.heap w h.n v y) {p:V×V} (ep:pairOf v=O p) {k:V->aev->Option Res} {res:Res} (e:Di (bQ i) p.1 p.2 h k=O res) (o:A.units<cLine) {Q:Unit->Shared->Prop} (j:Nat)
 (r:∀h' s',St X w h' s'->h'.n=h.n->Ext X cT w h.n s w h.n s'->k dc h'=O res->Q () s'):
 wpAny (model X.prog X.w) A (do
  let d<-(Builtin.Dict.pairItems y).tryCatch λe=>do
   if !(<-isInstance e (.type "TypeError")) then throw e
   rule "dict.update.element-no-sequence"
   raiseError "TypeError" s!"cannot convert dictionary update sequence element #{(j : Int)} to a sequence"
  match d with
  |[k,v]=>holding [k,v] (dictSet (w.ρ i) k v)
  |l=>
   rule "dict.update.element-length"
   raiseError "ValueError" s!"dictionary update sequence element #{(j : Int)} has length {l.length}; 2 is required") Q (λu u=>False) s:=by
 refine aC (Ek ep) λhx x=> ?_
 induction hv using Mine.VR.casesOn with
 |tup xs t items z D ht f hn c=>
  subst hx;have B:s.TypeIs (.ref t) "tuple":=bV _ f rfl;refine au (wpAny_tryCatch (au (jd B (tH rfl (au (dz f rfl (av ((?_:wpAny _ _ (match items.toList with|[k,v]=>_|l=>_) _ _ _)))))))))
  induction hi:items.toList using zL with
  |nil=>rw [hi] at c;cases c
  |cons a l=>
   rw [hi] at c;cases c with
   |cons _ _ _ _ C hl=>
    cases hl with
    |cons _ b _ _ hb hl=>
     cases hl;exact bP (GQ g m C hb e o r)
 |_=>exact absurd x (by first|exact aX rfl|(intro q;exact nn q rfl))
end
section
variable {prog:Program} {ww:World} {A:Around} {E:Value->Shared->Prop} {s:Shared}
theorem zT
 (h:wpAny (model prog ww) A.in1.in1 (Builtin.Dict.updateFrom "dict.__init__" s.heap.objs.size arg [] .none)
  (λc s'=>match c with| .done f=>wants (λr a=>r= .none/\Q (.ref s.heap.objs.size) a) E (.ok f) s'| .again c'=>c'.quiet=H/\codeAny (model prog ww) A.in1 c' (wants (λr a=>r= .none/\Q (.ref s.heap.objs.size) a) E) s')
  (λe s'=>wants (λr a=>r= .none/\Q (.ref s.heap.objs.size) a) E (.error e) s') {s with heap:=s.heap.push (cH #[] 0)}):
 wpAny (model prog ww) A (call (.type "dict") [arg]) Q E s:=by
 refine callType_codes (Q₁:=λobj b=>obj= .ref s.heap.objs.size/\b={s with heap:=s.heap.push (cH #[] 0)}) F.kt_called_dict (F.kt_typeCall_dict_1 _) F.entry_dict_init (kt_code_dict_new _ ⟨rfl,rfl⟩) ?_;rintro obj b ⟨rfl,rfl⟩;have d:iz {s with heap:=s.heap.push (cH #[] 0)} (.ref s.heap.objs.size) "dict":=bV _ (aJ _ rfl) rfl;refine iW d (F.args_dict_init_2 _ _) (au (bq (nj d) ((?_:wpAny _ _ (pure (s.heap.objs.size,[arg])) _ _ _))));exact av h
end
section
variable {X:dw} {w:Wd} {h:aev} {s:Shared} {A:Around}
theorem L5 (m:bu X) (b:St X w h s) (hu:VR X s.heap w h.n u x) (hv:VR X s.heap w h.n v y) (e:Di (bQ i) u v h k=O res) (p:A.units<cLine)
 (q:∀o s',St X w ⟨HT.ins o h.l i,h.n⟩ s'->Ext X cT w h.n s w h.n s'->k dc ⟨HT.ins o h.l i,h.n⟩=O res->Q () s'):wpAny (model X.prog X.w) A (dictSetHashed (w.ρ i) x (hashOf X u) y) Q (λf f=>False) s:=by
 refine dF (dg e) λo e f g=>aC (dH e) λe r=> ?_
 induction (b.rep _ o g).2 using Mine.Rep.casesOn with
 |dict t B ep C D hn F G j=>
  exact aK (bB e) λd e z=>aC (dH e) λe hz=>GJ m b g hu hv z (ru hz) p s.toks λs' a c=>q _ s' a c e
 |_=>exact nn (aH r) rfl
theorem L6 (ax:bu X) (hs:St X w h s) (hj:h.l.get j=O (d7 d c)) (R:j≠i) (h8:d.length<=8) (h3:∀p∈d,p.1.t=3) (S:(w.ρ j==lD)=aj) (V:w.ρ i≠w.ρ j)
 (e:vX (bQ i) d h k=O res) (hA:A.units<cLine)
 (hQ:∀h' s',St X w h' s'->h'.n=h.n->Ext X cT w h.n s w h.n s'->k (bQ i) h'=O res->Q () s'):
 wpAny (model X.prog X.w) A (Builtin.Dict.mergeDict "dict.__init__" (w.ρ i) (w.ρ j)) Q (λB B=>False) s:=by
 have D:∀{h'} {s'},St X w h' s'->h'.l.get j=O (d7 d c)->∃g,s'.heap.get? (w.ρ j)=O (cH g (w.uh j+c))/\gV X s'.heap w h'.n d g.toList:=by
  intro h' s' v y;have r:=(v.rep j _ y).2;generalize ho:d7 d c=o at r
  induction r using Mine.Rep.casesOn with
  |dict kvs' g ep hr G hn P cc I=>
   cases ho;rw [I] at G;exact bV g G P
  |_=>cases ho
 refine dN (D hs hj) λg G P=> ?_;have C:d.length=g.size:=by refine U P.all.length ?_;simp
 unfold Builtin.Dict.mergeDict;refine NQ (by simpa using V) ?_;unfold kh;rw [if_neg (by refine U S ?_;exact bY)];refine bp (bq (gM G rfl) ?_);have few:(decide (g.size<=8)&&g.all λe=>(keyPart e.key).isSome)=true:=by
  refine U (aP ..) (⟨by refine U decide_eq_true_eq (cL C ?_);exact h8, ?_⟩);rw [Array.all_eq_true];intro n hn;obtain⟨p,hp⟩:∃p,d[n]? =O p:=⟨d[n]'(Nat.lt_of_lt_of_eq hn (id (gG C))),bA _⟩;refine dN (P.all.get hp) λq hq r=> ?_;have x:g[n]? =O q:=by refine cL hq ?_;simp
  rw [o6 hn] at x;injection x with x;subst x
  have ht:=h3 p (cW hp);have hk:=r.key;generalize g[n].key=kk at hk;generalize p.1=u at ht hk
  induction hk using Mine.VR.casesOn with
  |str l t hn=>rfl
  |_=>exact absurd ht (by first|exact aX rfl|(intro q;exact nn q rfl))
 refine U few (bq (uf G rfl) (bq (gM G rfl) (U (iL ..) ?_)));simp only [oj,Nat.sub_zero,Nat.add_sub_cancel,Nat.div_one];have go:∀m n h' s',n+m=g.size->St X w h' s'->h'.n=h.n->Ext X cT w h.n s w h.n s'->h'.l.get j=O (d7 d c)->vX (bQ i) (d.drop n) h' k=O res->
  ∀b:PUnit,wpAny (model X.prog X.w) A (forIn (List.range' n m) b λi_1 r=>(do
   let a<-dictEntries (w.ρ j)
   match a[i_1]? with
    |some e=>do
     holding [e.key,e.val] (dictSetHashed (w.ρ i) e.key e.hash e.val)
     let a<-dictEpoch (w.ρ j)
     if(a !=w.uh j+c)=H then do
      (unsupported (toString "dict.__init__"++toString ":source-changed-during-callback"):Sem PUnit)
      pure (dK PUnit.unit)
      else pure (dK PUnit.unit)
    |_=>do
     (unsupported "internal:dict-merge":Sem PUnit)
     pure (dK PUnit.unit):Sem (ForInStep PUnit))) (λB F=>Q () F) (λB B=>False) s':=by
  intro m
  induction m with
  |zero=>
   intro n h' s' hn v z hx y e b;rw [List.drop_eq_nil_of_le (by lia)] at e;exact U List.range'_zero (U jz (av (hQ h' s' v z hx e)))
  |succ m ih=>
   intro n h' s' hn v z hx y e b;refine U xS (U (dO ..) (dN (D v y) λJ hg' K=> ?_));have hlen':d.length=J.size:=by refine U K.all.length ?_;simp
   have L:n<d.length:=by lia
   refine au (bq (gM hg' rfl) (aK (K.all.get (bA L)) λq r hq=> ?_));have x:J[n]? =O q:=by refine cL hq ?_;simp
   refine U x ?_;dsimp only;rw [iu L] at e;refine U r.hash (au (bP (L5 ax v r.key r.val e hA λo F a1 a2 e2=> ?_)));have M:HT.get (HT.ins o h'.l i) j=O (d7 d c):=by rw [HT.v7 _ R];exact y
   exact dN (D a1 M) λV9 KN hd2=>bq (uf KN rfl) (NQ (by simp) (av (ih (n+1) _ F (by lia) a1 z (hx.trans (z▸a2)) M e2 _)))
 exact au (f5 (go g.size 0 h s (oB (fK g)) hs rfl .refl hj e _) (λB B q=>av q) λB B f=>f)
end
section
variable {X:dw} {w:Wd} {h:aev} {s:Shared} {A:Around}
theorem SrcR.ext (r:SrcR X s.heap w n it a) (x:Ext X F w n s w' n' g) (hF:∀a o,F a->s.heap.get? a=O o->ef o=aj) (b:w.role it=aq) (ht:it∉X.tabs) (c:¬F it):SrcR X g.heap w' n' it a:=
 r.keep (x.keep hF) λo e=>x.old it o b ht c e
theorem L7 (D:bu X) (d:10<=X.h₀.objs.size) (f:∀a∈X.tabs,a<X.h₀.objs.size) {b:Addr} (I:A.handled=aq) (J:A.units+1<cLine) (hb:X.h₀.objs.size<=b) {R:Shared->Prop}:
 ∀n {a} {h} {s} (j:Nat),St X w h s->w.role b=aq->b<s.heap.objs.size->SrcR X s.heap w h.n b a->xV (bQ i) k n a h=O res->
  (∀h' s',St X w h' s'->h'.n=h.n->Ext X (λa=>a=b) w h.n s w h.n s'->k (bQ i) h'=O res->R s')->
  codeAny (model X.prog X.w) A (.builtin "dict.update.loop" ⟨[.ref (w.ρ i),.ref b,rawInt j,.none],[]⟩) (wants (λr g=>r= .none/\R g) (λl l=>False)) s:=by
 intro n
 induction n with
 |zero=>
  intro a h s j E t m F e u;exact fn e
 |succ n K=>
  intro a h s j E t m F e u;have e:m8 a h (k (bQ i) h) (λv c=>lift (pairOf v) h λp h=>Di (bQ i) p.1 p.2 h λl h=>xV (bQ i) k n c h)=O res:=e;refine iG rH ((?_:wpAny _ A.in1 (pyNext (.ref b)>>=_) _ _ s));refine au (ze D d E (A:=A.in1) I t hb F e (λs' x z B=> ?_) λs' y v c x z hy L B=> ?_)
  .exact av ⟨rfl,u h s' x rfl z B⟩
  .refine aK (bB B) λp M ep=>au (bP (El D x hy ep M J j λh2 s2 P C G Q=>(av ⟨plainId_quiet kY _, ?_⟩)));have o:=z.trans (G.weaken (F':=λa=>a=b) λl q=>q.elim);exact K (j+1) P t (aR m o.size) (U C (L.ext G (λl l q=>q.elim) t (λhm=>absurd (f _ hm) (bC.mpr hb)) (λq=>q))) Q λS V c1 c2 c3 e4=>u S V c1 (c2.trans C) (o.trans (C▸c3)) e4
theorem O2 (j:bu X) (d:10<=X.h₀.objs.size) (g:∀a∈X.tabs,a<X.h₀.objs.size):qh X 6:=by
 intro n A D w h s l vs ys hv k res m Q R;refine eW ?_;refine dN (eE (show with1 vs (λv=>look v h λo h=>af
  (af aq (new (d7 [] 0) h λacc h=>xV acc k 2000 (gp v.n 0) h) (ak o.t 1))
  (af aq (af aq (new (d7 [] 0) h λacc h=>vX acc o.kvs h k) (bO (len o.kvs) 8)) (HL 3 o.kvs)) (ak o.t 2))=O res from m)) λv i=> ?_;subst i;intro e
 refine dN hv.one λy i=> ?_;subst i;intro hy;refine dF (dg e) λo e h6 z=>gc (hy.eB h6) λE G=>U E ?_;have hu:=D.c (k:=2) rfl;refine zT (jB (l.push j (cH #[] 0) (d7 [] 0) s.toks rfl 0 λq k h1 h2 h3=> .dict [] #[] 0 h1 h2 (of_decide_eq_true rfl) ⟨.nil,⟨0,λp hp=>(aU hp).elim⟩,iI⟩ 0 (U h3 rfl)) λq V I a3=> ?_);have r:=cg G;have f:=I.ρ _ G;refine sI e (λh2 e=> ?_) λu_ e=> ?_
 .refine aC (dH e) λe k3=>aC (dH e) λe k8=> ?_;have J:o.kvs.length<=8:=by have:=aB k8;rw [len_eq] at this;exact this
  refine sV (l.tabAt z (aH h2)) λes ep B hn hd hr=> ?_;have b:iz {s with heap:=s.heap.push (cH #[] 0)} (.ref (w.ρ v.n)) "dict":=bV _ (az _ B) rfl;exact bq (jd b) (au (au (bq (fL b isSubtype_dict_dict) (au (bU b Ay.lookup (av (bp (cL a3 (cL f (L6 j V ((l.rep v.n o z).2.eqs.2 (aH h2)▸(HT.v7 _ r z)) r J (λp hp=>uN k3 hd p hp) (U f (FH l d hr)) (U a3 (U f (iA (bh B)))) e hu λh' s' K C b3 e2=>(bp (av ⟨rfl,(R q h' s' (bQ h.n) _ K (C▸I.trans b3) (.ref h.n (U C (bM _))) e2)⟩))))))))))))
 .refine aC (dH e) λe h1=>sV (l.listAt z (aH h1)) λitems ep B hn hvs hr=> ?_;have b:(s.heap.push (cH #[] 0)).get? (w.ρ v.n)=O (gq items ep):=az _ B;have L:iz {s with heap:=s.heap.push (cH #[] 0)} (.ref (w.ρ v.n)) "list":=bV _ b rfl;refine au (jd L (au (bW (IW (A:=A.in1.in1) b D.handled λh' tk hk u=>(aC (V.i9 j (h':=h') (tk:=tk) u hk) λC K=>tH rfl (bq fm (bq (iH (items:=items) (gf _ (hk _ _ b) rfl _ rfl)) (qQ (K.one j g {cls:= .type "list_iterator",data:= .fields #[.ref (w.ρ v.n),.int 0 0]} tk (a:=gp v.n 0) λu_=> .list v.n 0 (cI G) (f9 _ (aJ _ rfl) rfl (U f rfl))) λS c2 c1 M c4=> ?_))))))));refine av ⟨plainId_quiet kY _, ?_⟩;generalize x:h'.objs.size=it at c1 c2 M c4;refine cL a3 ?_;have own:q.role it=aq/\X.h₀.objs.size<=it/\SrcR X (h'.push {cls:= .type "list_iterator",data:= .fields #[.ref (w.ρ v.n),.int 0 0]}) q (h.n+1) it (gp v.n 0):=by
   cases M.is with
   |one it' a hS P=>
    have o:=M.own it ((hS it).mpr rfl);exact iW o.1 o.2.1 P
  refine L7 (A:=A.in1) j d g D.handled hu own.2.1 2000 0 c1 own.1 (by refine cL x ?_;simp) own.2.2 e λh4 s4 d1 d2 d3 e4=> ?_;exact R q h4 s4 (bQ h.n) _ d1 (d2▸I.trans ((C.trans c2).nZ d3 λa P=> .inr (U P (cL x u)))) (.ref h.n (U d2 (bM _))) e4
end
section
variable {X:dw} {w:Wd} {h:aev} {s:Shared} {A:Around}
noncomputable def Em:Bool->String
 |true=>"max"
 |false=>"min"
def valAt (us:List V) (i:Nat):Int:=dU (us.getD i dc)
def pT (gt:Bool) (us:List V) (i j:Nat):Bool:=match gt with
 |true=>decide (valAt us i>valAt us j)
 |false=>decide (valAt us i<valAt us j)
theorem L8 (hv:eg X g w n us ys) gt {r}:∀l j m,us.drop (j+1)=l->j<us.length->us[argBest (pT gt us) j]? =O m->m.t=2->Gq gt l m=O r->
 us[argBest (pT gt us) (us.length-1)]? =O r/\r.t=2/\∀x∈l,x.t=2:=by
 intro l
 induction l with
 |nil=>
  intro j m i u hm k e;injection e with e;subst e
  have:us.length<=j+1:=sS.mp i;exact U (congrArg (· -1) (Nat.le_antisymm this u)) (iW hm k (λx hx=>(aU hx).elim))
 |cons x l v=>
  intro j m i u hm k e;refine aC (dH (show(af aq (af (Gq gt l m) (Gq gt l x) (af (wX x m) (wX m x) gt)) (ak x.t 2):Option V)=O r from e)) λe b=> ?_;have hx:us[j+1]? =O x:=by
   have:(us.drop (j+1))[0]? =O x:=U i rfl;rw [List.getElem?_drop] at this;exact this
  have c:=(bZ.mp hx).1;have d:us.drop (j+1+1)=l:=by
   refine cL sU (U i ?_);rfl
  refine dN (hv.get hx) λI F z=>dN (hv.get hm) λJ G B=> ?_;have C:us.getD (j+1) dc=x:=by refine U cZ (U hx ?_);rfl
  have D:us.getD (argBest (pT gt us) j) dc=m:=by refine U cZ (U hm ?_);rfl
  have f:ak m.t 2=true:=U k rfl;have hb:(af (wX x m) (wX m x) gt:Bool)=pT gt us (j+1) (argBest (pT gt us) j):=by
   induction gt using zB with
   |true=>show wX m x=decide (dU (us.getD (j+1) dc)>dU (us.getD (argBest (pT H us) j) dc));refine U C (U D ?_);exact tR B z f b
   |false=>show wX x m=decide (dU (us.getD (j+1) dc)<dU (us.getD (argBest (pT aj us) j) dc));refine U C (U D ?_);exact tR z B b f
  rw [hb] at e;have a:argBest (pT gt us) (j+1)=if pT gt us (j+1) (argBest (pT gt us) j)=H then j+1 else argBest (pT gt us) j:=rfl
  induction E:pT gt us (j+1) (argBest (pT gt us) j) using zB with
  |true=>
   rw [E] at e a;rw [if_pos rfl] at a;exact Rd (v (j+1) x d c (U a hx) (aH b) e) λo p a3=>iW o p (λy hy=>(aT.mp hy).elim (λq=>q▸aH b) (a3 y))
  |false=>
   rw [E] at e a;rw [if_neg bY] at a;exact Rd (v (j+1) m d c (U a hm) k e) λo p a3=>iW o p (λy hy=>(aT.mp hy).elim (λq=>q▸aH b) (a3 y))
theorem Br (hv:eg X g w n us ys) (e:bestOf gt us=O r):
 0<ys.length/\us[argBest (pT gt us) (ys.length-1)]? =O r/\(∀x∈us,x.t=2)/\∀i v,ys[i]? =O v->∃t,v=gO (valAt us i) t:=by
 induction us using zL with
 |nil=>exact fn e
 |cons x l=>
  refine gc (dH e) λf e=> ?_;have hl:=hv.length.symm;refine Rd (L8 hv gt l 0 x rfl (jL _) rfl (aH f) e) λj k a3=> ?_;have a:∀y∈x::l,y.t=2:=λy hy=>(aT.mp hy).elim (λq=>q▸aH f) (a3 y);refine qN (U hl (jL _)) (U hl j) a (λi v hi=> ?_);have b:i<(x::l).length:=cL hl ((bZ.mp hi).1);have hu:=bA b;refine aK (hv.get hu) λz c hz=> ?_;rw [hi] at hz;injection hz with hz;subst hz
  refine fF (c.cO (U (a _ (mu b)) rfl)) λt d=> ?_;subst d;exact⟨t,by unfold valAt;refine U cZ (U hu ?_);rfl⟩
theorem Bs (D:bu X) gt (m:A.handled=aq) (E:St X w h s) {items} (k:eg X s.heap w h.n us items.toList) (e:bestOf gt us=O r) (hl:s.heap.IsList y items\/s.heap.IsTuple y items)
 (F:∀x s',St X w h s'->Ext X cT w h.n s w h.n s'->VR X s'.heap w h.n r x->Q x s'):
 wpAny (model X.prog X.w) A (call (.builtin (Em gt)) [.ref y]) Q (λG G=>False) s:=by
 refine uy (Br k e) λI J P K=> ?_;have d:=cg (by rcases hl with⟨_,e,_⟩|⟨_,e,_⟩<;>exact bh e);have q:y<s.heap.objs.size:=by rcases hl with⟨_,e,_⟩|⟨_,e,_⟩<;>exact bh e
 have hz:0<items.size:=by simpa using J
 have f:∀l v h' tk,items[argBest (pT gt us) (items.size-1)]? =O v->s.heap.objs.size<=h'.objs.size->(∀b o,b∉[s.heap.objs.size]->(s.heap.push l).get? b=O o->h'.get? b=O o)->Q v {s with heap:=h',toks:=tk}:=by
  intro l v h' tk g c hk;refine aC (E.i9 D (h':=h') (tk:=tk) c λa o B=>hk a o (by
   intro hm;have h1:=bh B;rw [eH.mp hm] at h1;exact j9 _ h1) (az _ B)) λC L=> ?_
  refine dN (k.get I) λz hz u=> ?_;have M:items.toList[argBest (pT gt us) (items.toList.length-1)]? =O v:=by simpa using g
  rw [M] at hz;injection hz with hz;subst hz
  exact F v _ L C (u.mono C.dX)
 have p:∀l,∀b∈[s.heap.objs.size,y],b<(s.heap.push l).objs.size:=λl b hb=>by
  refine U (bI ..) ?_;rcases aT.mp hb with rfl|hb
  .exact bM _
  .refine U (eH.mp hb) ?_;exact cI q
 have j:∀i v,items[i]? =O v->∃t,v=gO (valAt us i) t:=λi v hi=>K i v (by simpa using hi);rcases hl with hl|hl
 .induction gt using zB with
  |true=>
   refine bW (call_max_walk (iH hl (jf s.heap.objs.size [s.heap.objs.size,y] [s.heap.objs.size] _ _ _ (pT H us) rfl (Walks.list (A:=A.in1) m _ y d items) ⟨(f9 _ (aJ _ rfl) rfl rfl),hl.push _⟩ (p _) hz (CmpOf.ints_gt (valAt us) j) (λv h' tk g hk c=> ?_))));exact f _ v h' tk g c hk
  |false=>
   refine bW (call_min_walk (iH hl (jf s.heap.objs.size [s.heap.objs.size,y] [s.heap.objs.size] _ _ _ (pT aj us) rfl (Walks.list (A:=A.in1) m _ y d items) ⟨(f9 _ (aJ _ rfl) rfl rfl),hl.push _⟩ (p _) hz (CmpOf.ints_lt (valAt us) j) (λv h' tk g hk c=> ?_))));exact f _ v h' tk g c hk
 .induction gt using zB with
  |true=>
   refine bW (call_max_walk (lI hl (jf s.heap.objs.size [s.heap.objs.size,y] [s.heap.objs.size] _ _ _ (pT H us) rfl (Walks.tuple (A:=A.in1) m _ y d items) ⟨(f9 _ (aJ _ rfl) rfl rfl),hl.push _⟩ (p _) hz (CmpOf.ints_gt (valAt us) j) (λv h' tk g hk c=> ?_))));exact f _ v h' tk g c hk
  |false=>
   refine bW (call_min_walk (lI hl (jf s.heap.objs.size [s.heap.objs.size,y] [s.heap.objs.size] _ _ _ (pT aj us) rfl (Walks.tuple (A:=A.in1) m _ y d items) ⟨(f9 _ (aJ _ rfl) rfl rfl),hl.push _⟩ (p _) hz (CmpOf.ints_lt (valAt us) j) (λv h' tk g hk c=> ?_))));exact f _ v h' tk g c hk
theorem GX (C:bu X) gt (hm:oQ m= .builtin (Em gt)) (L:BW m=BV gt):qh X m:=by
 intro n A D w h s z vs ys hv k res i Q x;refine eW ?_;rw [L] at i;refine U hm ?_;have e:=i;unfold BV at e;rcases vs with _|⟨a,_|⟨c,_|⟨d,l⟩⟩⟩
 .exact fn e
 .dsimp only at e;refine dN hv.one λy b=> ?_;subst b;intro hy
  induction E:ak a.t 5 using zB with
  |true=>
   rw [E] at e;refine dN (bB e) λr B M=> ?_;clear e i
   induction hy using Mine.VR.casesOn with
   |tup xs t items ep P ht F hn p=>exact Bs C gt D.handled z p B (.inr (gf _ F rfl _ rfl)) λG s' j g a3=>x w h s' r G j g a3 M
   |_=>exact nn (aH E) rfl
  |false=>
   rw [E] at e;refine gR (fS e) λo e R S t1=>dN (bB e) λr B e=>gc (hy.eB R) λb=> ?_;subst b;intro lv;exact sV (z.listAt S t1) λitems ep F hn p P=>Bs C gt D.handled z p B (.inl (gf _ F rfl _ rfl)) λG s' j g a3=>x w h s' r G j g a3 e
 .refine dN (bB e) λr B e=>vQ hv.two λya yc b=> ?_;subst b;intro I q;refine uy (Br hv B) λJ b1 K b4=>fF (I.cO (U (K a (aE ..)) rfl)) λt b=> ?_;subst b;refine fF (q.cO (U (K c (aD _ (aE ..))) rfl)) λu b=> ?_;subst b
  induction gt using zB with
  |true=>
   refine bW (max_two_ints D.handled λh' tk hk v=>(aC (z.i9 C (h':=h') (tk:=tk) v hk) λg j=> ?_));have hb:([a,c]:List V)[if decide (dU c>dU a)=H then 1 else 0]? =O r:=J;by_cases f:dU c>dU a
   .rw [if_pos (decide_eq_true f)] at hb;injection hb with hb;subst hb
    exact U (if_pos f) (x w h _ _ _ j g (q.mono g.dX) e)
   .rw [if_neg (by simpa using f)] at hb;injection hb with hb;subst hb
    exact U (if_neg f) (x w h _ _ _ j g (I.mono g.dX) e)
  |false=>
   refine bW (min_two_ints D.handled λh' tk hk v=>(aC (z.i9 C (h':=h') (tk:=tk) v hk) λg j=> ?_));have hb:([a,c]:List V)[if decide (dU c<dU a)=H then 1 else 0]? =O r:=J;by_cases f:dU c<dU a
   .rw [if_pos (decide_eq_true f)] at hb;injection hb with hb;subst hb
    exact U (if_pos f) (x w h _ _ _ j g (q.mono g.dX) e)
   .rw [if_neg (by simpa using f)] at hb;injection hb with hb;subst hb
    exact U (if_neg f) (x w h _ _ _ j g (I.mono g.dX) e)
 .exact fn e
theorem TQ (a:bu X):qh X 12:=GX a H rfl rfl
theorem TS (a:bu X):qh X 13:=GX a aj rfl rfl
end
theorem AY:PlainAttrs "bytes":=
 ⟨(bV ("bytes.__getattribute__") (by refine U (typeLookup_type ..) (U bz ?_);kernel_rfl) rfl),by refine U (typeLookup_type ..) (U bz ?_);kernel_rfl⟩
theorem vd:Slot "bytes" "join" "bytes.join":=
 .of (owner:="bytes") (n:="join") (by refine U (typeLookup_type ..) (U bz ?_);kernel_rfl) rfl rfl rfl
  (by first|exact .inl (by decide+kernel)|exact .inr rfl) (by refine U (isSubtype_type ..) ?_;kernel_rfl)
theorem AZ:entryFor table "bytes.join"=O Builtin.«bytes.join»:=nI (by kernel_rfl)
theorem CJ (a c):argsOk "bytes.join" ⟨[a,c],[]⟩:=by unfold argsOk;kernel_rfl
theorem CK:typeOf (.builtin "bytes.join")=pure (.type "method_descriptor"):=by show builtinType _=_;refine U builtinType_eq_fast ?_;kernel_rfl
section
variable {prog:Program} {ww:World} {A:Around} {E:Value->Shared->Prop} {s:Shared}
theorem FQ l:(kJ #[] l).toList=(l.map Array.toList).flatten:=by
 have a:∀(l:List (Array UInt8)) k acc,((l.zipIdx k).foldl (λout p=>(if p.2>0 then out++(#[]:Array UInt8) else out)++p.1) acc).toList=acc.toList++(l.map Array.toList).flatten:=by
  intro l
  induction l with
  |nil=>intro k acc;simp
  |cons x l b=>
   intro k acc;refine U List.zipIdx_cons (U List.foldl_cons (U (b ..) ?_));have:(if k>0 then acc++(#[]:Array UInt8) else acc)=acc:=by split<;>exact rfl
   simp
 have:=a l 0 #[];exact this
theorem CL {id} (q:Q (O (b,aq)) s):wpAny (model prog ww) A (Builtin.Bytes.takeBufferQuiet? id (.bytes b t) 0) Q E s:=by
 have a:=kg s b t;exact au (qJ (bq (bU a B.j7) (bq (pD a) (NQ (of_decide_eq_true rfl) (bq (bU a B.j7) (au (Bq (av (av q)))))))))
theorem O3:∀(l:List (Array UInt8×Tok)) a {Q},Q () s->wpAny (model prog ww) A (Builtin.Bytes.joinLetGo (l.map λp=>(iS p.1 p.2,aq)) a) Q E s:=by
 intro l
 induction l with
 |nil=>
  intro a Q q;exact av q
 |cons p l b=>
  intro a Q q;exact au (wpAny_letGo (b a q))
theorem O4 (l:List (Array UInt8×Tok)):((l.map λp=>(iS p.1 p.2,(none:Option Value))).any λx=>x.1.onHeap)=false:=by
 induction l with
 |nil=>rfl
 |cons p l a=>refine U dI (U gj (U a ?_));rfl
theorem takes {a:List (Array UInt8×Tok)} {x} h:(((a.take x).map (·.1)).toArray.push a[x].1,((a.take x).map λp=>(iS p.1 p.2,(none:Option Value)))++[(iS a[x].1 a[x].2,none)])=
 (((a.take (x+1)).map (·.1)).toArray,(a.take (x+1)).map λp=>(iS p.1 p.2,none)):=by
 refine U (wR h) (U kc (U kc ?_));simp only [dI,List.map_nil,List.push_toArray]
theorem O5 {a:Type} {f} {y} (h:¬l.size=1):Builtin.Bytes.joinM.match_1 (λb=>a) l f y=y l:=by
 obtain⟨l⟩:=l
 induction l using BQ with
 |zero=>rfl
 |one=>exact absurd rfl h
 |more=>rfl
theorem IX (l:List (Array UInt8×Tok)) n:List.foldl (λb c=>b+c.size) n (l.map (·.1))=n+(l.map λp=>p.1.size).sum:=by
 induction l generalizing n with
 |nil=>rfl
 |cons p l d=>exact(d _).trans (j8 ..)
theorem count_loop (a:Nat->σ) (b:∀i,i<m->∀{Q},Q (.yield (a (i+1))) s->wpAny (model prog ww) A (f i (a i)) Q E s) (c:R (a m) s):wpAny (model prog ww) A (forIn [:m] (a 0) f) R E s:=by
 have d:∀k i,i+k=m->wpAny (model prog ww) A (forIn (List.range' i k) (a i) f) R E s:=by
  intro k
  induction k with
  |zero=>exact λi h=>av ((show i=m from h)▸c)
  |succ k e=>exact λi h=>U xS (U (dO ..) (au (b i (h▸Nat.lt_add_of_pos_right (jL k)) (e (i+1) ((p7 i k).trans h)))))
 exact U (iL ..) (U (show([:m]:Std.Legacy.Range).size=m by simp [oj]) (d m 0 (oB m)))
theorem Ma {a:List (Array UInt8×Tok)} (hz:(a.map λp=>p.1.size).sum<=1000000):Array.foldl (λb c=>b+c.size) ((#[]:Array UInt8).size*(((a.map (·.1)).toArray).size-1)) (a.map (·.1)).toArray<=1000000:=cL (Array.foldl_toList ..) (U (IX ..) ((Nat.zero_mul _).symm▸(oB _).symm▸hz))
theorem IY {a:List (Array UInt8×Tok)} (hz:(a.map λp=>p.1.size).sum<=1000000) (b:(kJ #[] (a.map (·.1))).toList=(a.map λp=>p.1.toList).flatten):(kJ #[] (a.map (·.1))).size<=jr:=by
 have h1:=congrArg fW b;rw [aN,List.length_flatten,jI] at h1;exact aI (h1▸(show(sR (fW∘λp=>p.1.toList) a)=a.map λp=>p.1.size from nJ λp c=>aN)▸hz) bw
theorem join_loop {items} {st} (c:List (Array UInt8×Tok)) (g:s.heap.get? a=O {cls:= .type "list",data:= .seq items ep}) (hi:items.toList=c.map λp=>iS p.1 p.2) (hz:(c.map λp=>p.1.size).sum<=1000000)
 {Q:Value->Shared->Prop} (q:∀b t k,b.toList=(c.map λp=>p.1.toList).flatten->Q (.bytes b t) {s with toks:=k}):
 wpAny (model prog ww) A (Builtin.«bytes.join» ⟨[.bytes #[] st,.ref a],[]⟩) (λh s'=>∃v,h= .done (.ret v)/\Q v s') E s:=by
 refine bq (gb (a:=(iS #[] st,gu a)) rfl) ?_;have j:items=(c.map λp=>iS p.1 p.2).toArray:=cL hi rfl;have e:(Builtin.Bytes.Kind.bytes==Builtin.Bytes.Kind.bytearray)=false:=rfl;refine au (bq (jd (bV _ g rfl)) (av (bq (dz g rfl) ?_)));dsimp only;refine Zc rfl ?_;have d:items.size=c.length:=U j (eL ..);by_cases h1:items.size=1
 .exact fF (List.length_eq_one_iff.mp (d.symm.trans h1)) λp hp=>U j (U hp (bq (jd (kg s p.1 p.2)) (au (fm (av (bV _ rfl (q _ _ s.toks (by refine U hp ?_;simp))))))))
 refine U (O5 h1) (au (count_loop (λi=>(((c.take i).map (·.1)).toArray,(c.take i).map λp=>(iS p.1 p.2,aq))) (λx l Q q=> ?_) ?_))
 .refine bq (dz g rfl) ?_;have f:=Nat.lt_of_lt_of_eq l d;have hx:items.getD x .none= .bytes c[x].1 c[x].2:=by
   refine U (Array.getD_eq_getD_getElem?) (U j ?_);simp [f]
  dsimp only;rw [e,if_neg (by refine U (O4 ..) ?_;exact ne_true_of_eq_false e),hx];refine au (bP (CL (bq (dz g rfl) ?_)));dsimp only;exact NQ (by simp) (av (U (takes f) q))
 .refine U d (U List.take_length (bq (gb (a:=(#[]:Array UInt8)) rfl) (NQ (by unfold Builtin.Bytes.tooLong;refine U decide_eq_true_eq ?_;exact bC.mpr (aI (Ma hz) bw)) ?_)));have m:(kJ #[] (c.map (·.1))).toList=(c.map λp=>p.1.toList).flatten:=U (FQ ..) (U jI rfl);refine au (wpAny_mkBytes ?_ (IY hz m));exact au (bP (vI (au (O3 c _ (av (bV _ rfl (q _ _ _ m)))))))
theorem Bt t v l:Dh t (v::l)=af aq (aA aq (λr=>O (app v.l r)) (Dh t l)) (ak v.t t):=rfl
theorem FT:∀{ys} {m},eg X g w n l ys->Dh 4 l=O m->
 ∃a:List (Array UInt8×Tok),ys=a.map (λp=>iS p.1 p.2)/\((a.map λp=>p.1.toList).flatten).map bS=m:=by
 induction l with
 |nil=>
  intro ys m h e;injection e with e;subst e
  exact bV [] h.nil_of rfl
 |cons v l c=>
  intro ys m h e;refine vQ h.cons_of λy d hy hv hl=> ?_;rw [Bt] at e;refine aC (dH e) λe f=>aK (nT e) λr e i=>dN (c hl i) λa hb h2=> ?_;injection e with e;subst e
  obtain⟨j,t,ht,b,_⟩:=hv.jN (aH f);exact bV ((j,t)::a) (U hy (U hb (U ht rfl))) (U (mL ..) (cL h2 (U b kc)))
theorem IZ:∀{ys} {m},eg X g w n l ys->Dh 3 l=O m->
 ∃a:List (List Nat×Tok),ys=strValues (a.map λp=>(⟨p.1.toArray⟩,p.2))/\(a.map eG).flatten=m:=by
 induction l with
 |nil=>
  intro ys m h e;injection e with e;subst e
  exact bV [] h.nil_of rfl
 |cons v l b=>
  intro ys m h e;refine vQ h.cons_of λy c hy hv hl=> ?_;rw [Bt] at e;refine aC (dH e) λe d=>aK (nT e) λr e f=>dN (b hl f) λa hb h2=> ?_;injection e with e;subst e
  exact dN (hv.qc (aH d)) λt ht i=>bV ((v.l,t)::a) (U hy (U hb (U ht rfl))) (U (mL ..) (cL h2 rfl))
theorem index_loop {n m} {f:Nat->σ->Sem (ForInStep σ)} {dn:dD->σ} {items:Array Value} (Yv:eg X g w n xs items.toList) (a3:qA 3 xs=H)
 (body:∀i r y {Q},items[i]? =O y->wpAny (model prog ww) A (eqBool y (.str ⟨x.l.toArray⟩ tk)) (λc s'=>af (Q (.yield r0) s') (wpAny (model prog ww) A (retInt (i:Int)) (λz=>Q (.done (dn z))) E s') c) E s->wpAny (model prog ww) A (f i r) Q E s)
 (fin:R (dn (.done (.ret (.int (m:Int) s.toks)))) {s with toks:=s.toks+1}) l:∀i r,xs.drop i=l->EV x l i=O m->wpAny (model prog ww) A (forIn (List.range' i l.length) r f) R E s:=by
 induction l with
 |nil=>exact λi r hd e=>fn e
 |cons u l ih=>
  intro i r hd e;have hu:=(List.head?_drop ..).symm.trans (congrArg List.head? hd);refine aK (Yv.get hu) λy hv hy=>U iJ (U xS (U (dO ..) (au (body i r y ((bx ..).symm.trans hy) ?_))));refine dN (hv.qc (zF a3 u (cW hu))) λty hq u_=>U hq (wpAny_eqBool_str (U ((decide_eq_decide.mpr ⟨λq=>congrArg (λs:Str=>s.cps.toList) q,λq=>congrArg (λl:List Nat=>(⟨l.toArray⟩:Str)) q⟩).trans (tO u.l x.l).symm) ?_));revert e;refine(?_:(af (EV x l (i+1)) (O i) (qv u.l x.l):Option Nat)=O m->_)
  induction qv u.l x.l using zB with
  |true=>exact λe=>au (wpAny_mkInt (av (av ((aF e).symm▸fin))))
  |false=>exact λe=>ih (i+1) _ (cL sU (U hd rfl)) e
theorem Mb (ax:bu X):xg X b "index" ⟨EX,λt=>ak t 5⟩:=by
 intro t ht;refine U (aH ht) (yC (.inr (.inr rfl)) ("tuple.index") ⟨F.plainAttrs_tuple,F.slot_tuple_index,F.type_tuple_index⟩ (λA n hA w h s hs ov y hv h5 vs ys hvs k res e₀ Q hQ=> ?_));refine dN (eE e₀) λx oG=> ?_;subst oG;intro e;refine dN hvs.one λz oG=> ?_;subst oG;intro hz;refine aC (dH e) λe u_=>aC (dH e) λe x3=>aC (dH e) λe a3=>dN (bB e) λm hm e9=>Zd (hv.ia h5) λt items ep q1 u_ u_ hg u_ Yv=>dN (hz.qc (aH x3)) λtk q2 u_=>U q1 (U q2 (bH F.slot_tuple_index (bV _ hg rfl) F.entry_tuple_index ?_ (F.args_tuple_index_2 _ _)));refine bq (gb (a:=(gu t,[Value.str ⟨x.l.toArray⟩ tk])) rfl) (au (au (dz hg rfl (av ?_))));dsimp only;refine au (av (bp (U (iL ..) (U (show([0:min items.size items.size]:Std.Legacy.Range).size=ov.xs.length from(by simp [oj]:_=items.size).trans Yv.length.symm) (au (index_loop (tk:=tk) (r0:=(aq,())) (dn:=λz=>(O z,())) Yv a3 (λi r y {Q} hy h=> ?_) ?_ ov.xs 0 _ rfl hm))))))
 .refine U hy (au (f5 h (λc s' q=> ?_) λu_ u_ q=>q))
  induction c using zB with
  |true=>exact au (f5 q (λz s'' h=>av h) λu_ u_ q=>q)
  |false=>exact av q
 .exact aC (hs.i9 ax (h':=s.heap) (tk:=s.toks+1) (br _) λu_ u_ q=>q) λb2 b1=>av (bV _ rfl (hQ w h _ _ _ b1 b2 (.nat _ _) e9))
theorem I0 (a:List (List Nat×Tok)):Builtin.Str.glued (⟨([]:List Nat).toArray⟩:Str) ((a.map λp=>((⟨p.1.toArray⟩:Str),p.2)).map (·.1))=⟨((a.map eG).flatten).toArray⟩:=by
 have b:∀(l:List (List Nat×Tok)) acc,(((l.map λp=>((⟨p.1.toArray⟩:Str),p.2)).map (·.1)).foldl (λacc p=>acc++(⟨([]:List Nat).toArray⟩:Str).cps++p.cps) acc)=acc++((l.map eG).flatten).toArray:=by
  intro l
  induction l with
  |nil=>intro acc;exact rfl
  |cons p l c=>intro acc;simp only [dI,List.foldl_cons];refine U (c ..) ?_;simp
 induction a using zL with
 |nil=>rfl
 |cons p l=>
  refine(?_:(⟨_⟩:Str)=⟨_⟩);congr 1;refine(b l p.1.toArray).trans ?_;simp
theorem Mc (l:List (List Nat×Tok)) n:List.foldl (λa b=>a+b.length+(⟨([]:List Nat).toArray⟩:Str).length) n ((l.map λp=>((⟨p.1.toArray⟩:Str),p.2)).map (·.1))=n+((l.map eG).flatten).length:=by
 induction l generalizing n with
 |nil=>rfl
 |cons p l c=>exact(c _).trans ((j8 n p.1.length _).trans (congrArg (n+ ·) (cY ..).symm))
theorem O6 (ax:bu X):xg X b "join" ⟨Gs,λt=>af (ak t 4) H (ak t 3)⟩:=by
 intro t ht;have two:t=3\/t=4:=by
  induction h3:ak t 3 using zB with
  |true=>exact .inl (aH h3)
  |false=>
   have ht:(af (ak t 4) H (ak t 3):Bool)=true:=ht;rw [h3] at ht;exact .inr (aH ht)
 have sp:∀{i x:V} {vs} {h} {k} {res},Gs i vs h k=O res->∃x,vs=[x]/\i.l=[]/\∃o,h.l.get x.n=O o/\ak x.t 6=H/\ak o.t 1=H/\(af (af aq (lift (Dh 4 o.xs) h λs h=>kB s h k) (ak i.t 4)) (lift (Dh 3 o.xs) h λs h=>kS s h k) (ak i.t 3):Option Res)=O res:=by
  intro i _ vs h k res c;refine dN (eE c) λx d=> ?_;subst d;intro e;refine aC (dH e) λe hn=>gR (fS e) λo e v6 D t1=> ?_;have f:i.l=[]:=by
   induction hl:i.l using zL with
   |nil=>rfl
   |cons a l=>rw [hl] at hn;exact ff hn
  exact⟨x,rfl,f,o,D,by refine U v6 ?_;rfl,by refine U t1 ?_;rfl,e⟩
 rcases two with rfl|rfl
 .refine yC (.inl rfl) ("str.join") ⟨F.plainAttrs_str,F.slot_str_join,F.type_str_join⟩ (λA n hA w h s G i y hv I vs ys r k res c Q J=> ?_);obtain⟨x,rfl,f,o,D,K,L,e⟩:=sp (x:=i) c;refine dN r.one λz d=> ?_;subst d;intro hz;clear c;refine gc (hz.eB (aH K)) λd=> ?_;subst d;intro lv;refine sV (G.listAt D (aH L)) λitems ep B hn j hr=>dN (hv.qc I) λtk M C=>U M (U f ?_)
  .rw [I] at e;refine dN (bB e) λm hm e=>gc (dH e) λhz e=> ?_;have hz:=aB hz;rw [len_eq] at hz;refine dN (IZ j hm) λu v g=>call_meets F.slot_str_join (typeIs_str s (⟨([]:List Nat).toArray⟩:Str) tk) F.entry_str_join (F.args_str_join_2 _ _) (meets_str_join_list ⟨([]:List Nat).toArray⟩ tk _ (u.map λp=>(⟨p.1.toArray⟩,p.2)) ?_) ⟨(gf _ B rfl ep (by exact cL v rfl)), ?_⟩
   .exact cL (Array.foldl_toList ..) (U (Mc u 0) (U g (decide_eq_false (bC.mpr (aI ((oB _).symm▸hz) bw)))))
   .have B:(Txt.join (⟨([]:List Nat).toArray⟩:Str) ((u.map λp=>((⟨p.1.toArray⟩:Str),p.2)).map (·.1)))=⟨m.toArray⟩:=by
     refine cL g ?_;exact I0 _
    refine post_join _ ⟨?_,λt' P=> ?_⟩
    .refine U B ((?_:m.toArray.size<=jr));exact aI hz bw
    .exact U B (aC (G.i9 ax (h':=s.heap) (tk:=P) (br _) λC C q=>q) λR S=>J w h _ (vStr m) _ S R (.str m t' hz) e)
 .refine yC (.inr (.inl rfl)) ("bytes.join") ⟨AY,vd,CK⟩ (λA n hA w h s G i y hv I vs ys r k res c Q J=> ?_);obtain⟨x,rfl,f,o,D,K,L,e⟩:=sp (x:=i) c;refine dN r.one λz d=> ?_;subst d;intro hz;clear c;refine gc (hz.eB (aH K)) λd=> ?_;subst d;intro lv;refine sV (G.listAt D (aH L)) λitems ep B hn j hr=>vQ (hv.jN I) λll tk M q2 C=>U M (U (Array.toList_eq_nil_iff.mp (List.map_eq_nil_iff.mp (q2.symm.trans f))) ?_)
  .rw [I] at e;refine dN (bB e) λm hm e=>gc (uR e) λhz e=>aK (FT j hm) λu g v=>bH vd (kg s #[] tk) AZ ?_ (CJ _ _);refine join_loop u B v ?_ λb t P hb=> ?_
   .rw [<-g,eL,List.length_flatten,jI] at hz;have h2:(sR (fW∘λp=>p.1.toList) u)=u.map λp=>p.1.size:=nJ λp C=>aN;rw [h2] at hz;exact hz
   .refine aC (G.i9 ax (h':=s.heap) (tk:=P) (br _) λC C q=>q) λR S=> ?_;have hbz:b.size<=1000000:=by
     rw [<-g,<-hb,eL,aN] at hz;exact hz
    refine J w h _ (fq m) _ S R ?_ e;exact cL g (cL hb (.bytes b t hbz))
end
set_option backward.match.sparseCases false
noncomputable abbrev Yw (h:Heap) (t:Addr):Heap:=h.push {cls:= .type "tuple_iterator",data:= .fields #[.ref t,.int 0 0]}
abbrev Yx (h:Heap) (t l:Addr):Heap:=(Yw h t).push {cls:= .type "list_iterator",data:= .fields #[.ref l,.int 0 0]}
abbrev Yy (h:Heap) (t l:Addr):Heap:=(Yx h t l).push {cls:= .type "tuple",data:= .seq #[.ref h.objs.size,.ref (Yw h t).objs.size]}
abbrev Yz (h:Heap) (t l:Addr):Heap:=(Yy h t l).push {cls:= .type "tuple",data:= .seq #[.none,.none]}
abbrev WE (h:Heap) (t l:Addr):Heap:=(Yz h t l).push {cls:= .type "zip",data:= .fields #[.none,.bool aj,.bool aj,.ref (Yx h t l).objs.size,.ref (Yy h t l).objs.size]}
theorem CM (t l:Addr) (xs ys:Array Value):
 Meets (Builtin.«zip.__new__» ⟨[.type "zip",.ref t,.ref l],[]⟩) (λi R s=>s.heap.IsTuple t xs/\s.heap.IsList l ys/\R (.ok (.ret (.ref (Yz s.heap t l).objs.size))) {s with heap:=WE s.heap t l}):=
 .of_wp λprog w A R s h=>by
  obtain⟨hp,g,d,tk,os⟩:=s;refine iO h λh a b=> ?_;have f:=sub_zip;have c:Heap.IsTuple (fU ⟨hp,g,d,tk,os⟩) t xs:=a;have e:Heap.IsList (fU ⟨hp.push {cls:= .type "tuple_iterator",data:= .fields #[.ref t,.int 0 0]},g,d,tk,os⟩) l ys:=Heap.IsList.push b _;wp_walk using lI c,iH e;exact bV _ rfl h
section
variable {prog:Program} {ww:World} {A:Around} {E:Value->Shared->Prop} {s:Shared}
theorem En {xs ys} (a:s.heap.IsTuple t xs) (b:s.heap.IsList l ys)
 (h:∀h',lT h' (s.heap.objs.size+4) (s.heap.objs.size+2) (s.heap.objs.size+3) .none (.bool aj)->IsPair h' (s.heap.objs.size+2) (.ref s.heap.objs.size) (.ref (s.heap.objs.size+1))->
  IsPair h' (s.heap.objs.size+3) .none .none->h'.IsTupleIter s.heap.objs.size t 0->h'.IsListIter (s.heap.objs.size+1) l 0->h'.objs.size=s.heap.objs.size+5->
  (∀c o,s.heap.get? c=O o->h'.get? c=O o)->Q (.ref (s.heap.objs.size+4)) {s with heap:=h'}):
 wpAny (model prog ww) A (call (.type "zip") [.ref t,.ref l]) Q E s:=by
 refine callType_new F.called_zip rfl (F.typeCall_zip_2 _ _) (F.newCall_zip_2 _ _) (λobj=>F.args_object_init_3 obj _ _) F.entry_zip_new
  (CM t l xs ys) (iW a b ?_)
 have d:(Yw s.heap t).objs.size=s.heap.objs.size+1:=bI ..;have e:(Yx s.heap t l).objs.size=s.heap.objs.size+2:=U (bI ..) (U d rfl);have f:(Yy s.heap t l).objs.size=s.heap.objs.size+3:=U (bI ..) (U e rfl);have g:(Yz s.heap t l).objs.size=s.heap.objs.size+4:=U (bI ..) (U f rfl);have i:(WE s.heap t l).get? (Yz s.heap t l).objs.size=O _:=aJ _ rfl;have j:(WE s.heap t l).get? (Yy s.heap t l).objs.size=O _:=az _ (aJ _ rfl);have k:(WE s.heap t l).get? (Yx s.heap t l).objs.size=O _:=az _ (az _ (aJ _ rfl));have m:(WE s.heap t l).get? (Yw s.heap t).objs.size=O _:=az _ (az _ (az _ (aJ _ rfl)));rw [e,f,g] at i;rw [d,e] at k;rw [f] at j;rw [d] at m;refine U g ?_;exact⟨(bV _ i rfl),h _ i k j (f9 _ (az _ (az _ (az _ (az _ (aJ _ rfl))))) rfl rfl) (f9 _ m rfl rfl) (U (bI ..) (U g rfl)) λc o x=>
  az _ (az _ (az _ (az _ (az _ x))))⟩
end
section
variable {X:dw} {w:Wd} {h:aev} {s:Shared} {A:Around}
theorem Me (ax:bu X) (htab:∀a∈X.tabs,a<X.h₀.objs.size) (R:St X w h s) (hh:A.handled=aq) {ke:aev->Option Res} {ki:V->V->aev->Option Res}
 (e:(aA aq (λo=>af aq (match o.bs with
  |[c,d]=>aA aq (λq=>af aq (aQ (ke ⟨HT.ins qT h.l i,h.n⟩) (λx r u_=>aA (ke ⟨HT.ins qT h.l i,h.n⟩) (λy=>ki x y ⟨HT.ins (uD r c (aG d 1)) h.l i,h.n⟩) (sW q.xs d)) o.xs) (ak q.t 1)) (HT.get h.l c)
  |_=>aq) (ak o.t 7)) (HT.get h.l i):Option Res)=O res)
 (hn:∀h' s',St X w h' s'->h'.n=h.n->Ext X cT w h.n s w h.n s'->ke h'=O res->Q aq s')
 (hv:∀h' s' x y v,St X w h' s'->h'.n=h.n->Ext X cT w h.n s w h.n s'->VR X s'.heap w h.n (dM [x,y]) v->ki x y h'=O res->Q (O v) s'):wpAny (model X.prog X.w) A (pyNext (.ref (w.ρ i))) Q E s:=by
 refine aK (nT e) λo e ho=>aC (dH e) λe h7=> ?_;have p:w.role s.heap.objs.size=aq/\s.heap.objs.size∉X.tabs:=⟨l9 R (br _),λhm=>absurd (htab _ hm) (bC.mpr R.size)⟩
 induction (R.rep i o ho).2 using Mine.Rep.casesOn with
 |HQ xs j2 L TI TO i1 i2 t items ep m aa bb v f M r1 S r3 r4 D hj hz h1 h2 ht hg h3 u h4 Yr=>
  refine aK (nT e) λq e hq=>aC (dH e) λe q1=>sV (R.listAt hq (aH q1)) λys KA KN hn2 B S6=> ?_;rw [mO] at e;have G:∀{c},w.role c=O i->t≠c:=λj q=>by have:=ht.1;rw [q,j] at this;exact sn this
  have I:∀{c},w.role c=O i->w.ρ j2≠c:=λj q=>hj.2 (aF (S6.symm.trans (q▸j)));have g:∀{c d} {oc od},s.heap.get? c=O oc->s.heap.get? d=O od->oc.cls≠od.cls->c≠d:=λec ed hne q=>by subst q;injection ec.symm.trans ed with hq;subst hq;exact hne rfl
  refine cG (id h3) λo3 d3 e3 c3=>cG (id h4) λo4 d4 e4 c4=> ?_;have n1:cU "list_iterator"≠cU "zip":=by decide
  have n2:cU "tuple"≠cU "list_iterator":=by decide
  have n3:cU "tuple_iterator"≠cU "zip":=by decide
  have n4:cU "tuple"≠cU "tuple_iterator":=by decide
  have J:ZipApart (w.ρ i) TI TO i1 i2 t (w.ρ j2):=⟨D.2.1,D.2.2.1,g e3 hz (U c3 n3),g e4 hz (U c4 n1),D.1,g h1 e3 (U c3 n4),g h1 e4 (U c4 n2),g h2 e3 (U c3 n4),g h2 e4 (U c4 n2),D.2.2.2,
   G M,G S,G r3,G r4,I M,I S,I r3,I r4⟩
  have hT:s.TypeIs (.ref (w.ρ i)) "zip":=bV _ hz rfl;have hf:L3 s.heap v f:=by
   rcases Yr with⟨rfl,rfl⟩|⟨T,fb,its,Vg,rfl,rfl,t1,t2,t3⟩
   .exact .free
   .exact .kept T fb _ t3
  refine bW (au (qJ (dW (name:=bX "__next__") hT F.slot_zip_next
   (bH F.slot_zip_next hT F.entry_zip_next (L4 (Q:=λfin s'=>∃v,fin= .done (.ret v)/\wpAny (model X.prog X.w) A (pure (O v)) (λa s'=>s.heap.objs.size<=s'.heap.objs.size->Q a s') E s') J (O1 (prog:=X.prog) (ww:=X.w) (A:=A.in1) hh J.l1i1 m items) (L2 (prog:=X.prog) (ww:=X.w) (A:=A.in1) hh J.l2i2 L ys) hz hf h1 h2 ⟨h3,_,hg,rfl,_,rfl⟩ ⟨h4,_,KN,rfl,_,rfl⟩ (λh' xv yv w' g' a' b' ex ey z1 zw zTO z3 z4 z5 z6 z7=>bV _ rfl (av λC=> ?_)) λh' e' hk he hend=> ?_) (F.args_zip_next_1 _)))))
  .induction xs using zL with
   |nil=>
    exact absurd ((jG ..).symm.trans u.length.symm) (iA (xG (fN.mp ex).1))
   |cons x r=>
    induction z:q.xs[L]? using zO with
    |none=>have:=B.get_none z;rw [bx,ey] at this;exact sn this
    |some y=>
     have e:(aA (ke ⟨HT.ins qT h.l i,h.n⟩) (λy=>ki x y ⟨HT.ins (uD r j2 (L+1)) h.l i,h.n⟩) (q.xs[L]?):Option Res)=O res:=e;rw [z] at e;refine dN (B.get z) λyv' k vy=> ?_;rw [bx,ey] at k;injection k with k;subst k
     have hdr:items.toList.drop m=xv::items.toList.drop (m+1):=by
      refine U (iu (((fN.mp ex).1))) ?_;have:items.toList[m]? =O xv:=by refine U bx ?_;exact ex
      exact U ((bZ.mp this).2) rfl
     rw [hdr] at u;cases u with
     |cons _ _ _ _ vx hvr=>
      have P:=R.K9 ax ho (s':={s with heap:=h'}) (o':=uD r j2 (L+1)) C
       (λc ob j e=>z7 c ob (λq=>j (q▸M)) (λq=>j (q▸S)) (λq=>j (q▸r3)) (λq=>j (q▸r4)) e) rfl rfl λkk=>by
        refine .HQ r j2 (L+1) TI TO i1 i2 t items ep (m+1) a' b' w' g' M r1 S r3 r4 D hj z1 (z7 _ _ D.2.1 D.1 J.TIi1 J.TIi2 h1) zTO ht (z7 _ _ J.l1z J.l1TO J.l1i1 J.l1i2 hg) z3.1 (hvr.mono kk) z4.1 (.inr ?_);rcases zw with⟨rfl,rfl⟩|⟨T,oT,q1,rfl,rfl,q2⟩
        .exact⟨_,_,_,_,rfl,rfl,p.1,p.2,z5⟩
        .rcases Yr with⟨q3,_⟩|⟨T',fb,its,Vg,q3,_,t1,t2,t3⟩
         .rw [q1] at q3;injection q3
         .have K:∀{c},w.role c=O i->T'≠c:=λj q=>by rw [q,j] at t1;exact sn t1
          exact⟨T',H,its,Vg,q3,rfl,t1,t2,z7 _ _ (K M) (K S) (K r3) (K r4) t3⟩
      exact hv _ _ x y _ P.1 rfl P.2 (.tup _ _ #[xv,yv] 0 p.1 p.2 z5 (of_decide_eq_true rfl) (.cons _ _ _ _ (vx.mono P.2.dX) (.cons _ _ _ _ (vy.mono P.2.dX) .nil))) e
  .refine dN he λoe hoe hce=>au (fL (T:="StopIteration") (b:=H) (bV oe hoe hce) isSubtype_stop (av λC=> ?_));have P:=R.K9 ax ho (s':={s with heap:=h'}) (o':=qT) C (λc ob j e=>hk c ob (λq=>j (q▸M)) (λq=>j (q▸S)) (λq=>j (q▸r3)) (λq=>j (q▸r4)) e) rfl rfl λu_=> .junk M;refine hn _ _ P.1 rfl P.2 ?_
   induction xs using zL with
   |nil=>exact e
   |cons x r=>
    induction z:q.xs[L]? using zO with
    |none=>rw [z] at e;exact e
    |some y=>
     refine dN (B.get z) λyv' k vy=> ?_;rw [bx] at k;rcases hend with q|q
     .exact absurd (u.length.trans ((jG ..).trans (mC (eF.mp q)))) (Nat.succ_ne_zero _)
     .rw [k] at q;exact sn q
 |_=>exact nn (aH h7) rfl
theorem Mf (q:bu X) (b:∀a∈X.tabs,a<X.h₀.objs.size) (C:A.handled=aq) (D:A.units+1<cLine) {R:Shared->Prop}:
 ∀n {h} {s} (j:Nat),St X w h s->B3 (bQ i) k n z h=O res->
  (∀h' s',St X w h' s'->h'.n=h.n->Ext X cT w h.n s w h.n s'->k (bQ i) h'=O res->R s')->
  codeAny (model X.prog X.w) A (.builtin "dict.update.loop" ⟨[.ref (w.ρ i),.ref (w.ρ z),rawInt j,.none],[]⟩) (wants (λr c=>r= .none/\R c) (λt t=>False)) s:=by
 intro n
 induction n with
 |zero=>
  intro h s j u e f;exact fn e
 |succ n F=>
  intro h s j u e f;refine iG rH ((?_:wpAny _ A.in1 (pyNext (.ref (w.ρ z))>>=_) _ _ s));refine au (Me (A:=A.in1) (ke:=λh=>k (bQ i) h) (ki:=λx y h=>Di (bQ i) x y h λt h=>B3 (bQ i) k n z h) q b u C e (λh' s' g d l m=> ?_) λh' s' x y v g d l hv m=> ?_)
  .exact av ⟨rfl,f h' s' g d l m⟩
  .have o:=D;refine au (bP (El q g (d▸hv) (p:=(x,y)) rfl m o j λh2 V G B I J=>(av ⟨plainId_quiet kY _,((?_:codeAny _ _ (.builtin "dict.update.loop" ⟨[.ref (w.ρ i),.ref (w.ρ z),rawInt ((j:Int)+1),.none],[]⟩) _ _))⟩)));exact F (j+1) G J λK L M P Q S=>f K L M ((P.trans B).trans d) (l.trans (d▸I.trans (B▸Q))) S
end
set_option backward.match.sparseCases true
section
variable {X:dw} {r:Ap} {n b:Nat} {ns:List (Str×aM)} {G:Str->Option V}
def RT (a b:XE):XE:=⟨λr ρ h k=>a.f r ρ h λx h=>b.f r ρ h λy h=>af aq (gS y h λu_ h=>new (uD x.xs y.n 0) h k) (ak x.t 5)⟩
theorem cN.ZF (R:bu X) (S:jV X G) (eb:jT G ns 9 fe=H) (l:cN X r n b ns a x) (hc:cN X r n b ns c y) (m:bk x=aj) (p:bk y=aj) pos:cN X r n b ns (RT a c) (.Call fe [x,y] [] pos):=by
 intro A hA env ρ w h s hs he k res e Q hQ;have B:[x,y].any bk=false:=by simp [m,p]
 have e:(dS a (dS c ko)).f r ρ h (λvs h=>match vs with
  |[x,y]=>af aq (gS y h λC h=>new (uD x.xs y.n 0) h k) (ak x.t 5)
  |_=>aq)=O res:=e
 refine qi S eb (.cons m l (.cons p hc .nil)) B hA hs he pos e λD h2 d vs ys L b2 b3 j=> ?_
 .refine HG (wc j) λu v hq j=> ?_;subst hq;cases b3 with
  |cons _ yu _ _ hu q=>
   cases q with
   |cons _ yv _ _ hv q=>
    cases q;refine aC (dH j) λj u5=>gR (fS j) λo2 j v6 E t2=>gc (hv.eB v6) λF=> ?_;subst F;intro I;refine sV (L.listAt E t2) λi2 p2 g2 n2 C C=>aC (dH j) λj C=> ?_
    induction hu using Mine.VR.casesOn with
    |tup xs t items ep q ht M hn J=>
     refine eW<|En (xs:=items) (ys:=i2) (gf _ M rfl _ rfl) (gf _ g2 rfl _ rfl) λh' z1 z2 z3 z4 z5 P z7=> ?_
     obtain⟨c1,c2⟩:=L.new R (o:=uD xs v.n 0) (b:=d.heap.objs.size+4) (own:=λa=>decide (d.heap.objs.size<=a)&&decide (a<d.heap.objs.size+5)) (by simp) (s':={d with heap:=h'}) (U P (d9 (fK (jH (fU d))) 5))
      (λa l=>by
       simp only [aP,decide_eq_true_eq] at l;exact⟨l.1,by show _<h'.objs.size;refine U P ?_;exact l.2⟩) (λa ob e=>z7 a ob e) rfl rfl 0 _ rfl
      (λK q1 z q3=>by
       refine gc (K.fix t _ q ht rfl M) λk1 k2=> ?_;refine .HQ xs v.n 0 (d.heap.objs.size+2) (d.heap.objs.size+3) d.heap.objs.size (d.heap.objs.size+1) t items ep 0 .none .none .none (.bool aj) (U z q1) (by simp) (by simp) (by simp) (by simp) (qN (Z.off_ne (fK (jH (fU d))) 2 3 rfl) (U z (Z.off_ne (fK (jH (fU d))) 2 4 rfl)) (U z (Z.off_ne (fK (jH (fU d))) 3 4 rfl)) (Nat.ne_add_one (fK (jH (fU d)))))
        ⟨cI I,cg I⟩ (U z z1) z2 z3 ⟨k1,ht⟩ k2 z4 (eg.mono K J) (U (K.ρ v.n I) z5) (.inl ⟨rfl,rfl⟩))
     refine hQ _ _ _ (bQ h2.n) _ c1 (b2.trans c2) ?_ j;have:=VR.ref (X:=X) (g:=h') (w:=⟨λi=>if i=h2.n then d.heap.objs.size+4 else D.ρ i,λa=>if(decide (d.heap.objs.size<=a)&&decide (a<d.heap.objs.size+5))=H then O h2.n else D.role a,λi=>if i=h2.n then 0 else D.uh i⟩) (n:=h2.n+1) h2.n (bM _);simpa using this
    |_=>exact nn (aH u5) rfl
theorem cN.yh (B:bu X) (u:∀a∈X.tabs,a<X.h₀.objs.size) (gx:jV X G) (eb:jT G ns 6 g=H) (K:jT G ns 9 g'=H) (L:bk x=aj) (M:bk y=aj) (ha:cN X r n b ns a x) (hc:cN X r n b ns c y) (p p'):
 cN X r n b ns (yM a c) (.Call g [.Call g' [x,y] [] p'] [] p):=by
 intro A C env ρ w h s hs he k res e Q hQ;have e:(dS (RT a c) ko).f r ρ h (λvs h=>match vs with
  |[z]=>look z h λo h=>af aq (new (d7 [] 0) h λacc h=>B3 acc k 2000 z.n h) (ak o.t 7)
  |_=>aq)=O res:=e
 refine qi gx eb (.cons rfl (cN.ZF B gx K ha hc L M p') .nil) rfl C hs he p e λE h2 q vs ys b1 b2 b3 d=> ?_
 .refine dN (tM d) λz hq d=> ?_;subst hq;refine dN b3.one λyz i=> ?_;subst i;intro hz;refine dF (dg d) λo d z6 ho=>aC (dH d) λd o5=>gc (hz.eB z6) λi=> ?_;subst i;intro lz;refine eW ((?_:wpAny _ _ (PySem.call (.type "dict") _) _ _ _));obtain⟨P,f0,I,J,R⟩:∃P f0 I J,lT q.heap (E.ρ z.n) I J P f0:=by
   induction (b1.rep z.n o ho).2 using Mine.Rep.casesOn with
   |HQ xs j2 k2 I J i1 i2 t items ep m a b v f hr r1 r2 r3 r4 D hj hz=>exact⟨_,_,_,_,hz⟩
   |_=>exact nn (aH o5) rfl
  refine zT (jB (b1.push B (cH #[] 0) (d7 [] 0) q.toks rfl 0 λw' k h1 h2 h3=> .dict [] #[] 0 h1 h2 (of_decide_eq_true rfl) ⟨.nil,⟨0,λp hp=>(aU hp).elim⟩,iI⟩ 0 (U h3 rfl)) λw' a1 a2 a3=> ?_);have j:lT (q.heap.push (cH #[] 0)) (E.ρ z.n) I J P f0:=az _ R;have S:iz {q with heap:=q.heap.push (cH #[] 0)} (.ref (E.ρ z.n)) "zip":=bV _ j rfl;refine au (jd S (au (bW (L1 (A:=A.in1.in1) j C.handled λh' tk hk hsz=>(aC (a1.i9 B (h':=h') (tk:=tk) hsz hk) λc2 c1=>tH rfl (au (fm ?_)))))));have l:iz {q with heap:=h',toks:=tk} (.ref (E.ρ z.n)) "zip":=bV _ (hk _ _ j) rfl;refine au (wpAny_pyIter_slot l F.slot_zip_iter (bH F.slot_zip_iter l F.entry_zip_iter ?_ (F.args_zip_iter_1 _)));exact av ⟨_,rfl,"zip",_,l,F.slot_zip_next.lookup,(av ⟨plainId_quiet kY _,(cL a3 (cL (a2.ρ _ lz) (Mf (A:=A.in1) B u C.handled (C.c (k:=2) rfl) 2000 0 c1 d λh4 s4 d1 d2 d3 e4=>hQ w' h4 s4 (bQ h2.n) _ d1 (b2.trans (d2▸a2.trans (c2.trans d3))) (.ref h2.n (U d2 (bM _))) e4)))⟩)⟩
end
section
variable {prog:Program} {ww:World} {A:Around} {E:Value->Shared->Prop} {s:Shared}
noncomputable abbrev iR (led:Bool):Obj:={cls:= .type "set",data:= .set #[] 0 (.fresh 0 0 led)}
theorem Mg {items} (f:s.heap.get? t=O {cls:= .type "tuple",data:= .seq items ep}) (hi:∀x∈items.toList,∃i k,x=gO i k) (q:Q H s):wpAny (model prog ww) A (hashByValue 8 (.ref t)) Q E s:=by
 refine bq (bU (bV _ f rfl) F.slot_tuple_hash.lookup) (bq (dz f rfl) ?_);dsimp only [Option.getD];refine cL Array.forIn_toList ?_;have d:∀(l:List Value) r,(∀x∈l,∃i k,x=gO i k)->r.1=aq->wpAny (model prog ww) A (forIn l r λx _=>(do
  let a<-hashByValue 7 x
  if(!a)=H then pure (ForInStep.done (O aj,())) else pure (dK (aq,())):Sem (ForInStep (Option Bool×Unit)))) (λb s'=>b.1=aq/\s'=s) E s:=by
  intro l
  induction l with
  |nil=>intro r _ g;refine U jz ?_;exact av ⟨g,rfl⟩
  |cons x l h=>
   intro r hl g;refine U (dO ..) ?_;refine Sk (hl x (aE ..)) λi k c=> ?_;subst c;exact au (bp (av (h _ (λy hy=>hl y (aD _ hy)) rfl)))
 refine au (f5 (d items.toList (aq,()) hi rfl) (λb s' hb=> ?_) λj j e=>e);refine aC hb λc=> ?_;subst c;intro hb;exact U hb (av q)
theorem I1 {items} (a:s.heap.get? S=O (iR led)) (e:s.heap.get? t=O {cls:= .type "tuple",data:= .seq items ep}) (hi:∀x∈items.toList,∃i k,x=gO i k)
 (q:∀h' b d n,h'.get? S=O {cls:= .type "set",data:= .set b n d}->b.size=1->d.fits b.size=H->gk S s.heap h'->Q H {s with heap:=h'}):wpAny (model prog ww) A (setAddHashed S (.ref t) hh) Q E s:=by
 refine bP (au (AA a rfl rfl (au ((?_:wpAny _ _ (setState S>>=_) _ _ _)))));refine bq (AA a rfl rfl) ?_;dsimp only;have c:(SetTable.fresh 0 0 led).gaveWay=false:=by simp [SetTable.gaveWay,SetTable.fresh]
 refine U c (NI (av (bq (AA a rfl rfl) (bq (Mg e hi) (au (wpAny_storeSet_of a rfl ?_ (by show(1:Nat)<=jr;exact fit_le rfl)))))));exact av (q _ _ _ _ (bD _ a rfl) rfl rfl (gm ..))
end
section
variable {prog:Program} {ww:World} {A:Around} {E:Value->Shared->Prop} {s:Shared}
theorem CN {l:Addr} {x:Value} {j:Nat} {Q:Value->Shared->Prop} (hA:A.handled=aq) (hl:s.heap.get? l=O {cls:= .type "list",data:= .seq #[x] j})
 (hx:∀{A':Around} {E':Value->Shared->Prop} {s':Shared} {Q':Bool->Shared->Prop} {S:Addr} {a:Bool},A'.units=A.units+3->(∀b o,s.heap.get? b=O o->s'.heap.get? b=O o)->s'.heap.get? S=O (iR a)->
  (∀h' tk f g n,h'.get? S=O {cls:= .type "set",data:= .set f n g}->f.size=1->g.fits f.size=H->gk S s'.heap h'->Q' H {s' with heap:=h',toks:=tk})->wpAny (model prog ww) A' (setAdd S x) Q' E' s')
 (h:∀(h':Heap) (tk:Nat) f g n,h'.get? s.heap.objs.size=O {cls:= .type "set",data:= .set f n g}->f.size=1->g.fits f.size=H->(∀b o,s.heap.get? b=O o->h'.get? b=O o)->Q (.ref s.heap.objs.size) {s with heap:=h',toks:=tk}):
 wpAny (model prog ww) A (call (.type "set") [.ref l]) Q E s:=by
 refine Sk jS.mro λc tl acM=> ?_;have C:=jS.made;have hsub:=jS.sub;refine wpAny_call (codeAny_of_tree ?_);refine(?_:wpAny _ _ (callAny (.type "set") _) _ _ _);refine av ⟨vD _ (by decide+kernel),iG F.entry_type_call ?_⟩;refine U (Around.under_plain (weight_type_call_type "set" [.ref l] []) rfl) ?_;have h1:=jS.notType;have hct:=F.typeCall_set_1 (.ref l)
 repeat (any_goals (first|assumption|with_reducible exact jS.canCreate|wp_step))
 refine codeAny_mono (code_set_new_1 (.ref l) (E:=E) (Q₁:=λobj m=>∃a:Bool,obj= .ref s.heap.objs.size/\m={s with heap:=s.heap.push (iR a)}) λa=>bV a rfl rfl) λr m D=> ?_;rcases r with e|(_|_|_|obj)<;>first|exact D|exact D.elim|skip
 refine dN D λa I J=> ?_;subst I;subst J;have hS:(s.heap.push (iR a)).get? s.heap.objs.size=O (iR a):=aJ _ rfl;have hT:iz {s with heap:=s.heap.push (iR a)} (.ref s.heap.objs.size) "set":=bV _ hS rfl;have hli:=jS.init.lookup;have hbi:=jS.init.bind (.ref s.heap.objs.size)
 repeat (any_goals (first|assumption|wp_step))
 refine codeAny_mono (codeAny_call_builtin (R:=wants (λr p=>r= .none/\∃h' tk f g n,p={s with heap:=h',toks:=tk}/\h'.get? s.heap.objs.size=O {cls:= .type "set",data:= .set f n g}/\f.size=1/\g.fits f.size=H/\(∀b o,s.heap.get? b=O o->h'.get? b=O o)) E) jS.init.plain F.entry_set_init (check_set_init_1 hT ?_)) λt p d=> ?_
 .have u:(s.heap.push (iR a)).get? l=O {cls:= .type "list",data:= .seq #[x] j}:=az _ hl;have acN:=F.sub_list_set;have acO:=F.sub_list_frozenset;have hne:(cU "list"==cU "dict")=false:=by decide
  have v:(s.heap.push (iR a)).IsList l #[x]:=gf _ u rfl j rfl;unfold Builtin.«set.__init__» noKeywords Builtin.Frozenset.updateFrom;generalize K:pyIter=PI;wp_walk;subst K;refine iH v ?_;refine au (wpAny_runValue ?_);have w:l<s.heap.objs.size:=bh hl;refine iG p5 ?_;refine U (jq i8 _) ?_;have L:s.heap.objs.size≠l:=iA w;have k:(s.heap.push (iR a)).objs.size=s.heap.objs.size+1:=bI ..;refine(?_:wpAny _ A.in1.in1.in1 (pyNext (.ref (s.heap.push (iR a)).objs.size)>>=_) _ _ _);refine au (wpAny_pyNext_list_item (l:=l) (i:=0) (items:= #[x]) (x:=x) (f9 _ (aJ _ rfl) rfl rfl) (v.push _) rfl λh1 y z=> ?_);have q:(s.heap.push (iR a)).objs.size≠s.heap.objs.size:=by refine U k ?_;exact Nat.succ_ne_self _
  have hIl:(s.heap.push (iR a)).objs.size≠l:=by refine U k ?_;exact iA (cI w)
  have M:∀b o,s.heap.get? b=O o->h1.get? b=O o:=λb o e=>z.extBut b o (by refine U k ?_;exact cg (cI (bh e))) (az _ (az _ e));have P:h1.get? s.heap.objs.size=O (iR a):=z.extBut _ _ q.symm (az _ hS);refine au (bP (hx rfl M P λh2 tk f g n b1 b2 b3 b4=> ?_));refine av ⟨plainId_quiet i8 _, ?_⟩;refine iG p5 ?_;refine U (jq i8 _) ?_;have B:h2.IsListIter (s.heap.push (iR a)).objs.size l 1:=y.at λo e=>b4.extBut _ o q e;have hl2:h2.IsList l #[x]:=gf _ (b4.extBut _ _ L.symm (M _ _ hl)) rfl j rfl;refine au (wpAny_pyNext_list_end (l:=l) (i:=1) (items:= #[x]) hA B hl2 rfl λh3 he=> ?_);refine av ?_;refine(?_:wpAny _ _ _ _ _ _);refine av ?_;refine(?_:wpAny _ _ (ret dY) _ _ _);refine av ⟨rfl,h3,tk,f,g,n,rfl,he _ _ q.symm b1,b2,b3,λb o e=>he b o ?_ (b4.extBut b o (cg (bh e)) (M b o e))⟩;refine U k ?_;exact cg (cI (bh e))
 .rcases t with e|(_|_|_|r)<;>first|exact d|exact d.elim|skip
  obtain⟨rfl,h',tk,f,g,n,rfl,a1,a2,a3,a4⟩:=d
  repeat (any_goals (first|assumption|wp_step))
  exact h _ _ _ _ _ a1 a2 a3 a4
end
section
variable {X:dw} {r:Ap} {n b:Nat} {ns:List (Str×aM)} {G:Str->Option V}
theorem O7 (hz:VR X s.heap w N u z) (l:ak u.t 5=H) (o:allInts u.xs=H) (hu:A.units<cLine) (v:s.heap.get? S=O (iR led))
 (q:∀h' tk c h n,h'.get? S=O {cls:= .type "set",data:= .set c n h}->c.size=1->h.fits c.size=H->gk S s.heap h'->Q H {s with heap:=h',toks:=tk}):wpAny (model X.prog X.w) A (setAdd S z) Q E s:=by
 have hk:isKey u=true:=by unfold isKey;refine U (aH l) ?_;exact o
 unfold setAdd;refine bP (fF (x9 hz hk) λd B=>au (B s.toks hu ?_));obtain⟨a,C,D,rfl,_,_,i,_,f⟩:=hz.ia (aH l);refine I1 (s:={s with toks:=s.toks+d}) v i (λx hx=> ?_) λh' c h m F I J K=>q h' _ c h m F I J K;refine fF (List.mem_iff_getElem?.mp hx) λj p=> ?_;have g:=f.length▸(bZ.mp p).1;refine aK (f.get (bA g)) λy k hy=> ?_;exact fF (k.cO (U (j5 o _ (mu g)) rfl)) λtk e=>Ve _ _ ((aF (p.symm.trans hy)).trans e)
theorem cN.Cx (ax:bu X) (gx:jV X G) {g J:Expr} (eb:jT G ns 0 g=H) (M:jT G ns 7 J=H) {a:XE} {x:Expr} (B:bk x=aj) (ha:cN X r n b ns a x) (p K:Pos):cN X r n b ns (B0 a) (.Call g [.Call J [x] [] K] [] p):=by
 intro A L env ρ w h s hs he k res e Q hQ;have e:(dS a ko).f r ρ h (λvs h=>match vs with
  |[v]=>gS v h λl h=>with1 l λv=>af aq (af aq (k (aW 1) h) (allInts v.xs)) (ak v.t 5)
  |_=>aq)=O res:=e
 refine U (D4 (GS eb)) (ay (Lw gx eb L hs he λw1 s1 a1 a2=> ?_));have hp:=lO (env:=env) (pos:=p) (xs:=[Expr.Call J [x] [] K]) rfl;refine pQ hp (mj hp ((?_:cC _ _ (eval (.Call J [x] [] K) env>>=λv=>pure [v]>>=λi=>holding i (spliced (backTo p (starEach [] env)))>>=λr=>pure (i++r)) _ _ _)));refine ay ?_;have P:[x].any bk=false:=by simp [B]
 refine qi gx M (.cons B ha .nil) P L a1 (he.ext a2) K e λw2 h2 s2 vs ys b1 b2 b3 d=>dN (tM d) λv j=> ?_;subst j;intro d;refine dN b3.one λy j=> ?_;subst j;intro hv;refine gR (fS d) λo d v6 ho t1=>aK (eE d) λu d hu=>aC (dH d) λd u5=>aC (dH d) λd ui=>sV (b1.listAt ho t1) λitems epl hg hn C hr=> ?_;rw [hu] at C;refine dN C.one λz hz R=> ?_;have hit:items= #[z]:=cL (sy (xs:=items)) (U hz rfl);rw [hit] at hg;refine eW (U ((hv.eB v6).1) ((?_:wpAny _ _ (PySem.call (.type "set") [.ref (w2.ρ v.n)]) _ _ _)));refine bW (CN L.handled hg (λ{A' E' s' Q' S led} Zn hk' hS q=>O7 (R.mono ⟨br _,λD D=>rfl,λD D=>rfl,λa o c1 D D c2=>⟨c1,hk' a o c2⟩⟩) u5 ui ?_ hS q) λh' tk es tb m g1 g2 g3 g4 hsz=> ?_)
 .refine U Zn ?_;exact L.c (k:=3) rfl
 .refine aC (b1.i9 ax (h':=h') (tk:=tk) hsz g4) λc2 c1=>ay (aO (ay (bg (aO (aO (⟨tU _ (wz 0) _,eW ?_⟩))))));have I:iz {s2 with heap:=h',toks:=tk} (.ref s2.heap.objs.size) "set":=bV _ g1 rfl;refine xR (n:=1) I F.slot_set_len (λQ' q'=>bH F.slot_set_len I entry_set_len ?_ (F.args_set_len_1 _)) (by decide) (by decide) ?_
  .unfold Builtin.«frozenset.__len__» Builtin.Frozenset.slot0 slotArgs;simp only [List.isEmpty_nil,Bool.not_true,kF,↓reduceIte,bind_assoc,List.length_nil,bne_self_eq_false];unfold Builtin.Frozenset.addrOf Builtin.Frozenset.sizeOf;refine bp ?_
   try dsimp only
   refine bp (au (au (wpAny_setEntries_of g1 rfl g3 (av (U g2 ((?_:wpAny _ _ (retInt _) _ _ _)))))));unfold retInt;exact au (wpAny_mkInt (av (bV _ rfl q')))
  .exact aC (c1.tk ax (tk+1+1)) λd2 d1=>hQ w2 h2 _ (aW 1) _ d1 (a2.trans (b2.trans (c2.trans d2))) (.nat 1 _) d
end
section
variable {prog:Program} {ww:World} {A:Around} {s:Shared}
theorem zU (hh:A.handled=aq) (p:S≠I) (hz:base.length+n<=1000000):
 ∀k i s d acc f,n-i=k->i<=n->vL s.heap I (a+(i:Nat)*c) ((n:Int)-(i:Nat)) c->s.heap.get? S=O {cls:= .type "list",data:= .seq acc f}->acc.toList=base++d->d.length=i->
  (∀(j:Nat) v,d[j]? =O v->∃t,v=gO (a+(j:Int)*c) t)->
  (∀h' tk d g c',(∀b o,b≠S->b≠I->s.heap.get? b=O o->h'.get? b=O o)->h'.get? S=O {cls:= .type "list",data:= .seq g c'}->g.toList=base++d->d.length=n->(∀(j:Nat) v,d[j]? =O v->∃t,v=gO (a+(j:Int)*c) t)->R (.ok (.ret .none)) {s with heap:=h',toks:=tk})->
  codeAny (model prog ww) A (.builtin "list.extend.loop" ⟨[.ref S,.ref I,.none],[]⟩) R s:=by
 have W:=Walks.range (prog:=prog) (w:=ww) (A:=A.in1) hh I a c n;have hbig:=bw;intro k
 induction k with
 |zero=>
  intro i s d acc f hk hi q D h l E J;have L:i=n:=by lia
  subst L;refine iG F.entry_extend_loop ((?_:wpAny _ A.in1 (pyNext (.ref I)>>=_) _ _ s));exact au (W.done s _ _ q λh' tk hm=>(av (J h' tk d acc f (λb o u_ hb e=>hm b o (notIn_one hb) e) (hm S _ (notIn_one p) D) h l E)))
 |succ k ih=>
  intro i s d acc f hk hi q D h l E J;have y:=Nat.lt_of_sub_eq_succ hk;have hsz:acc.size=base.length+i:=cL aN (U h (U cY (U l rfl)));refine iG F.entry_extend_loop ((?_:wpAny _ A.in1 (pyNext (.ref I)>>=_) _ _ s));refine au (W.item i s _ _ y q λv h' tk hv z hm=> ?_);have B:=hm S _ (notIn_one p) D;refine au ?_;refine ly (s:={s with heap:=h',toks:=tk}) B rfl (av ⟨plainId_quiet vP _,ih (i+1) _ (d++[v]) (acc.push v) _ (by lia) y ?_ (bD _ B rfl) ?_ ?_ ?_ λM P x g c' h1 h2 h3 h4 h5=> ?_⟩)
   (by lia) (by show(acc.push v).size<=jr+1;refine U (qE ..) ?_;lia)
  .exact(dG _ _ p).trans z
  .exact U pH (U h (U (List.append_assoc ..) rfl))
  .refine U cY (U l ?_);rfl
  .intro j u m;rcases Nat.lt_or_ge j d.length with hl|hl
   .rw [List.getElem?_append_left hl] at m;exact E j u m
   .rw [List.getElem?_append_right hl] at m;have:j-d.length=0:=by
     have:=(bZ.mp m).1;simp at this;exact this
    rw [this] at m;injection m with m;subst m
    have Q:j=i:=by lia
    refine U Q ?_;exact hv
  .exact J M P x g c' (λb o hb C e=>h1 b o hb C ((dG _ _ (rU hb)).trans (hm b o (notIn_one C) e))) h2 h3 h4 h5
theorem ve (J:A.handled=aq) {items} {n:Nat} (w:s.heap.get? S=O {cls:= .type "list",data:= .seq items c₀}) (y:IsRange s.heap r a b c t u v) (p:p8 a b c=H)
 (hn:cK a b c=n) (hz:items.size+n<=1000000)
 (L:∀h' tk f g c',(∀b o,b≠S->s.heap.get? b=O o->h'.get? b=O o)->h'.get? S=O {cls:= .type "list",data:= .seq g c'}->g.toList=items.toList++f->f.length=n->(∀(j:Nat) v,f[j]? =O v->∃t,v=gO (a+(j:Int)*c) t)->Q .none {s with heap:=h',toks:=tk}):
 wpAny (model prog ww) A (call (.builtin "list.extend") [.ref S,.ref r]) Q E s:=by
 have z:S≠r:=λe=>by rw [e,y] at w;simp at w
 have q:=cg (bh w);refine wpAny_call (codeAny_call_builtin k9.plain F.entry_list_extend (k9.check _ _ _ _ _ _ _ _ (bV _ w rfl) (F.args_list_extend_2 _ _) ((?_:wpAny _ _ (uo (.ref S) (.ref r) .none) _ _ s))));have x:∀h k tk,vL h s.heap.objs.size (a+((0:Nat):Int)*c) ((n:Int)-((0:Nat):Int)) c->(∀b o,b≠S->s.heap.get? b=O o->h.get? b=O o)->
  h.get? S=O {cls:= .type "list",data:= .seq items k}->codeAny (model prog ww) A (.builtin "list.extend.loop" ⟨[.ref S,.ref s.heap.objs.size,.none],[]⟩) (wants Q E) {s with heap:=h,toks:=tk}:=by
  intro h k tk B hk d;exact zU J q (base:=items.toList) hz n 0 {s with heap:=h,toks:=tk} [] items k rfl (iB _) B d (gG (qL (Array.toList items))) rfl (λj v M=>by simp at M) λh' C f g c' h1 h2 P R h5=>L h' C f g c' (λb o hb e=>h1 b o hb (cg (bh e)) (hk b o hb e)) h2 P R h5
 refine bq (jd (T:="range") (bV _ y rfl)) ?_;have h1:nk (.ref S) (.ref r)=false:=by simp [nk,z]
 have h2:(cU "range"==cU "list")=false:=rfl;refine U h1 (bq (wpAny_pyIter_range y p) (au (bP (wpAny_hint_range (n:=n) (az _ y) hn (by lia) ?_))));have i:vL (s.heap.push {cls:= .type "range_iterator",data:= .fields #[rawInt a,rawInt (cK a b c),rawInt c]}) s.heap.objs.size (a+((0:Nat):Int)*c) ((n:Int)-((0:Nat):Int)) c:=by
  show vL _ _ _ _ _;refine U hn ?_;simpa using aJ _ rfl
 have d:=az {cls:= .type "range_iterator",data:= .fields #[rawInt a,rawInt (cK a b c),rawInt c]} w;have I:=bw;refine uc (λD=> ?_) (λD=>av ⟨plainId_quiet vP _,x _ c₀ _ i (λb o D e=>az _ e) d⟩);refine bq fm (au ((?_:wpAny _ _ (updateSeq S (·.push .none)>>=λD=>updateSeq S (·.pop)) _ _ _)));refine au (ly d rfl ?_ (by lia) (by show(items.push dY).size<=jr+1;refine U (qE ..) ?_;lia));have l:=bD (eS (·.push dY)) d rfl;refine ly l rfl ?_ (by refine U (qE ..) (U sizeLine_eq ?_);lia) (by show((items.push dY).pop).size<=jr+1;simp;lia);have m:=bD (eS (·.pop)) l rfl;have e4:eS (·.pop) (eS (·.push dY) {cls:= .type "list",data:= .seq items c₀})={cls:= .type "list",data:= .seq ((items.push dY).pop) _}:=rfl;rw [e4,Array.pop_push] at m;refine av ⟨plainId_quiet vP _,x _ _ _ ?_ (λb o hb e=> ?_) m⟩
 .exact(dG _ _ q).trans ((dG _ _ q).trans i)
 .exact(dG _ _ (rU hb)).trans ((dG _ _ (rU hb)).trans (az _ e))
end
section
variable {X:dw} {K:Frag} {r:Ap} {n b:Nat} {ns:List (Str×aM)} {G:Str->Option V}
theorem pq.vrs:∀{l} {a} {tail},pq X c l a->tail.length=l.length->(∀(j:Nat) v,tail[j]? =O v->∃t,v=gO (a+(j:Int)*c) t)->eg X g w m l tail:=by
 intro l a tail h
 induction h generalizing tail with
 |nil=>exact λhl e=>U (iK.mp hl) .nil
 |cons v l a hv o f=>
  intro hl e;rcases tail with _|⟨y,tail⟩
  .injection hl
  refine fF (e 0 y rfl) λt d=> ?_;subst d;refine U ((congrArg (a+ ·) (Int.zero_mul c)).trans (Int.add_zero a)) (.cons _ _ _ _ (hv _ _ _ _) (f (Nat.add_right_cancel hl) λj u i=> ?_));refine fF (e (j+1) u i) λk d=> ?_;subst d;refine⟨k, ?_⟩;have:a+((j+1:Nat):Int)*c=a+c+(j:Int)*c:=by push_cast;refine U (Int.add_mul ..) (U (Int.one_mul ..) ?_);lia
  exact U this rfl
theorem FU {w:Wd} (R:wA X ys l a c' c)
 (d:∀t u v tk,Q (.ref s.heap.objs.size) {s with heap:=s.heap.push {cls:= .type "range",data:= .fields #[.int a t,.int c' u,.int c v]},toks:=tk}):wpAny (model X.prog X.w) A (PySem.call (.type "range") ys) Q (λf f=>False) s:=by
 rcases R.args with⟨u,rfl,rfl,rfl⟩|⟨t,u,rfl,rfl⟩|⟨t,u,v,rfl⟩
 .exact call_range_1 (d _ _ _ _)
 .exact call_range_2 (d _ _ _ _)
 .refine call_range_3 R.ne (d _ _ _ _) (.inl (oY ?_));by_cases e:c.natAbs=0
  .refine U e ?_;decide+kernel
  .have:c.natAbs.log2<64:=(Nat.log2_lt e).mpr (iZ R.hc (by decide));lia
theorem cN.uY (ax:bu X) (gx:jV X G) (ap p p') (hm:nm m=nm "extend") (P:aY m=H) (hn:lZ v=H) (C:ak ap.endLine p.line=H) (eb:jT G ns 1 g=H) (S:args.any bk=aj)
 (ho:cN X r n b ns o v) (hl:AH X r n b ns l args):cN X r n b ns (vY o l) (.Call (.Attribute v m ap) [.Call g args [] p'] [] p):=by
 intro A hA env ρ w h s hs he k res e Q hQ;refine U (gU P rfl hm) ?_;have hp:=lO (env:=env) (pos:=p) (xs:=[Expr.Call g args [] p']) rfl;refine(?_:cC _ _ (attributeBase v "extend" env (eval v env)>>=λov=>standAt ap.atName>>=λu_=>methodCall v "extend" ap p env ov 1 (backTo p (starEach [Expr.Call g args [] p'] env)) []) _ _ s);refine ay (K5 hn (ho A hA env ρ w h s hs he _ res e _ λw1 h1 s1 ov y D x1 hov E=>(ay (bG (sY hp (fG 28) C ?_)))));refine dF (dg E) λob E h6 hob=>aC (dH E) λE t1=>gc (hov.eB h6) λoG=> ?_;subst oG;intro lov;refine sV (D.listAt hob (aH t1)) λM ep0 I hn0 acR hr0=>eW (getMethod_builtin (T:="list") (id:="list.extend") (bV _ I rfl) yw k9 F.type_list_extend (λa' e=>by cases e;exact bV _ I rfl) (pQ hp (mj hp ((?_:cC _ _ (eval (.Call g args [] p') env>>=λv=>pure [v]>>=λi=>holding i (spliced (backTo p (starEach [] env)))>>=λr=>pure (i++r)) _ _ _)))));refine ay (qi gx eb hl S hA D (he.ext x1) p' E λw2 h2 s2 vs ys b1 b2 b3 f=>aK (bB f) λl' f el=>dF (dg f) λob2 f u_ j=>aC (dH f) λf t2=>aC (dH f) λf hle=>Vt (zy b3 el) λa c' c R=>(sV (b1.listAt j (aH t2)) λitems ep hg hn2 x J=> ?_));have z:=nY hle;rw [mL] at f z;rw [cY] at z;have hl2:=x.length;simp only [aN] at hl2;refine eW (FU (w:=w2) R λt u vv tk=>(aC (b1.junk ax {cls:= .type "range",data:= .fields #[.int a t,.int c' u,.int c vv]} tk) λc2 c1=>ay (aO (ay (bg (aO (aO (⟨qf _ _ _,eW ((?_:wpAny _ _ (PySem.call (.builtin "list.extend") [.ref (w1.ρ ov.n),.ref s2.heap.objs.size]) _ _ _))⟩))))))));refine cL (b2.ρ _ lov) (bW (ve (n:=l'.length) hA.handled (az _ hg) (IsRange.new s2.heap a c' c t u vv) (xo R.ha R.hb R.hc) R.len.symm (by lia) λh' tk' tail B ep' g1 g2 g3 g4 g5 hsz=> ?_));have L:B.size=items.size+l'.length:=cL aN (U g3 (U cY (U g4 (U aN rfl))));have ab:=c1.K9 ax j (s':={s2 with heap:=h',toks:=tk'}) (o':=bK (ob2.xs++l')) hsz (λd od hd e=>g1 d od (λq=>hd (q▸J)) e) rfl rfl λkk=>
  .list _ B ep' J g2 (by refine U L ?_;lia) (U g3 (((x.mono c2.dX).mono kk).append (R.val.vrs g4 g5)))
 exact hQ w2 _ _ dc .none ab.1 (x1.trans (b2.trans (c2.trans ab.2))) .none f
end
section
variable {X:dw} {env:dj} {ns:List (Str×aM)} {ρ:Env} {w:Wd} {n:Nat} {s:Shared}
theorem eZ.ZG (he:eZ X env ns ρ w n s) (A:sc.kind= .function) (b:xh ns sc.names) (g:gH sc.names=H) (i:∀x k,aZ (nm x) sc.names=O k->(x==("__classdict__":Str))=aj) (j:∀x k,aZ (nm x) sc.names=O k->(x==("__debug__":Str))=aj)
 {cl} (f:∀q∈cl,env.cells.lookup q.1=O q.2) (B:∀p∈sc.names,p.2= .free->∃c,(p.1,c)∈cl) (I:s.heap.Ns C m) (J:w.role C=aq) (hb:X.h₀.objs.size<=C) (ht:C∉X.tabs)
 (hm:∀x v,aY x=H->aZ (nm x) sc.names=O .local->find (nm x) l=O v->∃y,m x=O y/\VR X s.heap w n v y) (D:∀y v,find y l=O v->aZ y sc.names=O .local) qual func code:
 eZ X (newEnv sc C mainNs cl qual func code aq builtinsNs) sc.names ⟨l,app ρ.loc ρ.out⟩ w n s:=by
 have o:∀p∈sc.names,aY p.1=true:=λp hp=>(b p hp).1;have free:∀x,aY x=H->aZ (nm x) sc.names=O .free->∃c,cl.lookup x=O c/\env.cells.lookup x=O c/\(aZ (nm x) ns=O .cell\/aZ (nm x) ns=O .free):=by
  intro x hx hk;refine jB (lP hk) λp hp K r=> ?_;have t:=gU hx (o p hp) K;refine fF (B p hp r) λc E=>fF (mem_lookup E) λc' hl=> ?_;rw [<-t] at hl;refine f9 c' hl (f _ (mem_of_lookup hl)) ?_;rcases(b p hp).2 with⟨_,q⟩|q|q
  .refine U t ?_;exact q
  .rw [r] at q;injection q
  .rw [r] at q;injection q
 have a:∀y,aZ y sc.names≠O .cell:=λy e=>by
  refine jB (lP e) λp hp G r=> ?_;rcases(b p hp).2 with⟨q,_⟩|q|q<;>rw [r] at q<;>injection q
 refine⟨A,rfl,rfl,λx k hx hk=> ?_,i,j,(bV m I hm),(iW J hb ht),λx hx hk=> ?_,λx v c G hk=>absurd hk (a _),λx v c hx hk d hl=> ?_,λx y c h1 h2=> ?_,λy v h=> .inl (D y v h),λy v G=>a y,λq=>absurd g (U q bY)⟩
 .have hl:=j6 o hx hk;have this:=hl
  induction k using dm with
  |«local»=>exact this
  |cell=>exact absurd hk (a _)
  |free=>exact .inr this
  |globalImplicit=>exact this
  |_=>trivial
 .have hk:=hk.resolve_left (a _);refine cG (free x hx hk) λc a3 F z=>HJ (he.cell x hx a3) λc' L M P Q R S=> ?_;injection z.symm.trans M with hq;subst hq
  exact lX c L F P Q R S
 .refine cG (free x hx hk) λc' a3 F z=> ?_;injection hl.symm.trans F with hq;subst hq
  rw [Dt] at d;rcases a3 with a3|a3
  .induction hq:find (nm x) ρ.loc using zO with
   |none=>rw [hq] at d;exact absurd a3 (he.outs _ v d)
   |some u=>rw [hq] at d;injection d with d;subst d;exact he.wZ x _ c hx a3 hq z
  .induction hq:find (nm x) ρ.loc using zO with
   |none=>rw [hq] at d;exact he.w9 x v c hx a3 d z
   |some u=>
    rcases he.locs _ u hq with q|q<;>rw [a3] at q<;>cases q
 .exact he.apart x y c (f _ (mem_of_lookup h1)) (f _ (mem_of_lookup h2))
theorem I2 {nn} (ax:bu X) (u:X.h₀.NoLimit) (L:cStatics∉X.tabs) (z:∀a∈X.tabs,a<X.h₀.objs.size) (B:St X w h s) (he:eZ X env ns ρ w h.n s) {cl}
 (hf:s.heap.get? f=O o) (hd:o.data= .func (kla_fn "<lambda>" q params body sc cl pm cv ctv)) (C:s.heap.CodeRec cv q) (M:sc.isCoroutine=aj) (D:sc.isGenerator=aj)
 (E:sc.kind= .function) (g:xh ns sc.names) (P:sc.names.lookup x0=O .local) (F:gH sc.names=H) (G:∀x k,aZ (nm x) sc.names=O k->(x==("__classdict__":Str))=aj) (I:∀x k,aZ (nm x) sc.names=O k->(x==("__debug__":Str))=aj)
 (hp:params.posonlyargs=[]/\params.args.map (·.arg)=[x0]/\params.kwonlyargs=[]/\params.vararg=aq/\params.kwarg=aq) (J:aY x0=H) (R:aZ (nm x0) sc.names=O .local)
 (S:∀q∈cl,env.cells.lookup q.1=O q.2) (V:∀p∈sc.names,p.2= .free->∃c,(p.1,c)∈cl) (hb:cN X r nn bb sc.names e body) (hrl:A.depth<mJ) (hA:∀env,fQ nn bb (A.deeper env))
 (ek:e.f r ⟨[(nm x0,aW 0)],app ρ.loc ρ.out⟩ h k=O res) (hQ:Goes (PV X) X w h.n s k res Q):codeN (model X.prog X.w) A (.call (.ref f) ⟨[.int 0 t],[]⟩) (RV Q) s:=by
 refine oU hrl hf hd M D rfl C ?_;have hnl:s.heap.NoLimit:=by
  exact aK u λmc h2 h1=>bV mc (uL h1 λo e=>B.base _ o e L) h2
 have m:wpAny (model X.prog X.w) A.in1 (bindArgs (kla_fn "<lambda>" q params body sc cl pm cv ctv) ⟨[.int 0 t],[]⟩) (λi s'=>s'=s/\i=[(x0,gO 0 t)]) (λu_ u_=>False) s:=
  xm (names:=[x0]) hp.1 hp.2.1 hp.2.2.1 hp.2.2.2.1 hp.2.2.2.2 (of_decide_eq_true rfl) (vals:=[.int 0 t]) (ds:=[]) (od:=aq) (λq=>av q) rfl (of_decide_eq_true rfl) (by simp) (Nat.sub_le (fW [x0]) (fW [])) ⟨rfl,rfl⟩
 refine aV (eW m) (λi s' hq=> ?_) λu_ u_ f=>f;refine gc hq λoG hq1=> ?_;subst oG;subst hq1;have j:∀p∈sc.names,p.2≠.cell:=λp hp e=>by
  rcases(g p hp).2 with⟨q,_⟩|q|q<;>rw [e] at q<;>injection q
 refine eW (wpAny_newFunctionEnv j (λx hx=>U (eH.mp hx) P) (λh' hns K=> ?_) E);have up:∀b o,s'.heap.get? b=O o->h'.get? b=O o:=λb o eb=>K.extBut b o (cg (bh eb)) (az _ eb);have hsz:s'.heap.objs.size<=h'.objs.size:=by
  have:=K.1;have hpz:(s'.heap.push {cls:= .type (if(none:Option dj).isSome then "dict" else "frame"),data:= .dict #[]}).objs.size=s'.heap.objs.size+1:=bI ..;lia
 refine aC (B.i9 ax (h':=h') (tk:=s'.toks+[(x0,gO 0 t)].length) hsz up) λx2 hs2=> ?_;have Vi:=(he.ext x2).ZG E g F G I S V hns (l9 B (br _)) B.size (λht=>absurd (z _ ht) (bC.mpr B.size)) (l:=[(nm x0,aW 0)]) (λx v hx hk d=>by
  rw [eX] at d;by_cases hb:nm x=nm x0
  .rw [if_pos hb] at d;refine U (gU hx J hb) ?_;injection d with d;subst d
   exact bV (.int 0 t) (by simp) (.nat 0 t)
  .rw [if_neg hb] at d;exact fn d) (λy v d=>by
  rw [eX] at d;by_cases hb:y=nm x0
  .refine U hb ?_;exact R
  .rw [if_neg hb] at d;exact fn d) (q++".<locals>.") (some f) cv
 exact⟨hnl.keeps up,yV (hb _ (hA _) _ _ w h _ hs2 Vi k res ek _ λw3 h3 s3 v y a1 a2 a3 a4=>hQ w3 h3 s3 v y a1 (x2.trans a2) a3 a4)⟩
end
structure FnAt (X:dw) (g:Heap) (w:Wd) (f:Addr) (fd:mF):Prop where
 hr:w.role f=aq
 ht:f∉X.tabs
 obj:∃o,g.get? f=O o/\o.data= .func fd
 code:∃c,fd.code= .ref c/\w.role c=aq/\c∉X.tabs/\g.CodeRec (.ref c) fd.qualname
section
variable {X:dw} {w w':Wd} {s s':Shared} {h:aev} {n n':Nat}
theorem FnAt.ext (i:FnAt X s.heap w f fd) (x:Ext X cT w n s w' n' s'):FnAt X s'.heap w' f fd:=by
 obtain⟨g,ht,⟨o,j,l⟩,c,m,a,b,d⟩:=i;refine pK d λc' k vs t p e h1 h2=> ?_;cases e;exact⟨(x.role f (bh j)).trans g,ht,(bV o (x.old f o g ht (λq=>q) j) l),c,m,(x.role c (bh h1)).trans a,b,(uv c k vs t rfl (x.old c k a b (λq=>q) h1) h2 p)⟩
theorem FnAt.ZH (i:FnAt X g w f fd):g.CodeRec fd.code fd.qualname:=by
 refine pM i.code λc d e d b=>U e ?_;exact b
theorem I3 (L:bu X) {env:dj} {ns:List (Str×aM)} {ρ:Env} {d:Arguments} {g:Expr} {scope:Scope} (pos:Pos) {c P:Addr} {q M:Str} (y:gH ns=aj) (hc:X.jQ ns=O (c,M)) (R:M++"<lambda>"=q) (hP:P∈X.tabs)
 (z:∀w h s,St X w h s->CodeHd s.heap c P) (B:X.qw P pos.line pos.col=O q) (S:∀w h s,St X w h s->∃C,s.heap.Ns ic C/\s.heap.BuiltinsAt C P) (hgP:ic≠P)
 (D:∀env,defaultsOf d env=([],[])) {cl:List (Str×Addr)} (t:closureFor scope env=pure cl) (x:St X w h s) (he:eZ X env ns ρ w h.n s) {A:Around} {E:Value->Shared->Prop} {Q:Value->Shared->Prop}
 (hQ:∀s' f pm cv k,St X w h s'->Ext X cT w h.n s w h.n s'->FnAt X s'.heap w f (kla_fn "<lambda>" q d g scope cl pm cv k)->Q (.ref f) s'):
 wpAny (model X.prog X.w) A (eval (.Lambda d g scope pos) env) Q E s:=by
 refine gc (he.N8 y c M hc) λl u=> ?_;obtain⟨low,ps,hp,ht,hcs⟩:=x.tab P hP;refine dN (S w h s x) λC F I=>kla_eval (D env) (U u (U R ?_));have m:∀s' a,St X w h s'->s'.heap.objs.size<=a->w.role a=aq/\a∉X.tabs:=λs' a h1 h2=>⟨by
  induction J:w.role a using zO with
  |none=>rfl
  |some i=>exact absurd (h1.lim a i J).2.2 (bC.mpr h2),λq=>absurd (h1.tab a q).low (bC.mpr (aI h1.size h2))⟩
 induction p:codeAmong pos ps.toList using zO with
 |some cv=>
  refine Sl (hcs pos q cv B p) λc' oG=> ?_;subst oG;intro J v j;refine kla_makeFunctionHit t he.glob F l (z w h s x) hp ht p I λk h' tk hk hsz=>aC (x.i9 L (h':=h') (tk:=tk) hsz hk) λx1 K=>aC (K.i9 L (h':=h'.push {cls:= .type "function",data:= .func (kla_fn "<lambda>" q d g scope cl ((C "__name__").getD .none) (.ref c') k)}) (tk:=tk) (by show h'.objs.size<=_;refine U (bI ..) ?_;exact gW _) (λa o e=>az _ e)) λx2 s2=> ?_;exact aC (m _ h'.objs.size K (br _)) λn2 n1=>hQ _ h'.objs.size _ _ _ s2 (x1.trans x2) ⟨n1,n2,(bV _ (aJ _ rfl) rfl),c',rfl,J,v,j.keeps λb o e=>az _ (hk b o e)⟩
 |none=>
  refine kla_makeFunction t he.glob F l (z w h s x) hp ht p hgP I λc' k h' tk hx hge hlt j RL=>uy (x.code L hP hp ht p (λq'' e=>aF (e.symm.trans B)) (tk:=tk) hx hge hlt j RL) λx1 K J v=>aC (K.i9 L (h':=h'.push (kla_obj "<lambda>" q d g scope cl ((C "__name__").getD .none) c' k)) (tk:=tk) (by show h'.objs.size<=_;refine U (bI ..) ?_;exact gW _) (λa o e=>az _ e)) λx2 s2=> ?_;exact aC (m _ h'.objs.size K (br _)) λn2 n1=>hQ _ h'.objs.size _ _ _ s2 (x1.trans x2) ⟨n1,n2,(bV _ (aJ _ rfl) rfl),c',rfl,J,v,j.push _⟩
end
structure Mh (X:dw) (G:Str->Option V) (a:Addr) (Fp:Nat) where
 fd:mF
 nA:Str
 nB:Str
 nL:Str
 nE:Str
 nF:Str
 n0:Str
 nW:Str
 nX:Str
 pL:Pos
 pE:Pos
 pc:Pos
 pr:Pos
 pos:Pos
 params:Arguments
 sc:Scope
 pA:Pos
 pB:Pos
 pF:Pos
 p0:Pos
 pb:Pos
 L:Addr
 m:Nat
 Mi:mF
 pw:Pos
 ck:Nat
 pz:Pos
 YA:Pos
 prr:Pos
 pt:Pos
 hh:lg
 hs:List lg
 c:Addr
 P:Addr
 q:Str
 q':Str
 obj:∃o,X.h₀.get? a=O o/\o.data= .func fd
 nt:a∉X.tabs
 data:Vk X fd [nA,nB] []
 code:∀w h s,St X w h s->s.heap.CodeRec fd.code fd.qualname
 text:fd.body= .stmts [.Return (O (.Call (.Name nL pL) [.Lambda params (.Call (.Name nB pB) [.Name nA pA,.Name nF pF,.Name n0 p0] [] pb) sc pos,.Name nE pE] [] pc)) pr]
 kA:aY nA=H/\aZ (nm nA) fd.scope.names=O .cell
 kB:aY nB=H/\aZ (nm nB) fd.scope.names=O .cell
 ne:ak (nm nB) (nm nA)=aj
 kL:aY nL=H/\aZ (nm nL) fd.scope.names=O .globalImplicit
 kE:aY nE=H/\aZ (nm nE) fd.scope.names=O .globalImplicit
 gL:G nL=O (bL L)
 gE:G nE=O (aW m)
 gF:G nF=O (bL Fp)
 hloc:gH fd.scope.names=aj
 hc:X.jQ fd.scope.names=O (c,q')
 hq':q'++"<lambda>"=q
 hP:P∈X.tabs
 YB:∀w h s,St X w h s->CodeHd s.heap c P
 hla:X.qw P pos.line pos.col=O q
 hbm:∀w h s,St X w h s->∃mg,s.heap.Ns ic mg/\s.heap.BuiltinsAt mg P
 hgP:ic≠P
 hdef:∀env,defaultsOf params env=([],[])
 sco:sc.isCoroutine=aj
 WG:sc.isGenerator=aj
 sfn:sc.kind= .function
 ZI:xh fd.scope.names sc.names
 WH:gH sc.names=H
 WI:∀x k,aZ (nm x) sc.names=O k->(x==("__classdict__":Str))=aj
 WJ:∀x k,aZ (nm x) sc.names=O k->(x==("__debug__":Str))=aj
 sp:params.posonlyargs=[]/\params.args.map (·.arg)=[n0]/\params.kwonlyargs=[]/\params.vararg=aq/\params.kwarg=aq
 s0:aY n0=H/\aZ (nm n0) sc.names=O .local/\sc.names.lookup n0=O .local
 sA:aZ (nm nA) sc.names=O .free
 sB:aZ (nm nB) sc.names=O .free
 sF:aY nF=H/\aZ (nm nF) sc.names=O .globalImplicit
 WK:∃o,X.h₀.get? L=O o/\o.data= .func Mi
 ntL:L∉X.tabs
 GY:Vk X Mi [nW,nX] []
 RU:∀w h s,St X w h s->s.heap.CodeRec Mi.code Mi.qualname
 RW:Mi.body= .stmts [.Try [.Return (O (.Call (.Name nW pw) [.Constant (.int 0) ck pz] [] YA)) prr] (hh::hs) [] [] pt]
 kW:aY nW=H/\(aZ (nm nW) Mi.scope.names=O .local\/aZ (nm nW) Mi.scope.names=O .cell)
section
variable {X:dw} {w:Wd} {s:Shared} {h:aev} {G:Str->Option V} {A:Around} {r:Ap} {n:Nat}
theorem GZ {h h'} (e:O (⟨⟨[],[]⟩,u,h⟩:Res)=O ⟨⟨[],[]⟩,v,h'⟩):u=v/\h=h':=by injection e with e;injection e with _ a b;exact⟨a,b⟩
theorem cN.give (hx:cN X r n b ns a x) (l:fQ n b A) (m:St X w h s) (he:eZ X env ns ρ w h.n s) (o:∀k,a.f r ρ h k=k v h)
 (p:∀d c y,St X d h c->Ext X cT w h.n s d h.n c->VR X c.heap d h.n v y->Q y c):cC (model X.prog X.w) A (eval x env) Q (λq q=>False) s:=
 hx A l env ρ w h s m he (λu h'=>O ⟨⟨[],[]⟩,u,h'⟩) _ (o _) Q λd h2 c u y g t hu e=>by
  refine gc (GZ e) λi j=> ?_;subst i;subst j;exact p d c y g t hu
theorem AH.give (hx:AH X r n b ns a l) (m:fQ n b A) (o:St X w h s) (he:eZ X env ns ρ w h.n s) (p:∀k,a.f r ρ h k=k [v] h) pos
 (t:∀g d y,St X g h d->Ext X cT w h.n s g h.n d->VR X d.heap g h.n v y->Q [y] d):cC (model X.prog X.w) A (spliced (backTo pos (starEach l env))) Q (λu u=>False) s:=
 hx A m env ρ w h s o he (λvs h'=>O ⟨⟨[],[]⟩,dM vs,h'⟩) _ (p _) pos Q λg h2 d us ys i x j e=>by
  refine aC (GZ e) λc=> ?_;subst c;intro q;injection q with _ _ _ _ q
  subst q;refine dN j.one λy c=> ?_;subst c;intro hy;exact t g d y i x hy
theorem WL (a:fQ (n+1) 0 A):fQ n 0 ((A.deeper env).deeper envL):=a.next rfl (j:=6) rfl (aB rfl) rfl (d:=2) rfl
theorem WM (a:fQ (n+1) 0 A):fQ n 0 (((A.deeper env).deeper envL).deeper env'):=a.next rfl (j:=9) rfl (aB rfl) rfl (d:=3) rfl
theorem VR.RX (h:VR X g w n (bL a) y):y= .ref a:=by cases h;rfl
theorem RY (x y) (u v):nR [] [x,y] [u,v]=O [(x,u),(y,v)]:=rfl
theorem O8 (ax:bu X) (d:∀a∈X.tabs,a<X.h₀.objs.size) (i:X.h₀.NoLimit) (u:cStatics∉X.tabs) (gx:jV X G) (R:Mh X G a Fp) (rk:Ck X r n) (D:fQ (n+1) 0 A) (hs:St X w h s) (hv:eg X s.heap w h.n vs ys)
 (e:with2 vs (λa w=>r w [a,bL Fp,aW 0] h k)=O res) (hQ:Goes (PV X) X w h.n s k res Q):codeN (model X.prog X.w) A (.call (.ref a) ⟨ys,[]⟩) (RV Q) s:=by
 refine nK (tZ e) λva vw e9 F=> ?_;rw [F] at hv;clear e F;refine aK R.obj λo hd ho=>jE (zq D) (hs.base a o ho R.nt) hd R.data.sc.co R.data.sc.gen R.text (R.code w h s hs) (aV (eW (uX ax d i u R.data hs hv (RY _ _ _ _) (E:=λc c=>False) (E':=λc c=>False) (P:=λenv s1=>codeN (model X.prog X.w) A (.func _ env) (RV Q) s1) λenv s1 hs1 I x1 J=>tN ?_)) (λc c q=>eW q) λc c f=>f);have K:=rB D (iB _) env;refine kU (mP (ay (cN.give (cN.glob (r:=r) (n:=n) (b:=0) gx R.nL R.pL R.kL.1 R.kL.2 _ R.gL) K hs1 I (v:=bL R.L) (λc=>rfl) λw2 s2 y2 hs2 x2 hu2=>(U hu2.RX ?_))));have x:=I.ext x2;have hp:=lO (env:=env) (pos:=R.pc) (xs:=[.Lambda R.params (.Call (.Name R.nB R.pB) [.Name R.nA R.pA,.Name R.nF R.pF,.Name R.n0 R.p0] [] R.pb) R.sc R.pos,.Name R.nE R.pE]) rfl;refine pQ hp (mj hp ((?_:cC _ _ (eval (.Lambda _ _ _ _) env>>=λv=>pure [v]>>=λl=>holding l (spliced (backTo R.pc (starEach [.Name R.nE R.pE] env)))>>=λr=>pure (l++r)) _ _ _)));refine cG (zg x R.ZI) λcl J M hcl=>ay (eW (I3 ax R.pos R.hloc R.hc R.hq' R.hP R.YB R.hla R.hbm R.hgP R.hdef M hs2 x λs3 f pm cv ctv JD x3 hf=> ?_));have S:=x.ext x3;refine ay (aO (ay (bg (AH.give (AH.cons (r:=r) (n:=n) (b:=0) rfl (cN.glob gx R.nE R.pE R.kE.1 R.kE.2 _ R.gE) .nil) K JD S (v:=aW R.m) (λc=>rfl) R.pc λw4 s4 ye y x4 hye=>aO (dN R.WK λoL ZJ hdL=> ?_)))));have hoL:=y.base _ oL ZJ R.ntL;refine⟨yg hoL hdL,nU ?_⟩;have ZK:(A.deeper env).depth=A.depth+1:=rfl;have hD:=D.depth;have ZL:(A.deeper env).depth<mJ:=by refine U ZK ?_;unfold mJ;lia
 refine iQ (R:=RV λv s'=>Q v s') (jE ZL hoL hdL R.GY.sc.co R.GY.sc.gen R.RW (R.RU w4 h s4 y) ?_) (λr' s' B=> ?_);rotate_left
 .rcases r' with e|(_|_|_|v)<;>first|exact B.elim|exact B
 refine aV (eW (uX ax d i u R.GY y (.cons _ _ _ _ (.fn f) (.cons _ _ _ _ hye .nil)) (RY _ _ _ _) (E:=λc c=>False) (E':=λc c=>False) (P:=λp s1=>codeN (model X.prog X.w) (A.deeper env) (.func _ p) (RV Q) s1) λt s5 Zy heL x5 acW=>tN ?_)) (λc c q=>eW q) λc c f=>f;have hA2:fQ n 0 ((A.deeper env).deeper t):=WL D;refine kU (ay (bG ?_));unfold tryStmt;refine U List.isEmpty_cons (ay (rj (GA (kU (mP ?_)))));refine ay (cN.give (cN.loc (r:=r) (n:=n) (b:=0) R.nW R.pw R.kW.1 R.kW.2) hA2 Zy heL (v:=bL f) (λk=>by
  refine(?_:(aA aq (λv=>k v h) (find (nm R.nW) [(nm R.nW,bL f),(nm R.nX,aW R.m)]):Option Res)=_);exact U (eX ..) (U (if_pos rfl) rfl)) λw6 s6 y6 hs6 x6 hu6=> ?_)
 refine U hu6.RX ?_;have hp2:=lO (env:=t) (pos:=R.YA) (xs:=[.Constant (.int 0) R.ck R.pz]) rfl;refine pQ hp2 (mj hp2 (AH.give (AH.cons (r:=r) (n:=n) (b:=0) rfl (cN.const (.int 0) R.ck R.pz) .nil) hA2 hs6 (heL.ext x6) (v:=mD 0) (λc=>rfl) R.YA λw7 s7 y0 hs7 x7 hy0=>fF (hy0.cO (v:=mD 0) rfl) λt0 ht0=>U ht0 ?_));have hf7:=(((hf.ext x4).ext x5).ext x6).ext x7;refine aK hf7.obj λoF hdF hoF=>⟨yg hoF hdF,nU ((?_:codeN _ _ (.call (.ref f) ⟨[.int 0 t0],[]⟩) _ _))⟩;have C:cN X r n 0 R.sc.names (kP (Dj (nm R.nB)) (dS (Dj (nm R.nA)) (dS (xC (bL Fp)) (dS (qB (nm R.n0)) ko)))) (.Call (.Name R.nB R.pB) [.Name R.nA R.pA,.Name R.nF R.pF,.Name R.n0 R.p0] [] R.pb):=
  cN.call rk R.pb (λc c c q=>(by injection q)) rfl (cN.free R.nB R.pB R.kB.1 R.sB) (.cons rfl (cN.free R.nA R.pA R.kA.1 R.sA) (.cons rfl (cN.glob gx R.nF R.pF R.sF.1 R.sF.2 _ R.gF) (.cons rfl (cN.loc R.n0 R.p0 R.s0.1 (.inl R.s0.2.1)) .nil)))
 refine iQ (R:=RV Q) (I2 ax i u d hs7 ((((S.ext x4).ext x5).ext x6).ext x7) hoF hdF hf7.ZH R.sco R.WG R.sfn R.ZI R.s0.2.2 R.WH R.WI R.WJ R.sp R.s0.1 R.s0.2.1 hcl J C (iZ (i0 (Ks (j:=2) D.depth (aB rfl))) (aB rfl)) (λp=>WM D) (k:=k) (res:=res) ?_ (hQ.ext ((((((x1.trans x2).trans x3).trans x4).trans x5).trans x6).trans x7))) (λr' s' B=> ?_)
 .refine(?_:(aA aq (λg=>aA aq (λa=>aA aq (λz=>r g [a,bL Fp,z] h k) (find (nm R.n0) [(nm R.n0,aW 0)])) (find (nm R.nA) [(nm R.nA,va),(nm R.nB,vw)])) (find (nm R.nB) [(nm R.nA,va),(nm R.nB,vw)]):Option Res)=O res);have f1:find (nm R.nB) [(nm R.nA,va),(nm R.nB,vw)]=O vw:=U (eX ..) (U (if_neg (fV R.ne)) (U (eX ..) (U (if_pos rfl) rfl)));have f2:find (nm R.nA) [(nm R.nA,va),(nm R.nB,vw)]=O va:=U (eX ..) (U (if_pos rfl) rfl);have f3:find (nm R.n0) [(nm R.n0,aW 0)]=O (aW 0):=U (eX ..) (U (if_pos rfl) rfl);exact U f1 (U f2 (U f3 e9))
 .rcases r' with e|(_|_|_|v)<;>first|exact B.elim|exact aO (aO B)|exact aO B|exact B
end
section
variable {X:dw} {K:Frag} {G:Str->Option V} {Ms:Nat->List (Nat×Nat)} {r:Ap} {n b:Nat}
theorem TU (d:bu X) (c:10<=X.h₀.objs.size) (e:∀a∈X.tabs,a<X.h₀.objs.size) m:qh X m:=by
 rcases m with _|_|_|_|_|_|_|_|_|_|_|_|_|_|_|_|_|_|m
 .exact Tw d c
 .exact u0 1 (.inl rfl)
 .exact LZ d
 .exact OY d
 .exact LH d e
 .exact OT d c
 .exact O2 d c e
 .exact u0 7 (.inr (.inl rfl))
 .exact IJ d c
 .exact u0 9 (.inr (.inr (.inl rfl)))
 .exact u0 10 (.inr (.inr (.inr (.inl rfl))))
 .exact TF d
 .exact TQ d
 .exact TS d
 .exact Tq d
 .exact Tr d
 .exact Tt d
 .exact Tv d
 .exact u0 _ (.inr (.inr (.inr (.inr (rX 18 m)))))
structure Base (X:dw) (K:Frag) (G:Str->Option V) (Ms:Nat->List (Nat×Nat)):Prop where
 ax:bu X
 kx:JC X K
 gx:jV X G
 hbase:10<=X.h₀.objs.size
 htab:∀a∈X.tabs,a<X.h₀.objs.size
 mo:∀x,aY x=H->Cm X K (Ms (nm x)) x
 fl:∀x,aY x=H->∀c,find c (Ms (aG (cJ (nm x) 128) 1))≠aq->X.fld c x
theorem Base.ctx (B:Base X K G Ms) (rk:Ck X r n):mq X K G Ms r n b where
 ax:=B.ax
 kx:=B.kx
 gx:=B.gx
 hbase:=B.hbase
 htab:=B.htab
 rk:=rk
 mo:=B.mo
 om:=λx hx=>TJ (Ir B.ax) (IS B.ax) (Tz B.hbase B.ax) (AS B.ax B.hbase) hx
 vm:=λx hx=>TL (Mb B.ax) (O6 B.ax) hx
 fl:=B.fl
 Cx:=λns a x g j p d h1 h2 e f=>cN.Cx B.ax B.gx h1 h2 e f p d
 yh:=λns a c x y g j p d h1 h2 e f h i=>cN.yh B.ax B.htab B.gx h1 h2 e f h i p d
 uY:=λns o v l args m k g p d h1 h2 e f h i q s=>cN.uY B.ax B.gx k p d h2 h1 e f h i q s
end
end
section
set_option backward.match.sparseCases false
section
inductive NT (α:Type) where
 |l
 |n (l:NT α) (k:Nat) (v:α) (r:NT α)
def NT.find {α:Type} (t:NT α) (n:Nat):Option α:=NT.rec aq (λ_ k v _ ihl ihr=>af (af ihr ihl (bE n k)) (O v) (ak n k)) t
noncomputable abbrev NT.o {α:Type} (k:Nat) (v:α):NT α:= .n .l k v .l
namespace K
noncomputable def prog:Program:=kH
def sO (l:List Stmt):Nat->Stmt:=aQ (λ_=> .Pass default) (λs _ ih n=>af (ih (ez n 1)) s (ak n 0)) l
def Eo (l:List Expr):Nat->Expr:=aQ (λ_=> .Constant .none 0 default) (λs _ ih n=>af (ih (ez n 1)) s (ak n 0)) l
noncomputable def vf:Stmt->List Stmt
 | .ClassDef _ _ _ b _ _ _ _ _ _ _=>b
 |_=>[]
noncomputable def vg:List Stmt->List Expr
 |[.Return (O (.Dict _ vs _)) _]=>vs
 |_=>[]
noncomputable def fnBody:Stmt->List Stmt
 | .FunctionDef _ _ b _ _ _ _ _ _ _=>b
 |_=>[]
def top (i:Nat):Stmt:=sO prog.main.body i
def glob:NT V:=(.n (.n (.n (.n (.n (.n (.n (.n (.o 1653103 (BR 17)) 1800947 (BR 11) .l) 1815276 (BR 0) (.n (.o 1815789 (BR 13)) 1848570 (BR 9) .l)) 1881187 (BR 16) (.n (.n (.o 1896801 (BR 14)) 1913587 (BR 7) .l) 1914729 (BR 15) (.n (.o 1962220 (bL 2810)) 1978605 (BR 12) .l))) 173170896 (aW 6) (.n (.n (.n (.o 211448044 (bL 291)) 213596882 (jg 1129) .l) 215577159 (jg 992) (.n (.o 228325328 (jg 2651)) 244905188 (BR 6) .l)) 245086150 (jg 2698) (.n (.n (.o 245167340 (BR 5)) 22424036555 (dM [(vStr []),(vStr [115,105,110,103,108,101]),(vStr [109,117,108,116,105,112,108,101]),(vStr [97,108,116,101,114,110,97,116,101]),(vStr [108,105,103,97,116,117,114,101]),(vStr [99,111,110,116,101,120,116]),(vStr [99,104,97,105,110]),(vStr []),(vStr [114,101,118,101,114,115,101])]) .l) 22723715788 (aW 2) (.o 27329802482 (BR 1))))) 27340323572 (BR 4) (.n (.n (.n (.n (.o 27359129814 (jg 2008)) 29219126239 (bL 21) .l) 31083805922 (BR 2) (.n (.o 2870272419014 (aW 4)) 2874305454529 (aW 4) .l)) 2904915699662 (qS 1) (.n (.n (.o 3463318205683 (bL 103)) 3463330969587 (BR 8) .l) 3499542426835 (jg 1469) (.o 3879923873740 (jg 2370)))) 3947026249537 (jg 1662) (.n (.n (.n (.o 4011968010485 (bL 96)) 4016016503251 (jg 2424) .l) 4016846844481 (jg 2067) (.n (.o 4017371377868 (jg 2478)) 371829209393621 (aW 16) .l)) 448151359615686 (jg 2452) (.n (.n (.o 448184882934482 (jg 1431)) 448285575527107 (jg 1777) .l) 452098138830830 (bL 1003) (.o 452440390284531 (bL 2024)))))) 452440406931430 (bL 2045) (.n (.n (.n (.n (.n (.o 487286833314167 (bL 1694)) 487287338564073 (bL 2081) .l) 487624791390183 (bL 681) (.n (.o 495935014073411 (jg 572)) 504877905704035 (bL 695) .l)) 505216945910514 (bL 2716) (.n (.n (.o 509205389587149 (jg 322)) 509955375083724 (jg 2398) .l) 513532036428016 (bL 1906) (.n (.o 535556628658150 (bL 2723)) 39145144394541903 (aW 8) .l))) 46450200064354253 (aW 4294967295) (.n (.n (.n (.o 57314307796219843 (jg 790)) 57336811040225997 (jg 1495) .l) 57363374030845132 (jg 1364) (.n (.o 57367071481966797 (jg 1841)) 57867465521657411 (jg 895) .l)) 57912368870142692 (bL 1570) (.n (.n (.o 57912369908053616 (bL 1375)) 57912373687400422 (bL 2210) .l) 59043563102010594 (bL 852) (.o 60740376108773581 (jg 1895))))) 62249534993805775 (jg 187) (.n (.n (.n (.n (.o 65253568564410307 (jg 1170)) 65266456912018160 (bL 1291) .l) 65732096623685876 (bL 333) (.n (.o 65750374377091826 (bL 2179)) 67483170342728434 (bL 1537) .l)) 67483170342909940 (bL 1805) (.n (.n (.o 67483170363767653 (bL 1946)) 5018486001850705869 (aW 255) .l) 5594946513635960781 (aW 255) (.o 5814435663309940684 (aW 65536)))) 6021667624083516610 (aW 1) (.n (.n (.n (.o 7260813351097758450 (bL 1913)) 7267050193396855024 (bL 2094) .l) 7268149395757495026 (bL 1617) (.n (.o 7334603603662435054 (bL 471)) 7339134106964882162 (bL 1207) .l)) 7342986245952795378 (bL 1927) (.n (.n (.o 7343549613325760065 (jg 1521)) 7343549747291846501 (BR 10) .l) 7346962664114385640 (bL 2608) (.o 7407175906581050098 (bL 1055))))))) 7412783829808149744 (bL 688) (.n (.n (.n (.n (.n (.n (.o 7412783829816684786 (bL 808)) 7412783832798853479 (bL 734) .l) 7550151931891053298 (bL 1015) (.n (.o 7557576077057276656 (bL 590)) 7559783550671155954 (bL 2172) .l)) 7774769238184063730 (bL 1941) (.n (.n (.o 7917270102705944550 (bL 2737)) 7918945758392906482 (bL 2019) .l) 7981438047945782002 (bL 822) (.n (.o 7985866882390980208 (bL 1380)) 7990959543696777928 (aW 14) .l))) 7990959543764415218 (bL 2326) (.n (.n (.n (.o 8274105949947982578 (bL 2205)) 8345037781557868127 (bL 2805) .l) 8352373688738804466 (bL 1221) (.n (.o 8354106484704441074 (bL 1549)) 8354106484706882796 (bL 1342) .l)) 8413708812629539566 (bL 89) (.n (.n (.o 8419997426741131206 (jg 73)) 8421097116884563551 (bL 2800) .l) 8424897481346462159 (jg 279) (.o 8629964675023926879 (bL 2786))))) 8774080344635555042 (BR 3) (.n (.n (.n (.n (.o 8774559767153127668 (bL 2751)) 623266388825099756232 (aW 1594834165) .l) 642369615688090773454 (aW 65535) (.n (.o 705707651995876501448 (aW 1)) 744247764907170456659 (aW 20480) .l)) 770558945185483975874 (aW 2) (.n (.n (.o 770773455882689914433 (aW 65536)) 771489985764137428941 (aW 10920) .l) 771634158298616621005 (aW 16384) (.o 780716766390117523660 (aW 65535)))) 929681940731898917618 (bL 2277) (.n (.n (.n (.o 930323122657267710327 (bL 1631)) 939409165693388158051 (bL 1270) .l) 939902239482266155383 (bL 1965) (.n (.o 940052543510412817138 (bL 2031)) 948118516042682759543 (bL 1098) .l)) 948836330219767363171 (bL 1800) (.n (.n (.o 967652294486216309111 (bL 2217)) 995170462487868504439 (bL 1977) .l) 1013408937070619620451 (bL 82) (.o 1022842821602153494903 (bL 2348)))))) 1059085561593650116983 (bL 2248) (.n (.n (.n (.n (.n (.o 1059521791147225444584 (bL 1810)) 1059527485209817150547 (jg 48) .l) 1068022387841961587442 (bL 660) (.n (.o 1068027991262454379250 (bL 354)) 1068245360306806223056 (jg 2129) .l)) 1068462553476415644360 (aW 12) (.n (.n (.o 1068462553476483281650 (bL 1709)) 1068462553476483463156 (bL 1719) .l) 1068669222286244999922 (bL 829) (.o 1068677072834174693590 (jg 460)))) 1068680489399611848291 (bL 911) (.n (.n (.n (.o 1068961890188247200498 (bL 2312)) 1068961890188268304362 (bL 2319) .l) 1069103832158875318647 (bL 1091) (.n (.o 1069103836697001276147 (bL 2231)) 1069103836697001326578 (bL 1583) .l)) 1069106062722726392562 (bL 347) (.n (.n (.o 1069325630042476804471 (bL 1958)) 1077253579605513106162 (bL 1036) .l) 1077759670618833858772 (jg 61) (.o 1077903848374365876978 (bL 361))))) 1077903848374372382700 (bL 382) (.n (.n (.n (.n (.o 1105644263033265484531 (bL 2333)) 98769172262222927258316 (aW 16) .l) 99812129308210770536397 (aW 65535) (.n (.o 118961165944803372562412 (bL 2601)) 118998497416701646762738 (bL 2284) .l)) 118999143771278887697136 (bL 1284) (.n (.n (.o 118999288413683369802103 (bL 2298)) 119063350368686042935532 (bL 2709) .l) 119118681057071593976562 (bL 492) (.o 120243362194891606618866 (bL 1530)))) 120326725569333148940663 (bL 2038) (.n (.n (.n (.o 121451042395008232437731 (bL 801)) 121451042949265469503075 (bL 904) .l) 121451050333925388448499 (bL 707) (.n (.o 123823326446507721013601 (bL 604)) 123859073171099907388130 (bL 1337) .l)) 129716553362697413505268 (bL 2779) (.n (.n (.o 133313169190588689969906 (bL 2534)) 135618789266844825449202 (bL 1680) .l) 135618789266844825630708 (bL 1673) (.o 136707081245458649608946 (bL 478)))))))) 136707948751123226718416 (jg 2161) (.n (.n (.n (.n (.n (.n (.n (.o 136735406120365597422322 (bL 485)) 136735682516148343567090 (bL 368) .l) 136763206844990168398199 (bL 1714) (.n (.o 136790665322840893242096 (bL 1277)) 136809547781519370121970 (bL 639) .l)) 136827121944095950010743 (bL 2340) (.n (.n (.o 136845291097216123499624 (bL 396)) 136845291097216125860327 (bL 2758) .l) 136845291097216129725160 (bL 389) (.n (.o 136845291097216132004594 (bL 1298)) 136845291097216155267309 (bL 403) .l))) 136845291097216161413223 (bL 2765) (.n (.n (.n (.o 136845291097216161493747 (bL 1308)) 136845291097216163575020 (bL 2574) .l) 136845291097216171980520 (bL 410) (.n (.o 136845933475923901313778 (bL 1029)) 137851214036553017422574 (bL 583) .l)) 137888458189505985935735 (bL 1081) (.n (.n (.o 137971692591922896467555 (bL 1726)) 137989276334399805747954 (bL 2510) .l) 138017806641818769060594 (bL 2076) (.o 138035829471761369953010 (bL 2546))))) 138035829471761409799775 (bL 2793) (.n (.n (.n (.n (.o 7995869041531642652947186 (bL 611)) 8298100496435299946623730 (bL 625) .l) 10506764375021921697293004 (aW 16) (.n (.o 10533917780832119422051027 (aW 8)) 12623647655791468010070722 (dM [(dM [(aW 3),(aW 10)]),(dM [(aW 0),(aW 6)]),(dM [(aW 0),(aW 4)]),(dM [(aW 3),(aW 1)]),(dM [(aW 0),(aW 3)]),(dM [(aW 0),(aW 2)]),(dM [(aW 0),(aW 1)]),(dM [(aW 0),(aW 0)])]) .l)) 12624725789957845897702594 (aW 3) (.n (.n (.o 12624837757918969450522573 (aW 65536)) 15231807669337811093977463 (bL 2305) .l) 15231825760320224384021234 (bL 618) (.o 15231871308024227493868274 (bL 1022)))) 15242468808826696465496045 (bL 2099) (.n (.n (.n (.o 15242525020989226879711607 (bL 1953)) 15391150360946125955561847 (bL 1576) .l) 15398363465659577213154034 (bL 2524) (.n (.o 15399515318122634829918962 (bL 1442)) 15402975089260825436254962 (bL 1788) .l)) 16607232935166914733012083 (bL 940) (.n (.n (.o 16754752494912545469592302 (bL 340)) 17040492478999104482472690 (bL 674) .l) 17359205026156137965844855 (bL 1687) (.o 17496163961791076399346418 (bL 375)))))) 17496163961791076399411950 (bL 417) (.n (.n (.n (.n (.n (.o 17497427338017365980377842 (bL 2496)) 17498617440144867420828402 (bL 2193) .l) 17509205161323634301104882 (bL 1193) (.n (.o 17511621826150883076371186 (bL 2539)) 17516279484918259676510583 (bL 1074) .l)) 17516297933294694192149234 (bL 2517) (.n (.n (.o 17522228415138367312261874 (bL 2503)) 17644826346071697837814514 (bL 1542) .l) 17666279250152802748103031 (bL 2087) (.o 17668586172385455662332279 (bL 2668)))) 17672035360570948487508722 (bL 1263) (.n (.n (.n (.o 935997551323211362886775538 (bL 632)) 974683177550879496477373170 (bL 646) .l) 994025990664713563272671986 (bL 653) (.n (.o 1023471237316050259885586807 (bL 727)) 1949679527427101119523486071 (bL 1067) .l)) 1951028970087382846476449633 (bL 1701) (.n (.n (.o 1951028970087382912534688623 (bL 2489)) 1969304620621137590114349810 (bL 836) .l) 1970077826197620305736266482 (bL 1556) (.o 1970990523605565422670738162 (bL 1392))))) 1971137960719697258537974135 (bL 1447) (.n (.n (.n (.n (.o 1971580811425385656148982135 (bL 1795)) 1988348754275273362074268402 (bL 928) .l) 2028721380499582530317137908 (bL 1817) (.n (.o 2028721380499582530348775410 (bL 1920)) 2144608327931510606414770930 (bL 2270) .l)) 2181183037311885374064851319 (bL 752) (.n (.n (.o 2221063403675625147193651954 (bL 2179)) 2239508987109257779424688503 (bL 424) .l) 2239821871556577258672517874 (bL 2529) (.o 2239823032338543030174382455 (bL 1062)))) 2241487593747313036476577392 (bL 2620) (.n (.n (.n (.o 2241770870158271529449420651 (bL 2730)) 2241771018316025211056289643 (bL 2772) .l) 2242073249336789487115302892 (bL 2615) (.n (.o 2242073249336789551520905966 (bL 196)) 2242073249336789585891143922 (bL 513) .l)) 2242073249336789586715506279 (bL 520) (.n (.n (.o 2242073249336789623207932403 (bL 2579)) 2242073249336789624562807020 (bL 2744) .l) 2242083737026894217218945762 (bL 702) (.o 2242088422711605885721408611 (bL 746))))))) 2260509313610995964179165389 (jg 1867) (.n (.n (.n (.n (.n (.n (.o 2261276595556167982473933555 (bL 714)) 2261280193164428091351528171 (bL 2224) .l) 2262020526153081406709463415 (bL 1330) (.n (.o 124759446726512575549412112759 (bL 739)) 206825231721686031451529996240 (dM [(vStr [97,100,106,117,115,116]),(vStr [112,97,105,114]),(vStr [99,117,114,115,105,118,101]),(vStr [98,97,115,101]),(vStr [99,111,109,112,111,110,101,110,116]),(vStr [109,97,114,107]),(vStr [99,111,110,116,101,120,116]),(vStr [99,104,97,105,110])]) .l)) 244916857625732646695848979525 (aW 7) (.n (.n (.o 252070991439505611534945122679 (bL 844)) 252169961753295399134550456695 (bL 1595) .l) 252286787021512374102162831735 (bL 1409) (.n (.o 252322443406300683313366987506 (bL 1563)) 254508626196969650773737108210 (bL 1048) .l))) 254508640547234990345814702455 (bL 948) (.n (.n (.n (.o 257159343767759579956951675634 (bL 815)) 274509864839752640910383936242 (bL 1610) .l) 274509865975233357621399026039 (bL 2291) (.n (.o 286676931061197235372720599272 (bL 721)) 286695513656258600816912921330 (bL 1249) .l)) 286695528848076168695662621412 (bL 506) (.n (.n (.o 286696270259758067789011253623 (bL 2594)) 286697348139333507895317624818 (bL 933) .l) 286754930416137045757115527922 (bL 1228) (.o 286813232761394933049648166900 (bL 1805))))) 286890308735570216155706895429 (aW 9) (.n (.n (.n (.n (.o 286985375915109066962661602034 (bL 2567)) 286985375915109067440181181166 (bL 2553) .l) 286985375915109067684467945708 (bL 2560) (.n (.o 286986718339442459801575584867 (bL 597)) 289345192142207484511194215154 (bL 1934) .l)) 296794122023719055574575903474 (bL 916) (.n (.n (.o 296794122031943143065596228338 (bL 1043)) 21754620659536464674526856422099 (dM [(aW 0),(aW 5)]) .l) 32277581761758900051371466715890 (bL 1537) (.o 32297272756006487464111282747767 (bL 1602)))) 32601768222163670161184792573801 (bL 1200) (.n (.n (.n (.o 36380018200890331181796032313328 (bL 2256)) 36389902805813292114523522413299 (bL 2231) .l) 36697260561834689093716823012082 (bL 1242) (.n (.o 36719464622462322722084190974706 (bL 499)) 37036184594202558017433167886711 (bL 1970) .l)) 37989647620088722312396625574263 (bL 1086) (.n (.n (.o 4092886715862218373754291058719845 (bL 2627)) 4131530465505135591693163193983688 (aW 6) .l) 4497569625534507268675733909287650 (bL 2263) (.o 4699148005562658264452579806837111 (bL 1958)))))) 4700056944600384509658401590506226 (bL 921) (.n (.n (.n (.n (.n (.o 4700091471675177308426776753109367 (bL 527)) 4700740190202365023425939105463397 (bL 2660) .l) 4701344111645595755523557614449394 (bL 2186) (.n (.o 4701344111645697415277808809702130 (bL 2198)) 4701968398993146955359597425589474 (bL 1313) .l)) 4702943856457703250897603260871410 (bL 1731) (.n (.n (.o 4742874986059582077864430395220680 (aW 10)) 528835899584657781901243912411805682 (bL 1583) .l) 528835899584657782123037257887283575 (bL 1588) (.o 529083739975738718373639599492200048 (bL 1375)))) 529083739975738718383210399926874866 (bL 1387) (.n (.n (.n (.o 529242194155823406263589706402915016 (aW 6)) 533743274446209717313503230114165490 (bL 1010) .l) 575688914681950414279124450801119986 (bL 1624) (.n (.o 585506863240280962273848360028135628 (aW 1114111)) 596212167570427398184054589731926770 (bL 2193) .l)) 601244069855250037220482958491153138 (bL 1256) (.n (.n (.o 601772046290636256707015374957869431 (bL 2236)) 601772046290649269155559527950219639 (bL 2241) .l) 601851955071122810071517773335887074 (bL 1318) (.o 601857939601968164259791255073486448 (bL 1186))))) 601857939601968164267629259542524658 (bL 1214) (.n (.n (.n (.n (.o 601857939601968164269362055508342772 (bL 1179)) 601976813626586016114893217699887479 (bL 1736) .l) 52253071017454156795389214197477074896 (aW 9) (.n (.o 73688181079289653027727929702851705207 (bL 1638)) 77037050249103720998148579112613884403 (bL 2584) .l)) 77037816269051925026192870989914206962 (bL 1221) (.n (.n (.o 77707263771600192763730827599879922386 (aW 8)) 8668507995762503161953978766203656418035 (bL 1404) .l) 8668507995762503161953978766203656468466 (bL 1399) (.o 9849464687341924065599428424155553654733 (aW 65535)))) 9859465126833567109120200753796816888012 (aW 1114111) (.n (.n (.n (.o 9859465126833567109120213112857235055304 (aW 10)) 9860742431885276120099779237220200217826 (bL 1323) .l) 9860742431885276287763018060515824399078 (bL 2589) (.n (.o 9860840482438646403352687491247452795635 (bL 1303)) 9946529762764831637267103188259830264562 (bL 2496) .l)) 1227896889258081707583954021459867052045042 (bL 667) (.n (.n (.o 161405946953043442708370758265997993360811981 (aW 65536)) 161537476638041163515825571641052943730402002 (aW 11) .l) 161560010464274782672512852036299465116119794 (bL 1235) (.o 14026576945970690538465802410588192241831946963 (aW 7)))))))))
def ms:NT (List (Nat×Nat)):=(.n (.n (.n (.n (.n (.n (.o 7285 [(187,139),(279,217)]) 15361 [(1662,1)] (.o 15489 [(1662,1)])) 825845 [(187,167),(279,245)] (.n (.o 858485 [(187,160),(279,238)]) 891113 [(187,153),(279,231)] .l)) 891125 [(187,146),(279,224)] (.n (.n (.o 1651297 [(279,262)]) 1700084 [(187,172),(279,250)] .l) 1896680 [(790,780)] (.n (.o 1912961 [(187,1),(2651,1)]) 211383022 [(187,125)] .l))) 211498996 [(322,319),(460,457),(572,569),(790,787),(895,892),(992,989),(1129,1119),(1170,1153),(1364,1361),(1431,1428),(1469,1466),(1495,1492),(1521,1518),(1662,1659),(1777,1774),(1841,1838),(1867,1864),(1895,1892),(2008,1998),(2067,2064),(2129,2126),(2161,2158),(2370,2367),(2398,2395),(2424,2421),(2452,2449),(2478,2475),(2698,2695)] (.n (.n (.n (.o 211530982 [(2129,2121),(2161,2153)]) 213693160 [(187,184)] .l) 213824755 [(279,269)] (.n (.o 217610753 [(2424,1),(2452,1)]) 243136498 [(187,177),(279,255)] .l)) 245005413 [(1777,1764)] (.n (.n (.o 26283110913 [(187,1)]) 26553938817 [(2698,1)] .l) 27075966337 [(2370,1)] (.n (.o 27323299457 [(279,1)]) 27593880449 [(2698,1)] .l)))) 27854058241 [(2370,1)] (.n (.n (.n (.n (.o 28126507762 [(1129,1126)]) 28154164839 [(572,557)] (.o 28931813633 [(1129,1),(1431,1)])) 29500371713 [(1170,1)] (.n (.o 29768643969 [(2698,1)]) 31081607809 [(1777,1)] .l)) 31083674354 [(1170,1167)] (.n (.n (.o 31104709505 [(2698,1)]) 31115016577 [(992,1),(1170,1),(1364,1)] .l) 31121471745 [(2161,1)] (.n (.o 31371130851 [(895,887)]) 32425719657 [(790,773)] .l))) 32721680229 [(1777,1757)] (.n (.n (.n (.o 3462225604737 [(1129,1),(1431,1)]) 3944329476846 [(187,132)] .l) 3978693439873 [(572,1)] (.n (.o 3978724667649 [(1841,1)]) 3979524077159 [(1777,1769)] .l)) 3980333184641 [(1841,1),(1867,1),(1895,1)] (.n (.n (.o 3982193358849 [(2129,1)]) 3982722150895 [(279,276)] .l) 3982730443393 [(322,1)] (.n (.o 3982749104129 [(2651,1)]) 447667100169345 [(1129,1)] .l))))) 460824734675073 [(992,1)] (.n (.n (.n (.n (.n (.o 509272462669825 [(2651,1)]) 509274880506369 [(2370,1)] (.o 509277317397249 [(2067,1)])) 509379081876353 [(790,1)] (.n (.o 509719690950529 [(460,1),(1895,1)]) 509788431085953 [(992,1)] .l)) 509790828361729 [(992,1)] (.n (.n (.o 509792189313793 [(2161,1)]) 513980288004225 [(322,1)] .l) 53902074141372383 [(187,118),(279,210),(322,305),(460,438),(572,550),(790,766),(895,866),(992,963),(1129,1112),(1170,1148),(1364,1356),(1431,1423),(1469,1461),(1495,1487),(1521,1513),(1662,1652),(1777,1750),(1841,1831),(1867,1859),(1895,1885),(2008,1991),(2067,2059),(2129,2114),(2161,2146),(2370,2362),(2398,2388),(2424,2416),(2452,2442),(2478,2470),(2651,2641),(2698,2682)] (.n (.o 57912369908053616 [(2651,2648)]) 57912370741016167 [(572,564)] .l))) 57912373699704419 [(895,873)] (.n (.n (.n (.o 58471268392400513 [(1431,1),(1469,1),(1495,1),(1521,1)]) 63480781313028481 [(2698,1)] .l) 65178289867159169 [(2698,1)] (.n (.o 65182858871404929 [(2161,1)]) 65187429786268033 [(895,1),(992,1),(1170,1)] .l)) 65226872121258113 [(1129,1)] (.n (.n (.o 65235874899293697 [(2452,1),(2478,1)]) 65253294755871105 [(2478,1)] .l) 65781229963276801 [(2424,1)] (.n (.o 65789476864619009 [(322,1)]) 7263122365808736513 [(2398,1)] .l)))) 7336231397916144001 [(1170,1),(2161,1)] (.n (.n (.n (.n (.o 7412783830641047143 [(895,880)]) 8343920472120438913 [(322,1)] .l) 8343986688392524545 [(2398,1),(2478,1)] (.n (.o 8345094583259590913 [(322,1)]) 8351264767095847919 [(460,452)] .l)) 8352404544324989441 [(460,1)] (.n (.n (.o 8416047922182387329 [(2370,1)]) 8416047922968787433 [(992,984)] .l) 8416048161352055809 [(2008,1)] (.n (.o 8416048161352055937 [(2008,1)]) 930326465382488798337 [(2129,1),(2161,1)] .l))) 938756632718972812289 [(2008,1)] (.n (.n (.n (.o 938756632718972812417 [(2008,1)]) 957993226297918618089 [(2008,2005)] .l) 1068024015739814442497 [(2424,1)] (.n (.o 1068030296114247398913 [(1867,1)]) 1077759671718328662505 [(460,445)] .l)) 118998708522763444614273 [(1170,1)] (.n (.n (.o 136790665322774360783617 [(572,1)]) 136835774990656181532263 [(992,970)] .l) 137971692591919937779303 [(322,312)] (.n (.o 17498617440144867420895733 [(1170,1160)]) 17514979198803987696269921 [(992,977)] .l))))))
def G (x:Str):Option V:=NT.find glob (nm x)
def Ms (x:Nat):List (Nat×Nat):=aA [] (λl=>l) (NT.find ms x)
def fnOf (s:Stmt) (ds:List V):Fn:=match s with
 | .FunctionDef _ a b _ _ _ sc _ _ _=>⟨kM (λx=>nm x.arg) a.args,ds,qY G Ms sc.names b,0⟩
 |_=>⟨[],[],lq,0⟩
def YC (s:Stmt) (ds:List V):Fn:=match s with
 | .FunctionDef _ a b _ _ _ sc _ _ _=>⟨kM (λx=>nm x.arg) a.args,ds,Ke G Ms sc.names b,0⟩
 |_=>⟨[],[],lq,0⟩
def fD (i:Nat) (ds:List V):Fn:=fnOf (top i) ds
def fDJ (i:Nat) (ds:List V):Fn:=YC (top i) ds
def fM (i j:Nat) (ds:List V):Fn:=fnOf (sO (vf (top i)) j) ds
def fMJ (i j:Nat) (ds:List V):Fn:=YC (sO (vf (top i)) j) ds
def fP (k:Nat):Fn:=⟨[],[],lq,k⟩
structure NL where
 t:Nat
 i:Nat
 j:Nat
 ds:List V
def CO (d:NL):Fn:=af (af (af (af (fP d.j) (fMJ d.i d.j d.ds) (ak d.t 4)) (fM d.i d.j d.ds) (ak d.t 2)) (fDJ d.i d.ds) (ak d.t 1)) (fD d.i d.ds) (ak d.t 0)
def Mj (e:Expr):Lm:=match e with
 | .Lambda a b sc _=>⟨kM (λx=>nm x.arg) a.args,cS G Ms 30 sc.names b⟩
 |_=>⟨[],fu⟩
noncomputable def Ml:Expr->Bool
 | .Lambda .. =>H
 |_=>aj
def lams:List Expr->List Expr:=aQ [] (λe _ ih=>af ih (e::ih) (Ml e))
def qw (i j:Nat):Lm:=Mj (Eo (lams (vg (fnBody (top i)))) j)
def init:NT Nat:=(.n (.n (.n (.n (.o 187 118) 279 210 (.o 322 305)) 460 438 (.n (.o 572 550) 790 766 (.o 895 866))) 992 963 (.n (.n (.o 1129 1112) 1170 1148 (.o 1364 1356)) 1431 1423 (.n (.o 1469 1461) 1495 1487 (.o 1521 1513)))) 1662 1652 (.n (.n (.n (.o 1777 1750) 1841 1831 (.o 1867 1859)) 1895 1885 (.n (.o 2008 1991) 2067 2059 (.o 2129 2114))) 2161 2146 (.n (.n (.o 2370 2362) 2398 2388 (.o 2424 2416)) 2452 2442 (.n (.o 2478 2470) 2651 2641 (.o 2698 2682)))))
def TX:NT Lm:=(.n (.n (.o 9519104 (qw 360 0)) 9523200 (qw 360 1) .l) 9629696 (qw 366 0) (.o 9633792 (qw 366 1)))
def dT:NT NL:=(.n (.n (.n (.n (.n (.n (.n (.n (.o 21 ⟨0,0,0,[]⟩) 82 ⟨0,7,0,[]⟩ .l) 89 ⟨0,8,0,[]⟩ (.n (.o 96 ⟨0,9,0,[]⟩) 103 ⟨0,10,0,[]⟩ .l)) 118 ⟨2,11,0,[(aW 0)]⟩ (.n (.n (.o 125 ⟨2,11,1,[]⟩) 132 ⟨2,11,2,[]⟩ .l) 139 ⟨2,11,3,[]⟩ (.o 146 ⟨2,11,4,[]⟩))) 153 ⟨2,11,5,[]⟩ (.n (.n (.n (.o 160 ⟨2,11,6,[]⟩) 167 ⟨2,11,7,[]⟩ .l) 172 ⟨2,11,8,[]⟩ (.n (.o 177 ⟨2,11,9,[]⟩) 184 ⟨2,11,10,[]⟩ .l)) 196 ⟨0,12,0,[]⟩ (.n (.n (.o 210 ⟨2,13,0,[]⟩) 217 ⟨2,13,1,[]⟩ .l) 224 ⟨2,13,2,[]⟩ (.o 231 ⟨2,13,3,[]⟩)))) 238 ⟨2,13,4,[]⟩ (.n (.n (.n (.n (.o 245 ⟨2,13,5,[]⟩) 250 ⟨2,13,6,[]⟩ .l) 255 ⟨2,13,7,[]⟩ (.n (.o 262 ⟨2,13,8,[]⟩) 269 ⟨2,13,9,[]⟩ .l)) 276 ⟨2,13,10,[]⟩ (.n (.n (.o 291 ⟨0,14,0,[(vBool H),(aW 65535)]⟩) 305 ⟨2,22,0,[]⟩ .l) 312 ⟨2,22,1,[]⟩ (.o 319 ⟨2,22,2,[]⟩))) 333 ⟨0,23,0,[]⟩ (.n (.n (.n (.o 340 ⟨0,24,0,[]⟩) 347 ⟨0,25,0,[]⟩ .l) 354 ⟨0,26,0,[]⟩ (.n (.o 361 ⟨0,27,0,[]⟩) 368 ⟨0,28,0,[]⟩ .l)) 375 ⟨0,29,0,[]⟩ (.n (.n (.o 382 ⟨0,30,0,[]⟩) 389 ⟨0,31,0,[]⟩ .l) 396 ⟨0,32,0,[]⟩ (.o 403 ⟨0,33,0,[]⟩))))) 410 ⟨0,34,0,[]⟩ (.n (.n (.n (.n (.n (.o 417 ⟨0,35,0,[]⟩) 424 ⟨0,36,0,[]⟩ .l) 438 ⟨2,42,0,[]⟩ (.n (.o 445 ⟨2,42,1,[]⟩) 452 ⟨2,42,2,[]⟩ .l)) 457 ⟨2,42,3,[]⟩ (.n (.n (.o 471 ⟨0,43,0,[]⟩) 478 ⟨0,44,0,[]⟩ .l) 485 ⟨0,45,0,[]⟩ (.o 492 ⟨0,46,0,[]⟩))) 499 ⟨0,47,0,[]⟩ (.n (.n (.n (.o 506 ⟨0,48,0,[]⟩) 513 ⟨0,49,0,[]⟩ .l) 520 ⟨0,50,0,[]⟩ (.n (.o 527 ⟨0,51,0,[]⟩) 550 ⟨2,58,0,[dc]⟩ .l)) 557 ⟨2,58,1,[]⟩ (.n (.n (.o 564 ⟨2,58,2,[]⟩) 569 ⟨2,58,3,[]⟩ .l) 583 ⟨0,59,0,[]⟩ (.o 590 ⟨0,60,0,[]⟩)))) 597 ⟨0,61,0,[]⟩ (.n (.n (.n (.n (.o 604 ⟨0,62,0,[]⟩) 611 ⟨0,63,0,[]⟩ .l) 618 ⟨0,64,0,[]⟩ (.n (.o 625 ⟨0,65,0,[]⟩) 632 ⟨0,66,0,[]⟩ .l)) 639 ⟨0,67,0,[]⟩ (.n (.n (.o 646 ⟨0,68,0,[]⟩) 653 ⟨0,69,0,[]⟩ .l) 660 ⟨0,70,0,[]⟩ (.o 667 ⟨0,71,0,[]⟩))) 674 ⟨0,73,0,[]⟩ (.n (.n (.n (.o 681 ⟨0,74,0,[]⟩) 688 ⟨0,75,0,[]⟩ .l) 695 ⟨0,76,0,[]⟩ (.n (.o 702 ⟨0,77,0,[]⟩) 707 ⟨0,78,0,[]⟩ .l)) 714 ⟨0,79,0,[]⟩ (.n (.n (.o 721 ⟨0,80,0,[]⟩) 727 ⟨0,81,0,[(aW 65535)]⟩ .l) 734 ⟨0,82,0,[]⟩ (.o 739 ⟨0,83,0,[]⟩)))))) 746 ⟨0,84,0,[]⟩ (.n (.n (.n (.n (.n (.n (.o 752 ⟨0,85,0,[(aW 65535)]⟩) 766 ⟨2,87,0,[]⟩ .l) 773 ⟨2,87,1,[]⟩ (.n (.o 780 ⟨2,87,2,[]⟩) 787 ⟨2,87,3,[]⟩ .l)) 801 ⟨0,88,0,[]⟩ (.n (.n (.o 808 ⟨0,89,0,[]⟩) 815 ⟨0,90,0,[]⟩ .l) 822 ⟨0,91,0,[]⟩ (.o 829 ⟨0,92,0,[]⟩))) 836 ⟨0,93,0,[]⟩ (.n (.n (.n (.o 844 ⟨0,94,0,[(aW 0)]⟩) 852 ⟨0,95,0,[(qS 1)]⟩ .l) 866 ⟨2,98,0,[]⟩ (.n (.o 873 ⟨2,98,1,[]⟩) 880 ⟨2,98,2,[]⟩ .l)) 887 ⟨2,98,3,[]⟩ (.n (.n (.o 892 ⟨2,98,4,[]⟩) 904 ⟨0,99,0,[]⟩ .l) 911 ⟨0,100,0,[]⟩ (.o 916 ⟨0,101,0,[]⟩)))) 921 ⟨0,102,0,[]⟩ (.n (.n (.n (.n (.o 928 ⟨0,103,0,[]⟩) 933 ⟨0,104,0,[]⟩ .l) 940 ⟨0,105,0,[]⟩ (.n (.o 948 ⟨0,106,0,[(aW 0)]⟩) 963 ⟨2,109,0,[dc,dc]⟩ .l)) 970 ⟨2,109,1,[]⟩ (.n (.n (.o 977 ⟨2,109,2,[]⟩) 984 ⟨2,109,3,[]⟩ .l) 989 ⟨2,109,4,[]⟩ (.o 1003 ⟨0,110,0,[]⟩))) 1010 ⟨0,111,0,[]⟩ (.n (.n (.n (.o 1015 ⟨0,113,0,[]⟩) 1022 ⟨0,114,0,[]⟩ .l) 1029 ⟨0,115,0,[]⟩ (.n (.o 1036 ⟨0,116,0,[]⟩) 1043 ⟨0,117,0,[]⟩ .l)) 1048 ⟨0,118,0,[]⟩ (.n (.n (.o 1055 ⟨0,120,0,[]⟩) 1062 ⟨0,121,0,[]⟩ .l) 1067 ⟨0,122,0,[]⟩ (.o 1074 ⟨0,123,0,[]⟩))))) 1081 ⟨0,124,0,[]⟩ (.n (.n (.n (.n (.n (.o 1086 ⟨0,125,0,[]⟩) 1091 ⟨0,126,0,[]⟩ .l) 1098 ⟨0,127,0,[]⟩ (.n (.o 1112 ⟨2,132,0,[]⟩) 1119 ⟨2,132,1,[]⟩ .l)) 1126 ⟨2,132,2,[]⟩ (.n (.n (.o 1148 ⟨2,133,0,[dc,dc]⟩) 1153 ⟨2,133,1,[]⟩ .l) 1160 ⟨2,133,2,[]⟩ (.o 1167 ⟨2,133,3,[]⟩))) 1179 ⟨0,134,0,[]⟩ (.n (.n (.n (.o 1186 ⟨0,136,0,[]⟩) 1193 ⟨0,138,0,[]⟩ .l) 1200 ⟨0,139,0,[]⟩ (.n (.o 1207 ⟨0,140,0,[]⟩) 1214 ⟨0,141,0,[]⟩ .l)) 1221 ⟨0,143,0,[]⟩ (.n (.n (.o 1228 ⟨0,145,0,[]⟩) 1235 ⟨0,146,0,[]⟩ .l) 1242 ⟨0,148,0,[]⟩ (.o 1249 ⟨0,149,0,[]⟩)))) 1256 ⟨0,150,0,[]⟩ (.n (.n (.n (.n (.o 1263 ⟨0,151,0,[]⟩) 1270 ⟨0,152,0,[]⟩ .l) 1277 ⟨0,153,0,[]⟩ (.n (.o 1284 ⟨0,154,0,[]⟩) 1291 ⟨0,155,0,[]⟩ .l)) 1298 ⟨0,156,0,[]⟩ (.n (.n (.o 1303 ⟨0,157,0,[]⟩) 1308 ⟨0,159,0,[]⟩ .l) 1313 ⟨0,160,0,[]⟩ (.o 1318 ⟨0,161,0,[]⟩))) 1323 ⟨0,162,0,[]⟩ (.n (.n (.n (.o 1330 ⟨0,163,0,[]⟩) 1337 ⟨0,165,0,[]⟩ .l) 1342 ⟨0,166,0,[]⟩ (.n (.o 1356 ⟨2,167,0,[]⟩) 1361 ⟨2,167,1,[]⟩ .l)) 1375 ⟨0,168,0,[]⟩ (.n (.n (.o 1380 ⟨0,170,0,[]⟩) 1387 ⟨0,171,0,[]⟩ .l) 1392 ⟨0,173,0,[]⟩ (.o 1399 ⟨0,174,0,[]⟩))))))) 1404 ⟨0,176,0,[]⟩ (.n (.n (.n (.n (.n (.n (.n (.o 1409 ⟨0,178,0,[]⟩) 1423 ⟨2,180,0,[]⟩ .l) 1428 ⟨2,180,1,[]⟩ (.n (.o 1442 ⟨0,181,0,[]⟩) 1447 ⟨0,182,0,[]⟩ .l)) 1461 ⟨2,186,0,[]⟩ (.n (.n (.o 1466 ⟨2,186,1,[]⟩) 1487 ⟨2,187,0,[]⟩ .l) 1492 ⟨2,187,1,[]⟩ (.o 1513 ⟨2,188,0,[]⟩))) 1518 ⟨2,188,1,[]⟩ (.n (.n (.n (.o 1530 ⟨0,189,0,[]⟩) 1537 ⟨0,190,0,[]⟩ .l) 1542 ⟨0,192,0,[]⟩ (.n (.o 1549 ⟨0,193,0,[]⟩) 1556 ⟨0,194,0,[]⟩ .l)) 1563 ⟨0,195,0,[]⟩ (.n (.n (.o 1570 ⟨0,196,0,[]⟩) 1576 ⟨0,197,0,[(aW 0)]⟩ .l) 1583 ⟨0,198,0,[]⟩ (.o 1588 ⟨0,200,0,[]⟩)))) 1595 ⟨0,202,0,[]⟩ (.n (.n (.n (.n (.o 1602 ⟨0,203,0,[]⟩) 1610 ⟨0,207,0,[]⟩ .l) 1617 ⟨0,208,0,[]⟩ (.n (.o 1624 ⟨0,209,0,[]⟩) 1631 ⟨0,210,0,[]⟩ .l)) 1638 ⟨0,211,0,[]⟩ (.n (.n (.o 1652 ⟨2,214,0,[]⟩) 1659 ⟨2,214,1,[]⟩ .l) 1673 ⟨0,215,0,[]⟩ (.o 1680 ⟨0,216,0,[]⟩))) 1687 ⟨0,217,0,[]⟩ (.n (.n (.n (.o 1694 ⟨0,218,0,[]⟩) 1701 ⟨0,219,0,[]⟩ .l) 1709 ⟨0,220,0,[(aW 65536)]⟩ (.n (.o 1714 ⟨0,221,0,[]⟩) 1719 ⟨0,222,0,[]⟩ .l)) 1726 ⟨0,223,0,[]⟩ (.n (.n (.o 1731 ⟨0,224,0,[]⟩) 1736 ⟨0,225,0,[]⟩ .l) 1750 ⟨2,228,0,[]⟩ (.o 1757 ⟨2,228,1,[]⟩))))) 1764 ⟨2,228,2,[]⟩ (.n (.n (.n (.n (.n (.o 1769 ⟨2,228,3,[]⟩) 1774 ⟨2,228,4,[]⟩ .l) 1788 ⟨0,229,0,[]⟩ (.n (.o 1795 ⟨0,230,0,[]⟩) 1800 ⟨0,233,0,[]⟩ .l)) 1805 ⟨0,234,0,[]⟩ (.n (.n (.o 1810 ⟨0,236,0,[]⟩) 1817 ⟨0,237,0,[]⟩ .l) 1831 ⟨2,238,0,[]⟩ (.o 1838 ⟨2,238,1,[]⟩))) 1859 ⟨2,239,0,[]⟩ (.n (.n (.n (.o 1864 ⟨2,239,1,[]⟩) 1885 ⟨2,240,0,[]⟩ .l) 1892 ⟨2,240,1,[]⟩ (.n (.o 1906 ⟨0,241,0,[]⟩) 1913 ⟨0,242,0,[]⟩ .l)) 1920 ⟨0,243,0,[]⟩ (.n (.n (.o 1927 ⟨0,244,0,[]⟩) 1934 ⟨0,245,0,[]⟩ .l) 1941 ⟨0,246,0,[]⟩ (.o 1946 ⟨0,247,0,[]⟩)))) 1953 ⟨0,248,0,[]⟩ (.n (.n (.n (.n (.o 1958 ⟨0,249,0,[]⟩) 1965 ⟨0,251,0,[]⟩ .l) 1970 ⟨0,252,0,[]⟩ (.n (.o 1977 ⟨0,253,0,[]⟩) 1991 ⟨2,258,0,[]⟩ .l)) 1998 ⟨2,258,1,[]⟩ (.n (.n (.o 2005 ⟨2,258,2,[]⟩) 2019 ⟨0,259,0,[]⟩ .l) 2024 ⟨0,260,0,[]⟩ (.o 2031 ⟨0,261,0,[]⟩))) 2038 ⟨0,262,0,[]⟩ (.n (.n (.n (.o 2045 ⟨0,263,0,[]⟩) 2059 ⟨2,264,0,[]⟩ .l) 2064 ⟨2,264,1,[]⟩ (.n (.o 2076 ⟨0,265,0,[]⟩) 2081 ⟨0,266,0,[]⟩ .l)) 2087 ⟨0,267,0,[(aW 0)]⟩ (.n (.n (.o 2094 ⟨0,269,0,[]⟩) 2099 ⟨0,270,0,[]⟩ .l) 2114 ⟨2,271,0,[(vBool aj)]⟩ (.o 2121 ⟨2,271,1,[]⟩)))))) 2126 ⟨2,271,2,[]⟩ (.n (.n (.n (.n (.n (.n (.o 2146 ⟨2,272,0,[(vBool aj)]⟩) 2153 ⟨2,272,1,[]⟩ .l) 2158 ⟨2,272,2,[]⟩ (.n (.o 2172 ⟨0,273,0,[]⟩) 2179 ⟨0,274,0,[]⟩ .l)) 2186 ⟨0,276,0,[]⟩ (.n (.n (.o 2193 ⟨0,277,0,[]⟩) 2198 ⟨0,279,0,[]⟩ .l) 2205 ⟨0,280,0,[]⟩ (.o 2210 ⟨0,281,0,[]⟩))) 2217 ⟨0,282,0,[]⟩ (.n (.n (.n (.o 2224 ⟨0,283,0,[]⟩) 2231 ⟨0,284,0,[]⟩ .l) 2236 ⟨0,286,0,[]⟩ (.n (.o 2241 ⟨0,287,0,[]⟩) 2248 ⟨0,288,0,[]⟩ .l)) 2256 ⟨0,292,0,[]⟩ (.n (.n (.o 2263 ⟨0,293,0,[]⟩) 2270 ⟨0,294,0,[]⟩ .l) 2277 ⟨0,295,0,[]⟩ (.o 2284 ⟨0,296,0,[]⟩)))) 2291 ⟨0,297,0,[]⟩ (.n (.n (.n (.n (.o 2298 ⟨0,298,0,[]⟩) 2305 ⟨0,299,0,[]⟩ .l) 2312 ⟨0,308,0,[]⟩ (.n (.o 2319 ⟨0,309,0,[]⟩) 2326 ⟨0,310,0,[]⟩ .l)) 2333 ⟨0,311,0,[]⟩ (.n (.n (.o 2340 ⟨0,312,0,[]⟩) 2348 ⟨0,313,0,[(aW 10920)]⟩ .l) 2362 ⟨2,316,0,[]⟩ (.o 2367 ⟨2,316,1,[]⟩))) 2388 ⟨2,322,0,[]⟩ (.n (.n (.n (.o 2395 ⟨2,322,1,[]⟩) 2416 ⟨2,323,0,[]⟩ .l) 2421 ⟨2,323,1,[]⟩ (.n (.o 2442 ⟨2,324,0,[]⟩) 2449 ⟨2,324,1,[]⟩ .l)) 2470 ⟨2,325,0,[]⟩ (.n (.n (.o 2475 ⟨2,325,1,[]⟩) 2489 ⟨0,326,0,[]⟩ .l) 2496 ⟨0,327,0,[]⟩ (.o 2503 ⟨0,329,0,[]⟩))))) 2510 ⟨0,330,0,[]⟩ (.n (.n (.n (.n (.n (.o 2517 ⟨0,331,0,[]⟩) 2524 ⟨0,332,0,[]⟩ .l) 2529 ⟨0,333,0,[]⟩ (.n (.o 2534 ⟨0,334,0,[]⟩) 2539 ⟨0,335,0,[]⟩ .l)) 2546 ⟨0,336,0,[]⟩ (.n (.n (.o 2553 ⟨0,337,0,[]⟩) 2560 ⟨0,338,0,[]⟩ .l) 2567 ⟨0,339,0,[]⟩ (.o 2574 ⟨0,340,0,[]⟩))) 2579 ⟨0,341,0,[]⟩ (.n (.n (.n (.o 2584 ⟨0,342,0,[]⟩) 2589 ⟨0,343,0,[]⟩ .l) 2594 ⟨0,344,0,[]⟩ (.n (.o 2601 ⟨0,345,0,[]⟩) 2608 ⟨0,346,0,[]⟩ .l)) 2615 ⟨0,347,0,[]⟩ (.n (.n (.o 2620 ⟨0,348,0,[]⟩) 2627 ⟨0,349,0,[]⟩ .l) 2641 ⟨2,350,0,[]⟩ (.o 2648 ⟨2,350,1,[]⟩)))) 2660 ⟨0,351,0,[]⟩ (.n (.n (.n (.n (.o 2668 ⟨0,352,0,[(aW 0)]⟩) 2682 ⟨2,356,0,[]⟩ .l) 2689 ⟨2,356,1,[]⟩ (.n (.o 2695 ⟨4,356,2,[]⟩) 2709 ⟨0,357,0,[]⟩ .l)) 2716 ⟨0,358,0,[]⟩ (.n (.n (.o 2723 ⟨1,359,0,[]⟩) 2730 ⟨0,360,0,[]⟩ .l) 2737 ⟨1,361,0,[]⟩ (.o 2744 ⟨0,362,0,[]⟩))) 2751 ⟨1,363,0,[]⟩ (.n (.n (.n (.o 2758 ⟨3,364,1638,[]⟩) 2765 ⟨3,365,2291,[]⟩ .l) 2772 ⟨0,366,0,[]⟩ (.o 2779 ⟨1,367,0,[]⟩)) 2786 ⟨0,369,0,[]⟩ (.n (.n (.o 2793 ⟨0,370,0,[]⟩) 2800 ⟨1,371,0,[]⟩ .l) 2805 ⟨0,372,0,[]⟩ (.o 2810 ⟨1,373,0,[]⟩))))))))
end K
def KT:B8:=⟨λa=>K.TX.find a,λa=>aA aq (λd=>O (K.CO d)) (K.dT.find a),λa=>K.init.find a⟩
end
end
section
open PyProof.Rows PySem.Calls PySem.SeqAt PySem.W
section
noncomputable def CQ:aM->Bool
 | .free=>aj
 |_=>H
noncomputable def wF:Option aM->Bool
 |some .local=>H
 |some .cell=>H
 |_=>aj
def WN (sc:Scope) (names:List Str):Bool:=isFn sc.kind&&(!sc.isCoroutine&&(!sc.isGenerator&&(sc.names.all (λp=>aY p.1&&CQ p.2)&&(!sH (nm "__debug__") sc.names&&(!sH (nm "__classdict__") sc.names&&(names.all (λx=>aY x&&wF (aZ (nm x) sc.names))&&ie (names.map nm)))))))
theorem O9 (e:aZ x l=O k):sH x l=true:=by unfold sH;exact U e rfl
theorem sf (h:sH (nm y) l=aj) x k (e:aZ (nm x) l=O k):(x==y)=false:=by
 induction hb:x==y using zB with
 |false=>rfl
 |true=>
  have a:x=y:=by simpa using hb
  subst a;rw [O9 e] at h;exact ft h
theorem vh (h:wF o=H):o=O .local\/o=O .cell:=by
 rcases o with _|k
 .exact ff h
 .rcases k<;>first|exact .inl rfl|exact .inr rfl|exact ff h
theorem G0 (h:WN sc names=H):OE sc names:=by
 unfold WN at h;simp only [aP,gv,aL] at h;obtain⟨h1,h2,c,a,d,e,b,f⟩:=h;refine⟨?_,h2,c,λp hp=>(a p hp).1,λp hp q=> ?_,sf d,sf e,λx hx=>⟨(b x hx).1,vh (b x hx).2⟩, ?_⟩
 .revert h1;generalize sc.kind=k;intro h1;rcases k<;>first|rfl|exact ff h1
 .have:=(a p hp).2;rw [q] at this;exact ff this
 .have g:=uW f;exact(wU.mp g).imp λh q=>h (congrArg nm q)
end
set_option backward.match.sparseCases false
section
def G1 (v:V) (t s n:Nat):Bool:=ak v.t t&&(ak v.s s&&(ak v.n n&&(isNil v.l&&isNil v.xs)))
theorem ql (h:G1 v t s n=H):v=⟨t,s,n,[],[]⟩:=by
 unfold G1 at h;simp only [aP] at h;obtain⟨h1,h2,a,b,c⟩:=h;obtain⟨d,vs,e,f,i⟩:=v;have j:d=t:=aH h1;have k:vs=s:=aH h2;have l:e=n:=aH a;subst j;subst k;subst l
 induction f using zL with
 |nil=>
  induction i using zL with
  |nil=>rfl
  |cons _ _=>exact ff c
 |cons _ _=>exact ff b
def YD (v:V):Value->Bool
 | .none=>G1 v 0 0 0
 | .bool b=>G1 v 1 0 (af 0 1 b)
 | .int i _=>match i with
  | .ofNat n=>G1 v 2 0 n
  | .negSucc n=>G1 v 2 1 (n+1)
 |_=>aj
theorem Mm (h:YD v x=H):VR X g w n v x:=by
 induction x using fE with
 |none=>exact U (ql h) .none
 |bool b=>exact U (ql h) (.bool b)
 |int i t=>
  rcases i with k|k
  .exact U (ql h) (VR.mD (dQ k) t)
  .exact U (ql h) (VR.mD (Int.negSucc k) t)
 |_=>exact ff h
def Pa:List V->List Value->Bool
 |[],[]=>H
 |v::vs,x::xs=>YD v x&&Pa vs xs
 |_,_=>aj
theorem G3 {X:dw} {g:Heap} {w:Wd} {n:Nat}:∀{vs:List V} {xs:List Value},Pa vs xs=H->eg X g w n vs xs
 |[],[],_=> .nil
 |v::vs,x::xs,h=>by
  have h:(YD v x&&Pa vs xs)=true:=h;rw [aP] at h;exact .cons _ _ _ _ (Mm h.1) (G3 h.2)
 |[],_::_,h=>ff h
 |_::_,[],h=>ff h
def jk (a:Nat) (l:List Nat):Bool:=aQ H (λb u_ ih=>af ih aj (ak a b)) l
theorem fZ:∀{l},jk a l=H->a∉l:=by
 intro l
 induction l with
 |nil=>
  intro _;exact λh=>(aU h).elim
 |cons b l c=>
  intro h;have h:(af (jk a l) aj (ak a b):Bool)=true:=h
  induction hb:ak a b using zB with
  |true=>rw [hb] at h;exact ff h
  |false=>
   rw [hb] at h;intro hm;rcases aT.mp hm with rfl|hm
   .rw [fy] at hb;exact ft hb
   .exact c h hm
def codeB (g:Nat->Option Obj) (tabs:List Nat) (cd:Value) (q:Str):Bool:=match cd with
 | .ref c=>jk c tabs&&(match g c with
  |some o=>match o.data with
   | .fields vs=>match (vs[1]? :Option Value) with
    |some (.str q' _)=>q'==q
    |_=>aj
   |_=>aj
  |none=>aj)
 |_=>aj
def Mn (g:Nat->Option Obj) (tabs:List Nat) (d:Value) (ds:List V):Bool:=match d with
 | .none=>isNil ds
 | .ref t=>jk t tabs&&(match g t with
  |some o=>match o.data with
   | .seq vs _=>Pa ds vs.toList
   |_=>aj
  |none=>aj)
 |_=>aj
def TY (lc:List (Str×aM)->Option (Addr×Str)) (fd:mF):Bool:=match lc fd.scope.names with
 |none=>H
 |some p=>gH fd.scope.names||(fd.code== .ref p.1&&fd.qualname++".<locals>."==p.2)
def YE (g:Nat->Option Obj) (tabs:List Nat) (lc:List (Str×aM)->Option (Addr×Str)) (fd:mF) (names:List Str) (ds:List V):Bool:=
 WN fd.scope names&&(fd.closure.isEmpty&&(ak fd.globals mainNs&&(ak fd.builtins builtinsNs&&(TY lc fd&&(fd.params.posonlyargs.isEmpty&&(fd.params.kwonlyargs.isEmpty&&(fd.params.vararg.isNone&&(fd.params.kwarg.isNone&&(bO (len ds) names.length&&(Mn g tabs fd.defaults ds&&codeB g tabs fd.code fd.qualname))))))))))
section
variable {X:dw} {g:Nat->Option Obj}
theorem Mp (f:∀a o,g a=O o->X.h₀.get? a=O o) (h:codeB g X.tabs cd q=H):∀w e s,St X w e s->s.heap.CodeRec cd q:=by
 intro w e s i
 induction cd using fE with
 |ref c=>
  refine aC (mK h) λh2 h1=> ?_
  induction b:g c using zO with
  |none=>rw [b] at h2;exact ff h2
  |some o=>
   rw [b] at h2
   induction d:o.data using jJ with
   |fields vs=>
    dsimp only at h2;rw [d] at h2;dsimp only at h2
    induction hv:vs[1]? using zO with
    |none=>rw [hv] at h2;exact ff h2
    |some v=>
     rw [hv] at h2
     induction v using fE with
     |str j t=>exact uv c o vs t rfl (i.base c o (f c o b) (fZ h1)) d ((show j=q by simpa using h2)▸hv)
     |_=>exact ff h2
   |_=>dsimp only at h2;rw [d] at h2;exact ff h2
 |_=>exact ff h
theorem I4 (f:∀a o,g a=O o->X.h₀.get? a=O o) (h:Mn g X.tabs d ds=H):∀w b s,St X w b s->∃od,(∀{M} {A} {E} {Q},Q od s->wpAny M A (sC d) Q E s)/\eg X s.heap w b.n ds (od.getD #[]).toList:=by
 intro w b s i
 induction d using fE with
 |none=>
  refine bV aq (λq=>av q) ?_
  induction ds using zL with
  |nil=>exact .nil
  |cons _ _=>exact ff h
 |ref t=>
  refine aC (mK h) λh2 h1=> ?_
  induction c:g t using zO with
  |none=>rw [c] at h2;exact ff h2
  |some o=>
   rw [c] at h2;dsimp only at h2
   induction e:o.data using jJ with
   |seq vs n=>rw [e] at h2;exact bV (O vs) (λq=>dz (i.base t o (f t o c) (fZ h1)) e q) (G3 h2)
   |_=>rw [e] at h2;exact ff h2
 |_=>exact ff h
theorem Pb (h:TY lc fd=H):gH fd.scope.names=aj->∀c q,lc fd.scope.names=O (c,q)->fd.code= .ref c/\fd.qualname++".<locals>."=q:=by
 intro hl c q e;unfold TY at h;rw [e,hl] at h;simp only [Bool.false_or,aP,beq_iff_eq] at h;exact h
theorem FW (e:∀a o,g a=O o->X.h₀.get? a=O o) (h:YE g X.tabs X.jQ fd (fd.params.args.map (·.arg)) ds=H):Vk X fd (fd.params.args.map (·.arg)) ds/\∀w f s,St X w f s->s.heap.CodeRec fd.code fd.qualname:=by
 unfold YE at h;simp only [aP] at h;obtain⟨h1,h2,i,j,k,l,m,n,p,b,c,d⟩:=h;refine⟨⟨G0 h1,cX.mp h2,aH i,aH j,Pb k,cX.mp l,rfl,cX.mp m,cQ.mp n,cQ.mp p, ?_,I4 e c⟩,Mp e d⟩;have:=aB b;rw [len_eq] at this;exact this
end
end
section
def yj (d:K.NL):Stmt:=af (af (K.top d.i) (K.sO (K.vf (K.top d.i)) d.j) (ak d.t 4)) (K.sO (K.vf (K.top d.i)) d.j) (ak d.t 2)
noncomputable def rI:Stmt->Arguments
 | .FunctionDef _ a _ _ _ _ _ _ _ _=>a
 |_=>default
noncomputable def oV:Stmt->Scope
 | .FunctionDef _ _ _ _ _ _ sc _ _ _=>sc
 |_=>default
noncomputable def RZ:Stmt->Bool
 | .FunctionDef .. =>H
 |_=>aj
noncomputable def mS:Expr->Bool
 | .Lambda .. =>H
 |_=>aj
def FY:List Stmt->Bool
 |[.Return (O (.Dict ks vs _)) _]=>ks.all (λk=>match k with|some e=> !mS e|none=>H)&&vs.all λe=> !mS e
 |_=>H
def xw (g:Nat->Option Obj) (tabs:List Nat) (lc:List (Str×aM)->Option (Addr×Str)) (ds:List V) (a:Nat):Option (FuncBody×Scope×Arguments×Bool):=match g a with
 |some o=>match o.data with
  | .func fd=>O (fd.body,fd.scope,fd.params,YE g tabs lc fd (fd.params.args.map (·.arg)) ds)
  |_=>aq
 |none=>aq
def zV (d:K.NL):Option (FuncBody×Scope×Arguments×Bool):=O (.stmts (K.fnBody (yj d)),oV (yj d),rI (yj d),H)
section
variable {X:dw} {K':Frag} {g:Nat->Option Obj}
theorem n9 (e:xw g tabs lc ds a=zV d):∃o fd,g a=O o/\o.data= .func fd/\fd.body= .stmts (K.fnBody (yj d))/\fd.scope=oV (yj d)/\fd.params=rI (yj d)/\YE g tabs lc fd (fd.params.args.map (·.arg)) ds=true:=by
 unfold xw at e;revert e
 induction c:g a using zO with
 |none=>exact λe=>fn e
 |some o=>
  dsimp only
  induction b:o.data using jJ with
  |func fd=>
   intro e;have e:=aF e;exact⟨o,fd,rfl,b,congrArg eG e,congrArg (λx=>x.2.1) e,congrArg (λx=>x.2.2.1) e,congrArg (λx=>x.2.2.2) e⟩
  |_=>exact λe=>fn e
theorem Mq {body} (h:FY body=H):∀ks vs p c,body=[.Return (O (.Dict ks vs p)) c]->(∀e,O e∈ks->pS X r n b ns e)/\∀e∈vs,pS X r n b ns e:=by
 intro ks vs p c hb;subst hb;have h:(ks.all (λk=>match k with|some e=> !mS e|none=>H)&&vs.all λe=> !mS e)=true:=h;simp only [aP,aL] at h;have d:∀e,(!mS e)=H->pS X r n b ns e:=λe he a f sc pos q=>by subst q;exact ff he
 exact⟨λe he=>d e (h.1 _ he),λe he=>d e (h.2 e he)⟩
theorem T4 (j:∀a o,g a=O o->X.h₀.get? a=O o) (B:Base X K' K.G K.Ms) (e:xw g X.tabs X.jQ d.ds a=zV d) (y:jk a X.tabs=H) (z:RZ (yj d)=H) (A:ak d.t 3=aj/\bO d.t 4=H)
 (hl:∀r n,Ck X r n->∀ks vs p M,K.fnBody (yj d)=[.Return (O (.Dict ks vs p)) M]->(∀e,O e∈ks->pS X r n 0 (oV (yj d)).names e)/\∀e∈vs,pS X r n 0 (oV (yj d)).names e):
 ∃b names fd body,b<=190/\∀r n,Ck X r n->Zw X r n b a (K.CO d) names fd body:=by
 refine tL (n9 e) λo fd P D c h1 h2 l=>aC (FW j P) λE F=>⟨0,fd.params.args.map (·.arg),fd,K.fnBody (yj d),iB _,λr n I=> ?_⟩;have s:∃f,yj d=f/\(K.CO d=K.fnOf f d.ds\/K.CO d=K.YC f d.ds):=by
  refine bV _ rfl ?_;unfold K.CO yj;have i:∀{m k},ak d.t m=H->m≠k->ak d.t k=false:=λ{m k} e q=>by
   induction h:ak d.t k using zB with
   |false=>rfl
   |true=>exact absurd ((aH e).symm.trans (aH h)) q
  induction u:ak d.t 0 using zB with
  |true=>refine U (i u (k:=2) (Nat.zero_ne_add_one 1)) (U (i u (k:=4) (Nat.zero_ne_add_one 3)) ?_);exact .inl rfl
  |false=>
   induction v:ak d.t 1 using zB with
   |true=>refine U (i v (k:=2) (aX rfl)) (U (i v (k:=4) (aX rfl)) ?_);exact .inr rfl
   |false=>
    induction Q:ak d.t 2 using zB with
    |true=>exact .inl rfl
    |false=>
     induction R:ak d.t 4 using zB with
     |true=>exact .inr rfl
     |false=>
      have q0:=fV u;have q1:=fV v;have q2:=fV Q;have q3:=fV A.1;have q4:=fV R;exact absurd (aB A.2) (by lia)
 refine aK s λf hF w=> ?_;rw [w] at h1 h2 l z hl⊢
 induction f using fc with
 |FunctionDef S J L V ret tp sc ts bi pos=>
  have C:=B.ctx (r:=r) (n:=n) (b:=0) I;rcases hF with hF|hF
  .exact U hF (⟨(bV o (j a o D) c),fZ y,F,h1,E,by show kM (λx=>nm x.arg) J.args=_;refine U (qb ..) (U l (U jI ?_));rfl,by refine U h2 ?_;exact LL C sc.names L (hl r n I)⟩)
  .exact U hF (⟨(bV o (j a o D) c),fZ y,F,h1,E,by show kM (λx=>nm x.arg) J.args=_;refine U (qb ..) (U l (U jI ?_));rfl,by refine U h2 ?_;exact LN C sc.names L⟩)
 |_=>exact ff z
end
end
set_option backward.match.sparseCases true
section
def NT.list {α:Type} (t:NT α):List (Nat×α):=NT.rec [] (λu_ k v u_ ihl ihr=>ihl++(k,v)::ihr) t
theorem NT.jl:∀{t} {a} {v:α},NT.find t a=O v->(a,v)∈NT.list t:=by
 intro t
 induction t with
 |l=>exact λh=>fn h
 |n l k u r b c=>
  intro a v h;have h:(af (af (NT.find r a) (NT.find l a) (bE a k)) (O u) (ak a k):Option α)=O v:=h;refine(?_:(a,v)∈NT.list l++(k,u)::NT.list r)
  induction hb:ak a k using zB with
  |true=>
   rw [hb] at h;injection h with h;subst h
   exact U (aH hb) (List.mem_append_right _ (aE ..))
  |false=>
   rw [hb] at h
   induction hl:bE a k using zB with
   |true=>rw [hl] at h;exact List.mem_append_left _ (b h)
   |false=>rw [hl] at h;exact List.mem_append_right _ (aD _ (c h))
theorem zW:∀{l} {v:α},find x l=O v->(x,v)∈l:=by
 intro l
 induction l with
 |nil=>
  intro v h;exact fn h
 |cons p l b=>
  intro v h;rw [eX] at h;by_cases hb:x=p.1
  .rw [if_pos hb] at h;injection h with h;subst h
   refine U hb ?_;exact aE ..
  .rw [if_neg hb] at h;exact aD _ (b h)
def ZM (n:Nat):Nat->List Nat:=gw (λu_=>[]) (λu_ ih k=>af (jo k 128::ih (gy k 128)) [] (ak k 0)) n
def strOf (k:Nat):Str:=⟨(ZM 60 k).toArray⟩
def isName (k:Nat):Bool:=aY (strOf k)&&ak (nm (strOf k)) k
theorem Bu (h:isName k=H) (hx:aY x=H) (e:nm x=k):strOf k=x:=by
 unfold isName at h;rw [aP] at h;exact gU h.1 hx ((aH h.2).trans e.symm)
theorem I5 (hx:aY x=H):nm x %128≠1/\nm x %128≠2:=by
 have hx:qU x.cps.toList=true:=hx;refine(?_:JJ x.cps.toList %128≠1/\JJ x.cps.toList %128≠2)
 induction h:x.cps.toList using zL with
 |nil=>exact⟨by decide,by exact aX rfl⟩
 |cons c r=>
  rw [h] at hx;have hx:(af aj (af aj (qU r) (bE 2 c)) (bE c 128):Bool)=true:=hx;have e:JJ (c::r)=c+128*JJ r:=rfl
  induction h1:bE c 128 using zB with
  |false=>rw [h1] at hx;exact ff hx
  |true=>
   rw [h1] at hx;have h1:=cD.mp h1
   induction h2:bE 2 c using zB with
   |false=>rw [h2] at hx;exact ff hx
   |true=>have h2:=cD.mp h2;lia
def Mr (p:Nat×List (Nat×Nat)):Bool:=match jo p.1 128 with
 |1=>isName (gy p.1 128)
 |2=>H
 |_=>isName p.1
def FZ (F:Frag) (C:Nat) (p:Nat×List (Nat×Nat)):Bool:=match jo p.1 128 with
 |1=>p.2.all λq=>af H (K3 F q.1 (strOf (gy p.1 128))) (ak q.1 C)
 |2=>H
 |_=>p.2.all λq=>af H (GN F q.1 (strOf p.1) q.2) (ak q.1 C)
section
variable {X:dw} {K':Frag}
theorem G4 (h:find c (K.Ms k)=O v):∃l,(k,l)∈NT.list K.ms/\(c,v)∈l:=by
 have e:K.Ms k=aA [] (λl=>l) (NT.find K.ms k):=rfl
 induction a:NT.find K.ms k using zO with
 |none=>rw [e,a] at h;exact fn h
 |some l=>rw [e,a] at h;exact bV l (NT.jl a) (zW h)
theorem WO (hn:(NT.list K.ms).all Mr=H) (hc:∀p∈NT.list K.ms,∀q∈p.2,∃F,Ft X F/\FZ F q.1 p=H):∀x,aY x=H->Cm X K' (K.Ms (nm x)) x:=by
 intro x hx;refine⟨λc g hf=>(dN (G4 hf) λl hm hcg=> ?_)⟩;have hb1:=aL.mp hn _ hm;refine aK (hc _ hm _ hcg) λF hb hF=>gc (I5 hx) λm1 m2=> ?_;unfold Mr at hb1;unfold FZ at hb;split at hb
 .rename_i q;exact absurd q m1
 .rename_i q;exact absurd q m2
 .split at hb1
  .rename_i q;exact absurd q m1
  .rename_i q;exact absurd q m2
  .have hb2:=aL.mp hb _ hcg;rw [fy,Bu hb1 hx rfl] at hb2;exact bV F hF hb2
theorem WQ (hn:(NT.list K.ms).all Mr=H) (hc:∀p∈NT.list K.ms,∀q∈p.2,∃F,Ft X F/\FZ F q.1 p=H):∀x,aY x=H->∀c,find c (K.Ms (aG (cJ (nm x) 128) 1))≠aq->∃F,Ft X F/\K3 F c x=true:=by
 intro x hx c hf
 induction hv:find c (K.Ms (aG (cJ (nm x) 128) 1)) using zO with
 |none=>exact absurd hv hf
 |some v=>
  refine dN (G4 hv) λl hm hcg=> ?_;have hb1:=aL.mp hn _ hm;refine aK (hc _ hm _ hcg) λF hb hF=> ?_;have hmod:jo (aG (cJ (nm x) 128) 1) 128=1:=by show(nm x*128+1) %128=1;lia
  have hdiv:gy (aG (cJ (nm x) 128) 1) 128=nm x:=by show(nm x*128+1)/128=nm x;lia
  unfold Mr at hb1;unfold FZ at hb;dsimp only at hb hb1;rw [hmod,hdiv] at hb hb1;have hb2:=hb;have hb2:=aL.mp hb2 _ hcg;dsimp only at hb2;rw [fy,Bu hb1 hx rfl] at hb2;exact bV F hF hb2
end
end
section
theorem Mt {a b:Type} {f g:a->b}:∀{l:List a},l.map f=l.map g->∀x∈l,f x=g x:=by
 intro l
 induction l with
 |nil=>
  intro _ x hx;exact(aU hx).elim
 |cons y l c=>
  intro h x hx;rw [dI,dI] at h;injection h with h1 h2
  rcases aT.mp hx with rfl|hx
  .exact h1
  .exact c h2 x hx
end
set_option backward.match.sparseCases false
section
noncomputable def dictOf (o:Obj):List bf:=match o.data with
 | .dict es _=>es.toList
 |_=>[]
noncomputable def G5 (o:Obj):Bool:=match o.data with
 | .dict _ _=>H
 |_=>aj
def keyOk (e:bf):Bool:=match e.key with
 | .str s _=>aY s
 |_=>aj
theorem G6 (h:keyOk e=H):∃s t,e.key= .str s t/\aY s=true:=by
 delta keyOk at h;generalize e.key=k at h⊢
 induction k using fE with
 |str s t=>exact m7 s t rfl h
 |_=>exact ff h
def Ep (k:Nat) (e:bf):Bool:=match e.key with
 | .str s _=>ak (nm s) k
 |_=>aj
def Mu (k:Nat) (l:List bf):Option Value:=aQ aq (λe u_ ih=>af ih (O e.val) (Ep k e)) l
set_option tactic.hygienic true in
theorem T5 (hx:aY x=H):∀{l},l.all keyOk=H->(l.find? λe=>e.key.isStr x).map (·.val)=Mu (nm x) l:=by
 intro l
 induction l with
 |nil=>
  intro _;exact rfl
 |cons e l a=>
  intro h;rw [iC,aP] at h;have hk:e.key.isStr x=Ep (nm x) e:=by
   obtain⟨s,t,b,h1⟩:=G6 h.1;unfold Ep;refine U b ((?_:(s==x)=ak (nm s) (nm x)))
   induction hb:ak (nm s) (nm x) using zB with
   |true=>refine U (gU h1 hx (aH hb)) ?_;exact beq_self_eq_true _
   |false=>exact beq_eq_false_iff_ne.mpr λq=>fV hb (U q rfl)
  have c:Mu (nm x) (e::l)=af (Mu (nm x) l) (O e.val) (Ep (nm x) e):=rfl;refine U c (U (List.find?_cons) (U hk ?_))
  induction Ep (nm x) e using zB with
  |true=>rfl
  |false=>exact(a h.2)
theorem nsF {a:Array bf} (hx:aY x=H) (h:a.toList.all keyOk=H):nsFind a x=Mu (nm x) a.toList:=by
 refine cL (T5 hx h) ?_;unfold nsFind findBy;exact cL (Array.find?_toList) rfl
def R0 (o:Obj):Bool:=G5 o&&(dictOf o).all keyOk
set_option tactic.hygienic true in
theorem Bv {h:Heap} {a:Nat} (f:h.get? a=O o) (hb:R0 o=H):∃m,h.Ns a m/\∀x,aY x=H->m x=Mu (nm x) (dictOf o):=by
 unfold R0 at hb;rw [aP] at hb;obtain⟨h1,h2⟩:=hb;have c:∃b ep,o.data= .dict b ep:=by
  delta G5 at h1;generalize o.data=d at h1⊢
  induction d using jJ with
  |dict b ep=>exact⟨b,ep,rfl⟩
  |_=>exact ff h1
 .obtain⟨b,ep,c⟩:=c;have hl:dictOf o=b.toList:=by unfold dictOf;exact U c rfl
  rw [hl] at h2;refine bV (nsFind b) (uu o b ep f c (λe he=> ?_) (λj=>rfl)) (λx hx=> ?_)
  .obtain⟨s,t,i,_⟩:=G6 (aL.mp h2 e (mG.mpr he));exact Ve s t i
  .exact U hl (nsF hx h2)
def T6 (g:Nat->Option Obj) (tabs:List Nat) (f:V->Value->Bool) (xs:List V) (a:Nat):Bool:=jk a tabs&&(match g a with
 |some o=>match o with
  |⟨c,d,dt,sl⟩=>match dt with
   | .seq items ep=>c== .type "tuple"&&(d.isNone&&(sl.isEmpty&&(bO items.size 1000000&&aQ (λl=>aQ H (λu_ u_ u_=>aj) l) (λv u_ ih l=>aQ aj (λx r u_=>f v x&&ih r) l) xs items.toList)))
   |_=>aj
 |none=>aj)
def Er (g:Nat->Option Obj) (tabs:List Nat) (ih:V->Value->Bool) (v:V) (y:Value):Bool:=match y with
 | .str s _=>ak v.t 3&&(ak v.s 0&&(ak v.n 0&&(qv v.l s.cps.toList&&(isNil v.xs&&bO (len v.l) 1000000))))
 | .ref a=>G1 v 7 0 a||(G1 v 8 0 a||(ak v.t 5&&(ak v.s 0&&(ak v.n 0&&(isNil v.l&&T6 g tabs ih v.xs a)))))
 | .builtin i=>G1 v 9 0 v.n&&(oQ v.n== .builtin i)
 | .type i=>G1 v 9 0 v.n&&(oQ v.n== .type i)
 |y=>YD v y
def vG (g:Nat->Option Obj) (tabs:List Nat) (n:Nat):V->Value->Bool:=gw (λu_ u_=>aj) (λu_ ih=>Er g tabs ih) n
theorem G7 (h:qv x y=H):x=y:=of_decide_eq_true ((tO x y).symm.trans h)
theorem zX (h:isNil l=H):l=[]:=by induction l using zL with|nil=>rfl|cons _ _=>exact ff h
section
variable {X:dw} {g:Nat->Option Obj} {w:Wd} {h:aev} {s:Shared}
theorem vMk {v:V} {t:Nat} (h1:ak v.t t=H) (h2:ak v.s 0=H) (d:ak v.n 0=H):v=⟨t,0,0,v.l,v.xs⟩:=by
 obtain⟨a,b,c,l,x⟩:=v;obtain rfl:a=t:=aH h1;obtain rfl:b=0:=aH h2;obtain rfl:c=0:=aH d;rfl
theorem T7 {g} {f:V->Value->Bool} (c:∀{v y},f v y=H->VR X g w m v y):∀{l},(aQ (λl=>aQ H (λa a a=>aj) l) (λv a b l=>aQ aj (λx r a=>f v x&&b r) l) xs l:Bool)=H->eg X g w m xs l:=by
 induction xs with
 |nil=>intro l h;rcases l with _|⟨x,l⟩;exact .nil;exact ff h
 |cons v xs b=>
  intro l h;rcases l with _|⟨x,l⟩
  .exact ff h
  .exact e2 h λh1 h2=> .cons _ _ _ _ (c h1) (b h2)
theorem Pd (n:∀a o,g a=O o->X.h₀.get? a=O o) (j:St X w h s) (p:∀{v y},f v y=H->VR X s.heap w m v y) (e:T6 g X.tabs f xs a=H):VR X s.heap w m (dM xs) (.ref a):=by
 refine e2 e λk b=> ?_;clear e;revert b
 induction r:g a using zO with
 |none=>exact λb=>ff b
 |some o=>
  obtain⟨c,d,t,u⟩:=o;dsimp only
  induction t using jJ with
  |seq items ep=>
   intro b;refine e2 b λx b=>e2 b λz b=>e2 b λA b=>e2 b λB C=> ?_;obtain rfl:c= .type "tuple":=beq_iff_eq.mp x;obtain rfl:d=none:=cQ.mp z;obtain rfl:u= #[]:=Array.isEmpty_iff.mp A;have l:=n a _ r;have D:w.role a=none:=by
    induction q:w.role a using zO with
    |none=>rfl
    |some i=>exact absurd (bh l) (bC.mpr (j.lim a i q).2.1)
   exact .tup xs a items ep D (fZ k) (j.base a _ l (fZ k)) (aB B) (T7 p C)
  |_=>exact λb=>ff b
theorem Mv (l:∀a o,g a=O o->X.h₀.get? a=O o) (p:St X w h s) m n:∀{v} {y},vG g X.tabs n v y=H->VR X s.heap w m v y:=by
 induction n with
 |zero=>exact λe=>ff e
 |succ n r=>
  intro v y e;replace e:Er g X.tabs (vG g X.tabs n) v y=true:=e
  induction y using fE with
  |str q t=>
   refine e2 e λc e=>e2 e λd e=>e2 e λj e=>e2 e λf e=>e2 e λk u=> ?_;have hv:v=vStr q.cps.toList:=(vMk c d j).trans (by rw [G7 f,zX k];rfl);exact U hv (VR.str q.cps.toList t (by have:=aB u;rwa [len_eq,G7 f] at this))
  |ref a=>
   rcases cz.mp e with e|e
   .exact U (ql e) (.fn a)
   rcases cz.mp e with e|e
   .exact U (ql e) (.cls a)
   refine e2 e λc e=>e2 e λd e=>e2 e λj e=>e2 e λf k=> ?_;have hv:v=dM v.xs:=(vMk c d j).trans (by rw [zX f];rfl);exact U hv (Pd l p r k)
  |builtin i=>exact e2 e λc d=>U (ql c) (cL (beq_iff_eq.mp d) (.bi _))
  |type i=>exact e2 e λc d=>U (ql c) (cL (beq_iff_eq.mp d) (.bi _))
  |_=>exact Mm e
def gB (m b:List bf) (tg:List (Nat×Nat)) (p:Nat×V):Bool:=isName p.1&&(match Mu p.1 m with
 |some y=>vG (λu_=>aq) [] 5 p.2 y||(match y with| .ref a=>tg.any λq=>ak q.1 p.1&&ak q.2 a|_=>aj)
 |none=>match Mu p.1 b with
  |some y=>vG (λu_=>aq) [] 5 p.2 y
  |none=>aj)
theorem Pe (hm:X.h₀.get? mainNs=O om) (hb:X.h₀.get? builtinsNs=O ob) (k:R0 om=H) (l:R0 ob=H) (m:jk mainNs X.tabs=H) (r:jk builtinsNs X.tabs=H)
 (t:(NT.list K.glob).all (gB (dictOf om) (dictOf ob) u)=H) (ht:∀q∈u,∃g:Nat->Option Obj,(∀a o,g a=O o->X.h₀.get? a=O o)/\∀v,NT.find K.glob q.1=O v->vG g X.tabs 5 v (.ref q.2)=H):jV X K.G:=by
 obtain⟨z,A,f⟩:=Bv hm k;obtain⟨B,C,D⟩:=Bv hb l;have nil:∀n v y,vG (λb=>aq) [] n v y=H->vG (λb=>aq) X.tabs n v y=true:=by
  intro n
  induction n with
  |zero=>intro v y h;exact ff h
  |succ n F=>
   intro v y h;replace h:Er (λb=>aq) [] (vG (λb=>aq) [] n) v y=true:=h;refine(?_:Er (λb=>aq) X.tabs (vG (λb=>aq) X.tabs n) v y=H);unfold Er T6 at h⊢;rcases y<;>first|exact h|skip
   simpa using h
 refine⟨λw I s c x v hx e=> ?_⟩;have hm:=aL.mp t _ (NT.jl e);unfold gB at hm;rw [aP] at hm;have hm:=hm.2;refine Ve z B ?_;have i:=uL A λo e=>c.base _ o e (fZ m);have j:=uL C λo e=>c.base _ o e (fZ r);dsimp only at hm
 induction q:Mu (nm x) (dictOf om) using zO with
 |some y=>
  rw [q] at hm;refine qO y i j (.inl ((f x hx).trans q)) (λn=> ?_);rcases cz.mp hm with hm|hm
  .exact Mv (λb o e=>fn e) c n 5 (nil 5 v y hm)
  .induction y using fE with
   |ref a=>
    refine dN (iM.mp hm) λp hq hk=> ?_;rw [aP] at hk;exact dN (ht _ hq) λg E hv=>aH hk.2▸Mv E c n 5 (hv v ((aH hk.1).symm▸e))
   |_=>exact ff hm
 |none=>
  rw [q] at hm
  induction d:Mu (nm x) (dictOf ob) using zO with
  |some y=>rw [d] at hm;exact qO y i j (.inr ⟨(f x hx).trans q,(D x hx).trans d⟩) (λn=>Mv (λb o e=>fn e) c n 5 (nil 5 v y hm))
  |none=>rw [d] at hm;exact ff hm
end
end
section
def Au (i:Nat):List (Str×aM):=(oV (K.top i)).names
def WR (ns:List (Str×aM)):List Nat:=kM (λp=>nm p.1) ns
structure Mk where
 i:Nat
 c:Nat
 P:Nat
 q:String
noncomputable def Pf:List Mk:=[⟨360,2729,2725,"known_readers"⟩,⟨364,2757,2753,"gsub_octets"⟩,⟨365,2764,2760,"gpos_octets"⟩,⟨366,2771,2767,"known_writers"⟩]
def ZN (k:List Nat) (l:List Mk):Option (Addr×Str):=aQ aq (λm u_ ih=>af ih (O (m.c,(bX m.q)++".<locals>.")) (qv k (WR (Au m.i)))) l
def Pg (ns:List (Str×aM)):Option (Addr×Str):=ZN (WR ns) Pf
noncomputable def iN:List Nat:=[2725,2753,2760,2767]
def ng (i k:Nat):Expr:=K.Eo (K.lams (K.vg (K.fnBody (K.top i)))) k
def jy:List (Nat×Expr):=[(9519104,ng 360 0),(9523200,ng 360 1),(9629696,ng 366 0),(9633792,ng 366 1)]
noncomputable def Ph (i:String):Str:=(bX i)++".<locals>."++"<lambda>"
def CR (P line col:Nat):Option Str:=af (af (af (af aq (O (Ph "known_writers")) (ak P 2767)) (O (Ph "gpos_octets")) (ak P 2760)) (O (Ph "gsub_octets")) (ak P 2753)) (O (Ph "known_readers")) (ak P 2725)
def R1 (j:Nat) (fd:mF):Prop:=∃a b sc pos q pm cv ctv,find j jy=O (.Lambda a b sc pos)/\fd=kla_fn "<lambda>" q a b sc [] pm cv ctv
def kZ (w:World) (h:Heap):dw:=⟨K.prog,w,h,iN,R1,λc x=>∃F:Frag,(∀a o,F.lookup a=O o->h.get? a=O o/\a∉iN)/\K3 F c x=H,CR,Pg⟩
def yk (sc:Scope):Bool:=sc.names.all λp=>CQ p.2
def Mw (e:Expr):Bool:=match e with
 | .Lambda a b sc pos=>WN sc (a.args.map (·.arg))&&(a.posonlyargs.isEmpty&&(a.kwonlyargs.isEmpty&&(a.vararg.isNone&&(a.kwarg.isNone&&(a.defaults.isEmpty&&(a.kw_defaults.isEmpty&&(gH sc.names&&yk sc)))))))
 |_=>aj
theorem tw (h1:a.defaults=[]) (h2:a.kw_defaults=[]) env:defaultsOf a env=([],[]):=by
 obtain⟨b,c,d,e,f,h,i⟩:=a;subst h1;subst h2;rfl
theorem CS (h:yk sc=H) env:closureFor sc env=pure []:=by
 have e:closureFor sc env=(forIn sc.names ([]:List (Str×Addr)) (λ(x,k) b=>if k== .free then(do let a<-cellOf env x;pure (dK ((x,a)::b))) else pure (dK b))>>=λb=>pure b):=rfl;have c:∀(l:List (Str×aM)),l.all (λp=>CQ p.2)=H->(forIn l ([]:List (Str×Addr)) (λ(x,k) b=>if k== .free then(do let a<-cellOf env x;pure (dK ((x,a)::b))) else pure (dK b)):Sem (List (Str×Addr)))=pure []:=by
  intro l
  induction l with
  |nil=>intro _;exact jz
  |cons p l d=>
   intro hl;obtain⟨x,k⟩:=p;rw [iC,aP] at hl;have hk:(k==lH)=false:=by
    rcases k<;>first|rfl|exact ff hl.1
   refine U (dO ..) ?_;dsimp only;refine U hk ((?_:(forIn l ([]:List (Str×Addr)) _:Sem _)=_));exact d hl.2
 refine U e (U (c _ h) ?_);rfl
section
variable {X:dw} {Kf:Frag} {w:World} {h₀:Heap} {g:Nat->Option Obj}
theorem Bw (h:Mw (.Lambda a b sc pos)=H):OE sc (a.args.map (·.arg))/\a.posonlyargs=[]/\a.kwonlyargs=[]/\a.vararg=aq/\a.kwarg=aq/\a.defaults=[]/\a.kw_defaults=[]/\gH sc.names=H/\yk sc=true:=by
 have h:(WN sc (a.args.map (·.arg))&&(a.posonlyargs.isEmpty&&(a.kwonlyargs.isEmpty&&(a.vararg.isNone&&(a.kwarg.isNone&&(a.defaults.isEmpty&&(a.kw_defaults.isEmpty&&(gH sc.names&&yk sc))))))))=true:=h;simp only [aP] at h;exact Ze h λh1 h2 c d e f i j k=>⟨G0 h1,cX.mp h2,cX.mp c,cQ.mp d,cQ.mp e,cX.mp f,cX.mp i,j,k⟩
theorem Pj (B:Base (kZ w h₀) Kf K.G K.Ms) (hl:jy.all (λq=>Mw q.2)=H) (d:find j jy=O e) (h:L=K.Mj e):∃b names body,b<=190/\∀fd,(kZ w h₀).lam j fd->∀r n,Ck (kZ w h₀) r n->Tf (kZ w h₀) r n b L fd names body:=by
 have hb:Mw e=true:=aL.mp hl _ (zW d)
 induction e using aS with
 |Lambda a b sc pos=>
  refine Ze (Bw hb) λi k l m o z A p C=>⟨0,a.args.map (·.arg),b,iB _,λfd c r n t=> ?_⟩;obtain⟨D,E,u,f,q,F,I,v,y,rfl⟩:=c;cases d.symm.trans y;subst h;refine⟨⟨i,rfl,rfl,rfl,λq=>absurd p (U q bY),k,rfl,l,m,o,iB _,λw J s M=>(bV aq (λq=>av q) .nil)⟩,rfl, ?_,(iD (B.ctx t) 30).e sc.names b⟩;refine(?_:kM (λx=>nm x.arg) a.args=_);refine U (qb ..) (U jI ?_);rfl
 |_=>exact ff hb
theorem Mx (u:bu X) {m:Mk} (d:gH (Au i)=aj) (v:X.jQ (Au i)=O (m.c,qq)) (x:m.P∈X.tabs) (l:∀w h s,St X w h s->CodeHd s.heap m.c m.P)
 (o:∀w h s,St X w h s->∃t,s.heap.Ns ic t/\s.heap.BuiltinsAt t m.P) (p:ic≠m.P) (f:∀j fd,X.lam j fd=R1 j fd) {e} (hb:mS e=H->Mw e=H)
 (k:∀a b sc pos,e= .Lambda a b sc pos->find (aG (cJ pos.line 4096) pos.col) jy=O e/\X.qw m.P pos.line pos.col=O (qq++"<lambda>")):pS X r n 0 (Au i) e:=by
 intro a b sc pos he;subst he;refine Ze (Bw (hb rfl)) λF G I J K y z L A=>gc (k _ _ _ _ rfl) λB C=> ?_;exact cN.lam u pos d v rfl x l C o p (tw y z) (CS A) λD E q=>by
  refine U (f ..) ?_;exact⟨a,b,sc,pos,_,D,E,q,B,rfl⟩
end
end
section
def rxE (b:List Stmt):Expr:=match K.sO b 0 with
 | .Return (O e) _=>e
 |_=> .Constant .none 0 default
def rxP (b:List Stmt):Pos:=match K.sO b 0 with
 | .Return _ p=>p
 |_=>default
noncomputable def cF:Expr->Expr
 | .Call f _ _ _=>f
 |e=>e
def lU (k:Nat):Expr->Expr
 | .Call _ a _ _=>K.Eo a k
 |e=>e
noncomputable def cP:Expr->Pos
 | .Call _ _ _ p=>p
 |_=>default
noncomputable def nS:Expr->Str
 | .Name x _=>x
 |_=>⟨#[]⟩
noncomputable def nP:Expr->Pos
 | .Name _ p=>p
 | .Constant _ _ p=>p
 |_=>default
noncomputable def kN:Expr->Nat
 | .Constant _ k _=>k
 |_=>0
noncomputable def ZO:Expr->Arguments
 | .Lambda a _ _ _=>a
 |_=>default
noncomputable def laB:Expr->Expr
 | .Lambda _ b _ _=>b
 |e=>e
noncomputable def Pk:Expr->Scope
 | .Lambda _ _ s _=>s
 |_=>default
noncomputable def F0:Expr->Pos
 | .Lambda _ _ _ p=>p
 |_=>default
def trB (b:List Stmt):List Stmt:=match K.sO b 0 with
 | .Try b _ _ _ _=>b
 |_=>[]
def trH (b:List Stmt):List lg:=match K.sO b 0 with
 | .Try _ h _ _ _=>h
 |_=>[]
def trP (b:List Stmt):Pos:=match K.sO b 0 with
 | .Try _ _ _ _ p=>p
 |_=>default
def hdH (l:List lg):lg:=aQ (.ExceptHandler aq aq [] default) (λh u_ u_=>h) l
def tlH (l:List lg):List lg:=aQ [] (λu_ t u_=>t) l
def pB (i:Nat):List Stmt:=K.fnBody (K.top i)
def pE (i:Nat):Expr:=rxE (pB i)
def sP (i:Nat):Expr:=lU 0 (pE i)
def wG (i:Nat):Expr:=laB (sP i)
def lB:List Stmt:=K.fnBody (K.top 362)
def lE:Expr:=rxE (trB lB)
def R2 (a:Arguments) (sc:Scope) (x0:Str):Bool:= !sc.isCoroutine&&(!sc.isGenerator&&(isFn sc.kind&&(gH sc.names&&(!sH (nm "__classdict__") sc.names&&(!sH (nm "__debug__") sc.names&&(a.posonlyargs.isEmpty&&(a.kwonlyargs.isEmpty&&(a.vararg.isNone&&(a.kwarg.isNone&&(a.defaults.isEmpty&&a.kw_defaults.isEmpty))))))))))
structure My (i m Fp:Nat) (mk:Mk):Prop where
 text:pB i=[.Return (O (.Call (.Name (nS (cF (pE i))) (nP (cF (pE i)))) [.Lambda (ZO (sP i)) (.Call (.Name (nS (cF (wG i))) (nP (cF (wG i)))) [.Name (nS (lU 0 (wG i))) (nP (lU 0 (wG i))),.Name (nS (lU 1 (wG i))) (nP (lU 1 (wG i))),.Name (nS (lU 2 (wG i))) (nP (lU 2 (wG i)))] [] (cP (wG i))) (Pk (sP i)) (F0 (sP i)),.Name (nS (lU 1 (pE i))) (nP (lU 1 (pE i)))] [] (cP (pE i)))) (rxP (pB i))]
 args:(rI (K.top i)).args.map (·.arg)=[nS (lU 0 (wG i)),nS (cF (wG i))]
 b1:(aY (nS (lU 0 (wG i)))&&(aY (nS (cF (wG i)))&&(aY (nS (cF (pE i)))&&(aY (nS (lU 1 (pE i)))&&(aY (nS (lU 2 (wG i)))&&(aY (nS (lU 1 (wG i)))&&(!ak (nm (nS (cF (wG i)))) (nm (nS (lU 0 (wG i))))&&(!gH (Au i)&&(R2 (ZO (sP i)) (Pk (sP i)) (nS (lU 2 (wG i)))&&m9 (Au i) (Pk (sP i)).names)))))))))=H
 ka:aZ (nm (nS (lU 0 (wG i)))) (Au i)=O .cell
 kb:aZ (nm (nS (cF (wG i)))) (Au i)=O .cell
 kl:aZ (nm (nS (cF (pE i)))) (Au i)=O .globalImplicit
 ke:aZ (nm (nS (lU 1 (pE i)))) (Au i)=O .globalImplicit
 gL:K.G (nS (cF (pE i)))=O (bL 2744)
 gE:K.G (nS (lU 1 (pE i)))=O (aW m)
 gF:K.G (nS (lU 1 (wG i)))=O (bL Fp)
 hc:Pg (Au i)=O (mk.c,(bX mk.q)++".<locals>.")
 hla:CR mk.P (F0 (sP i)).line (F0 (sP i)).col=O ((bX mk.q)++".<locals>."++"<lambda>")
 sp:(ZO (sP i)).args.map (·.arg)=[nS (lU 2 (wG i))]
 s0:aZ (nm (nS (lU 2 (wG i)))) (Pk (sP i)).names=O .local
 s0':(Pk (sP i)).names.lookup (nS (lU 2 (wG i)))=O .local
 sA:aZ (nm (nS (lU 0 (wG i)))) (Pk (sP i)).names=O .free
 sB:aZ (nm (nS (cF (wG i)))) (Pk (sP i)).names=O .free
 sF:aZ (nm (nS (lU 1 (wG i)))) (Pk (sP i)).names=O .globalImplicit
structure WS:Prop where
 text:lB=[.Try [.Return (O (.Call (.Name (nS (cF lE)) (nP (cF lE))) [.Constant (.int 0) (kN (lU 0 lE)) (nP (lU 0 lE))] [] (cP lE))) (rxP (trB lB))] (hdH (trH lB)::tlH (trH lB)) [] [] (trP lB)]
 args:(rI (K.top 362)).args.map (·.arg)=[nS (cF lE),"extension"]
 pW:aY (nS (cF lE))=H
 kW:wF (aZ (nm (nS (cF lE))) (Au 362))=H
theorem G8:WS:=⟨by kernel_rfl,by kernel_rfl,by kernel_rfl,by kernel_rfl⟩
theorem Pn:My 364 7 1638 ⟨364,2757,2753,"gsub_octets"⟩:=⟨by kernel_rfl,by kernel_rfl,by kernel_rfl,by kernel_rfl,by kernel_rfl,by kernel_rfl,by kernel_rfl,by kernel_rfl,by kernel_rfl,by kernel_rfl,by kernel_rfl,by kernel_rfl,by kernel_rfl,by kernel_rfl,by kernel_rfl,by kernel_rfl,by kernel_rfl,by kernel_rfl⟩
theorem Po:My 365 9 2291 ⟨365,2764,2760,"gpos_octets"⟩:=⟨by kernel_rfl,by kernel_rfl,by kernel_rfl,by kernel_rfl,by kernel_rfl,by kernel_rfl,by kernel_rfl,by kernel_rfl,by kernel_rfl,by kernel_rfl,by kernel_rfl,by kernel_rfl,by kernel_rfl,by kernel_rfl,by kernel_rfl,by kernel_rfl,by kernel_rfl,by kernel_rfl⟩
section
variable {X:dw} {g g2:Nat->Option Obj} {i m Fp a:Nat} {mk:Mk}
theorem G9 (S:My i m Fp mk) (z:∀a o,g a=O o->X.h₀.get? a=O o) (b:∀a o,g2 a=O o->X.h₀.get? a=O o) (j:X.jQ=Pg) (hla:X.qw=CR) (hP:mk.P∈X.tabs) (YB:∀w h s,St X w h s->CodeHd s.heap mk.c mk.P) (hbm:∀w h s,St X w h s->∃A,s.heap.Ns ic A/\s.heap.BuiltinsAt A mk.P) (hgP:ic≠mk.P)
 (J:jk a X.tabs=H) (M:jk 2744 X.tabs=H) (Q:yj d=K.top i) (e:xw g X.tabs X.jQ [] a=zV d) (R:xw g2 X.tabs X.jQ [] 2744=zV ⟨0,362,0,[]⟩):Nonempty (Mh X K.G a Fp):=by
 refine tL (n9 e) λo fd V ho k h1 h2 B=> ?_;obtain⟨oL,Mi,l,f,C,D,E,l4⟩:=n9 R;refine aC (FW z V) λf2 F=>aC (FW b l4) λr2 I=> ?_;rw [Q] at h1 h2 B;have n:yj ⟨0,362,0,[]⟩=K.top 362:=rfl;rw [n] at C D E;have hs:fd.scope.names=Au i:=U h2 rfl;have p:Mi.scope.names=Au 362:=U D rfl;have hb:=S.b1;unfold R2 at hb;simp only [aP,gv] at hb;obtain⟨b1,b2,b3,b4,b5,b6,b7,b8,⟨c1,c2,r,c4,c5,c6,c7,c8,c9,t,u,v⟩,x⟩:=hb;have y:(Pk (sP i)).kind= .function:=by
  unfold isFn at r;split at r
  .assumption
  .exact ff r
 exact⟨{
  fd:=fd,nA:=_,nB:=_,nL:=_,nE:=_,nF:=_,n0:=_,nW:=_,nX:="extension",pL:=_,pE:=_,pc:=_,pr:=_,pos:=_,params:=_,sc:=_,pA:=_,pB:=_,pF:=_,p0:=_,pb:=_,L:=2744,m:=m,Mi:=Mi,pw:=_,ck:=_,pz:=_,YA:=_,prr:=_,pt:=_,hh:=_,hs:=_,
  c:=mk.c,P:=mk.P,q:=_,q':=_
  obj:=bV o (z a o ho) k
  nt:=fZ J
  data:=by rw [B,S.args] at F;exact F
  code:=f2
  text:=U h1 (congrArg FuncBody.stmts S.text)
  kA:=⟨b1,by refine U hs ?_;exact S.ka⟩
  kB:=⟨b2,by refine U hs ?_;exact S.kb⟩
  ne:=b7
  kL:=⟨b3,by refine U hs ?_;exact S.kl⟩
  kE:=⟨b4,by refine U hs ?_;exact S.ke⟩
  gL:=S.gL
  gE:=S.gE
  gF:=S.gF
  hloc:=U hs b8
  hc:=U hs (U j S.hc)
  hq':=rfl
  hP:=hP
  YB:=YB
  hla:=U hla S.hla
  hbm:=hbm
  hgP:=hgP
  hdef:=tw (cX.mp u) (cX.mp v)
  sco:=c1
  WG:=c2
  sfn:=y
  ZI:=U hs (DO x)
  WH:=c4
  WI:=sf c5
  WJ:=sf c6
  sp:=A4 (cX.mp c7) S.sp (cX.mp c8) (cQ.mp c9) (cQ.mp t)
  s0:=iW b5 S.s0 S.s0'
  sA:=S.sA
  sB:=S.sB
  sF:=⟨b6,S.sF⟩
  WK:=bV oL (b _ _ l) f
  ntL:=fZ M
  GY:=by rw [E,G8.args] at I;exact I
  RU:=r2
  RW:=U C (congrArg FuncBody.stmts G8.text)
  kW:=⟨G8.pW,by refine U p ?_;exact vh G8.kW⟩}⟩
end
end
section
def qy (g:Nat->Option Obj):List Nat->Frag:=aQ [] (λa u_ ih=>aA ih (λo=>(a,o)::ih) (g a))
theorem vj:∀{as} {a:Nat} {o},(qy g as).lookup a=O o->g a=O o/\a∈as:=by
 intro as
 induction as with
 |nil=>
  intro a o e;exact fn e
 |cons b as c=>
  intro a o e;have d:qy g (b::as)=aA (qy g as) (λo=>(b,o)::qy g as) (g b):=rfl;rw [d] at e
  induction hb:g b using zO with
  |none=>rw [hb] at e;refine gc (c e) λh1 h2=> ?_;exact⟨h1,aD _ h2⟩
  |some x=>
   rw [hb] at e;rw [bJ] at e;split at e
   .rename_i q;have q:a=b:=by simpa using q
    injection e with e;subst e
    exact⟨q▸hb,q▸aE ..⟩
   .refine gc (c e) λh1 h2=> ?_;exact⟨h1,aD _ h2⟩
def ZP (g:Nat->Option Obj) (c:Nat):List Nat:=aA [c] (λo=>match o.data with
 | .cls cd=>[c,cd.ns]
 |_=>[c]) (g c)
def WT (a:Nat) (l:List Nat):List Nat:=af l (a::l) (jk a l)
def Pp:List Nat:=aQ [] (λp u_ ih=>aQ ih (λq u_ ih2=>WT q.1 ih2) p.2) (NT.list K.ms)
def Hf:List Nat:=aQ Pp (λp u_ ih=>WT p.1 ih) (NT.list K.init)
noncomputable def T8 (F:Frag) (p:Nat×Nat):Bool:=makesIn F p.1&&(findIn F (.ref p.1) "__init__"==O (O (.ref p.2))&&typeIn F (.ref p.2)==O (.type "function"))
noncomputable def T9 (g:Nat->Option Obj) (P:Nat):Bool:=match g P with
 |some o=>match o with
  |⟨c,d,dt,sl⟩=>(match c with| .none=>H|_=>aj)&&(d.isNone&&(sl.isEmpty&&(match dt with| .fields ps=>ps.isEmpty|_=>aj)))
 |none=>aj
def Mz (p:Nat×K.NL):Bool:=jk p.1 iN&&(RZ (yj p.2)&&bO p.2.t 4)
def MA (d:K.NL):Bool:=af aj (af (ak d.i 366) H (ak d.i 360)) (ak d.t 0)
def WU (p:Nat×K.NL):Bool:=af (FY (K.fnBody (yj p.2))) H (MA p.2)
end
section
noncomputable def hole:Obj:={cls:= .none,data:= .freed}
def I6 (d:Nat):BT:=gw .nil (λu_ t=> .node hole t t) d
def wH:dj:={scope:=P0.main.scope,locals:=3,globals:=3,cells:=[],code:= .ref 13,frame:=O 14}
def pU:List Stmt:=behindTheImports P0
def cB:Code:= .body pU wH
noncomputable def p0:Pos:=⟨0,0,0,0⟩
def NN:List Frame:=[topFrame p0]
noncomputable def en (w:World) (x:String) (t:Nat) (v:Value):bf:=⟨k7 w.params (bX x),.str (bX x) t,v⟩
def o2 (w:World):Nat->Obj:=gw {cls:= .none,data:= .dict #[]} (λu_ u_=>{cls:= .none,data:= .dict #[en w "type.__subclasses__.Exception.0" 234 (.int (dQ 48) 0),en w "type.__subclasses__.Exception.n" 235 (.int (dQ 1) 0)] 2})
noncomputable def o3 (L:List bf) (n:Nat):Obj:={cls:= .type "dict",data:= .dict L.toArray n}
noncomputable def WV (R:List Value):Obj:={cls:= .none,data:= .fields R.toArray}
noncomputable def A0 (n:Nat):Value:= .int (dQ n) 0
def WW:Obj:={cls:= .type "code",data:= .fields #[.str "<module>" 182,.str "<module>" 183,.str "/claim/cut.py" 184,A0 1,A0 0,A0 0,A0 0,A0 0,.ref 11,.bool aj,A0 181,.ref 12,.none,.none,.none,.none,A0 185,A0 1,.str "/claim/cut.py" 186]}
def six (a b c d e f:Obj):BT:=((((((I6 12).ins 0 a).ins 2 b).ins 3 c).ins 4 d).ins 12 e).ins 13 f
def tK (w:World) (j:Nat) (L:List bf) (n:Nat) (R:List Value):BT:=six (sG w.params) (o2 w j) (o3 L n) (boot_o_4 w.params) (WV R) WW
def stK (w:World) (os:OsState) (j:Nat) (L:List bf) (n:Nat) (R:List Value) (m k:Nat):SharedT:=⟨tK w j L n R,m,{},#[],{},k,os⟩
def ZQ (i:Nat) (v:Value) (L:List bf):List bf:=aQ (λu_=>[]) (λe l ih i=>af (e::ih (ez i 1)) (⟨e.hash,e.key,v⟩::l) (ak i 0)) L i
def jC (l:List (Nat×Value)) (L:List bf):List bf:=aQ L (λp u_ ih=>ZQ p.1 p.2 ih) l
def YF (n:Nat):Str:=⟨(gw (λu_=>[]) (λu_ ih n=>af (aG (jo n 76) 47::ih (gy n 76)) [] (ak n 0)) 60 n:List Nat).toArray⟩
def enN (w:World) (x:Nat) (t:Nat) (v:Value):bf:=⟨k7 w.params (YF x),.str (YF x) t,v⟩
def WX (w:World) (l:List (Nat×Nat×Value)) (L:List bf):List bf:=L++kM (λp=>enN w p.1 p.2.1 p.2.2) l
def ZR (t v:Nat):Value:=af (af (.int (dQ (ez (jo v 10000000000000) 4000)) (ez (ez t 1) (gy v 10000000000000))) (.int (Int.negSucc 0) (ez t 1)) (ak v 3999)) (.ref v) (bE v 3999)
def ZS (w:World) (l:List (Nat×Nat)):List Nat->List bf:=aQ (λu_=>[]) (λp u_ ih ns=>aQ [] (λx r u_=>enN w x p.1 (ZR p.1 p.2)::ih r) ns) l
def jD (w:World) (i:Nat) (ns:List Nat) (l:List (Nat×Nat)) (L:List bf):List bf:=L++ZS w l (ns.drop i)
def lo1 (n:Nat):Str×aM:=(YF n,.local)
def Av (l:List (Nat×Nat)) (R:List Value):List Value:=R++aQ [] (λp u_ ih=>A0 p.1::A0 0:: .ref p.2::ih) l
def slice (i m:Nat):List Stmt:=(pU.drop i).take m
noncomputable def Ua (t:Thread):Option Flow:=match t.cur with
 | .pure (.done f)=>(match t.stack with
  |[_]=>O f
  |_=>aq)
 |_=>aq
theorem Hg t:endAt 1 t=Ua t:=by
 obtain⟨b,e,pos,d⟩:=t;unfold endAt Ua;dsimp only
 induction b using PySem.Sem.casesOn with
 |pure f=>
  induction f using PySem.Fin.casesOn with
  |done f=>induction d using zL with
   |nil=>rfl
   |cons a r=>rcases r<;>rfl
  |again c=>induction hb:(d.length==1) using zB<;>rfl
 |_=>induction hb:(d.length==1) using zB<;>rfl
abbrev WY:=Option (Flow×SharedT×Code×Pos)
abbrev Go:=BT->Nat->Nat->Code->Pos->List Frame->WY
section
variable (w:World) (os:OsState) (lo:Nat)
def I7 (k:Nat) (t:Thread):Step:=A2 (AB AE) P0 w ⟨{},#[],{},k,os⟩ t
noncomputable def F1:(Sem dD->Go)->Go:=λ_ _ _ _ _ _ _=>aq
def WZ (f:dD):(Sem dD->Go)->Go:=λih T n k code pos st=>PySem.Fin.rec
 (λfl=>aQ aq (λfr rest _=>aQ (O (fl,⟨T,n,{},#[],{},k,os⟩,code,pos)) (λ_ _ _=>Frame.rec (λkk _ _ _ c p _=>ih (kk (.ok fl)) T n k c p rest) (λ_ _ _ _ _=>aq) fr) rest) st)
 (λc=>af aq (Step.rec (λ_ t'=>ih t'.cur T n k t'.code t'.pos t'.stack) (λ_ _=>aq) (I7 w os k ⟨.pure (.again c),code,pos,st⟩)) (Fast.tw6613529449190102663 lo (O (.ref 12)) ⟨.pure (.again c),code,pos,st⟩)) f
noncomputable def R3 (kk:Unit->Sem dD):(Sem dD->Go)->Go:=λih T n k code pos st=>ih (kk ()) T n k code pos st
noncomputable def mAt (p:Pos) (kk:Unit->Sem dD):(Sem dD->Go)->Go:=λih T n k code _ st=>ih (kk ()) T n k code p st
def W0 (a:Addr) (kk:Obj->Sem dD):(Sem dD->Go)->Go:=λih T n k code pos st=>af aq (aA aq (λo=>aA aq (λ_=>ih (kk o) T n k code pos st) (alive o)) (T.get a)) (bE a n)
def Ub (a:Nat):Bool:=af (af (af (ak a 12) H (ak a cStatics)) H (ak a mainNs)) H (bO lo a)
def ZT (a:Addr) (f:Obj->Obj) (kk:Unit->Sem dD):(Sem dD->Go)->Go:=λih T n k code pos st=>
 af aq (af aq (aA aq (λo=>aA aq (λ_=>aA aq (λ_=>ih (kk ()) (T.set a f) n k code pos st) (alive (f o))) (alive o)) (T.get a)) (bE a n)) (Ub lo a)
def ZU (o:Obj) (kk:Addr->Sem dD):(Sem dD->Go)->Go:=λih T n k code pos st=>
 aA aq (λ_=>aA aq (λ_=>ih (kk n) (T.ins n o) (Nat.succ n) k code pos st) ((T.ins n o).get n)) (alive o)
noncomputable def Uc (kk:Tok->Sem dD):(Sem dD->Go)->Go:=λih T n k code pos st=>ih (kk k) T n (Nat.succ k) code pos st
def ZV (kk:Setting->Sem dD):(Sem dD->Go)->Go:=λih T n k code pos st=>ih (kk ⟨P0,w.params⟩) T n k code pos st
def W2 (c:Code) (h:Option Value) (g:Bool) (l:List Value) (kk:Result->Sem dD):(Sem dD->Go)->Go:=λih T n k code pos st=>
 Step.rec (λ_ t'=>ih t'.cur T n k t'.code t'.pos t'.stack) (λ_ _=>aq) (I7 w os k ⟨.call c h g l kk,code,pos,st⟩)
def ZW (kk:List (Code×Pos)->Sem dD):(Sem dD->Go)->Go:=λih T n k code pos st=>
 Step.rec (λ_ t'=>ih t'.cur T n k t'.code t'.pos t'.stack) (λ_ _=>aq) (I7 w os k ⟨.stack kk,code,pos,st⟩)
def ZX (ih:Sem dD->Go) (cur:Sem dD):Go:=Sem.rec (motive:=λ_=>(Sem dD->Go)->Go)
 (WZ w os lo) (λ_=>F1) (λ_=>F1) (λ_=>F1) (λ_ kk _=>R3 kk) (λp kk _=>mAt p kk) (λa _ kk _=>W0 a kk) (λa _ f kk _=>ZT lo a f kk) (λo kk _=>ZU o kk) (λ_ _ _=>F1)
 (λ_ kk _=>R3 kk) (λ_ _ _=>F1) (λkk _=>Uc kk) (λkk _=>ZV w kk) (λ_ _ _ _=>F1) (λ_ _ _ _=>F1) (λc h g l kk _=>W2 w os c h g l kk) (λ_ _ _=>F1) (λ_ _ _=>F1) (λ_ _ _=>F1) (λ_ _ _ _ _=>F1) (λ_ _ _ _ _=>F1) (λkk _=>ZW w os kk) (λ_ _ _=>F1) (λ_ _=>F1) (λ_ _ _ _ _ _=>F1) cur ih
def Ud (N:Nat):Sem dD->Go:=gw (λ_ _ _ _ _ _ _=>aq) (λ_ ih cur=>ZX w os lo ih cur) N
end
def W3 (w:World) (os:OsState) (lo N:Nat) (s:SharedT) (t:Thread):WY:=Ud w os lo N t.cur s.tree s.n s.toks t.code t.pos t.stack
section
variable {w:World} {os:OsState} {lo:Nat}
theorem lV {s s':SharedT} {t a:Thread} (h:AF treeTable P0 w lo (O (.ref 12)) 1 N s' a=O r) (b:stepT (denote treeTable) P0 w s t=O (s',a)) (h1:Ua t=none:=by rfl) (h2:stepOk lo (O (.ref 12)) t=true:=by rfl) (c:Vf s t=true:=by rfl):
 AF treeTable P0 w lo (O (.ref 12)) 1 (N+1) s t=O r:=by
 unfold AF;rw [Hg,h1,h2,c,b];exact h
theorem MB t:step (denote treeTable) P0 w ⟨{},#[],{},k,os⟩ t=I7 w os k t:=by
 refine(?_:_=A2 (AB AE) P0 w ⟨{},#[],{},k,os⟩ t);exact cL Fast.te8437177126325714943 (cL Fast.te11892475500146522536 (cL Fast.te14364793385576792824 rfl))
theorem Ue (h:Ub lo a=H):stepOk lo (O (.ref 12)) ⟨.update a q f kk,co,pos,sk⟩=true:=by
 refine(?_:(bO lo a||a==mainNs||a==cStatics||some (gu 12)==O (gu a))=H);unfold Ub at h;revert h;cases bO lo a with
 |true=>exact λ_=>rfl
 |false=>
  induction b:ak a mainNs using zB with
  |true=>cases bN b;exact λ_=>rfl
  |false=>
   induction c:ak a cStatics using zB with
   |true=>cases bN c;exact λ_=>rfl
   |false=>intro h;cases bN h;rfl
theorem Pq:∀N b T n k l pos d,Ud w os lo N b T n k l pos d=O r->AF treeTable P0 w lo (O (.ref 12)) 1 N ⟨T,n,{},#[],{},k,os⟩ ⟨b,l,pos,d⟩=O r:=by
 intro N
 induction N with
 |zero=>intro _ _ _ _ _ _ _ h;exact fn h
 |succ N g=>
  intro b T n k l pos d h;have go:∀{t},I7 w os k ⟨b,l,pos,d⟩= .go ⟨{},#[],{},k,os⟩ t->(Step.rec (λ_ m=>Ud w os lo N m.cur T n k m.code m.pos m.stack) (λ_ _=>aq) (I7 w os k ⟨b,l,pos,d⟩):Option (Flow×SharedT×Code×Pos))=O r->AF treeTable P0 w lo (O (.ref 12)) 1 N ⟨T,n,{},#[],{},k,os⟩ t=O r:=λe h=>by
   rw [e] at h;exact g _ _ _ _ _ _ _ h
  cases b with
  |pure f=>
   cases f with
   |done f=>
    cases d with
    |nil=>exact fn h
    |cons x r=>
     cases r with
     |nil=>unfold AF;rw [Hg];exact h
     |cons _ _=>cases x with
      |ret=>exact lV (g _ _ _ _ _ _ _ h) rfl
      |gen=>exact fn h
   |again c=>exact aC (dH h) λh q=>lV (go (MB _).symm h) rfl rfl (U Fast.te6613529449190102663 q)
  |rule|«at»|point|fresh|ask=>exact lV (g _ _ _ _ _ _ _ h) rfl
  |load a q s=>
   refine aC (dH h) λh p=>aK (nT h) λo h i=>aK (nT h) λv h j=> ?_;cases nN j;refine lV (g _ _ _ _ _ _ _ h) ?_;unfold stepT;dsimp only;rw [p];dsimp only;rw [i];dsimp only;rw [j]
  |update a q f s=>
   refine aC (dH h) λh y=>aC (dH h) λh p=>aK (nT h) λo h i=>aK (nT h) λv h j=>aK (nT h) λu h z=> ?_;refine lV (g _ _ _ _ _ _ _ h) ?_ rfl (Ue y) ?_
   .unfold stepT;dsimp only;rw [p];dsimp only;rw [i];dsimp only;rw [j]
   .unfold Vf;dsimp only;rw [i];dsimp only;rw [z];rfl
  |alloc o s=>
   refine aK (nT h) λv h j=>aK (nT h) λu h i=> ?_;refine lV (g _ _ _ _ _ _ _ h) ?_ rfl rfl ?_
   .unfold stepT;dsimp only;rw [i];rfl
   .unfold Vf;dsimp only;rw [j];rfl
  |call|stack=>exact lV (go (MB _).symm h) rfl
  |_=>exact fn h
end
def gT (lo:Nat) (s:SharedT):Nat->Option Obj:=λa=>af aq (af aq (aA aq (λo=>alive o) (BT.get s.tree a)) (bE a s.n)) (bO lo a)
def methsOf (C:Nat):List Nat:=aQ [] (λp u_ ih=>aQ ih (λq u_ ih2=>af ih2 (q.2::ih2) (ak q.1 C)) p.2) (NT.list K.ms)
def wI (g:Nat->Option Obj) (C:Nat):List Nat:=ZP g C++methsOf C
def vn (g:Nat->Option Obj) (C:Nat):Bool:=(wI g C).all (λa=>jk a iN)&&((NT.list K.init).all (λp=>af H (T8 (qy g (wI g C)) p) (ak p.1 C))&&(NT.list K.ms).all (FZ (qy g (wI g C)) C))
noncomputable def Pr (g:Nat->Option Obj) (a:Nat):Bool:=match g a with
 |some o=>match o.data with
  | .func fd=>fd.name=="law"&&(fd.qualname=="law"&&(ak fd.globals mainNs&&(fd.closure.isEmpty&&(ak fd.builtins builtinsNs&&((match fd.defaults with| .none=>H|_=>aj)&&(match fd.kwdefaults with| .none=>H|_=>aj))))))
  |_=>aj
 |none=>aj
def facts (g:Nat->Option Obj) (cs:List Nat) (ms:List Mk) (ts:List Nat) (tg:List (Nat×Nat)) (lw:Nat):Bool:=cs.all (vn g)&&(ms.all (λm=>codeHdIn (qy g [m.c]) m.c m.P&&jk m.c iN)&&(ts.all (T9 g)&&(tg.all (λq=>aA aj (λv=>vG g iN 5 v (.ref q.2)) (NT.find K.glob q.1))&&af (Pr g lw) H (ak lw 0))))
def Hh (lo hi:Nat):List (Nat×K.NL):=(NT.list K.dT).filter λp=>bO lo p.1&&bE p.1 hi
structure Pc where
 lo:Nat
 hi:Nat
 cs:List Nat
 ms:List Mk
 ts:List Nat
 tg:List (Nat×Nat)
 lw:Nat
def Pu (p:Pc) (q:Flow×SharedT×Code×Pos):=
 (q.1,q.2.2.1,q.2.2.2,(q.2.1.n,q.2.1.toks,q.2.1.life,q.2.1.gens,q.2.1.drawn,q.2.1.os),[q.2.1.tree.get 0,q.2.1.tree.get 2,q.2.1.tree.get 3,q.2.1.tree.get 4,q.2.1.tree.get 12,q.2.1.tree.get 13],
  (Hh p.lo p.hi).map (λd=>xw (gT p.lo q.2.1) iN Pg d.2.ds d.1),facts (gT p.lo q.2.1) p.cs p.ms p.ts p.tg p.lw)
def Ug (w:World) (os:OsState) (j:Nat) (L:List bf) (n:Nat) (R:List Value) (p:Pc) (k:Nat) (e:Pos):=
 (qp,cB,e,((p.hi,k,({}:Life),(#[]:Array GenState),({}:Drawn),os):Nat×Nat×Life×Array GenState×Drawn×OsState),[O (sG w.params),O (o2 w j),O (o3 L n),O (boot_o_4 w.params),O (WV R),O WW],(Hh p.lo p.hi).map (λd=>zV d.2),H)
end
set_option backward.match.sparseCases true
section
noncomputable def xN:List Nat:=[0x7aea2270,0x4fa7df1bd07369f0,0x51f534ad83c26f6d,0x1141189057ecd47,0xcff7b35304c74eb9e,0x49c9157f638e0e80,0x1137b33e2346227,0x292097b0ce,0x1fb6e4103c,0x34bdbc4927de0,0x21dea9b51e11a8bcde227,0x11482cbbaac1de0,0x1682d75,0x17e29986eaa4fe81,0xcb7b7fc221bd714c5,0x2ad6a1a2220cf39e,0x5eab3181d4dd974d410305a6832b9e,0x276073e48bc45ed0,0x84a335883bff0d,0xc0a12f57736,0x39fefbd84db8d,0x69b3e8ef236e795f867,0x50e7b2e11204e22b,0x50aca41795f8662b,0x51fd1fcbedf89a2b,0x17f6ddc1f4999b6a2b,0x71b7f0bb3ebfe88b22b,0x51fd1fcbee0ddaad,0x1804b9966bd642aa21,0x1804b9966bd62eed05,0x1804b9966bd69510e6,0x1804b9966bd6ca5031,0x71b7f0bb3ebfe890c67,0x21c29b7796a0f9311948c,0x5ef1313bb7b2d1c4ca2a1d2dd0e775,0x58d673e5c9e39e,0x5ef1313bb7b2d1c4cb4e22203c0681,0x85e21e6d360b29ce82b12e1f76c6370eb,0x50d0481fa0e5a42f,0xd855714e493467,0x17f325499f2d9c2e2b,0x17f6cf08f62e7b1a2b,0x12c83f2b8466fc2e2b,0x2fb5492db75cad0febbd5e2b,0xa06be602e2f9965d0724ad,0x21dea9b51e11b23107c8b,0x21dea9b51e11b2944f3b4,0xe29d1b9926f8360b9feb4a48c,0x3c101b29008e8043c9b,0xee069bd6d5ba6d37b3c417c,0x2bfb8ea3b22ff775,0x402d3754809291f8762e610e775,0x255d14164231a5ad0ac,0xb8213952760,0x1847c32093240ad867,0xe4d3f35d2aa1d9,0xa0e28f4f45df79e0c21e80,0x142aee22e61b4f4f46,0x9cb6e3c10799ca7e2b,0x58ee8b798a70993162b,0xd1b02401362f4a7e2b,0x82a408ce7abea8a7e2b,0x18004680405729fa2b,0x17e43f9ff5804c8a7e2b,0x1fc13f297c6a7d8a7e2b,0x50ac1fecf878da2b,0x71be2c7b1b441fc2e2b,0x1addede5d4436101a5a425b771fc2e2b,0x6cb5b6c7133afb4aa2b,0xb30bf96f098,0xdcd97de43be8d9,0xbde70e04600,0x21dedacd521419ac6fc3b,0x1376eb2b150564a44c,0x225b08666c1484ce4a44c,0xa0648a58b6cf66c0f350a1,0x2e864b9d4e41aa9a248c,0xdcd97dfa95199c,0x717c2e37ce216bb9a248c,0x21def0d0e7c33cda44780,0x2045f24319b582c1f348c,0x2d9327803d484,0x1376ea6e4c4823d4a4,0xdcd97de4577c8b,0x84af8e30e7f64fd72a422b,0xfbc4638575ea2b,0x50cf8edf2fa5ea2b,0x1ae7ae67a188bb3f65a2b,0x7fcc7c6c3f49796f9f748c,0x302c9f062402b,0x8592afe892d3c0a15ee3e568ca0832b9e,0x2e619799e1550,0x1376ea7b462ddf9570,0x50d099924540e970,0xaa1215a7515662193bea2b,0xe29b141fc355e68d0fcfbea2b,0x1b623f9ce2b3caf4bea2b,0xa06d259864f49453c4c3c3,0x681d46d991e96524a70,0x8212ae2934d6040d06348c,0x1d5664db2af9e,0x1753974,0x9c3f370653f,0x71c3d3bf09e575bea2b,0x367428373cabda9ff7c775bea2b,0xe4229252f5522b,0x58eee77448fdff65a2b,0x1804dc9cb3ed75362b,0x51d95eb0cb997a2b,0xaa1215a847617196d97a2b,0x11085082bf7fa2b,0x8212a9e361e2710577fa2b,0xdc552497a19a2b,0x21c622dcb6f01f1c6348c,0x1a66ecb685ab67f9f748c,0x721717e856a8148c48c,0x184c881c7c740cf48c,0x327d5e6df530edb8cb0cf48c,0x50e77e6d101af48c,0x416946dd0676748c,0x8fada5aea23e8b,0x2a9bd72beb91438b,0x3c14dca31e7e991d28b,0x16f29bb,0x396011cbea044,0x3ca64970bc955,0x435ac7bcabcaab9910690ebc955,0x2e7e9f7f3df7d,0x435ac7bcabcaab8ae8bf1d3df7d,0x71f5b5b49f31a2c022b,0x26b4bc92b456ef9bf6499dae,0xd8c116290bee2b,0x3a0aef733fa2b,0x435ac7bcabcaab96750f113fa2b,0x13fef34c03002af077d1e5a77fa2b,0xa0846f4546ff85ce67ae2b,0x85eff82965195f9de3f7a8496375bea2b,0x2fa067293df89f55a7a3ae2b,0xa06be18ecdb048e3f65a2b,0x4328a9d1748408c40a11d57ae2b,0x73d48995c51f5435a2b,0x405952943d838e80,0x17fdd56964e208bfd9,0x12b910aead3481c1d9,0x396827f51a0d9,0x1804b9966bd64a59db,0x50e77e9c5dc5a91c,0x5efb03a90e40cbf63925322bc5a91c,0x1804b9966bd6a8d01c,0xe2de333deb290aeae9b66402b,0x4359f73661d02e825d23695452b,0x5ef9dd9bafee918778b9e4b395d42b,0x226318d876854d27b748c,0x142f618a3dc4aede3b,0x110aebdcbd75be5,0x2db2bd261f755,0x35a58324cdb4ab43cbf305fdf7d,0xfc2bf7a38b0f7d,0x3ca64970ace2b,0x35a58324cdb4ab51f39cf76ce2b,0x1afa53c03f573e189262b,0x50e77e9c5dc5efc3,0x4ba665eee613c591f189656285efc3,0x4ba665eee613c591f189656285a91c,0x80250dd12cde66f734048c,0x99f753b099b,0x5ae4c2768d8b36a6e2b,0x1afbe9bb320554615648c,0x2aa78d2fd8296efe,0xb46faad42211937c5953c0681,0x205bc24dcc,0x2da1b967f58f6,0xd928216b17227e,0x131a4cf44fbbedba2b,0x25fc8fc0dec2f2b4c14ace2b,0x7353d82adc453eece2b,0x110aebdcbcece2b,0x1af04858ccf04ceddb22b,0x8032b4105b046c1ed8122b,0x2e7e9f072704d,0x5abced887abcd0ff48c,0x359126b6fa209e50f55a1c5efc3,0x50f3e05883e1e48c,0x359126b6fa209f17111c7e1e48c,0x7ff557a5cd756d6c4d948c,0x260f0d74db0550192aa2148c,0x793b97b577bb751d8d0a92,0x4825d104,0x950eb37486c58f71b7022b,0xd4e54eb9865a2b,0x3e66c3b16f608e499c9ec237a2b,0x3f34135f165f748c,0x12868218ad10aa3dda7f21d04f48c,0x3c15c26cef2fd63fb9e,0x280e6cd8c6,0x17a5adf0a51aac6d55,0x17a5adf0a51aab722b,0x7052fa37103ed62948c,0xb2b0215eb8c,0x1a75a0d53250ee63a18e6,0x50c491c447ddf22b,0x17fa5b46455860948c,0x50c491c447deed55,0x185725708ac419f970,0xe300ebaa32c665e6c71ab722b,0x436445f68712e640831c162948c,0x35b228db5b41e1e1516f13c0681,0x9a12916058c,0x5af4d75d71c984aba2b,0x1b00afefbdc7d38abf48c,0x50c491c44704be81,0x4190915fe1f74170,0xa09c32e0f1ec9f0d03c955,0x4fa757607cfcd751,0x1c7089cf367c89e68a955,0x2db4c7e7336a6,0x22528a83f025fe147cfa6,0x32b0ad03be1a6,0xc35aead7c89,0xd437716fd5362b,0x1c7089cf367c89ece1ac3,0xd91ac8561b2e2b,0xa30811f2b4b489ad389a2b,0xf0c7489dadf22b,0x3ca64974e28ea,0x592151c2fd71db5948c,0xe27c43bf34dd8275e2f61e48c,0x4073f379928e648c,0x306665540da598df6f4a748c,0x477b298ed220948c,0x156b2c4cef,0x7878d49cea8f9e,0x24dcd43da3ee6e2c4c5,0x6d3be5cf,0xf8b251d3627e2b,0x9c9d0be822c,0x407c6e77cc70de2b,0x1324f0cb90b3fea48c,0x9c9d0f36567,0x2944fae37e,0x185d03cfd5ace4122b,0xb2b05aab2ea,0x73b9d21b36f5632148c,0xd4cbbd89ae1ff9,0x5920de0e9cb2c5d8dae,0x50b89e6ec836c7d9,0x17f354ffcbf12c43d9,0xe507742276ce2b,0x214e8d7454efc1ccffa2b,0xe2c8921aedbeb356b37fb1a2b,0x423b6577aff2932d749b35bea2b,0xe2c8921aee8df9cccddbbea2b,0x10bfd81fa63562b,0x2e7ea140f4967,0x43fe367a3dc1e48c,0x225b199348f8d5a9944e4,0x2ef7c5790ad42b3ced85a91c,0x43538b5ffe949d3dbd4a108748c,0x43538b5ffed22628cd1d646348c,0x4f8f429657fa448c,0x54b24a4ccc13a9912b4a61,0xa0bb73ec7317a1634d0a92,0x2eee769ec5cbf01612761e01,0xd231bb0f520c97475cb14c0cb,0x1f616937991a32f63b62b,0x3f112a915df8d22b,0x12b8ed49c09c85f22b,0x950eb3c8173c721416c48c,0x12b918a327e85b148c,0x58ee671e52e7a40948c,0x2254634102d6d1c9,0x4a8634c5,0x15891587b2,0x128c6858c4754,0xfca4e0b733e681,0xecc059,0x2aceb6beb49b679e,0x50dfc7fda493562b,0x50dfc7fda4d7091b,0xfca4e0b80d1a2b,0x55867d92449fa0ac,0x18026f5f4cde3a448c,0x4b00f2b6a660748c,0x68954b0bb36,0x26ec2e4e1d,0x1a5ffb7b8e4bf1df,0x16047b999f,0xe6357a9fc4a4f1f8e5e4c0681,0x144a169eb4c4c9937fc2fb56370eb,0xc16e3c2d265,0x293eb403c4,0x99ee473cfff,0x2948ce2695,0x1a75a0d53251000e37684,0x605feb71daab838e252e866dfc2e2b,0x723356d30b8d25de62b,0x18594f3270cd6d5a2b,0x72173d7b8a0a86d5a2b,0x5adf6af3565eb9b1e2b,0x21c61d7370b9aef9b1e2b,0x16fa5595309d62862b,0x72014de1b607862862b,0x185f45ead1cb00262b,0xa0e1a61c4ed41611492227,0xa0e1a61c4ed41a4f28f285,0xa0e1a61c4ed40de7aa848b,0x1804b9966bd6af6d75,0x21dea9b51e11bd01f03e4,0x13feb5642509d466ab0a922ecc3e4,0x5ef9dd9bafeeb0e7ac6f96a54cd01f,0xa06c66436b7c818c06eb8c,0x12b422ef7278100e3d,0xd979764120ba21,0x21dea9b51e1197d994e3d,0x21d8631f020a3d157b8fd,0xb1689f432ab0280bda5c3de32,0x19e4ee1,0xe2b429eff2ea0c4962800aa32,0x73c48c1b6484688048c,0x1221695190b867573472a944f83fa2ed81c,0x91e14478747207fc5a3ba4534a61,0x1d3ce47,0x12c134e473af2ee6b5,0xbe436705a2b,0xd169adc0267,0x21db58f40ca88b47e9bf0,0xf88ae2e0614267,0x21dea9b51e11bda3926b5,0x1274e055adb2b8d,0x1804b9966bd6370c08,0x1804b9966bd6a86284,0x21db5a22986d6cc642bf0,0x15e7bd9ee5e94f2b8d,0x11f5b65dacd9c6c,0x185f45ead1cb7f6c6c,0x1142b22ab4dc46c,0x10fd72d3f4a4c6c,0x66795]
def scN:List (Str×aM):=kM lo1 (xN.take 1)++lo1 0x287e2c2462b60::(kM lo1 ((xN.drop 1).take 1)++(YF 0xfc7da4146d8c82,.globalImplicit)::kM lo1 (xN.drop 2))
def Vm (w:World):List bf:=WX w [(0x287e2c2462b60,165,(.str "__main__" 164)),(0x88656361e40,166,.none),(0x10f3b1d2deabf51680,167,.none),(0x391a980219bb8cc0,168,(.builtin "__main__.__loader__#opaque")),(0x287e184807570,169,.none),(0x21b61793549d236b4e84f2d0,170,(.ref 6)),(0x508695612c0054773a0,171,(.ref 4)),(0x287e2c07dfbe0,173,(.str "/claim/cut.py" 172)),(0x3919dd8a932ccd30,174,.none)] []
noncomputable def Vn:List Value:=[]
def YG (w:World):List bf:=jD w 0 xN [(193,21),(237,48),(253,61),(269,73),(273,69535),(282,82),(293,89),(301,96),(309,103)] (jC [(0,(.str "joinedhand.octets" 270))] (Vm w))
def YH:List Value:=Av [(1,20),(5,28),(14,57),(16,69),(20,81),(23,88),(29,95),(31,102)] Vn
noncomputable def q0:Pc:=⟨15,104,[],[],[],[],0⟩
def YI (w:World):List bf:=jD w 9 xN [(413,187),(419,196)] (jC [] (YG w))
def YJ:List Value:=Av [(35,109),(76,195)] YH
noncomputable def q1:Pc:=⟨104,197,[187],[],[],[],0⟩
def YK (w:World):List bf:=jD w 11 xN [(521,279),(536,291),(540,1594838165),(542,4016),(544,20384),(546,69535),(548,24480),(550,69536),(601,322)] (jC [(0,(.str "joinedhand.metrics" 537))] (YI w))
def YL:List Value:=Av [(80,202),(118,290),(142,297)] YJ
noncomputable def q2:Pc:=⟨197,327,[279,322],[],[],[],0⟩
def YM (w:World):List bf:=jD w 20 xN [(609,333),(619,340),(628,347),(638,354),(648,361),(661,368),(675,375),(683,382),(691,389),(699,396),(707,403),(717,410),(724,417),(731,424),(735,1118111),(737,4255),(739,4010),(741,4011),(796,460),(804,471),(817,478),(829,485),(847,492)] (jC [(0,(.str "joinedhand.selectors" 732))] (YK w))
def YN:List Value:=Av [(156,332),(160,339),(166,346),(176,353),(185,360),(193,367),(203,374),(211,381),(216,388),(225,395),(236,402),(241,409),(249,416),(254,423),(262,430),(281,470),(284,477),(297,484),(309,491)] YL
noncomputable def q3:Pc:=⟨327,493,[460],[],[],[],0⟩
def YO (w:World):List bf:=jD w 43 xN [(860,499),(869,506),(880,513),(890,520),(905,527),(924,536),(927,537),(929,69535),(931,1118111),(933,4008),(984,572),(993,583),(1002,590),(1014,597),(1025,604),(1047,611),(1060,618),(1069,625),(1078,632),(1098,639),(1106,646),(1114,653)] (jC [(0,(.str "joinedhand.charmap" 906))] (YM w))
def YQ:List Value:=Av [(325,498),(336,505),(344,512),(354,519),(363,526),(390,543),(405,582),(409,589),(412,596),(420,603),(425,610),(452,617),(462,624),(467,631),(472,638),(493,645),(495,652)] YN
noncomputable def q4:Pc:=⟨493,654,[572],[],[],[(12623647655791468010070722,536),(21754620659536464674526856422099,537)],0⟩
def YR (w:World):List bf:=jD w 65 xN [(1123,660),(1136,667),(1137,667),(1147,674),(1156,681),(1166,688),(1174,695),(1191,702),(1197,707),(1208,714),(1216,721),(1222,727),(1231,734),(1237,739),(1248,746),(1254,752),(1311,790),(1320,801),(1329,808),(1340,815),(1351,822)] (jC [(0,(.str "joinedhand.coverage" 1255))] (YO w))
def YS:List Value:=Av [(497,659),(510,666),(525,673),(536,680),(540,687),(549,694),(551,701),(563,706),(567,713),(572,720),(577,726),(597,733),(605,738),(616,745),(627,751),(642,758),(665,800),(670,807),(678,814),(687,821)] YQ
noncomputable def q5:Pc:=⟨654,823,[790],[],[],[],0⟩
def YT (w:World):List bf:=jD w 86 xN [(1364,829),(1374,836),(1389,844),(1402,852),(1406,69536),(1466,895),(1472,904),(1482,911),(1488,916),(1494,921),(1504,928),(1510,933),(1519,940),(1534,948),(1538,4294971295)] (jC [(0,(.str "joinedhand.gdef" 1535))] (YR w))
def YU:List Value:=Av [(697,828),(708,835),(716,843),(737,851),(746,858),(765,903),(772,910),(780,915),(787,920),(803,927),(811,932),(816,939),(822,947)] YS
noncomputable def q6:Pc:=⟨823,949,[895],[],[],[],0⟩
def YV (w:World):List bf:=jD w 101 xN [(1606,992),(1612,1003),(1620,1010),(1621,1010),(1627,1015),(1640,1022),(1651,1029),(1662,1036),(1672,1043),(1678,1048),(1679,1048),(1694,1055),(1701,1062),(1707,1067),(1716,1074),(1724,1081),(1730,1086),(1736,1091),(1749,1098),(1753,4001),(1755,4002),(1757,4003)] (jC [(0,(.str "joinedhand.contexts" 1750))] (YT w))
def YW:List Value:=Av [(845,954),(867,1002),(869,1009),(872,1014),(878,1021),(890,1028),(897,1035),(908,1042),(914,1047),(923,1054),(937,1061),(939,1066),(952,1073),(958,1080),(967,1085),(975,1090),(986,1097)] YU
noncomputable def q7:Pc:=⟨949,1099,[992],[],[],[],0⟩
def YX (w:World):List bf:=jD w 123 xN [(1806,1129),(1866,1170),(1872,1179),(1873,1179),(1883,1186),(1884,1186),(1898,1193),(1907,1200),(1923,1207),(1938,1214),(1939,1214),(1953,1221),(1966,1228)] (jC [(119,(.ref 1221))] (YV w))
def YY:List Value:=Av [(1001,1104),(1014,1139),(1038,1178),(1041,1185),(1048,1192),(1058,1199),(1064,1206),(1075,1213),(1086,1220),(1093,1227)] YW
noncomputable def q8:Pc:=⟨1099,1229,[1129,1170],[],[],[],0⟩
def Pw (w:World):List bf:=jD w 136 xN [(1977,1235),(1993,1242),(2007,1249),(2023,1256),(2034,1263),(2044,1270),(2054,1277),(2062,1284),(2075,1291),(2084,1298),(2090,1303),(2091,1303),(2097,1308),(2103,1313),(2109,1318),(2115,1323),(2122,1330),(2132,1337),(2138,1342),(2173,1364),(2183,1375),(2189,1380),(2200,1387),(2201,1387)] (jC [(0,(.str "joinedhand.ligature" 2123)),(112,(.ref 1235)),(136,(.ref 1375))] (YX w))
def Px:List Value:=Av [(1100,1234),(1104,1241),(1112,1248),(1121,1255),(1132,1262),(1142,1269),(1150,1276),(1154,1283),(1157,1290),(1168,1297),(1173,1302),(1185,1307),(1194,1312),(1197,1317),(1202,1322),(1218,1329),(1225,1336),(1227,1341),(1233,1348),(1241,1374),(1246,1379),(1251,1386)] YY
noncomputable def q9:Pc:=⟨1229,1388,[1364],[],[],[],0⟩
def Py (w:World):List bf:=jD w 160 xN [(2207,1392),(2217,1399),(2218,1399),(2225,1404),(2231,1409),(2272,1431),(2286,1442),(2292,1447),(2296,69536),(2298,4006),(2333,1469)] (jC [(0,(.str "joinedhand.single" 2293)),(155,(.ref 1404))] (Pw w))
def Pz:List Value:=Av [(1259,1391),(1270,1398),(1276,1403),(1282,1408),(1290,1415),(1301,1441),(1313,1446),(1329,1453)] Px
noncomputable def q10:Pc:=⟨1388,1474,[1431,1469],[],[],[],0⟩
def PB (w:World):List bf:=jD w 171 xN [(2368,1495),(2403,1521),(2409,1530),(2419,1537),(2425,1542),(2437,1549),(2445,1556),(2453,1563),(2463,1570),(2470,1576),(2479,1583),(2485,1588),(2486,1588),(2493,1595),(2500,1602),(2504,4007),(2514,1603),(2524,1610)] (jC [(0,(.str "joinedhand.gsub" 2501)),(167,(.ref 1537)),(170,(.ref 1583))] (Py w))
def PC:List Value:=Av [(1336,1479),(1343,1505),(1350,1529),(1365,1536),(1369,1541),(1377,1548),(1387,1555),(1389,1562),(1391,1569),(1399,1575),(1420,1582),(1426,1587),(1438,1594),(1440,1601),(1445,1609)] Pz
noncomputable def q11:Pc:=⟨1474,1611,[1495,1521],[],[],[(22424036555,1603)],0⟩
def PD (w:World):List bf:=jD w 189 xN [(2533,1617),(2542,1624),(2550,1631),(2558,1638),(2562,69536),(2600,1662),(2607,1673),(2619,1680),(2627,1687),(2634,1694),(2643,1701),(2659,1709),(2665,1714),(2671,1719),(2680,1726),(2686,1731),(2692,1736),(2696,4006)] (jC [(0,(.str "joinedhand.cursive" 2693))] (PB w))
def PE:List Value:=Av [(1453,1616),(1465,1623),(1471,1630),(1483,1637),(1489,1644),(1497,1672),(1499,1679),(1508,1686),(1514,1693),(1516,1700),(1520,1708),(1535,1713),(1545,1718),(1547,1725),(1552,1730),(1564,1735)] PC
noncomputable def q12:Pc:=⟨1611,1737,[1662],[],[],[],0⟩
def PF (w:World):List bf:=jD w 207 xN [(2753,1777),(2766,1788),(2779,1795),(2783,4012),(2789,1800),(2796,1805),(2802,1810),(2813,1817),(2851,1841)] (jC [(0,(.str "joinedhand.marks" 2780)),(134,(.ref 1805))] (PD w))
def PG:List Value:=Av [(1578,1742),(1594,1787),(1606,1794),(1622,1799),(1624,1804),(1627,1809),(1629,1816),(1636,1823)] PE
noncomputable def q13:Pc:=⟨1737,1846,[1777,1841],[],[],[],0⟩
def PJ (w:World):List bf:=jD w 216 xN [(2888,1867),(2926,1895),(2936,1906),(2949,1913),(2960,1920),(2972,1927),(2988,1934),(3000,1941),(3006,1946),(3019,1953),(3026,1958),(3033,1965),(3039,1970),(3046,1977),(3050,4004),(3052,4255),(3054,4016)] (jC [(0,(.str "joinedhand.values" 3047)),(191,(.ref 1958))] (PF w))
def PK:List Value:=Av [(1644,1851),(1658,1877),(1666,1905),(1671,1912),(1680,1919),(1683,1926),(1686,1933),(1697,1940),(1700,1945),(1702,1952),(1709,1957),(1713,1964),(1715,1969),(1725,1976)] PG
noncomputable def q14:Pc:=⟨1846,1978,[1867,1895],[],[],[],0⟩
def PN (w:World):List bf:=jD w 233 xN [(3103,2008),(3112,2019),(3118,2024),(3128,2031),(3139,2038),(3150,2045),(3185,2067),(3191,2076),(3197,2081),(3204,2087),(3213,2094),(3219,2099)] (jC [(0,(.str "joinedhand.pair" 3205))] (PJ w))
def PO:List Value:=Av [(1731,1983),(1744,2018),(1750,2023),(1752,2030),(1760,2037),(1768,2044),(1775,2051),(1782,2075),(1796,2080),(1798,2086),(1818,2093),(1820,2098)] PK
noncomputable def q15:Pc:=⟨1978,2100,[2008,2067],[],[],[],0⟩
def PR (w:World):List bf:=jD w 245 xN [(3265,2129),(3311,2161),(3320,2172),(3335,2179),(3351,2186),(3361,2193),(3367,2198),(3380,2205),(3386,2210),(3395,2217),(3404,2224),(3416,2231),(3422,2236)] (jC [(112,(.ref 2193)),(141,(.ref 2179)),(155,(.ref 2231))] (PN w))
def PS:List Value:=Av [(1822,2105),(1834,2139),(1849,2171),(1852,2178),(1862,2185),(1873,2192),(1876,2197),(1887,2204),(1898,2209),(1901,2216),(1904,2223),(1911,2230),(1919,2235)] PO
noncomputable def q16:Pc:=⟨2100,2237,[2129,2161],[],[],[],0⟩
def PU (w:World):List bf:=jD w 258 xN [(3428,2241),(3435,2248),(3446,2249),(3448,4009),(3455,2256),(3465,2263),(3475,2270),(3484,2277),(3493,2284),(3502,2291),(3510,2298),(3518,2305),(3522,4001),(3524,4002),(3526,4004),(3528,4008),(3530,4014),(3532,4006),(3534,14920),(3549,2312),(3559,2319),(3572,2326),(3580,2333),(3590,2340),(3601,2348),(3605,4016),(3646,2370),(3650,69535),(3653,3999),(3655,4010),(3657,4008)] (jC [(0,(.str "joinedhand.layout" 3647))] (PR w))
def PW:List Value:=Av [(1928,2240),(1944,2247),(1951,2255),(1955,2262),(1963,2269),(1974,2276),(1980,2283),(1986,2290),(1993,2297),(1999,2304),(2013,2311),(2030,2318),(2033,2325),(2052,2332),(2059,2339),(2064,2347),(2073,2354)] PS
noncomputable def q17:Pc:=⟨2237,2375,[2370],[],[],[(206825231721686031451529996240,2249)],0⟩
def PX (w:World):List bf:=jD w 289 xN [(3695,2398),(3734,2424),(3772,2452)] (jC [] (PU w))
def PY:List Value:=Av [(2089,2380),(2097,2408),(2107,2434)] PW
noncomputable def q18:Pc:=⟨2375,2457,[2398,2424,2452],[],[],[],0⟩
def PZ (w:World):List bf:=jD w 292 xN [(3811,2478),(3821,2489),(3837,2496),(3848,2503),(3862,2510),(3873,2517),(3883,2524),(3889,2529),(3895,2534),(3901,2539),(3913,2546),(3922,2553),(3929,2560),(3941,2567),(3951,2574),(3957,2579),(3963,2584),(3969,2589),(3975,2594),(3985,2601),(3992,2608),(4004,2615),(4010,2620)] (jC [(75,(.ref 2496))] (PX w))
def P1:List Value:=Av [(2115,2462),(2126,2488),(2132,2495),(2143,2502),(2149,2509),(2156,2516),(2161,2523),(2165,2528),(2167,2533),(2185,2538),(2189,2545),(2197,2552),(2201,2559),(2203,2566),(2210,2573),(2213,2578),(2219,2583),(2222,2588),(2225,2593),(2233,2600),(2239,2607),(2241,2614),(2245,2619)] PY
noncomputable def q19:Pc:=⟨2457,2621,[2478],[],[],[],0⟩
def P4 (w:World):List bf:=jD w 315 xN [(4019,2627),(4058,2651),(4064,2660),(4078,2668),(4082,4007),(4084,4009),(4137,2698),(4144,2709),(4154,2716),(4167,2723),(4173,2730),(4180,2737),(4188,2744),(4198,2751)] (jC [(0,(.str "joinedhand.font" 4079))] (PZ w))
def P5:List Value:=Av [(2249,2626),(2254,2633),(2267,2659),(2283,2667),(2296,2674),(2312,2708),(2314,2715),(2316,2722),(2322,2729),(2326,2736),(2328,2743),(2333,2750)] P1
noncomputable def q20:Pc:=⟨2621,2752,[2651,2698],[⟨360,2729,2725,"known_readers"⟩],[2725],[],0⟩
def t6 (w:World):List bf:=jD w 329 xN [(4208,2758),(4218,2765),(4224,2772),(4231,2779),(4243,2786),(4252,2793),(4268,2800),(4274,2805),(4280,2810)] (jC [(0,(.str "law_pf0157_01" 4232))] (P4 w))
def MC:List Value:=Av [(2345,2757),(2347,2764),(2349,2771),(2353,2778),(2356,2785),(2363,2792),(2365,2799),(2375,2804),(2381,2809)] P5
noncomputable def ZY:Pc:=⟨2752,2811,[],[⟨364,2757,2753,"gsub_octets"⟩,⟨365,2764,2760,"gpos_octets"⟩,⟨366,2771,2767,"known_writers"⟩],[2753,2760,2767],[],2810⟩
def Uh:dj:={wH with scope:={wH.scope with names:=scN}}
theorem P6:Uh=wH:=by kernel_rfl
def Piece (i m N:Nat) (pa pe:Pos) (p:Pc) (j j':Nat) (L L':World->List bf) (n n':Nat) (R R':List Value) (k k':Nat):Prop:=
 ∀(w:World) (os:OsState),(W3 w os p.lo N (stK w os j (L w) n R p.lo k) (piecesOf (slice i m) Uh cB pa NN)).map (Pu p)=O (Ug w os j' (L' w) n' R' p k' pe)
end
section
theorem MD:∀d a o,(I6 d).get a=O o->o=hole:=by
 intro d
 induction d with
 |zero=>
  intro a o h;exact fn h
 |succ d b=>
  intro a o h;have h:(BT.node hole (I6 d) (I6 d)).get a=O o:=h;rw [BT.get_node] at h;split at h
  .exact(aF h).symm
  .split at h
   .exact b _ o h
   .exact b _ o h
theorem Hi (a b c d e f) i:(six a b c d e f).get i=if i=13 then O f else if i=12 then O e else if i=4 then O d else if i=3 then O c else if i=2 then O b else if i=0 then O a else(I6 12).get i:=U (pG f _ 13 (by kernel_rfl) ..) (U (pG e _ 12 (by kernel_rfl) ..) (U (pG d _ 4 (by kernel_rfl) ..) (U (pG c _ 3 (by kernel_rfl) ..) (U (pG b _ 2 (by kernel_rfl) ..) (U (pG a _ 0 (by kernel_rfl) ..) rfl)))))
theorem Es {x:Nat->Option Obj} (l:x 0=O a) (h2:x 2=O b) (m:x 3=O c) (n:x 4=O d) (g:x 12=O e) (h:x 13=O f)
 (p:alive a=O a) (r:alive b=O b) (s:alive c=O c) (t:alive d=O d) (j:alive e=O e) (k:alive f=O f) i:pick (x i) ((six a b c d e f).get i)=x i:=by
 refine U (Hi ..) ?_;by_cases q:i=13
 .subst q;exact U (if_pos rfl) (U (eU k) (U h rfl))
 refine U (if_neg q) ?_;by_cases q:i=12
 .subst q;exact U (if_pos rfl) (U (eU j) (U g rfl))
 refine U (if_neg q) ?_;by_cases q:i=4
 .subst q;exact U (if_pos rfl) (U (eU t) (U n rfl))
 refine U (if_neg q) ?_;by_cases q:i=3
 .subst q;exact U (if_pos rfl) (U (eU s) (U m rfl))
 refine U (if_neg q) ?_;by_cases q:i=2
 .subst q;exact U (if_pos rfl) (U (eU r) (U h2 rfl))
 refine U (if_neg q) ?_;by_cases q:i=0
 .subst q;exact U (if_pos rfl) (U (eU p) (U l rfl))
 refine U (if_neg q) ?_
 induction u:(I6 12).get i using zO with
 |none=>rfl
 |some o=>refine U (MD 12 i o u) ?_;rfl
theorem F2 {life} (h:∀i,i<n->pick (x i) (T.get i)=pick (x' i) (T'.get i)):nM x T n life=nM x' T' n life:=by
 unfold nM;congr 2;exact nJ λi hi=>U (h i (List.mem_range.mp hi)) rfl
theorem ME {life} (h:∀i,i<n->pick (x i) (T.get i)=t.get i):absHeap t n life=nM x T n life:=by
 unfold nM absHeap BT.list;congr 2;exact nJ λi hi=>U (h i (List.mem_range.mp hi)) rfl
theorem Bx w j L n R:alive (sG w.params)=O (sG w.params)/\alive (o2 w j)=O (o2 w j)/\alive (o3 L n)=O (o3 L n)/\alive (boot_o_4 w.params)=O (boot_o_4 w.params)/\alive (WV R)=O (WV R)/\alive WW=O WW:=
 ⟨rfl,by rcases j<;>rfl,rfl,rfl,rfl,rfl⟩
def nh (h:Heap) (p:Pc):Prop:=∃g:Nat->Option Obj,(∀a o,g a=O o->p.lo<=a/\a<p.hi/\h.get? a=O o)/\(Hh p.lo p.hi).map (λd=>xw g iN Pg d.2.ds d.1)=(Hh p.lo p.hi).map (λd=>zV d.2)/\facts g p.cs p.ms p.ts p.tg p.lw=H
abbrev qm (w:World) (M:Nat) (s:Shared) (t:Thread):Option Shared:=topRun treeTable P0 w 11 (O (.ref 6)) M s t
theorem stx {s:SharedT} (h:(s.n,s.toks,s.life,s.gens,s.drawn,s.os)=(n,k,l,g,d,o)):s=⟨s.tree,n,l,g,d,k,o⟩:=by
 obtain⟨T,f,i,j,m,p,q⟩:=s;injection h with h1 h
 injection h with h2 h
 injection h with a h
 injection h with b h
 injection h with c e
 subst h1 h2 a b c e;rfl
theorem Hj {os} (h:Pu p q=Ug w os j L n R p k e):q=(qp,⟨q.2.1.tree,p.hi,{},#[],{},k,os⟩,cB,e):=
 Prod.ext (congrArg (λz=>z.1) h) (Prod.ext (stx (congrArg (λz=>z.2.2.2.1) h)) (Prod.ext (congrArg (λz=>z.2.1) h) (congrArg (λz=>z.2.2.1) h)))
theorem W4 {a b c d e f g i c' j l m:α} (h:[a,b,c,d,e,f]=[g,i,c',j,l,m]) {P:Prop} (k:a=g->b=i->c=c'->d=j->e=l->f=m->P):P:=by
 injection h with h1 h
 injection h with h2 h
 injection h with n h
 injection h with o h
 injection h with p h
 injection h with q h
 exact k h1 h2 n o p q
theorem P7 {lo n a} {os} {o} (e:gT lo ⟨T,n,l,g,d,k,os⟩ a=O o):lo<=a/\a<n/\BT.get T a=O o/\alive o=O o:=by
 refine aC (dH (show(af aq (af aq (aA aq (λo=>alive o) (BT.get T a)) (bE a n)) (bO lo a):Option Obj)=O o from e)) λe b=>aC (dH e) λe c=>aK (nT e) λy e f=> ?_;have hy:=nN e;subst hy;exact⟨aB b,aB c,f,e⟩
theorem P8 {L c:World->List bf} (g:15<=p.lo) w os x
 (h:W3 w os p.lo N (stK w os j (L w) n R p.lo k) (piecesOf (slice i m) Uh cB pa NN)=O (qp,⟨T,p.hi,{},#[],{},k',os⟩,cB,pe))
 (l:Pu p (qp,⟨T,p.hi,{},#[],{},k',os⟩,cB,pe)=Ug w os j' (c w) n' R' p k' pe):
 ∃q,(∀M r,qm w M (mY q (stK w os j' (c w) n' R' p.hi k')) (restOf (pU.drop (i+m)) wH cB pe NN)=O r->qm w (N+M) (mY x (stK w os j (L w) n R p.lo k)) (restOf (pU.drop i) wH cB pa NN)=O r)/\
  (∀b o,b<p.lo->b≠3->b≠2->b≠12->(mY x (stK w os j (L w) n R p.lo k)).heap.get? b=O o->(mY q (stK w os j' (c w) n' R' p.hi k')).heap.get? b=O o)/\
  nh (mY q (stK w os j' (c w) n' R' p.hi k')).heap p:=by
 refine W4 (congrArg (λz=>z.2.2.2.2.1) l) λD E F G s t=> ?_;have h:AF treeTable P0 w p.lo (O (.ref 12)) 1 N (stK w os j (L w) n R p.lo k) (piecesOf (slice i m) wH cB pa NN)=O (qp,⟨T,p.hi,{},#[],{},k',os⟩,cB,pe):=P6▸Pq _ _ _ _ _ _ _ _ h;refine gc (NR (x:=x) (m:=11) (P:=12) (ann:=O (.ref 6)) (f7 g) (aB rfl) h) λh1 h2=>yE (Bx w j' (c w) n' R') λu v y A d f=> ?_;have hx:mY (λa=>pick (x a) (T.get a)) (stK w os j' (c w) n' R' p.hi k')=mY x ⟨T,p.hi,{},#[],{},k',os⟩:=by
  refine(?_:Shared.mk _ _ _ _ _=Shared.mk _ _ _ _ _);congr 1;exact F2 λa ha=>Es (x:=λa=>pick (x a) (T.get a)) (by show pick _ _=_;exact U D (U (eU v) rfl)) (by show pick _ _=_;exact U E (U (eU y) rfl)) (by show pick _ _=_;exact U F (U (eU u) rfl)) (by show pick _ _=_;exact U G (U (eU A) rfl)) (by show pick _ _=_;exact U s (U (eU d) rfl)) (by show pick _ _=_;exact U t (U (eU f) rfl)) v y u A d f a
 refine f9 (λa=>pick (x a) (T.get a)) (λM r B=> ?_) (λb o I J K Q e=> ?_) ⟨gT p.lo ⟨T,p.hi,{},#[],{},k',os⟩,λa o e=> ?_,congrArg (λz=>z.2.2.2.2.2.1) l,congrArg (λz=>z.2.2.2.2.2.2) l⟩
 .rw [hx] at B;have S:pU.drop i=slice i m++pU.drop (i+m):=by unfold slice;refine cL sU ?_;exact(l8 m _).symm
  exact U S (piece_app h1 B)
 .refine U hx ?_;exact h2 b o I J K Q e
 .exact U hx (z04 (P7 e) λV C q3 q4=>iW V C (uA C q3 q4))
theorem glue (P:Piece i m N pa pe p j j' L L' n n' R R' k k') (a:15<=p.lo) w os x:
 ∃c,(∀M r,qm w M (mY c (stK w os j' (L' w) n' R' p.hi k')) (restOf (pU.drop (i+m)) wH cB pe NN)=O r->qm w (N+M) (mY x (stK w os j (L w) n R p.lo k)) (restOf (pU.drop i) wH cB pa NN)=O r)/\
  (∀b o,b<p.lo->b≠3->b≠2->b≠12->(mY x (stK w os j (L w) n R p.lo k)).heap.get? b=O o->(mY c (stK w os j' (L' w) n' R' p.hi k')).heap.get? b=O o)/\
  nh (mY c (stK w os j' (L' w) n' R' p.hi k')).heap p:=
 dN (qu.mp (P w os)) λq e d=>P8 a w os x (e.trans (congrArg O (Hj d))) ((congrArg (Pu p) (Hj d)).symm.trans d)
def Reach (w:World) (os:OsState) (i:Nat) (pe:Pos) (j:Nat) (L:World->List bf) (n:Nat) (R:List Value) (m k:Nat) (l:List Pc):Prop:=
 ∃(x:Nat->Option Obj) (N:Nat),(∀M r,qm w M (mY x (stK w os j (L w) n R m k)) (restOf (pU.drop i) wH cB pe NN)=O r->qm w (N+M) ⟨boot_heap w.params,#[],boot_drawn,boot_toks,os⟩ (topStub P0)=O r)/\
  ∀p∈l,15<=p.lo/\p.hi<=m/\nh (mY x (stK w os j (L w) n R m k)).heap p
theorem dB {os} (P:Piece i m N pa pe p j j' L L' n n' R R' k k') (c:(bO 15 p.lo&&bO p.lo p.hi)=H)
 (aev:Reach w os i pa j L n R p.lo k l):Reach w os (i+m) pe j' L' n' R' p.hi k' (p::l):=by
 refine HG aev λx q h1 h2=>gc (cM.mp c) λb d=> ?_;have b:=aB b;refine jB (glue P b w os x) λs t u v=>m7 s (q+N) (λM r y=> ?_) (λz hp=> ?_)
 .refine U (j8 ..) ?_;exact h1 _ r (t M r y)
 .rcases aT.mp hp with rfl|hp
  .exact iW b (br _) v
  .obtain⟨A,f,g,a3,B,C⟩:=h2 z hp;refine⟨A,aI f (aB d),g,λa o e=> ?_,B,C⟩;exact iO (a3 a o e) λD E h=>iW E h (u a o (aR h f) (by lia) (by lia) (by lia) D)
end
section
def st0 (w:World) (os:OsState):SharedT:=⟨Rg w.params,11,(boot_heap w.params).life,#[],boot_drawn,boot_toks,os⟩
theorem boot_abs (w:World):absHeap (Rg w.params) 11 (boot_heap w.params).life=boot_heap w.params:=by kernel_rfl
def CU (w:World):Nat->SharedT->Thread->Option (SharedT×Thread)
 |0,s,t=>O (s,t)
 |n+1,s,t=>match through t with
  |true=>aq
  |false=>match stepOk 11 (O (.ref 6)) t with
   |false=>aq
   |true=>match stepT (denote treeTable) P0 w s t with
    |some (s',t')=>CU w n s' t'
    |none=>aq
theorem MF:∀{n} {s s'} {t a},CU w n s t=O (s',a)->topGo treeTable P0 w 11 (O (.ref 6)) n s.abs t=O (s'.abs,a):=by
 intro n
 induction n with
 |zero=>
  intro _ _ _ _ h;cases h;rfl
 |succ n e=>
  intro s s' t a h;unfold CU at h;unfold topGo
  induction ht:through t using zB with
  |true=>rw [ht] at h;exact fn h
  |false=>
   rw [ht] at h
   induction hk:stepOk 11 (O (.ref 6)) t using zB with
   |false=>rw [hk] at h;exact fn h
   |true=>
    rw [hk] at h
    induction b:stepT (denote treeTable) P0 w s t using zO with
    |none=>rw [b] at h;exact fn h
    |some r=>obtain⟨c,d⟩:=r;rw [b] at h;refine U (stepT_spec b) ?_;exact e h
def thB:Thread:=⟨denote treeTable (.body pU wH),cB,p0,NN⟩
theorem P9 w os:(CU w 12 (st0 w os) (topStub P0)).map (λq=>(q.2,(q.1.n,q.1.toks,q.1.life,q.1.gens,q.1.drawn,q.1.os),[q.1.tree.get 0,q.1.tree.get 2,q.1.tree.get 3,q.1.tree.get 4,q.1.tree.get 12,q.1.tree.get 13]))=
 O (thB,((15,187,({}:Life),(#[]:Array GenState),({}:Drawn),os):Nat×Nat×Life×Array GenState×Drawn×OsState),[O (sG w.params),O (o2 w 0),O (o3 (Vm w) 9),O (boot_o_4 w.params),O (WV Vn),O WW]):=by kernel_rfl
theorem Ui w h g d k os:segRun treeTable P0 w 11 (O (.ref 6)) 1 1 ⟨h,g,d,k,os⟩ (blockOf pU wH cB p0 [topFrame p0])=O (.next,⟨h,g,d,k,os⟩,cB,p0):=by kernel_rfl
theorem W5 w h g d k os pe:qm w 2 ⟨h,g,d,k,os⟩ (restOf [] wH cB pe NN)=O ⟨h,g,d,k,os⟩:=by kernel_rfl
theorem Uj w os:Reach w os 0 p0 0 Vm 9 Vn 15 187 []:=by
 refine dN (qu.mp (P9 w os)) λq d e=> ?_;have d:=d.trans (congrArg O (show q=(⟨q.1.tree,15,{},#[],{},187,os⟩,thB) from Prod.ext (stx (congrArg (λz=>z.2.1) e)) (congrArg (λz=>z.1) e)));refine W4 (congrArg (λz=>z.2.2) e) λi j k l b c=> ?_;generalize q.1.tree=T at d i j k l b c;refine yE (Bx w 0 (Vm w) 9 Vn) λn o s t f g=> ?_;have hx:mY (λa=>T.get a) (stK w os 0 (Vm w) 9 Vn 15 187)=SharedT.abs ⟨T,15,{},#[],{},187,os⟩:=by
  refine(?_:Shared.mk _ _ _ _ _=Shared.mk _ _ _ _ _);refine congrArg (λh=>Shared.mk h _ _ _ _) ?_;exact(ME λa v=>Es (x:=λa=>T.get a) i j k l b c o s n t f g a).symm
 have u:(st0 w os).abs=⟨boot_heap w.params,#[],boot_drawn,boot_toks,os⟩:=by
  refine cL (boot_abs w) ?_;rfl
 refine m7 (λa=>T.get a) (12+1) (λM r m=> ?_) (λp hp=>(aU hp).elim);rw [hx] at m;exact cL u (U (j8 ..) (go_top (MF d) (piece_block (Ui w _ _ _ _ _) m)))
theorem I8 {os} (hi:pU.drop i=[]) (aev:Reach w os i pe j L n R m k l):
 ∃x N,qm w N ⟨boot_heap w.params,#[],boot_drawn,boot_toks,os⟩ (topStub P0)=O (mY x (stK w os j (L w) n R m k))/\∀p∈l,nh (mY x (stK w os j (L w) n R m k)).heap p:=by
 refine HG aev λx N h1 h2=>m7 x (N+2) (h1 2 _ ?_) (λp hp=>(h2 p hp).2.2);exact U hi (W5 w _ _ _ _ _ pe)
end
section
theorem pc0:Piece 0 11 891 ⟨0,0,0,0⟩ ⟨31,0,34,17⟩ q0 0 1 Vm YG 9 18 Vn YH 187 310:=λw os=>by kernel_rfl
theorem pc5:Piece 70 22 935 ⟨495,0,496,39⟩ ⟨687,0,696,24⟩ q5 1 1 YO YR 74 95 YQ YS 1115 1352:=λw os=>by kernel_rfl
theorem ZZ:Piece 173 14 733 ⟨1258,0,1258,17⟩ ⟨1329,0,1335,100⟩ q10 1 1 Pw Py 169 180 Px Pz 2202 2334:=λw os=>by kernel_rfl
theorem Z0:Piece 258 13 840 ⟨1730,0,1730,12⟩ ⟨1820,0,1821,69⟩ q15 1 1 PJ PN 242 254 PK PO 3055 3220:=λw os=>by kernel_rfl
theorem Z1:Piece 349 15 942 ⟨2245,0,2248,47⟩ ⟨2333,0,2344,16⟩ q20 1 1 PZ P4 324 338 P1 P5 4011 4199:=λw os=>by kernel_rfl
end
section
theorem pc1:Piece 11 2 561 ⟨31,0,34,17⟩ ⟨76,0,79,83⟩ q1 1 1 YG YI 18 20 YH YJ 310 420:=λw os=>by kernel_rfl
theorem pc6:Piece 92 17 766 ⟨687,0,696,24⟩ ⟨844,0,844,8⟩ q6 1 1 YR YT 95 110 YS YU 1352 1539:=λw os=>by kernel_rfl
theorem Z2:Piece 187 21 951 ⟨1329,0,1335,100⟩ ⟨1445,0,1452,38⟩ q11 1 1 Py PB 180 198 Pz PC 2334 2525:=λw os=>by kernel_rfl
theorem Z3:Piece 271 16 945 ⟨1820,0,1821,69⟩ ⟨1919,0,1927,35⟩ q16 1 1 PN PR 254 267 PO PS 3220 3423:=λw os=>by kernel_rfl
theorem Z4:Piece 364 10 284 ⟨2333,0,2344,16⟩ ⟨2381,0,2392,56⟩ ZY 1 1 P4 t6 338 347 P5 MC 4199 4281:=λw os=>by kernel_rfl
end
section
theorem pc2:Piece 13 10 927 ⟨76,0,79,83⟩ ⟨142,0,155,84⟩ q2 1 1 YI YK 20 29 YJ YL 420 602:=λw os=>by kernel_rfl
theorem pc7:Piece 109 23 896 ⟨844,0,844,8⟩ ⟨1000,0,1000,12⟩ q7 1 1 YT YV 110 132 YU YW 1539 1758:=λw os=>by kernel_rfl
theorem Z5:Piece 208 20 743 ⟨1445,0,1452,38⟩ ⟨1577,0,1577,17⟩ q12 1 1 PB PD 198 216 PC PE 2525 2697:=λw os=>by kernel_rfl
theorem Z6:Piece 287 35 936 ⟨1919,0,1927,35⟩ ⟨2088,0,2088,18⟩ q17 1 1 PR PU 267 298 PS PW 3423 3658:=λw os=>by kernel_rfl
end
section
theorem pc3:Piece 23 24 941 ⟨142,0,155,84⟩ ⟨309,0,324,19⟩ q3 1 1 YK YM 29 52 YL YN 602 848:=λw os=>by kernel_rfl
theorem pc8:Piece 132 14 925 ⟨1000,0,1000,12⟩ ⟨1093,0,1099,119⟩ q8 1 1 YV YX 132 145 YW YY 1758 1967:=λw os=>by kernel_rfl
theorem Z7:Piece 228 11 807 ⟨1577,0,1577,17⟩ ⟨1636,0,1643,98⟩ q13 1 1 PD PF 216 225 PE PG 2697 2852:=λw os=>by kernel_rfl
theorem Z8:Piece 322 3 765 ⟨2088,0,2088,18⟩ ⟨2107,0,2114,46⟩ q18 1 1 PU PX 298 301 PW PY 3658 3773:=λw os=>by kernel_rfl
end
section
theorem pc4:Piece 47 23 944 ⟨309,0,324,19⟩ ⟨495,0,496,39⟩ q4 1 1 YM YO 52 74 YN YQ 848 1115:=λw os=>by kernel_rfl
theorem pc9:Piece 146 27 942 ⟨1093,0,1099,119⟩ ⟨1258,0,1258,17⟩ q9 1 1 YX Pw 145 169 YY Px 1967 2202:=λw os=>by kernel_rfl
theorem Z9:Piece 239 19 931 ⟨1636,0,1643,98⟩ ⟨1730,0,1730,12⟩ q14 1 1 PF PJ 225 242 PG PK 2852 3055:=λw os=>by kernel_rfl
theorem aac:Piece 325 24 931 ⟨2107,0,2114,46⟩ ⟨2245,0,2248,47⟩ q19 1 1 PX PZ 301 324 PY P1 3773 4011:=λw os=>by kernel_rfl
end
section
def pl0:List Pc:=q0::[]
theorem rk0 (w:World) (os:OsState):Reach w os 11 ⟨31,0,34,17⟩ 1 YG 18 YH 104 310 pl0:=(dB pc0 rfl (Uj w os):)
def pl1:List Pc:=q1::pl0
theorem rk1 (w:World) (os:OsState):Reach w os 13 ⟨76,0,79,83⟩ 1 YI 20 YJ 197 420 pl1:=(dB pc1 rfl (rk0 w os):)
def pl2:List Pc:=q2::pl1
theorem rk2 (w:World) (os:OsState):Reach w os 23 ⟨142,0,155,84⟩ 1 YK 29 YL 327 602 pl2:=(dB pc2 rfl (rk1 w os):)
def pl3:List Pc:=q3::pl2
theorem rk3 (w:World) (os:OsState):Reach w os 47 ⟨309,0,324,19⟩ 1 YM 52 YN 493 848 pl3:=(dB pc3 rfl (rk2 w os):)
def pl4:List Pc:=q4::pl3
theorem rk4 (w:World) (os:OsState):Reach w os 70 ⟨495,0,496,39⟩ 1 YO 74 YQ 654 1115 pl4:=(dB pc4 rfl (rk3 w os):)
def pl5:List Pc:=q5::pl4
theorem rk5 (w:World) (os:OsState):Reach w os 92 ⟨687,0,696,24⟩ 1 YR 95 YS 823 1352 pl5:=(dB pc5 rfl (rk4 w os):)
def pl6:List Pc:=q6::pl5
theorem rk6 (w:World) (os:OsState):Reach w os 109 ⟨844,0,844,8⟩ 1 YT 110 YU 949 1539 pl6:=(dB pc6 rfl (rk5 w os):)
def pl7:List Pc:=q7::pl6
theorem rk7 (w:World) (os:OsState):Reach w os 132 ⟨1000,0,1000,12⟩ 1 YV 132 YW 1099 1758 pl7:=(dB pc7 rfl (rk6 w os):)
def pl8:List Pc:=q8::pl7
theorem rk8 (w:World) (os:OsState):Reach w os 146 ⟨1093,0,1099,119⟩ 1 YX 145 YY 1229 1967 pl8:=(dB pc8 rfl (rk7 w os):)
def pl9:List Pc:=q9::pl8
theorem rk9 (w:World) (os:OsState):Reach w os 173 ⟨1258,0,1258,17⟩ 1 Pw 169 Px 1388 2202 pl9:=(dB pc9 rfl (rk8 w os):)
def W6:List Pc:=q10::pl9
theorem aad (w:World) (os:OsState):Reach w os 187 ⟨1329,0,1335,100⟩ 1 Py 180 Pz 1474 2334 W6:=(dB ZZ rfl (rk9 w os):)
def W7:List Pc:=q11::W6
theorem aae (w:World) (os:OsState):Reach w os 208 ⟨1445,0,1452,38⟩ 1 PB 198 PC 1611 2525 W7:=(dB Z2 rfl (aad w os):)
def W8:List Pc:=q12::W7
theorem aaf (w:World) (os:OsState):Reach w os 228 ⟨1577,0,1577,17⟩ 1 PD 216 PE 1737 2697 W8:=(dB Z5 rfl (aae w os):)
def W9:List Pc:=q13::W8
theorem aag (w:World) (os:OsState):Reach w os 239 ⟨1636,0,1643,98⟩ 1 PF 225 PG 1846 2852 W9:=(dB Z7 rfl (aaf w os):)
def Xa:List Pc:=q14::W9
theorem aah (w:World) (os:OsState):Reach w os 258 ⟨1730,0,1730,12⟩ 1 PJ 242 PK 1978 3055 Xa:=(dB Z9 rfl (aag w os):)
def Xb:List Pc:=q15::Xa
theorem aai (w:World) (os:OsState):Reach w os 271 ⟨1820,0,1821,69⟩ 1 PN 254 PO 2100 3220 Xb:=(dB Z0 rfl (aah w os):)
def Xc:List Pc:=q16::Xb
theorem aaj (w:World) (os:OsState):Reach w os 287 ⟨1919,0,1927,35⟩ 1 PR 267 PS 2237 3423 Xc:=(dB Z3 rfl (aai w os):)
def Xd:List Pc:=q17::Xc
theorem aak (w:World) (os:OsState):Reach w os 322 ⟨2088,0,2088,18⟩ 1 PU 298 PW 2375 3658 Xd:=(dB Z6 rfl (aaj w os):)
def Xe:List Pc:=q18::Xd
theorem aal (w:World) (os:OsState):Reach w os 325 ⟨2107,0,2114,46⟩ 1 PX 301 PY 2457 3773 Xe:=(dB Z8 rfl (aak w os):)
def Xf:List Pc:=q19::Xe
theorem aam (w:World) (os:OsState):Reach w os 349 ⟨2245,0,2248,47⟩ 1 PZ 324 P1 2621 4011 Xf:=(dB aac rfl (aal w os):)
def Xg:List Pc:=q20::Xf
theorem aan (w:World) (os:OsState):Reach w os 364 ⟨2333,0,2344,16⟩ 1 P4 338 P5 2752 4199 Xg:=(dB Z1 rfl (aam w os):)
def Xh:List Pc:=ZY::Xg
theorem aao (w:World) (os:OsState):Reach w os 374 ⟨2381,0,2392,56⟩ 1 t6 347 MC 2811 4281 Xh:=(dB Z4 rfl (aan w os):)
end
set_option backward.match.sparseCases false
section
@[irreducible] def dL:List (Nat×K.NL):=NT.list K.dT
theorem zY:dL=NT.list K.dT:=by unfold dL;rfl
theorem CV:dL.all Mz=true:=zY▸(by kernel_rfl:(NT.list K.dT).all Mz=H)
theorem MG:dL.all WU=true:=zY▸(by kernel_rfl:(NT.list K.dT).all WU=H)
theorem Hl:jy.all (λq=>Mw q.2)=true:=by kernel_rfl
def R4 (p:Nat×K.NL):Bool:=af H (isNil p.2.ds&&(af (ak p.2.i 365&&ak p.2.j 2291) (ak p.2.j 1638) (ak p.2.i 364))) (ak p.2.t 3)
theorem Et:dL.all R4=true:=zY▸(by kernel_rfl:(NT.list K.dT).all R4=H)
theorem Qa:NT.list K.TX=jy.map (λp=>(p.1,K.Mj p.2)):=by kernel_rfl
theorem Xi i (h:i=360\/i=366):K.lams (K.vg (K.fnBody (K.top i)))=[ng i 0,ng i 1]:=by rcases h with rfl|rfl<;>kernel_rfl
theorem yl:find (aG (cJ (F0 (ng 360 0)).line 4096) (F0 (ng 360 0)).col) jy=O (ng 360 0)/\find (aG (cJ (F0 (ng 360 1)).line 4096) (F0 (ng 360 1)).col) jy=O (ng 360 1)/\
 find (aG (cJ (F0 (ng 366 0)).line 4096) (F0 (ng 366 0)).col) jy=O (ng 366 0)/\find (aG (cJ (F0 (ng 366 1)).line 4096) (F0 (ng 366 1)).col) jy=O (ng 366 1):=qN (by kernel_rfl) (by kernel_rfl) (by kernel_rfl) (by kernel_rfl)
def MH (i:Nat):Bool:=match K.fnBody (K.top i) with
 |[.Return (O (.Dict ks _ _)) _]=>ks.all λk=>match k with|some e=> !mS e|none=>H
 |_=>H
theorem Eu:MH 360=H/\MH 366=true:=⟨by kernel_rfl,by kernel_rfl⟩
theorem R5:Pg (Au 360)=O (2729,(bX "known_readers")++".<locals>.")/\Pg (Au 366)=O (2771,(bX "known_writers")++".<locals>."):=⟨by kernel_rfl,by kernel_rfl⟩
theorem Ew:gH (Au 360)=aj/\gH (Au 366)=false:=⟨by kernel_rfl,by kernel_rfl⟩
theorem Uk:NT.find K.dT 2744=O ⟨0,362,0,[]⟩:=by kernel_rfl
theorem MI:∀{l},e∈l->mS e=H->e∈K.lams l:=by
 intro l
 induction l with
 |nil=>
  intro h _;exact(aU h).elim
 |cons x l a=>
  intro h hl;have b:K.lams (x::l)=af (K.lams l) (x::K.lams l) (K.Ml x):=rfl;have c:K.Ml=mS:=by funext y;rcases y<;>rfl
  refine U b (U c ?_);rcases aT.mp h with rfl|h
  .refine U hl ?_;exact aE ..
  .have:=a h hl
   induction mS x using zB with
   |true=>exact aD _ this
   |false=>exact this
section
variable {w:World} {h:Heap}
def pl:List Pc:=Xh
def aap:List (Nat×Nat):=pl.flatMap (·.tg)
abbrev Tells (h:Heap) (g:Nat->Option Obj):Prop:=∀a o,g a=O o->h.get? a=O o
structure Good (w:World) (h:Heap):Prop where
 main:h.get? mainNs=O (o3 (t6 w) 347)
 blt:h.get? builtinsNs=O (sG w.params)
 bmod:h.get? 4=O (boot_o_4 w.params)
 aaq:h.get? cStatics=O (o2 w 1)
 Xj:∀p∈pl,nh h p
theorem Ul:dL.all (λd=>pl.any λp=>bO p.lo d.1&&bE d.1 p.hi)=true:=zY▸(by kernel_rfl:(NT.list K.dT).all (λd=>pl.any λp=>bO p.lo d.1&&bE d.1 p.hi)=H)
theorem Qc:Hf.all (λC=>pl.any λp=> !jk C p.cs)=true:=by kernel_rfl
theorem Qd:iN.all (λC=>pl.any λp=> !jk C p.ts)=true:=by kernel_rfl
theorem Um:pl.reverse.flatMap (·.ms)=Pf:=by kernel_rfl
theorem Ho:(NT.list K.ms).all Mr=true:=by kernel_rfl
theorem Un:(NT.list K.ms).all (λp=>p.2.all λq=> !jk q.1 Hf)=true:=by kernel_rfl
theorem MJ:(NT.list K.init).all (λp=> !jk p.1 Hf)=true:=by kernel_rfl
theorem MK w:(NT.list K.glob).all (gB (dictOf (o3 (t6 w) 347)) (dictOf (sG w.params)) aap)=true:=by kernel_rfl
theorem vo w:R0 (o3 (t6 w) 347)=true:=by kernel_rfl
theorem Uo (w:World):R0 (sG w.params)=true:=by kernel_rfl
theorem Qe w:R0 (o2 w 1)=true:=by kernel_rfl
theorem Up w:Mu (nm "sys.recursionlimit") (dictOf (o2 w 1))=none:=by kernel_rfl
theorem ML w:Mu (nm "__builtins__") (dictOf (o3 (t6 w) 347))=O (.ref 4):=by kernel_rfl
theorem gI:∀{l},(!jk a l)=H->a∈l:=by
 intro l
 induction l with
 |nil=>
  intro h;exact ff h
 |cons b l c=>
  intro h;have h:(!(af (jk a l) aj (ak a b):Bool))=true:=h
  induction hb:ak a b using zB with
  |true=>refine U (aH hb) ?_;exact aE ..
  |false=>rw [hb] at h;exact aD _ (c h)
theorem CW (G:Good w h) (hm:(a,d)∈dL):∃g,Tells h g/\xw g iN Pg d.ds a=zV d:=aK (iM.mp (aL.mp Ul _ hm)) λp b hp=>ju (G.Xj p hp) λg c f i=>bV g (λa o e=>(f a o e).2.2) (Mt c (a,d) (gC.mpr ⟨zY▸hm,b⟩))
theorem rJ {p:Pc} (h:facts g p.cs p.ms p.ts p.tg p.lw=H):p.cs.all (vn g)=H/\p.ms.all (λm=>codeHdIn (qy g [m.c]) m.c m.P&&jk m.c iN)=H/\p.ts.all (T9 g)=H/\p.tg.all (λq=>aA aj (λv=>vG g iN 5 v (.ref q.2)) (NT.find K.glob q.1))=H/\(af (Pr g p.lw) H (ak p.lw 0):Bool)=true:=by
 unfold facts at h;simp only [aP] at h;exact h
theorem MN (G:Good w h) {C} (b:C∈Hf):∃g,Tells h g/\vn g C=true:=dN (iM.mp (aL.mp Qc _ b)) λp hp c=>ju (G.Xj p hp) λg i d f=>bV g (λa o e=>(d a o e).2.2) (aL.mp (rJ f).1 C (gI c))
theorem zZ (b:Tells h g) (h1:vn g C=H):Ft (kZ w h) (qy g (wI g C))/\(NT.list K.init).all (λp=>af H (T8 (qy g (wI g C)) p) (ak p.1 C))=H/\(NT.list K.ms).all (FZ (qy g (wI g C)) C)=true:=by
 unfold vn at h1;simp only [aP] at h1;exact⟨λa o e=>⟨b _ _ (vj e).1,fZ (aL.mp h1.1 a (vj e).2)⟩,h1.2⟩
set_option tactic.hygienic true in
theorem tab_of (G:Good w h) {P} (b:P∈iN):h.get? P=O ⟨.none,aq,.fields #[],#[]⟩:=by
 refine dN (iM.mp (aL.mp Qd _ b)) λp hp e=>ju (G.Xj p hp) λg l f i=> ?_;have h:=aL.mp (rJ i).2.2.1 P (gI e);unfold T9 at h;split at h
 .rename_i o j;obtain⟨c,d,m,n⟩:=o;simp only [aP] at h;refine qP h λa h1 h2 k=> ?_;split at h1
  .split at a
   .rename_i q;have a:=Array.empty_of_isEmpty a;exact U ((f _ _ j).2.2) (U (cQ.mp h2) (U (Array.empty_of_isEmpty k) (U a rfl)))
   .exact ff a
  .exact ff h1
 .exact ff h
theorem MO (G:Good w h) (a:P∈iN):P<h.objs.size:=bh (tab_of G a)
theorem MP (G:Good w h):∀p∈NT.list K.ms,∀q∈p.2,∃F,Ft (kZ w h) F/\FZ F q.1 p=true:=λp hp q hq=>by
 exact aK (MN G (gI (aL.mp (aL.mp Un p hp) q hq))) λg g2 g1=>fh (zZ (w:=w) g1 g2) λu_ f1 f3=>bV _ f1 (aL.mp f3 p hp)
theorem qo (G:Good w h):Base (kZ w h) [] K.G K.Ms where
 ax:=⟨⟩
 kx:=⟨λc x e=>e⟩
 gx:=Pe G.main G.blt (vo w) (Uo w) (show jk mainNs iN=H by rfl) (show jk builtinsNs iN=H by rfl) (MK w) λq hq=>by
  refine aK (List.mem_flatMap.mp hq) λp hq hp=>ju (G.Xj p hp) λg u_ g1 g3=>bV g (λa o e=>(g1 a o e).2.2) (λv hv=> ?_);have:=aL.mp (rJ g3).2.2.2.1 q hq;rw [hv] at this;exact this
 hbase:=by have:=MO G (P:=2725) (aE ..);show 10<=h.objs.size;exact f7 this
 htab:=λa ha=>MO G ha
 mo:=WO Ho (MP G)
 fl:=WQ Ho (MP G)
theorem MQ (G:Good w h):h.NoLimit:=aK (Bv G.aaq (Qe w)) λm a b=>bV m b ((a _ (by kernel_rfl)).trans (Up w))
theorem F3 (G:Good w h) (d:P∈iN):∀a h' s,St (kZ w h) a h' s->∃b,s.heap.Ns ic b/\s.heap.BuiltinsAt b P:=by
 intro a h' s c;refine aK (Bv G.main (vo w)) λm f g=>⟨m,uL g λo e=>c.base _ o e (show mainNs∉iN by exact fZ rfl),4,_,(f "__builtins__" (by kernel_rfl)).trans (ML w),by exact rU (aX rfl),by exact aX rfl,λq=> ?_,c.base _ _ G.bmod (show 4∉iN by exact fZ rfl),rfl,rfl,rfl⟩;subst q;exact(show 4∉iN by exact fZ rfl) d
theorem Hp (G:Good w h) (hm:m∈Pf):∀b h' s,St (kZ w h) b h' s->CodeHd s.heap m.c m.P:=λb h' s d=>by
 rw [<-Um] at hm;refine dN (List.mem_flatMap.mp hm) λp hp hm=>ju (G.Xj p (mz.mp hp)) λg k i j=> ?_;have e:=aL.mp (rJ j).2.1 m hm;rw [aP] at e;have f:Ft (kZ w h) (qy g [m.c]):=λa o q=>⟨(i _ _ (vj q).1).2.2,by refine U (eH.mp (vj q).2) ?_;exact fZ e.2⟩;exact codeHd_of_K (f.In d) e.1
theorem MR (G:Good w h) (hi:i=360\/i=366) (hm:m∈Pf) (l:m.P∈iN) (g:ic≠m.P) (o:Pg (Au i)=O (m.c,qq)) (d:gH (Au i)=aj) (hk:MH i=H)
 (hq:∀k,k=0\/k=1->find (aG (cJ (F0 (ng i k)).line 4096) (F0 (ng i k)).col) jy=O (ng i k)/\CR m.P (F0 (ng i k)).line (F0 (ng i k)).col=O (qq++"<lambda>"))
 (hb:K.fnBody (K.top i)=[.Return (O (.Dict ks vs p1)) p2]):(∀e,O e∈ks->pS (kZ w h) r n 0 (Au i) e)/\∀e∈vs,pS (kZ w h) r n 0 (Au i) e:=by
 constructor
 .intro e he a b sc pos q;subst q;have hk:(match K.fnBody (K.top i) with
   |[.Return (O (.Dict ks _ _)) _]=>ks.all λk=>match k with|some e=> !mS e|none=>H
   |_=>H)=true:=hk
  rw [hb] at hk;exact ff (aL.mp hk _ he)
 .intro e he;have p:K.vg (K.fnBody (K.top i))=vs:=U hb rfl;have hl:=Xi i hi;rw [p] at hl;have f:mS e=H->∃k,(k=0\/k=1)/\e=ng i k:=λq=>by
   have:=MI he q;rw [hl] at this;rcases aT.mp this with q|q
   .exact bV 0 (.inl rfl) q
   .exact bV 1 (.inr rfl) (eH.mp q)
  refine Mx ⟨⟩ d o l (Hp G hm) (F3 G l) g (λs s=>rfl) (λq=> ?_) (λa b sc pos q=> ?_)
  .refine aK (f q) λk j=> ?_;subst j;intro hk;exact aL.mp Hl _ (zW (hq k hk).1)
  .refine dN (f (U q rfl)) λk hk t=> ?_;have:=hq k hk;rw [<-t,q] at this;refine U q ?_;exact this
theorem Xk (G:Good w h) (hm:(a,d)∈dL):∀r n,Ck (kZ w h) r n->∀ks vs b c,K.fnBody (yj d)=[.Return (O (.Dict ks vs b)) c]->(∀e,O e∈ks->pS (kZ w h) r n 0 (oV (yj d)).names e)/\∀e∈vs,pS (kZ w h) r n 0 (oV (yj d)).names e:=by
 intro r n l ks vs b c hb;have ht:=aL.mp MG _ hm;have ht:(af (FY (K.fnBody (yj d))) H (MA d):Bool)=true:=ht
 induction hl:MA d using zB with
 |false=>rw [hl] at ht;exact Mq ht ks vs b c hb
 |true=>
  have hl:(af aj (af (ak d.i 366) H (ak d.i 360)) (ak d.t 0):Bool)=true:=hl;have g:ak d.t 0=true:=by
   induction q:ak d.t 0 using zB with
   |true=>rfl
   |false=>rw [q] at hl;exact ff hl
  rw [g] at hl;replace hl:(af (ak d.i 366) H (ak d.i 360):Bool)=true:=hl;have f:yj d=K.top d.i:=by
   unfold yj;refine U (aH g) ?_;rfl
  rw [f] at hb⊢
  induction j:ak d.i 360 using zB with
  |true=>
   rw [aH j] at hb⊢;refine MR G (m:=⟨360,2729,2725,"known_readers"⟩) (.inl rfl) (aE ..) (aE ..) (aX rfl) R5.1 Ew.1 Eu.1 (λk hk=> ?_) hb;rcases hk with rfl|rfl
   .exact⟨yl.1,rfl⟩
   .exact⟨yl.2.1,rfl⟩
  |false=>
   rw [j] at hl;rw [aH hl] at hb⊢;refine MR G (m:=⟨366,2771,2767,"known_writers"⟩) (.inr rfl) (mW rfl) (gI rfl) (aX rfl) R5.2 Ew.2 Eu.2 (λk hk=> ?_) hb;rcases hk with rfl|rfl
   .exact⟨yl.2.2.1,rfl⟩
   .exact⟨yl.2.2.2,rfl⟩
theorem F4 {a:Addr} {F} (e:KT.fn a=O F):∃d,(a,d)∈dL/\F=K.CO d:=by
 have e:(aA aq (λd=>O (K.CO d)) (K.dT.find a):Option Fn)=O F:=e
 induction b:K.dT.find a using zO with
 |none=>rw [b] at e;exact fn e
 |some d=>
  rw [b] at e;injection e with e;subst e
  exact bV d (zY▸NT.jl b) rfl
theorem I9 (e:ak d.t 3=aj) (f:bO d.t 4=H):(K.CO d).prim=0:=by
 obtain⟨t,i,j,ds⟩:=d;have b:∀a,(K.fnOf a ds).prim=0:=λa=>by rcases a<;>rfl
 have c:∀a,(K.YC a ds).prim=0:=λa=>by rcases a<;>rfl
 rcases t with _|_|_|_|_|t
 .exact b _
 .exact c _
 .exact b _
 .exact ft e
 .exact c _
 .exact absurd (aB f) (Nat.not_le.mpr (rX 5 t))
theorem z0 (a:ak d.t 3=H):(K.CO d).prim=d.j/\yj d=K.top d.i:=by
 obtain⟨t,i,j,ds⟩:=d;have:t=3:=aH a;exact U this (⟨rfl,rfl⟩)
theorem Qf (G:Good w h):Ll (kZ w h) [] KT where
 cls:=λC f e=>by
  have e:NT.find K.init C=O f:=e;have hm:=NT.jl e;refine aK (MN G (gI (aL.mp MJ _ hm))) λg P g1=>fh (zZ (w:=w) g1 P) λf2 f1 S=> ?_;have:=aL.mp f2 _ hm;dsimp only at this;rw [fy] at this;unfold T8 at this;simp only [aP,beq_iff_eq] at this;exact⟨_,f1,this.1,this.2.1,this.2.2⟩
 bi:=TU ⟨⟩ (qo G).hbase (qo G).htab
 fnk:=λa F e=>by
  refine dN (F4 e) λd hm S=>aK (CW G hm) λg I u=>kK (n9 I) λo fd S h1 h2=> ?_;have ht:=aL.mp CV _ hm;unfold Mz at ht;rw [aP] at ht;exact j0 o fd (u _ _ h1) h2 (fZ ht.1)
 fn:=λa F e hp=>by
  refine aK (F4 e) λd c=> ?_;subst c;intro hm;have ht:=aL.mp CV _ hm;unfold Mz at ht;simp only [aP] at ht;refine iO ht λJ z V=> ?_;have D:ak d.t 3=false:=by
   induction q:ak d.t 3 using zB with
   |false=>rfl
   |true=>
    rw [(z0 q).1] at hp;have b:(af H (isNil d.ds&&(af (ak d.i 365&&ak d.j 2291) (ak d.j 1638) (ak d.i 364))) (ak d.t 3):Bool)=true:=aL.mp Et _ hm;rw [q,aH hp] at b;have b:=(cM.mp b).2
    induction v:ak d.i 364 using zB with
    |true=>rw [v] at b;exact ff b
    |false=>rw [v] at b;exact ff ((cM.mp b).2)
  exact aK (CW G hm) λg I u=>T4 u (qo G) I z V ⟨D,J⟩ (Xk G hm)
 prim:=λa F e hp r n rk A hA w' h' s hs vs ys hv k res er Q hQ=>by
  refine aK (F4 e) λd c=> ?_;subst c;intro hm;have ht:=aL.mp CV _ hm;unfold Mz at ht;simp only [aP] at ht;refine iO ht λJ z V=> ?_;have D:ak d.t 3=true:=by
   induction q:ak d.t 3 using zB with
   |true=>rfl
   |false=>rw [I9 q J] at hp;exact ft hp
  refine gc (z0 D) λp1 E=> ?_;have B:=qo G;have b:(af H (isNil d.ds&&(af (ak d.i 365&&ak d.j 2291) (ak d.j 1638) (ak d.i 364))) (ak d.t 3):Bool)=true:=aL.mp Et _ hm;rw [D] at b;refine aC (cM.mp b) λb M=>aK (CW G hm) λg l u=> ?_;rw [zX M] at l;refine aK (CW G (zY▸NT.jl Uk)) λP x y=> ?_;have pr:Nonempty (Mh (kZ w h) K.G a d.j):=by
   induction v:ak d.i 364 using zB with
   |true=>
    rw [v] at b;rw [aH v] at E;exact U (aH b) (G9 Pn u y rfl rfl (gI rfl) (Hp G (m:=⟨364,2757,2753,"gsub_octets"⟩) (by simp [Pf])) (F3 G (gI rfl)) (aX rfl) z (by kernel_rfl) E l x)
   |false=>
    rw [v] at b;refine gc (cM.mp b) λq1 q2=> ?_;rw [aH q1] at E;exact U (aH q2) (G9 Po u y rfl rfl (gI rfl) (Hp G (m:=⟨365,2764,2760,"gpos_octets"⟩) (by simp [Pf])) (F3 G (gI rfl)) (aX rfl) z (by kernel_rfl) E l x)
  rw [p1] at er;obtain⟨R⟩:=pr;exact O8 B.ax B.htab (MQ G) (show cStatics∉iN by exact fZ rfl) B.gx R rk hA hs hv er hQ
 lam:=λj L e=>by
  have e:NT.find K.TX j=O L:=e;have hm:=NT.jl e;rw [Qa] at hm;refine aK (gJ.mp hm) λp hq hp=> ?_;have hj:j=p.1:=congrArg eG hq.symm;have hf:find j jy=O p.2:=by
   refine U hj ?_;simp only [jy,aT,aU,or_false] at hp;rcases hp with rfl|rfl|rfl|rfl<;>rfl
  exact Pj (qo G) Hl hf (congrArg Prod.snd hq.symm)
theorem Uq (G:Good w h):∀n,Ck (kZ w h) (run KT n) n:=by
 have B:=qo G;exact OI B.ax B.kx B.htab (MQ G) (show cStatics∉iN by exact fZ rfl) (Qf G)
end
end
end
section
open PyProof.Rows PySem.Calls PySem.W
theorem CX {prog:Program} {w:World} {t:Sem Fin} {s:Shared} {R:Result->Shared->Prop} (e:s.asleep)
 (h:cC (model prog w) callerA t (λg s'=>∃f,g= .done f/\R (.ok f) s'/\leftWithCleanup s'.gens=aj) (λk k=>False) s):
 ∃n r s' s'',runN (denote table) prog w n s ⟨t,.builtin "claim.caller" {},default,[]⟩= .halted (outcomeOf r) s'/\
  schedN (denote table) prog w n (.single s ⟨t,.builtin "claim.caller" {},default,[]⟩)= .halted (outcomeOf r) s'/\s'.forget=s''.forget/\R r s'':=by
 obtain⟨n,r,i,j,a,b,c,d⟩:=wp_halts_full (M:=model prog w) (R:=R) e (pX (model prog w) ⟨.builtin "claim.caller" {},aq,aq,[],aq⟩ t (λg o s' h'=>by
  refine dN h' λf l=> ?_;subst l;intro m;exact m) (λk k k h'=>h'.elim) default s (h ⟨.builtin "claim.caller" {},aq,aq,[],aq⟩ default caller_in ⟨by exact rfl,λx hx=>(aU hx).elim⟩))
 exact uv n r j i b a c d
def Qg (n:Int) (v:Value):Prop:=∃t,v= .int n t
theorem Qh {cl:Str->Option Addr} {P:Params} {ord:List bf->List bf}:∀(ns:List Int) (s:Shared) (r:List Value×Shared),layAllW [] cl P ord (ofPys (ns.map jZ)) s=O r->iU Qg ns r.1/\r.2.heap=s.heap:=by
 intro ns
 induction ns with
 |nil=>
  intro s r e;exact aF e▸⟨.nil,rfl⟩
 |cons n ns f=>
  intro s r e;refine oK (layAllW_cons e) λa q hq b g=> ?_;have b:=aF b;refine aC (f _ q hq) λd c=> ?_;rw [<-b] at d;exact U g (cL b (⟨.cons ⟨_,rfl⟩ c,d⟩))
theorem Qi {cl:Str->Option Addr} {P:Params} {ord:List bf->List bf} {ns:List Int} {s c:Shared} {vs:List Value} (e:layAllW [] cl P ord [ofPy (.list (ns.map jZ))] s=O (vs,c)):
 ∃d:List Value,iU Qg ns d/\vs=[.ref s.heap.objs.size]/\c.heap=s.heap.push {cls:= .type "list",data:= .seq d.toArray}:=by
 simp only [ofPy,layAllW,layW] at e
 induction q:layAllW [] cl P ord (ofPys (sR jZ ns)) s using zO with
 |none=>rw [q] at e;exact fn e
 |some r=>
  rw [q] at e;refine gc (Qh ns s r q) λa b=> ?_;simp only [Option.some.injEq,Prod.mk.injEq] at e;exact f9 r.1 a (cL e.1 (U b rfl)) (cL e.2 (U b rfl))
theorem MS:∀(xs:List WData),(xs.all λd=>WShape.has [] d .int)=H->∃ns:List Int,xs=ofPys (ns.map jZ):=by
 intro xs
 induction xs with
 |nil=>
  intro _;exact⟨[],rfl⟩
 |cons d xs b=>
  intro h;rw [iC,aP] at h;refine fF (b h.2) λns a=> ?_
  induction d using PySem.W.WData.casesOn with
  |int i=>exact⟨i::ns,congrArg (WData.int i:: ·) a⟩
  |_=>exact ff h.1
theorem Qj {args:List WData} (h:WShape.hasAll [] args [.list .int]=H):∃ns:List Int,args=[ofPy (.list (ns.map jZ))]:=by
 refine vQ (hasAllW_cons h) λd r b=> ?_;subst b;intro h1 h2;obtain rfl:=hasAllW_nil h2
 induction d using PySem.W.WData.casesOn with
 |list xs=>
  have h1:(xs.all λd=>WShape.has [] d .int)=true:=by
   have this:(WShape.hasItems [] xs .int||false)=true:=h1;rw [pY] at this;have c:∀l:List WData,WShape.hasItems [] l .int=H->(l.all λd=>WShape.has [] d .int)=true:=by
    intro l
    induction l with
    |nil=>intro _;rfl
    |cons a l f=>intro q;rw [WShape.hasItems,aP] at q;refine U iC (U q.1 (U (f q.2) ?_));rfl
   exact c xs this
  exact fF (MS xs h1) λns e=>⟨ns,by refine U e ?_;rfl⟩
 |_=>exact ff h1
end
section
set_option backward.match.sparseCases false
section
theorem Ex (h:f j=t):f=upd f j t:=by
 funext i
 refine(?_:f i=af (f i) t (ak i j))
 induction e:ak i j using zB with
 |false=>rfl
 |true=>exact cL h (U (bN e) rfl)
def k6 (l:List (Nat×TR)) (f:Nat->TR):Nat->TR:=aQ f (λp u_ ih=>upd ih p.1 p.2) l
def At (f:Nat->TR) (l:List (Nat×TR)):Prop:=aQ True (λp u_ ih=>f p.1=p.2/\ih) l
theorem At.eq:∀{l},At f l->∃g,f=k6 l g:=by
 intro l
 induction l with
 |nil=>
  intro _;exact⟨f,rfl⟩
 |cons p l a=>
  intro h;exact gc (show f p.1=p.2/\At f l from h) λh1 h2=>fF (a h2) λg b=>⟨g,(Ex h1).trans (congrArg (λx=>upd x p.1 p.2) b)⟩
theorem At.app:∀{l m},At f l->At f m->At f (l++m):=by
 intro l
 induction l with
 |nil=>
  intro _ _ h;exact h
 |cons _ _ a=>
  intro _ h h';exact⟨h.1,a h.2 h'⟩
def Fr (d:Nat) (f:Nat->TR) (J:Nat) (g:Nat->TR):Prop:=∀j,bE j J=H->ak j d=aj->g j=f j
theorem Fr.refl:Fr d f J f:=λa a a=>rfl
theorem Fr.upd (h:Fr d f J g) (hk:bE k J=aj\/ak k d=H):Fr d f J (upd g k t):=λj h1 h2=>by
 have a:ak j k=false:=by
  induction e:ak j k using zB with
  |false=>rfl
  |true=>
   have e:=bN e;subst e;rcases hk with q|q
   .rw [h1] at q;exact ft q
   .rw [h2] at q;exact ff q
 refine(?_:af (g j) t (ak j k)=f j);refine U a ?_;exact h j h1 h2
theorem Fr.trans (h:Fr d f J g) (h':Fr d g J' k) (a:bO J J'=H):Fr d f J k:=λj h1 h2=>
 (h' j (cD.mpr (aR (cD.mp h1) (aB a))) h2).trans (h j h1 h2)
theorem At.fr (h:Fr d f J g):∀{l},At f l->l.all (λp=>bE p.1 J&& !ak p.1 d)=H->At g l:=by
 intro l
 induction l with
 |nil=>
  intro _ _;exact trivial
 |cons p l b=>
  intro a c;rw [iC,aP,aP,gv] at c;exact⟨(h p.1 c.1.1 c.1.2).trans a.1,b a.2 c.2⟩
noncomputable def HH (f:Nat->TR) (J:Nat):aev:=⟨⟨f,.nil,J⟩,cJ 16384 J⟩
noncomputable def HC (f:Nat->TR) (t:TR) (J n:Nat):aev:=⟨⟨f,t,J⟩,n⟩
noncomputable def z9:Nat->TR:=λu_=> .nil
def Xl (x:Option Res):Res:=aA ⟨⟨[],[]⟩,dc,HH z9 0⟩ (λx=>x) x
def ev (X:XS) (r:Ap) (ρ:Env) (l:List (Nat×TR)) (J:Nat):Res:=Xl (X.f r ρ (HH (k6 l z9) J) (λρ h=>O ⟨ρ,dc,h⟩) (λv h=>O ⟨⟨[],[]⟩,v,h⟩))
def YZ (X:XE) (r:Ap) (ρ:Env) (l:List (Nat×TR)) (J:Nat):Res:=Xl (X.f r ρ (HH (k6 l z9) J) (λv h=>O ⟨ρ,v,h⟩))
noncomputable def cu (r:Res):TR:=r.h.l.cur
noncomputable def ol (r:Res) (j:Nat):TR:=r.h.l.old j
def jP (d:Nat) (X:XS) (r:Ap) (ρ:Env) (J:Nat) (l:List (Nat×TR)) (ρ':Env) (J':Nat) (new:List (Nat×TR)):Prop:=
 ∀f,At f l->∃g,(∀kn kr,X.f r ρ (HH f J) kn kr=kn ρ' (HH g J'))/\Fr d f J g/\At g new
def xx (d:Nat) (X:XS) (r:Ap) (ρ:Env) (J:Nat) (l:List (Nat×TR)) (v:V) (J':Nat) (new:List (Nat×TR)):Prop:=
 ∀f,At f l->∃g,(∀kn kr,X.f r ρ (HH f J) kn kr=kr v (HH g J'))/\Fr d f J g/\At g new
def eV (d:Nat) (X:XE) (r:Ap) (ρ:Env) (J:Nat) (l:List (Nat×TR)) (v:V) (J':Nat) (new:List (Nat×TR)):Prop:=
 ∀f,At f l->∃g,(∀k,X.f r ρ (HH f J) k=k v (HH g J'))/\Fr d f J g/\At g new
section
variable {d J J':Nat} {X:XS} {Y:XE} {r:Ap} {ρ ρ':Env} {l new:List (Nat×TR)} {v:V}
theorem jP.mk (G:(Nat->TR)->Nat->TR) (h:∀g c e,X.f r ρ (HH (k6 l g) J) c e=c ρ' (HH (G (k6 l g)) J')) (i:∀f,Fr d f J (G f)) (hn:∀f,At (G f) new):jP d X r ρ J l ρ' J' new:=λf a=>by
 refine fF a.eq λg b=> ?_;subst b;exact f9 _ (h g) (i _) (hn _)
theorem xx.mk (G:(Nat->TR)->Nat->TR) (h:∀g e c,X.f r ρ (HH (k6 l g) J) e c=c v (HH (G (k6 l g)) J')) (i:∀f,Fr d f J (G f)) (hn:∀f,At (G f) new):xx d X r ρ J l v J' new:=λf a=>by
 refine fF a.eq λg b=> ?_;subst b;exact f9 _ (h g) (i _) (hn _)
theorem eV.mk (G:(Nat->TR)->Nat->TR) (h:∀g k,Y.f r ρ (HH (k6 l g) J) k=k v (HH (G (k6 l g)) J')) (c:∀f,Fr d f J (G f)) (hn:∀f,At (G f) new):eV d Y r ρ J l v J' new:=λf a=>by
 refine fF a.eq λg b=> ?_;subst b;exact f9 _ (h g) (c _) (hn _)
end
noncomputable def tl {α:Type} (f:Bool->α):α×α:=(f aj,f H)
noncomputable def tr {α:Type} (f:Bool->α):α×α:=(f aj,f H)
section
variable {α:Type}
theorem sQ (h:tl f=tr g) a:f a=g a:=by
 rcases a
 .exact congrArg eG h
 .exact congrArg Prod.snd h
theorem CY {f g:Bool->Bool->α} (h:tl (λa=>tl (f a))=tr (λa=>tr (g a))) (a b):f a b=g a b:=sQ (sQ h a) b
theorem Ja {f g:Bool->Bool->Bool->α} (h:tl (λa=>tl (λb=>tl (f a b)))=tr (λa=>tr (λb=>tr (g a b)))) (a b c):f a b c=g a b c:=sQ (CY h a b) c
theorem F5 {f g:Bool->Bool->Bool->Bool->α} (h:tl (λa=>tl (λb=>tl (λc=>tl (f a b c))))=tr (λa=>tr (λb=>tr (λc=>tr (g a b c))))) (a b c d):f a b c d=g a b c d:=sQ (Ja h a b c) d
theorem MT {f g:Bool->Bool->Bool->Bool->Bool->α} (h:tl (λa=>tl (λb=>tl (λc=>tl (λd=>tl (f a b c d)))))=tr (λa=>tr (λb=>tr (λc=>tr (λd=>tr (g a b c d)))))) (a b c d e):f a b c d e=g a b c d e:=sQ (F5 h a b c d) e
theorem tb8 {f g:Bool->Bool->Bool->Bool->Bool->Bool->Bool->Bool->α} (h:tl (λa=>tl (λb=>tl (λc=>tl (λd=>tl (λe=>tl (λi=>tl (λj=>tl (f a b c d e i j))))))))=tr (λa=>tr (λb=>tr (λc=>tr (λd=>tr (λe=>tr (λi=>tr (λj=>tr (g a b c d e i j))))))))) (a b c d e i j k):f a b c d e i j k=g a b c d e i j k:=
 Ja (MT h a b c d e) i j k
noncomputable def hl {α:Type} (f:Bool->Bool->Bool->Bool->Bool->α):=(f H,f aj H,f aj aj H,f aj aj aj H,f aj aj aj aj H)
noncomputable def hr {α:Type} (f:Bool->Bool->Bool->Bool->Bool->α):=(f H,f aj H,f aj aj H,f aj aj aj H,f aj aj aj aj H)
theorem h5 (h:hl f=hr g) (i:f aj aj aj aj aj=g aj aj aj aj aj) (a b c d e):f a b c d e=g a b c d e:=by
 rcases a
 .rcases b
  .rcases c
   .rcases d
    .rcases e
     .exact i
     .exact congrArg (λx=>x.2.2.2.2) h
    .exact congrFun (congrArg (λx=>x.2.2.2.1) h) e
   .exact congrFun (congrFun (congrArg (λx=>x.2.2.1) h) d) e
  .exact congrFun (congrFun (congrFun (congrArg (λx=>x.2.1) h) c) d) e
 .exact congrFun (congrFun (congrFun (congrFun (congrArg (λx=>x.1) h) b) c) d) e
def ul {α:Type} (f:Bool->Bool->Bool->Bool->Bool->α):=(tl λb=>tl λc=>tl λd=>tl (f H b c d),tl λc=>tl λd=>tl (f aj H c d),tl λd=>tl (f aj aj H d),tl (f aj aj aj H),f aj aj aj aj H)
def ur {α:Type} (f:Bool->Bool->Bool->Bool->Bool->α):=(tr λb=>tr λc=>tr λd=>tr (f H b c d),tr λc=>tr λd=>tr (f aj H c d),tr λd=>tr (f aj aj H d),tr (f aj aj aj H),f aj aj aj aj H)
theorem u5 (h:ul f=ur g) (i:f aj aj aj aj aj=g aj aj aj aj aj) (a b c d e):f a b c d e=g a b c d e:=by
 rcases a
 .rcases b
  .rcases c
   .rcases d
    .rcases e
     .exact i
     .exact congrArg (λx=>x.2.2.2.2) h
    .exact sQ (congrArg (λx=>x.2.2.2.1) h) e
   .exact CY (congrArg (λx=>x.2.2.1) h) d e
  .exact Ja (congrArg (λx=>x.2.1) h) c d e
 .exact F5 (congrArg (λx=>x.1) h) b c d e
def DT (α:Type) (n:Nat):Type:=gw (List Nat->α) (λu_ ih=>α×(Nat->ih)) n
noncomputable def dl (n:Nat):(List Nat->α)->DT α n:=gw (λf=>f) (λu_ ih f=>(f [],λu=>ih λl=>f (u::l))) n
noncomputable def dr (n:Nat):(List Nat->α)->DT α n:=gw (λf=>f) (λu_ ih f=>(f [],λu=>ih λl=>f (u::l))) n
theorem Hq n:∀{f g:List Nat->α},dl n f=dr n g->∀us,f us=g us:=by
 induction n with
 |zero=>exact λh us=>congrFun h us
 |succ n a=>
  intro f g h us;rcases us with _|⟨u,us⟩
  .exact congrArg eG h
  .exact a (congrFun (congrArg Prod.snd h) u) us
end
structure d8 where
 b0:Bool
 b1:Bool
 b2:Bool
 b3:Bool
 b4:Bool
 b5:Bool
 b6:Bool
 b7:Bool
 b8:Bool
 b9:Bool
 vE:Bool
 oH:Bool
 oJ:Bool
 oq:Bool
@[elab_as_elim] theorem gY {P:Bool->Prop} w (a:P aj) (h1:P H):P w:=by
 rcases w
 .exact a
 .exact h1
def sel {α:Type} (b:Bool) (x y:α):α:=af y x b
def vB (b:Bool):V:=aW (sel b 1 0)
def R6 (p:d8):List V:=[vB p.b0,vB p.b1,vB p.b2,vB p.b3,vB p.b4,vB p.b5,vB p.b6,vB p.b7,vB p.b8,vB p.b9,vB p.vE,vB p.oH,vB p.oJ,vB p.oq]
noncomputable def t1 (o:aeu):TR:= .node (O o) .nil .nil
def tP (p:d8):TR:=t1 (bK (R6 p))
noncomputable def CZ:Stmt->List (Str×aM)
 | .FunctionDef _ _ _ _ _ _ sc _ _ _=>sc.names
 |_=>[]
def Y0 (s:Stmt) (k:Nat):XS:=E7 K.G K.Ms (CZ s) (K.sO (K.fnBody s) k)
noncomputable def rh (l:List (Nat×V)):Env:=⟨l,[]⟩
end
set_option backward.match.sparseCases true
section
def jw (w:Bool) (a b:Nat):Nat:=sel w b a
def LF (k:Nat):XS:=Y0 (K.top 371) k
def xO (w:Bool):V:=bQ (jw w 49152 573440)
def qC (w:Bool) (p:d8):Nat×TR:=(jw w 3 35,tP p)
def rF1 (w:Bool):List (Nat×V):=[(31115227376,xO w)]
def Qk (w:Bool) (p:d8):Nat×V:=(31083542499,bQ (aG (jw w 638976 1032192) (sel p.b1 4 1)))
def eF0 (w:Bool) (p:d8):Res:=ev (LF 0) (run KT 38) (rh (rF1 w)) [qC w p] (jw w 39 63)
def Ur (w:Bool):Nat×V:=(213464311,bQ (jw w 671744 1064960))
def Y3 (w:Bool) (p:d8):Res:=ev (LF 1) (run KT 38) (rh [(31115227376,xO w),Qk w p]) [qC w p] (jw w 41 65)
def Us (w:Bool):Nat×V:=(509205389587181,bQ (jw w 704513 1097729))
def eF2 (w:Bool) (p:d8):Res:=ev (LF 2) (run KT 38) (rh [(31115227376,xO w),Qk w p,Ur w]) [qC w p,(jw w 41 65,cu (Y3 w p))] (jw w 43 67)
def Xm (w:Bool):Nat×V:=(509276795205219,bQ (jw w 753665 1146881))
def MU (w:Bool):Nat×V:=(3600193239649,bQ (jw w 786433 1179649))
def Vo (w:Bool) (p:d8):Res:=ev (LF 3) (run KT 38) (rh [(31115227376,xO w),Qk w p,Ur w,Us w]) [qC w p] (jw w 45 69)
def Y4 (w:Bool) (p:d8):Nat×V:=(243086067,bQ (aG (jw w 835584 1228800) (sel p.b6 4 0)))
def eF4 (w:Bool) (p:d8):Res:=ev (LF 4) (run KT 38) (rh [(31115227376,xO w),Qk w p,Ur w,Us w,Xm w,MU w]) [qC w p] (jw w 51 75)
def Y5 (w:Bool):Nat×V:=(215577191,bQ (jw w 868354 1261570))
def eF5 (w:Bool) (p:d8):Res:=ev (LF 5) (run KT 38) (rh [(31115227376,xO w),Qk w p,Ur w,Us w,Xm w,MU w,Y4 w p]) [qC w p] (jw w 53 77)
def aF6 (w:Bool) (p:d8):Nat×V:=(207452647,sel p.oH (bQ (jw w 901135 1294351)) dc)
def eF6 (w:Bool) (p:d8):Res:=ev (LF 6) (run KT 38) (rh [(31115227376,xO w),Qk w p,Ur w,Us w,Xm w,MU w,Y4 w p,Y5 w]) [qC w p] (jw w 55 79)
def aF7 (w:Bool) (p:d8):Nat×V:=(243005543,sel p.oJ (bQ (jw w 933904 1327120)) dc)
def eF7 (w:Bool) (p:d8):Res:=ev (LF 7) (run KT 38) (rh [(31115227376,xO w),Qk w p,Ur w,Us w,Xm w,MU w,Y4 w p,Y5 w,aF6 w p]) [qC w p] (jw w 57 81)
def rF9 (w:Bool) (p:d8):List (Nat×V):=[(31115227376,xO w),Qk w p,Ur w,Us w,Xm w,MU w,Y4 w p,Y5 w,aF6 w p,aF7 w p]
def xP (w:Bool):V:=bQ (jw w 966657 1359873)
def Vp (w:Bool) (p:d8):TR:= .node (O (d7 (sel p.oq [(dM [aW 1,aW 2],qS 60)] []) (sel p.oq 1 0)))
 (.node (O (uC 2698 [(495943604008035,(Qk w p).2),(509205389587181,(Us w).2),(215577191,(Y5 w).2),(207452647,(aF6 w p).2),(243005543,(aF7 w p).2),(232567531,bQ (jw w 966656 1359872))])) .nil .nil) .nil
def Ey (w:Bool) (p:d8) (k:Nat):Env:=rh (yI (rF9 w p) k)
def iF (w:Bool) (p:d8):List (Nat×TR):=[(jw w 39 63,cu (eF0 w p)),(jw w 43 67,cu (eF2 w p)),(jw w 46 70,ol (Vo w p) (jw w 46 70)),(jw w 48 72,ol (Vo w p) (jw w 48 72)),(jw w 51 75,cu (eF4 w p)),
 (jw w 53 77,cu (eF5 w p)),(jw w 55 79,cu (eF6 w p)),(jw w 57 81,cu (eF7 w p)),(jw w 59 83,Vp w p)]
theorem lF0 w p:jP 9999 (sJ aj (LF 0)) (run KT 38) (Ey w p 1) (jw w 38 62) [qC w p] (Ey w p 2) (jw w 40 64) [(jw w 39 63,cu (eF0 w p))]:=
 jP.mk (λf=>upd (upd f (jw w 38 62) .nil) (jw w 39 63) (cu (eF0 w p))) (λg a b=>by
  cases p
  (revert w b0 b1;refine Ja ?_;kernel_rfl)) (λf=>by rcases w<;>exact(Fr.refl.upd (.inl rfl)).upd (.inl rfl)) (λf=>by rcases w<;>exact⟨rfl,trivial⟩)
theorem lF1 w p:jP 9999 (sJ aj (LF 1)) (run KT 38) (Ey w p 2) (jw w 40 64) [qC w p] (Ey w p 3) (jw w 42 66) [(jw w 41 65,cu (Y3 w p))]:=
 jP.mk (λf=>upd (upd f (jw w 40 64) .nil) (jw w 41 65) (cu (Y3 w p))) (λg a b=>by
  cases p
  (revert w b9;refine CY ?_;kernel_rfl)) (λf=>by rcases w<;>exact(Fr.refl.upd (.inl rfl)).upd (.inl rfl)) (λf=>by rcases w<;>exact⟨rfl,trivial⟩)
theorem lF2 w p:jP 9999 (sJ aj (LF 2)) (run KT 38) (Ey w p 3) (jw w 42 66) [qC w p,(jw w 41 65,cu (Y3 w p))] (Ey w p 4) (jw w 44 68) [(jw w 43 67,cu (eF2 w p))]:=
 jP.mk (λf=>upd (upd f (jw w 42 66) .nil) (jw w 43 67) (cu (eF2 w p))) (λg a b=>by
  cases p
  (revert w b2 b3 b9 vE;refine MT ?_;kernel_rfl)) (λf=>by rcases w<;>exact(Fr.refl.upd (.inl rfl)).upd (.inl rfl)) (λf=>by rcases w<;>exact⟨rfl,trivial⟩)
theorem lF3 (w:Bool) (p:d8):jP 9999 (sJ aj (LF 3)) (run KT 38) (Ey w p 4) (jw w 44 68) [qC w p] (Ey w p 6) (jw w 50 74) [(jw w 46 70,ol (Vo w p) (jw w 46 70)),(jw w 48 72,ol (Vo w p) (jw w 48 72))]:=
 jP.mk (λf=>upd (upd (upd (upd (upd (upd f (jw w 44 68) .nil) (jw w 45 69) .nil) (jw w 46 70) (ol (Vo w p) (jw w 46 70))) (jw w 47 71) .nil) (jw w 48 72) (ol (Vo w p) (jw w 48 72))) (jw w 49 73) .nil) (λg a b=>by
  cases p
  (revert w b4 b5;refine Ja ?_;kernel_rfl)) (λf=>by rcases w<;>exact(((((Fr.refl.upd (.inl rfl)).upd (.inl rfl)).upd (.inl rfl)).upd (.inl rfl)).upd (.inl rfl)).upd (.inl rfl)) (λf=>by rcases w<;>exact iW (by kernel_rfl) (by kernel_rfl) trivial)
theorem lF4 w p:jP 9999 (sJ aj (LF 4)) (run KT 38) (Ey w p 6) (jw w 50 74) [qC w p] (Ey w p 7) (jw w 52 76) [(jw w 51 75,cu (eF4 w p))]:=
 jP.mk (λf=>upd (upd f (jw w 50 74) .nil) (jw w 51 75) (cu (eF4 w p))) (λg a b=>by
  cases p
  (revert w b6;refine CY ?_;kernel_rfl)) (λf=>by rcases w<;>exact(Fr.refl.upd (.inl rfl)).upd (.inl rfl)) (λf=>by rcases w<;>exact⟨rfl,trivial⟩)
theorem lF5 w p:jP 9999 (sJ aj (LF 5)) (run KT 38) (Ey w p 7) (jw w 52 76) [qC w p] (Ey w p 8) (jw w 54 78) [(jw w 53 77,cu (eF5 w p))]:=
 jP.mk (λf=>upd (upd f (jw w 52 76) .nil) (jw w 53 77) (cu (eF5 w p))) (λg a b=>by
  cases p
  (revert w b7 b8;refine Ja ?_;kernel_rfl)) (λf=>by rcases w<;>exact(Fr.refl.upd (.inl rfl)).upd (.inl rfl)) (λf=>by rcases w<;>exact⟨rfl,trivial⟩)
theorem lF6 w p:jP 9999 (sJ aj (LF 6)) (run KT 38) (Ey w p 8) (jw w 54 78) [qC w p] (Ey w p 9) (jw w 56 80) [(jw w 55 79,cu (eF6 w p))]:=
 jP.mk (λf=>upd (upd f (jw w 54 78) .nil) (jw w 55 79) (cu (eF6 w p))) (λg a b=>by
  cases p
  (revert w oH;refine CY ?_;kernel_rfl)) (λf=>by rcases w<;>exact(Fr.refl.upd (.inl rfl)).upd (.inl rfl)) (λf=>by rcases w<;>exact⟨rfl,trivial⟩)
theorem lF7 w p:jP 9999 (sJ aj (LF 7)) (run KT 38) (Ey w p 9) (jw w 56 80) [qC w p] (Ey w p 10) (jw w 58 82) [(jw w 57 81,cu (eF7 w p))]:=
 jP.mk (λf=>upd (upd f (jw w 56 80) .nil) (jw w 57 81) (cu (eF7 w p))) (λg a b=>by
  cases p
  (revert w oJ;refine CY ?_;kernel_rfl)) (λf=>by rcases w<;>exact(Fr.refl.upd (.inl rfl)).upd (.inl rfl)) (λf=>by rcases w<;>exact⟨rfl,trivial⟩)
theorem lF8 w p:xx 9999 (sJ aj (LF 8)) (run KT 38) (Ey w p 10) (jw w 58 82) [qC w p] (xP w) (jw w 60 84) [(jw w 59 83,Vp w p)]:=
 xx.mk (λf=>upd (upd f (jw w 58 82) .nil) (jw w 59 83) (Vp w p)) (λg a b=>by
  cases p
  (revert w oq;refine CY ?_;kernel_rfl)) (λf=>by rcases w<;>exact(Fr.refl.upd (.inl rfl)).upd (.inl rfl)) (λf=>by rcases w<;>exact⟨rfl,trivial⟩)
end
section
theorem di (e:∀a b,A.f r ρ h a b=a ρ' h') (c:B.f r ρ' h' a b=x):(fB A B).f r ρ h a b=x:=
 (e (λρ h=>B.f r ρ h a b) b).trans c
theorem pV (e:∀b a,A.f r ρ h b a=a v h'):(fB A B).f r ρ h b a=a v h':=e _ _
def Ut:XS:=fB (sJ aj (LF 0)) (fB (sJ aj (LF 1)) (fB (sJ aj (LF 2)) (fB (sJ aj (LF 3)) (fB (sJ aj (LF 4)) (fB (sJ aj (LF 5)) (fB (sJ aj (LF 6)) (fB (sJ aj (LF 7)) (fB (sJ aj (LF 8)) vZ))))))))
theorem Uu v h k:run KT 39 (bL 2800) [v] h k=Ut.f (run KT 38) (rh [(31115227376,v)]) h (λa h=>k dc h) k:=by kernel_rfl
theorem By w p f (a:At f [qC w p]):∃g,(∀k,run KT 39 (bL 2800) [xO w] (HH f (jw w 38 62)) k=k (xP w) (HH g (jw w 60 84)))/\Fr 9999 f (jw w 38 62) g/\At g (iF w p):=by
 refine jB (lF0 w p f a) λx y n z=> ?_;have o:=a.fr n (gY w rfl rfl);refine jB (lF1 w p x o) λA B e C=> ?_;have q:=o.fr e (gY w rfl rfl);refine jB (lF2 w p A (q.app C)) λD E h F=> ?_;have r:=q.fr h (gY w rfl rfl);refine cG (lF3 w p D r) λG a3 I i=> ?_;have s:=r.fr i (gY w rfl rfl);refine jB (lF4 w p G s) λJ K j L=> ?_;have t:=s.fr j (gY w rfl rfl);refine jB (lF5 w p J t) λM P l Q=> ?_;have u:=t.fr l (gY w rfl rfl);refine jB (lF6 w p M u) λR S m V=> ?_;have v:=u.fr m (gY w rfl rfl);refine jB (lF7 w p R v) λg7 e7 c a7=>jB (lF8 w p g7 (v.fr c (gY w rfl rfl))) λg8 e8 d a8=>f9 g8 (λk=>(Uu _ _ _).trans (di y (di B (di E (di I (di K (di P (di S (di e7 (pV e8)))))))))) ?_ ?_
 .exact(((((((n.trans e (gY w rfl rfl)).trans h (gY w rfl rfl)).trans i (gY w rfl rfl)).trans j (gY w rfl rfl)).trans l (gY w rfl rfl)).trans m (gY w rfl rfl)).trans c (gY w rfl rfl)).trans d (gY w rfl rfl)
 .have c8:=a8;have b:=c.trans d (gY w rfl rfl);have b:=m.trans b (gY w rfl rfl);have c5:=(Q.fr b (gY w rfl rfl)).app (((V.fr c (gY w rfl rfl)).fr d (gY w rfl rfl)).app ((a7.fr d (gY w rfl rfl)).app c8));have b:=l.trans b (gY w rfl rfl);have c4:=(L.fr b (gY w rfl rfl)).app c5;have b:=j.trans b (gY w rfl rfl);have c3:=(a3.fr b (gY w rfl rfl)).app c4;have b:=i.trans b (gY w rfl rfl);exact(z.fr (e.trans (h.trans b (gY w rfl rfl)) (gY w rfl rfl)) (gY w rfl rfl)).app ((F.fr b (gY w rfl rfl)).app c3)
end
set_option backward.match.sparseCases false
section
theorem ym {J n:Nat} (h:bO n (cJ 16384 (aG J 1))=H):jump d (HC f t J n) k=k (HH (upd f J (af t .nil d)) (aG J 1)):=by
 refine(?_:(af aq (k (HH (upd f J (af t .nil d)) (aG J 1))) (bO n (cJ 16384 (aG J 1))):Option Res)=_);exact U h rfl
theorem fk:jump d (HH f J) k=k (HH (upd f J .nil) (aG J 1)):=by
 have e:HH f J=HC f .nil J (cJ 16384 J):=rfl;refine(ym (mw (Nat.mul_le_mul_left _ (gW J)))).trans ?_;rcases d<;>rfl
theorem rK:
 (sJ d X).f r ρ (HH f J) kn kr=X.f r ρ (HH (upd f J .nil) (aG J 1)) (λρ h=>jump d h λh=>kn ρ h) (λv h=>jump d h λh=>kr v h):=fk (d:=aj) (k:=λh=>X.f r ρ h (λρ h=>jump d h λh=>kn ρ h) λv h=>jump d h λh=>kr v h)
theorem xy:(xJ d X).f r ρ (HH f J) k=X.f r ρ (HH (upd f J .nil) (aG J 1)) (λv h=>jump d h λh=>k v h):=fk (d:=aj) (k:=λh=>X.f r ρ h λv h=>jump d h λh=>k v h)
noncomputable def F6:Stmt->Expr
 | .Return (O e) _=>e
 | .Assign _ e _=>e
 |_=> .Constant .none 0 default
noncomputable def Xn:Expr->List Expr
 | .Call _ a _ _=>a
 |_=>[]
def Y6 (s:Stmt) (i k:Nat):XE:=cS K.G K.Ms 30 (CZ s) (K.Eo (Xn (F6 (K.sO (K.fnBody s) i))) k)
def XM:XE:=Y6 (K.top 367) 0 1
def XK:XE:=Y6 (K.top 367) 0 2
def Uv:XS:=fB (sJ aj (yO (kP (xC (bL 2751)) (dS (qB 245086182) (dS (xJ aj XM) (dS (xJ aj XK) ko)))))) vZ
theorem Uw v h k:run KT 39 (bL 2779) [v] h k=Uv.f (run KT 38) (rh [(245086182,v)]) h (λa h=>k dc h) k:=by kernel_rfl
def rT (w:Bool):Env:=rh [(245086182,xP w)]
def eM (w:Bool) (p:d8):Res:=YZ XM (run KT 38) (rT w) (iF w p) (jw w 90 128)
def eK (w:Bool):Res:=YZ XK (run KT 38) (rT w) [] (jw w 92 130)
def mV (w:Bool):V:=bQ (jw w 1474560 2097152)
def kV (w:Bool):V:=bQ (jw w 1507328 2129920)
theorem lM w p:eV 9999 (xJ aj XM) (run KT 38) (rT w) (jw w 89 127) (iF w p) (mV w) (jw w 91 129) [(jw w 90 128,cu (eM w p))]:=
 eV.mk (λf=>upd (upd f (jw w 89 127) .nil) (jw w 90 128) (cu (eM w p))) (λg k=>by
  cases p
  (revert w b2 b3 b9 vE;refine MT ?_;kernel_rfl)) (λf=>by rcases w<;>exact(Fr.refl.upd (.inl rfl)).upd (.inl rfl)) (λf=>by rcases w<;>exact⟨rfl,trivial⟩)
theorem lK w:eV 9999 (xJ aj XK) (run KT 38) (rT w) (jw w 91 129) [] (kV w) (jw w 93 131) [(jw w 92 130,cu (eK w))]:=
 eV.mk (λf=>upd (upd f (jw w 91 129) .nil) (jw w 92 130) (cu (eK w))) (λg k=>by(revert w;refine sQ ?_;kernel_rfl)) (λf=>by rcases w<;>exact(Fr.refl.upd (.inl rfl)).upd (.inl rfl)) (λf=>by rcases w<;>exact⟨rfl,trivial⟩)
def Aa (p:d8):List Nat:=app [0,1,0,0,0,0,0,0,0,0,0,0,95,15,60,245,0,0] (app (sel p.b2 [4,24] [3,232]) (repl 34))
def Ab (p:d8):List Nat:=app [0,1,0,0,3,sel p.b3 31 32,255,56,0,0,1,244] (app (sel p.vE [255,253] [0,0]) (app (repl 21) [4]))
def Ac (p:d8):List Nat:=app [1,244,0,0,1,44,0,5,1,44] (app (sel p.vE [255,253] [0,0]) (app (sel p.b9 [1,21] [0,200]) [0,1]))
def Ad (p:d8):List Nat:=sel p.b1
 (app [0,0,0,3,0,0,0,3,0,0,0,28,0,0,0,5,0,0,0,sel p.b0 64 60,0,3,0,1,0,0,0,28] (app (sel p.b0 [0,4,0,36,0,0,0,4,0,4,0,1,0,0,0,98,255,255,0,0,0,97,255,255,0,0,0,1,0,4,0,0,0,1,0,3] [0,4,0,32,0,0,0,4,0,4,0,1,0,0,0,98,255,255,0,0,0,97,255,255,255,160,0,1,0,0,0,0])
  [0,14,0,0,0,38,0,0,0,1,0,254,1,0,0,0,21,0,0,0,29,0,0,0,1,0,0,97,0,0,0,0,1,0,0,98,0,3]))
 (app [0,0,0,2,0,0,0,3,0,0,0,20,0,3,0,1,0,0,0,20] (sel p.b0 [0,4,0,36,0,0,0,4,0,4,0,1,0,0,0,98,255,255,0,0,0,97,255,255,0,0,0,1,0,4,0,0,0,1,0,3] [0,4,0,32,0,0,0,4,0,4,0,1,0,0,0,98,255,255,0,0,0,97,255,255,255,160,0,1,0,0,0,0]))
def jm (p:d8):Bool:=sel p.b4 H (sel p.b5 H (sel p.b6 H (sel p.b7 H p.b8)))
noncomputable def F7 (p:d8):List (Bool×List Nat):=[(p.b4,[0,1,0,3,0,1,0,3]),(p.b7,[0,6,0,1,0,12,0,1,0,1,0,1,0,2,0,0,0,4]),(p.b8,[0,6,0,1,0,12,0,1,0,1,0,2,0,2,0,6,0,10,0,1,0,150,0,2,0,7]),(p.b5,[0,1,0,3,0,1,0,2]),(p.b6,[0,1,0,1,0,0,0,8,0,1,0,2,0,2,0,3])]
def offs (l:List (Bool×List Nat)):Nat->List Nat:=aQ (λu_=>[]) (λq u_ ih n=>app [0,sel q.1 n 0] (ih (sel q.1 (aG n (len q.2)) n))) l
def flat (l:List (Bool×List Nat)):List Nat:=aQ [] (λq u_ ih=>app (sel q.1 q.2 []) ih) l
def oh (p:d8):List Nat:=app [0,1,0,sel p.b6 2 0] (app (offs (sel p.b6 (F7 p) (yI (F7 p) 4)) (sel p.b6 14 12)) (flat (F7 p)))
noncomputable def Hr:List Nat:=[0,1,0,0,0,10,0,30,0,44,0,1,68,70,76,84,0,8,0,4,0,0,0,0,255,255,0,1,0,0,0,1,108,105,103,97,0,8,0,0,0,1,0,0,0,1,0,4,0,1,0,0,0,1,0,8,0,1,0,6,0,1,0,1,0,1,0,1]
noncomputable def Hs:List Nat:=[0,1,0,0,0,10,0,30,0,44,0,1,68,70,76,84,0,8,0,4,0,0,0,0,255,255,0,1,0,0,0,1,100,105,115,116,0,8,0,0,0,1,0,0,0,1,0,4,0,1,0,0,0,1,0,8,0,1,0,8,0,4,0,40,0,1,0,1,0,2]
noncomputable def Ht:List Nat:=[0,0,0,1,0,0,0,20,0,1,0,1,0,6,0,0,0,0,0,1,0,2,255,196]
def MV:V:=vStr [71,68,69,70]
def MW:V:=vStr [71,83,85,66]
def MX:V:=vStr [71,80,79,83]
def MY:V:=vStr [107,101,114,110]
def Xo (p:d8):List (V×V):=[(vStr [104,101,97,100],fq (Aa p)),(vStr [104,104,101,97],fq (Ab p)),(vStr [104,109,116,120],fq (Ac p)),(vStr [109,97,120,112],fq [0,0,80,0,0,4])]
def Ux (p:d8) (g s q k:Bool):List (V×V):=app (Xo p) (app [(vStr [99,109,97,112],fq (Ad p))] (app (sel g [(MV,fq (oh p))] []) (app (sel s [(MW,fq Hr)] []) (app (sel q [(MX,fq Hs)] []) (sel k [(MY,fq Ht)] [])))))
def cA (g s q k:Bool):Nat:=aG 5 (aG (sel g 1 0) (aG (sel s 1 0) (aG (sel q 1 0) (sel k 1 0))))
def tA (p:d8) (g s q k:Bool):TR:=t1 (d7 (Ux p g s q k) (cA g s q k))
def TB (k:Nat):XS:=Y0 (K.top 363) k
def rB0 (w:Bool):List (Nat×V):=[(245086182,xP w),(3978710003956,mV w),(509719715936631,kV w)]
def EO (w:Bool):V:=bQ (jw w 1540096 2162688)
def yo (w:Bool):Env:=rh [(245086182,xP w),(3978710003956,mV w),(509719715936631,kV w),(27076163558,EO w)]
theorem lT0 w p:jP 9999 (sJ aj (TB 0)) (run KT 37) (rh (rB0 w)) (jw w 93 131) [(jw w 90 128,cu (eM w p))] (yo w) (jw w 95 133) [(jw w 94 132,t1 (d7 (Xo p) 4))]:=
 jP.mk (λf=>upd (upd f (jw w 93 131) .nil) (jw w 94 132) (t1 (d7 (Xo p) 4))) (λg a b=>by
  cases p
  (revert w b2 b3 b9 vE;refine MT ?_;kernel_rfl)) (λf=>by rcases w<;>exact(Fr.refl.upd (.inl rfl)).upd (.inl rfl)) (λf=>by rcases w<;>exact⟨rfl,trivial⟩)
end
set_option backward.match.sparseCases true
section
def iw (n:Nat) (f:Nat->TR) (a:Nat):Nat->TR:=gw f (λi ih=>upd ih (aG a i) .nil) n
theorem Fr.iw {d J a:Nat} (h:Fr d f J g) (b:bO J a=H):∀n,Fr d f J (Mine.iw n g a):=by
 intro n
 induction n with
 |zero=>
  exact h
 |succ n c=>
  exact(c).upd (.inl (by
  induction e:bE (aG a n) J using zB with
  |false=>rfl
  |true=>exact absurd (cD.mp e) (bC.mpr (aI (aB b) (d9 a n)))))
theorem MZ {b:Env->aev->Option Res} (e:F j=X) (h:x=b ρ (HH (upd F a .nil) J)):x=b ρ (HH (upd (upd F j X) a .nil) J):=cL (Ex e) h
def base (w:Bool) (p:d8):List (Nat×TR):=(jw w 92 130,cu (eK w))::iF w p
theorem lT1 w p:jP (jw w 94 132) (sJ H (TB 1)) (run KT 37) (yo w) (jw w 95 133) ((jw w 94 132,t1 (d7 (Xo p) 4))::base w p) (yo w) (jw w 99 137) [(jw w 94 132,tA p aj aj aj aj)]:=
 jP.mk (λf=>upd (upd (iw 3 f (jw w 95 133)) (jw w 94 132) (tA p aj aj aj aj)) (jw w 98 136) .nil) (λg a b=>by
  cases p
  (revert w b0 b1;refine Ja ?_;kernel_rfl)) (λf=>by rcases w<;>exact((Fr.iw Fr.refl rfl 3).upd (.inr rfl)).upd (.inl rfl)) (λf=>by rcases w<;>exact⟨rfl,trivial⟩)
theorem lT2 (w:Bool) (p:d8):jP (jw w 94 132) (sJ H (TB 2)) (run KT 37) (yo w) (jw w 99 137) ((jw w 94 132,tA p aj aj aj aj)::base w p) (yo w) (jw w 107 145) [(jw w 94 132,tA p (jm p) aj aj aj)]:=
 jP.mk (λf=>upd (upd (iw 7 f (jw w 99 137)) (jw w 94 132) (tA p (jm p) aj aj aj)) (jw w 106 144) .nil) (λg a b=>by
  cases p;revert b4 b5 b6 b7 b8;refine u5 ?_ ?_
  .revert w;refine sQ ?_;kernel_rfl
  .rcases w<;>exact MZ rfl (by kernel_rfl)) (λf=>by rcases w<;>exact((Fr.iw Fr.refl rfl 7).upd (.inr rfl)).upd (.inl rfl)) (λf=>by rcases w<;>exact⟨rfl,trivial⟩)
end
set_option backward.match.sparseCases false
section
noncomputable def C0:Stmt->Expr
 | .If t _ _ _=>t
 |_=> .Constant .none 0 default
noncomputable def ifB:Stmt->Stmt
 | .If _ [s] _ _=>s
 |s=>s
noncomputable def tgE:Stmt->Expr
 | .Assign [t] _ _=>t
 |_=> .Constant .none 0 default
def sTB (k:Nat):Stmt:=K.sO (K.fnBody (K.top 363)) k
def TT (k:Nat):XT:=E4 K.G K.Ms (CZ (K.top 363)) (C0 (sTB k))
def TA (k:Nat):XA:=Dq K.G K.Ms (CZ (K.top 363)) (tgE (ifB (sTB k)))
def TV (k:Nat):XE:=cS K.G K.Ms 30 (CZ (K.top 363)) (F6 (ifB (sTB k)))
def aaA (k:Nat):XS:=Dn (TT k) (fB (jv (TA k) (xJ H (TV k))) vZ) E6
theorem Ae {d J J0 J1 J2 o:Nat} (u:J0=aG J 1) (w:J2=aG J1 2) (x:o=aG J1 3) (p:∀l,(TT k).f r ρ (HH (upd f J .nil) J0) l=l b (HH g1 J1)) (q:Fr d f J g1) (s:bO J J1=H)
 (y:b=H->∃j,(∀l,(xJ H (TV k)).f r ρ (HH g1 J1) l=l v (HH j J2))/\Fr d g1 J1 j/\∀a,(TA k).f r ρ v (HH j J2) a=a ρ (HH (upd j d X) J2)) (z:b=aj->f d=X) (A:bE d J=H) (B:b=aj->g1 d=f d):
 ∃g,(∀a n,(sJ H (aaA k)).f r ρ (HH f J) a n=a ρ (HH g o))/\Fr d f J g/\g d=X:=by
 subst u;subst w;subst x;have m:∀i,bE (aG J1 i) J=false:=λi=>by
  induction e:bE (aG J1 i) J using zB with
  |false=>rfl
  |true=>exact absurd (cD.mp e) (bC.mpr (aI (aB s) (d9 J1 i)))
 have C:∀i,ak d (aG J1 i)=false:=λi=>by
  induction e:ak d (aG J1 i) using zB with
  |false=>rfl
  |true=>have:=m i;rw [<-bN e,A] at this;exact ft this
 have c:∀g i t,upd g (aG J1 i) t d=g d:=λg i t=>by show af (g d) t (ak d (aG J1 i))=g d;exact U (C ..) rfl
 induction b using zB with
 |true=>
  refine cG (y rfl) λj D E F=>f9 (upd (upd j d X) (aG J1 2) .nil) (λa n=> ?_) (((q.trans F s).upd (.inr (fy d))).upd (.inl (m 2))) ?_
  .refine rK.trans ((p _).trans ((?_:(xJ H (TV k)).f r ρ (HH g1 J1) (λv h=>(TA k).f r ρ v h λρ h=>jump H h λh=>a ρ h)=_)));exact U (E ..) ((D _).trans fk)
  .refine U (c ..) ((?_:af (j d) X (ak d d)=X));exact U (fy ..) rfl
 |false=>
  refine f9 (upd (upd (upd g1 J1 .nil) (aG J1 1) .nil) (aG J1 2) .nil) (λa n=> ?_) (((q.upd (.inl (m 0))).upd (.inl (m 1))).upd (.inl (m 2))) ?_
  .refine rK.trans ((p _).trans ((?_:jump aj (HH g1 J1) (λh=>jump aj h λh=>jump H h λh=>a ρ h)=_)));exact fk.trans (fk.trans fk)
  .exact U (c ..) (U (c ..) ((c g1 0 .nil).trans ((B rfl).trans (z rfl))))
end
set_option backward.match.sparseCases true
section
theorem Fr.to {d J:Nat} {f g:Nat->TR} (h:Fr 9999 f J g) (a:bO J 9999=H):Fr d f J g:=λj h1 b=>h j h1 (by
 induction e:ak j 9999 using zB with
 |false=>rfl
 |true=>rw [bN e] at h1;exact absurd (cD.mp h1) (bC.mpr (aB a)))
theorem t3 w p g k:(TT 3).f (run KT 37) (yo w) (HH (k6 (iF w p) g) (jw w 108 146)) k=k p.oH (HH (k6 (iF w p) g) (jw w 108 146)):=by
 cases p
 (revert w oH;refine CY ?_;kernel_rfl)
theorem t4 w p g k:(TT 4).f (run KT 37) (yo w) (HH (k6 (iF w p) g) (jw w 112 150)) k=k p.oJ (HH (k6 (iF w p) g) (jw w 112 150)):=by
 cases p
 (revert w oJ;refine CY ?_;kernel_rfl)
theorem t5 w p g k:(TT 5).f (run KT 37) (yo w) (HH (k6 (iF w p) g) (jw w 116 154)) k=k p.oq (HH (iw 2 (k6 (iF w p) g) (jw w 116 154)) (jw w 118 156)):=by
 cases p
 (revert w oq;refine CY ?_;kernel_rfl)
theorem v3 w p (h:p.oH=H):eV 9999 (xJ H (TV 3)) (run KT 37) (yo w) (jw w 108 146) (base w p) (fq Hr) (jw w 110 148) []:=
 eV.mk (λf=>iw 2 f (jw w 108 146)) (λg k=>by
  cases p;cases h
  (revert w;refine sQ ?_;kernel_rfl)) (λf=>by rcases w<;>exact Fr.iw Fr.refl rfl 2) (λf=>trivial)
theorem v4 w p (h:p.oJ=H):eV 9999 (xJ H (TV 4)) (run KT 37) (yo w) (jw w 112 150) (base w p) (fq Hs) (jw w 114 152) []:=
 eV.mk (λf=>iw 2 f (jw w 112 150)) (λg k=>by
  cases p;cases h
  (revert w;refine sQ ?_;kernel_rfl)) (λf=>by rcases w<;>exact Fr.iw Fr.refl rfl 2) (λf=>trivial)
theorem v5 w p (h:p.oq=H):eV 9999 (xJ H (TV 5)) (run KT 37) (yo w) (jw w 118 156) (base w p) (fq Ht) (jw w 120 158) []:=
 eV.mk (λf=>iw 2 f (jw w 118 156)) (λg k=>by
  cases p;cases h
  (revert w;refine sQ ?_;kernel_rfl)) (λf=>by rcases w<;>exact Fr.iw Fr.refl rfl 2) (λf=>trivial)
theorem a3 w p g f (h:At f [(jw w 94 132,tA p g aj aj aj)]) kn:(TA 3).f (run KT 37) (yo w) (fq Hr) (HH f (jw w 110 148)) kn=kn (yo w) (HH (upd f (jw w 94 132) (tA p g H aj aj)) (jw w 110 148)):=by
 refine fF h.eq λf a=> ?_;subst a;clear h
 (revert w g;refine CY ?_;kernel_rfl)
theorem a4 w p (g s) f (h:At f [(jw w 94 132,tA p g s aj aj)]) kn:(TA 4).f (run KT 37) (yo w) (fq Hs) (HH f (jw w 114 152)) kn=kn (yo w) (HH (upd f (jw w 94 132) (tA p g s H aj)) (jw w 114 152)):=by
 refine fF h.eq λf a=> ?_;subst a;clear h
 (revert w g s;refine Ja ?_;kernel_rfl)
theorem a5 w p (g s q) f (h:At f [(jw w 94 132,tA p g s q aj)]) kn:(TA 5).f (run KT 37) (yo w) (fq Ht) (HH f (jw w 120 158)) kn=kn (yo w) (HH (upd f (jw w 94 132) (tA p g s q H)) (jw w 120 158)):=by
 refine fF h.eq λf a=> ?_;subst a;clear h
 (revert w g s q;refine F5 ?_;kernel_rfl)
theorem lT6 w:xx 9999 (sJ aj (TB 6)) (run KT 37) (yo w) (jw w 121 159) [] (EO w) (jw w 123 161) []:=
 xx.mk (λf=>iw 2 f (jw w 121 159)) (λg a b=>by(revert w;refine sQ ?_;kernel_rfl)) (λf=>by rcases w<;>exact Fr.iw Fr.refl rfl 2) (λf=>trivial)
theorem jn {a j:Nat} (h:ak j a=aj):upd f a t j=f j:=by show af (f j) t (ak j a)=f j;exact U h rfl
theorem Ql {a j} (h:bE j a=H):∀n,iw n f a j=f j:=by
 intro n
 induction n with
 |zero=>
  exact rfl
 |succ n b=>
  exact(jn (by
  induction e:ak j (aG a n) using zB with
  |false=>rfl
  |true=>rw [bN e] at h;exact absurd (cD.mp h) (bC.mpr (d9 a n)))).trans b
theorem At.tail (h:At f (q::l)):At f l:=h.2
theorem lT3 w p g f (h:At f ((jw w 94 132,tA p g aj aj aj)::base w p)):∃d,(∀c l,(sJ H (TB 3)).f (run KT 37) (yo w) (HH f (jw w 107 145)) c l=c (yo w) (HH d (jw w 111 149)))/\Fr (jw w 94 132) f (jw w 107 145) d/\d (jw w 94 132)=tA p g p.oH aj false:=by
 have e:Fr (jw w 94 132) f (jw w 107 145) (upd f (jw w 107 145) .nil):=Fr.refl.upd (.inl (gY w rfl rfl));have h1:=h.tail.fr e (gY w rfl rfl);refine fF h1.tail.eq λm n=> ?_;have a:upd f (jw w 107 145) .nil (jw w 94 132)=f (jw w 94 132):=jn (gY w rfl rfl);exact Ae (k:=3) (J0:=jw w 108 146) (J1:=jw w 108 146) (J2:=jw w 110 148) (b:=p.oH) (v:=fq Hr) (gY w rfl rfl) (gY w rfl rfl) (gY w rfl rfl) (λo=>by refine U n ?_;exact t3 w p m o) e (gY w rfl rfl) (λhb=>by
  refine jB (v3 w p hb _ h1) λi q j r=>f9 i q (j.to (gY w rfl rfl)) (λc=>(U hb ?_));exact a3 w p g i ⟨(j _ (by exact gY w rfl rfl) (by exact gY w rfl rfl)).trans (a.trans h.1),trivial⟩ c) (λhb=>U hb h.1) (gY w rfl rfl) (λr=>a)
theorem lT4 w p (g s) f (h:At f ((jw w 94 132,tA p g s aj aj)::base w p)):∃d,(∀c l,(sJ H (TB 4)).f (run KT 37) (yo w) (HH f (jw w 111 149)) c l=c (yo w) (HH d (jw w 115 153)))/\Fr (jw w 94 132) f (jw w 111 149) d/\d (jw w 94 132)=tA p g s p.oJ false:=by
 have e:Fr (jw w 94 132) f (jw w 111 149) (upd f (jw w 111 149) .nil):=Fr.refl.upd (.inl (gY w rfl rfl));have h1:=h.tail.fr e (gY w rfl rfl);refine fF h1.tail.eq λm n=> ?_;have a:upd f (jw w 111 149) .nil (jw w 94 132)=f (jw w 94 132):=jn (gY w rfl rfl);exact Ae (k:=4) (J0:=jw w 112 150) (J1:=jw w 112 150) (J2:=jw w 114 152) (b:=p.oJ) (v:=fq Hs) (gY w rfl rfl) (gY w rfl rfl) (gY w rfl rfl) (λo=>by refine U n ?_;exact t4 w p m o) e (gY w rfl rfl) (λhb=>by
  refine jB (v4 w p hb _ h1) λi q j r=>f9 i q (j.to (gY w rfl rfl)) (λc=>(U hb ?_));exact a4 w p g s i ⟨(j _ (by exact gY w rfl rfl) (by exact gY w rfl rfl)).trans (a.trans h.1),trivial⟩ c) (λhb=>U hb h.1) (gY w rfl rfl) (λr=>a)
theorem lT5 w p (g s q) f (h:At f ((jw w 94 132,tA p g s q aj)::base w p)):∃e,(∀d m,(sJ H (TB 5)).f (run KT 37) (yo w) (HH f (jw w 115 153)) d m=d (yo w) (HH e (jw w 121 159)))/\Fr (jw w 94 132) f (jw w 115 153) e/\e (jw w 94 132)=tA p g s q p.oq:=by
 have i:Fr (jw w 94 132) f (jw w 115 153) (upd f (jw w 115 153) .nil):=Fr.refl.upd (.inl (gY w rfl rfl));refine fF (h.tail.fr i (gY w rfl rfl)).tail.eq λn o=> ?_;have c:Fr (jw w 94 132) f (jw w 115 153) (iw 2 (upd f (jw w 115 153) .nil) (jw w 116 154)):=Fr.iw i (by exact gY w rfl rfl) 2;have a:iw 2 (upd f (jw w 115 153) .nil) (jw w 116 154) (jw w 94 132)=f (jw w 94 132):=(Ql (by exact gY w rfl rfl) 2).trans (jn (gY w rfl rfl));exact Ae (k:=5) (J0:=jw w 116 154) (J1:=jw w 118 156) (J2:=jw w 120 158) (b:=p.oq) (v:=fq Ht) (gY w rfl rfl) (gY w rfl rfl) (gY w rfl rfl) (λr=>by refine U o ?_;exact t5 w p n r) c (gY w rfl rfl) (λhb=>by
  refine jB (v5 w p hb _ (h.tail.fr c (gY w rfl rfl))) λj t l u=>f9 j t (l.to (gY w rfl rfl)) (λd=>(U hb ?_));exact a5 w p g s q j ⟨(l _ (by exact gY w rfl rfl) (by exact gY w rfl rfl)).trans (a.trans h.1),trivial⟩ d) (λhb=>U hb h.1) (gY w rfl rfl) (λu=>a)
end
section
def Uy:XS:=fB (sJ aj (TB 0)) (fB (sJ H (TB 1)) (fB (sJ H (TB 2)) (fB (sJ H (TB 3)) (fB (sJ H (TB 4)) (fB (sJ H (TB 5)) (fB (sJ aj (TB 6)) vZ))))))
theorem Uz (a b c) h k:run KT 38 (bL 2751) [a,b,c] h k=Uy.f (run KT 37) (rh [(245086182,a),(3978710003956,b),(509719715936631,c)]) h (λd h=>k dc h) k:=by kernel_rfl
theorem At.put (h:At f ((d,X)::l)) (a:Fr d f J g) (b:g d=Y) (c:l.all (λp=>bE p.1 J&& !ak p.1 d)=H):At g ((d,Y)::l):=⟨b,h.tail.fr a c⟩
theorem Qm w p f (h:At f ((jw w 90 128,cu (eM w p))::base w p)):∃g,(∀k,run KT 38 (bL 2751) [xP w,mV w,kV w] (HH f (jw w 93 131)) k=k (EO w) (HH g (jw w 123 161)))/\Fr 9999 f (jw w 93 131) g/\g (jw w 94 132)=tA p (jm p) p.oH p.oJ p.oq:=by
 refine jB (lT0 w p f ⟨h.1,trivial⟩) λb r c s=> ?_;have d:At b ((jw w 94 132,t1 (d7 (Xo p) 4))::base w p):=s.app (h.tail.fr c (gY w rfl rfl));refine jB (lT1 w p b d) λt u i v=> ?_;have h1:=d.put i v.1 (gY w rfl rfl);refine jB (lT2 w p t h1) λx y l z=> ?_;have h2:=h1.put l z.1 (gY w rfl rfl);refine jB (lT3 w p _ x h2) λA B m a3=> ?_;have n:=h2.put m a3 (gY w rfl rfl);refine jB (lT4 w p _ _ A n) λC D o E=>jB (lT5 w p _ _ _ C (n.put o E (gY w rfl rfl))) λG I J K=>jB (lT6 w G trivial) λL M q Q=>f9 L (λk=>(Uz _ _ _ _ _).trans (di r (di u (di y (di B (di D (di I (pV M)))))))) ?_ ?_
 .have F:=i.trans (l.trans (m.trans (o.trans (J.trans (q.to (gY w rfl rfl)) (gY w rfl rfl)) (gY w rfl rfl)) (gY w rfl rfl)) (gY w rfl rfl)) (gY w rfl rfl);intro j a P;refine(F j ?_ ?_).trans (c j a P)
  .exact cD.mpr (Nat.lt_trans (cD.mp a) (cD.mp (gY w rfl rfl)))
  .induction e:ak j (jw w 94 132) using zB with
   |false=>rfl
   |true=>rw [bN e] at a;exact absurd (cD.mp a) (bC.mpr (aB (gY w rfl rfl)))
 .exact(q _ (by exact gY w rfl rfl) (by exact gY w rfl rfl)).trans K
theorem Hu w p f (h:At f (iF w p)):∃g,(∀k,run KT 39 (bL 2779) [xP w] (HH f (jw w 88 126)) k=k (EO w) (HH g (jw w 124 162)))/\Fr 9999 f (jw w 88 126) g/\g (jw w 94 132)=tA p (jm p) p.oH p.oJ p.oq:=by
 have a:Fr 9999 f (jw w 88 126) (upd f (jw w 88 126) .nil):=Fr.refl.upd (.inl (gY w rfl rfl));have c:=h.fr a (gY w rfl rfl);refine jB (lM w p _ c) λe i d j=>jB (lK w e trivial) λl m b n=>jB (Qm w p l (iW ((j.fr b (gY w rfl rfl)).1) n.1 ((c.fr d (gY w rfl rfl)).fr b (gY w rfl rfl)))) λo q r a3=>f9 (upd o (jw w 123 161) .nil) (λk=> ?_) ?_ ?_
 .refine(Uw _ _ _).trans ?_;have s:aG (jw w 88 126) 1=jw w 89 127:=gY w rfl rfl;refine(rK (X:=yO (kP (xC (bL 2751)) (dS (qB 245086182) (dS (xJ aj XM) (dS (xJ aj XK) ko)))))).trans (U s ((?_:(xJ aj XM).f (run KT 38) (rT w) (HH (upd f (jw w 88 126) .nil) (jw w 89 127)) (λt h=>(xJ aj XK).f (run KT 38) (rT w) h λu h=>run KT 38 (bL 2751) [xP w,t,u] h λv h=>jump aj h λh=>k v h)=_)));refine U (i ..) (U (m ..) (U (q ..) (fk.trans ?_)));have x:aG (jw w 123 161) 1=jw w 124 162:=gY w rfl rfl;exact U x rfl
 .exact(((a.trans d (gY w rfl rfl)).trans b (gY w rfl rfl)).trans r (gY w rfl rfl)).upd (.inl (gY w rfl rfl))
 .exact(jn (by exact gY w rfl rfl)).trans a3
end
set_option backward.match.sparseCases false
section
def R7:Stmt:=K.sO (K.vf (K.top 356)) 2
noncomputable def aaB:Expr->List Expr
 | .Tuple es _ _=>es
 |_=>[]
def CT (i:Nat):XE:=cS K.G K.Ms 30 (CZ R7) (K.Eo (aaB (F6 (K.sO (K.fnBody R7) 0))) i)
def UA:XS:=fB (sJ aj (yO (B4 (dS (xJ H (CT 0)) (dS (xJ H (CT 1)) (dS (xJ H (CT 2)) (dS (xJ H (CT 3)) (dS (xJ H (CT 4)) (dS (xJ H (CT 5)) ko))))))))) vZ
theorem UB v h k:run KT 39 (bL 2695) [v] h k=UA.f (run KT 38) (rh [(215692019,v)]) h (λa h=>k dc h) k:=by kernel_rfl
def vp (a b:Nat):V:=dM [aW a,aW b]
def Xp (p:d8):V:=dM [dM [vp 97 1,vp 98 (sel p.b0 3 2)],sel p.b1 (dM [dM [dM [aW 65025,dM [aW 97]]],dM [dM [vp 65025 98,aW 3]]]) dc]
def Xq (p:d8):V:=dM [aW (sel p.b2 1048 1000),aW (sel p.b3 799 800),qS 200,dM [aW 500,aW 300,aW 300,aW (sel p.b9 277 200)],dM [aW 0,aW 5,sel p.vE (qS 3) (aW 0),aW 1]]
def Xr (p:d8):V:=dM [dM (sel p.b4 [vp 3 3] []),dM (sel p.b5 [vp 3 2] []),dM (sel p.b6 [vp 2 3] []),dM (sel p.b7 [dM [aW 1,vp 0 4]] []),dM (sel p.b8 [dM [aW 2,dM [dM [vStr [97,116],aW 150],dM [vStr [112,111,105,110,116],aW 7]]]] [])]
def Xs (p:d8):V:=sel p.oH (dM [dM [dM [vStr [68,70,76,84],dM [qS 1,dM [aW 0]],dM []]],dM [dM [vStr [108,105,103,97],dM [aW 0]]],dM [dM [vStr [115,105,110,103,108,101],aW 0,qS 1,dM [dM [vStr [115,105,110,103,108,101],vp 1 2]]]]]) dc
def Xu (p:d8):V:=sel p.oJ (dM [dM [dM [vStr [68,70,76,84],dM [qS 1,dM [aW 0]],dM []]],dM [dM [vStr [100,105,115,116],dM [aW 0]]],dM [dM [vStr [97,100,106,117,115,116],aW 0,qS 1,dM [dM [vStr [97,100,106,117,115,116],dM [dM [aW 2,dM [aW 0,aW 0,aW 40,aW 0]]]]]]]]) dc
def Xv (p:d8):V:=dM (sel p.oq [dM [vp 1 2,qS 60]] [])
def Ez (p:d8):V:=dM [Xp p,Xq p,Xr p,Xs p,Xu p,Xv p]
inductive T3 where
 |a|b|c
def Qn (t:T3):Bool:=T3.rec aj H H t
def jt (t:T3) (k:Nat):Nat:=aG (T3.rec 166 182 248 t) k
@[elab_as_elim] theorem vF {P:T3->Prop} t (d:P .a) (h1:P .b) (h2:P .c):P t:=by
 rcases t
 .exact d
 .exact h1
 .exact h2
def Vq (t:T3):Env:=rh [(215692019,xP (Qn t))]
theorem c0 t p:eV 9999 (xJ H (CT 0)) (run KT 38) (Vq t) (jt t 1) (iF (Qn t) p) (Xp p) (jt t 3) []:=
 eV.mk (λf=>iw 2 f (jt t 1)) (λg k=>by
  cases p;refine vF t ?_ ?_ ?_<;>(revert b0 b1;refine CY ?_;kernel_rfl)) (λf=>Fr.iw Fr.refl (by exact vF t rfl rfl rfl) 2) (λf=>trivial)
theorem c1 t p:eV 9999 (xJ H (CT 1)) (run KT 38) (Vq t) (jt t 3) (iF (Qn t) p) (Xq p) (jt t 5) []:=
 eV.mk (λf=>iw 2 f (jt t 3)) (λg k=>by
  cases p;refine vF t ?_ ?_ ?_<;>(revert b2 b3 b9 vE;refine F5 ?_;kernel_rfl)) (λf=>Fr.iw Fr.refl (by exact vF t rfl rfl rfl) 2) (λf=>trivial)
theorem c2 t p:eV 9999 (xJ H (CT 2)) (run KT 38) (Vq t) (jt t 5) (iF (Qn t) p) (Xr p) (jt t 7) []:=
 eV.mk (λf=>iw 2 f (jt t 5)) (λg k=>by
  cases p;refine vF t ?_ ?_ ?_<;>(revert b4 b5 b6 b7 b8;refine MT ?_;kernel_rfl)) (λf=>Fr.iw Fr.refl (by exact vF t rfl rfl rfl) 2) (λf=>trivial)
theorem c3 t p:eV 9999 (xJ H (CT 3)) (run KT 38) (Vq t) (jt t 7) (iF (Qn t) p) (Xs p) (jt t 9) []:=
 eV.mk (λf=>iw 2 f (jt t 7)) (λg k=>by
  cases p;refine vF t ?_ ?_ ?_<;>(revert oH;refine sQ ?_;kernel_rfl)) (λf=>Fr.iw Fr.refl (by exact vF t rfl rfl rfl) 2) (λf=>trivial)
theorem c4 t p:eV 9999 (xJ H (CT 4)) (run KT 38) (Vq t) (jt t 9) (iF (Qn t) p) (Xu p) (jt t 11) []:=
 eV.mk (λf=>iw 2 f (jt t 9)) (λg k=>by
  cases p;refine vF t ?_ ?_ ?_<;>(revert oJ;refine sQ ?_;kernel_rfl)) (λf=>Fr.iw Fr.refl (by exact vF t rfl rfl rfl) 2) (λf=>trivial)
theorem c5 t p:eV 9999 (xJ H (CT 5)) (run KT 38) (Vq t) (jt t 11) (iF (Qn t) p) (Xv p) (jt t 13) []:=
 eV.mk (λf=>iw 2 f (jt t 11)) (λg k=>by
  cases p;refine vF t ?_ ?_ ?_<;>(revert oq;refine sQ ?_;kernel_rfl)) (λf=>Fr.iw Fr.refl (by exact vF t rfl rfl rfl) 2) (λf=>trivial)
theorem kT6 (a b c d e f) h k:kT [a,b,c,d,e,f] h k=k (dM [a,b,c,d,e,f]) h:=rfl
theorem EA {J:Nat} {J0 J1 J2 i j l g J7:Nat} {v a b c a3 d e} (m:aG J 1=J0) (n:aG g 1=J7)
 (o:∀k,(xJ H (CT 0)).f (run KT 38) (rh [(215692019,v)]) (HH (upd f J .nil) J0) k=k a (HH g0 J1)) (p:∀k,(xJ H (CT 1)).f (run KT 38) (rh [(215692019,v)]) (HH g0 J1) k=k b (HH g1 J2))
 (q:∀k,(xJ H (CT 2)).f (run KT 38) (rh [(215692019,v)]) (HH g1 J2) k=k c (HH g2 i)) (r:∀k,(xJ H (CT 3)).f (run KT 38) (rh [(215692019,v)]) (HH g2 i) k=k a3 (HH g3 j))
 (s:∀k,(xJ H (CT 4)).f (run KT 38) (rh [(215692019,v)]) (HH g3 j) k=k d (HH g4 l)) (t:∀k,(xJ H (CT 5)).f (run KT 38) (rh [(215692019,v)]) (HH g4 l) k=k e (HH g5 g)) k:
 run KT 39 (bL 2695) [v] (HH f J) k=k (dM [a,b,c,a3,d,e]) (HH (upd g5 g .nil) J7):=by
 refine(UB _ _ _).trans (rK.trans (U m ?_));show(xJ H (CT 0)).f (run KT 38) (rh [(215692019,v)]) (HH (upd f J .nil) J0) (λa h=>(xJ H (CT 1)).f (run KT 38) (rh [(215692019,v)]) h λb h=>(xJ H (CT 2)).f (run KT 38) (rh [(215692019,v)]) h λc h=>(xJ H (CT 3)).f (run KT 38) (rh [(215692019,v)]) h λa3 h=>
  (xJ H (CT 4)).f (run KT 38) (rh [(215692019,v)]) h λd h=>(xJ H (CT 5)).f (run KT 38) (rh [(215692019,v)]) h λe h=>kT [a,b,c,a3,d,e] h λv h=>jump aj h λh=>k v h)=_
 exact U (o ..) (U (p ..) (U (q ..) (U (r ..) (U (s ..) (U (t ..) (U (kT6 ..) (fk.trans (U n rfl))))))))
theorem C1 t p f (h:At f (iF (Qn t) p)):∃g,(∀k,run KT 39 (bL 2695) [xP (Qn t)] (HH f (jt t 0)) k=k (Ez p) (HH g (jt t 14)))/\Fr 9999 f (jt t 0) g:=by
 have a:Fr 9999 f (jt t 0) (upd f (jt t 0) .nil):=Fr.refl.upd (.inl (vF t rfl rfl rfl));have c:=h.fr a (vF t rfl rfl rfl);refine jB (c0 t p _ c) λx o d b=> ?_;have h1:=c.fr d (vF t rfl rfl rfl);refine jB (c1 t p _ h1) λy q e b=> ?_;have h2:=h1.fr e (vF t rfl rfl rfl);refine jB (c2 t p _ h2) λz r i b=> ?_;have j:=h2.fr i (vF t rfl rfl rfl);refine jB (c3 t p _ j) λA s l b=> ?_;have m:=j.fr l (vF t rfl rfl rfl);exact jB (c4 t p _ m) λB u n b=>jB (c5 t p _ (m.fr n (vF t rfl rfl rfl))) λC v w b=>bV _ (EA (J0:=jt t 1) (J7:=jt t 14) (vF t rfl rfl rfl) (by exact vF t rfl rfl rfl) o q r s u v) (((((((a.trans d (vF t rfl rfl rfl)).trans e (vF t rfl rfl rfl)).trans i (vF t rfl rfl rfl)).trans l (vF t rfl rfl rfl)).trans n (vF t rfl rfl rfl)).trans w (vF t rfl rfl rfl)).upd (.inl (vF t rfl rfl rfl)))
end
set_option backward.match.sparseCases true
section
def XR:XE:=Y6 (K.top 361) 0 1
def XQ:XE:=Y6 (K.top 361) 0 2
def FB (k:Nat):XS:=Y0 (K.top 359) k
def R8 (x:Nat) (r:Res):V:=aA dc (λv=>v) (find x r.ρ.loc)
def rR:Env:=rh [(3978710003956,EO H)]
def eR (p:d8):Res:=YZ XR (run KT 38) rR [(132,tA p aj aj aj aj)] 216
def eQ:Res:=YZ XQ (run KT 38) rR [] 218
def mR:V:=bQ 3538955
def qR:V:=bQ 3571712
theorem lR (p:d8) (g s q k:Bool):eV 9999 (xJ aj XR) (run KT 38) rR 215 [(132,tA p g s q k)] mR 217 [(216,cu (eR p))]:=
 eV.mk (λf=>upd (upd f 215 .nil) 216 (cu (eR p))) (λf k=>by
  cases p
  (revert b2 b3 b9 vE;refine F5 ?_;kernel_rfl)) (λf=>(Fr.refl.upd (.inl rfl)).upd (.inl rfl)) (λf=>⟨rfl,trivial⟩)
theorem lQ:eV 9999 (xJ aj XQ) (run KT 38) rR 217 [] qR 219 [(218,cu eQ)]:=
 eV.mk (λf=>upd (upd f 217 .nil) 218 (cu eQ)) (λf k=>by kernel_rfl) (λf=>(Fr.refl.upd (.inl rfl)).upd (.inl rfl)) (λf=>⟨rfl,trivial⟩)
def JE:List (Nat×V):=[(3978710003956,EO H),(509205389587181,mR),(509719682249458,qR)]
def Xw (p:d8):Res:=ev (FB 0) (run KT 37) (rh JE) [(132,tA p aj aj aj aj),(218,cu eQ)] 220
def M0 (p:d8):Nat×V:=(495943604008035,R8 495943604008035 (Xw p))
def Xx (p:d8):Res:=ev (FB 1) (run KT 37) (rh (app JE [M0 p])) [(132,tA p (jm p) aj aj aj),(218,cu eQ)] 222
def R9 (p:d8):Nat×V:=(215577191,R8 215577191 (Xx p))
def Y7 (p:d8):Res:=ev (FB 2) (run KT 37) (rh (app JE [M0 p,R9 p])) [(132,tA p aj p.oH aj aj),(218,cu eQ)] 224
def Xy (p:d8):Nat×V:=(207452647,sel p.oH (bQ 3670056) dc)
def Y8 (p:d8):Res:=ev (FB 3) (run KT 37) (rh (app JE [M0 p,R9 p,Xy p])) [(132,tA p aj aj p.oJ aj),(218,cu eQ)] 226
def vB3 (p:d8):Nat×V:=(243005543,sel p.oJ (bQ 3702826) dc)
def rQ4 (p:d8):List (Nat×V):=app JE [M0 p,R9 p,Xy p,vB3 p]
def Y9 (p:d8):Res:=ev (FB 4) (run KT 37) (rh (rQ4 p)) [(132,tA p aj aj aj p.oq),(218,cu eQ)] 228
def Sb:V:=bQ 3768320
def NO (p:d8):TR:=t1 (uC 2698 [(495943604008035,(M0 p).2),(509205389587181,mR),(215577191,(R9 p).2),(207452647,(Xy p).2),(243005543,(vB3 p).2),(232567531,bQ (aG 3751936 (sel p.oq 2 0)))])
theorem lB0 (p:d8) (g s q k:Bool):jP 9999 (sJ aj (FB 0)) (run KT 37) (rh JE) 219 [(132,tA p g s q k),(218,cu eQ)] (rh (app JE [M0 p])) 221 [(220,cu (Xw p))]:=
 jP.mk (λf=>upd (upd f 219 .nil) 220 (cu (Xw p))) (λf a b=>by
  cases p
  (revert b0 b1;refine CY ?_;kernel_rfl)) (λf=>(Fr.refl.upd (.inl rfl)).upd (.inl rfl)) (λf=>⟨rfl,trivial⟩)
theorem lB1 (p:d8) (s q k:Bool):jP 9999 (sJ aj (FB 1)) (run KT 37) (rh (app JE [M0 p])) 221 [(132,tA p (jm p) s q k),(218,cu eQ)] (rh (app JE [M0 p,R9 p])) 223 [(222,cu (Xx p))]:=
 jP.mk (λf=>upd (upd f 221 .nil) 222 (cu (Xx p))) (λf a b=>by
  cases p;revert b4 b5 b6 b7 b8;refine u5 ?_ ?_
  .kernel_rfl
  .revert s q k;refine Ja ?_;kernel_rfl) (λf=>(Fr.refl.upd (.inl rfl)).upd (.inl rfl)) (λf=>⟨rfl,trivial⟩)
theorem lB2 (p:d8) (g q k:Bool):jP 9999 (sJ aj (FB 2)) (run KT 37) (rh (app JE [M0 p,R9 p])) 223 [(132,tA p g p.oH q k),(218,cu eQ)] (rh (app JE [M0 p,R9 p,Xy p])) 225 [(224,cu (Y7 p))]:=
 jP.mk (λf=>upd (upd f 223 .nil) 224 (cu (Y7 p))) (λf a b=>by
  cases p;rcases oH
  ·(revert g q k;refine Ja ?_;kernel_rfl)
  ·(revert g;refine sQ ?_;kernel_rfl)) (λf=>(Fr.refl.upd (.inl rfl)).upd (.inl rfl)) (λf=>⟨rfl,trivial⟩)
theorem lB3 (p:d8) (g s k:Bool):jP 9999 (sJ aj (FB 3)) (run KT 37) (rh (app JE [M0 p,R9 p,Xy p])) 225 [(132,tA p g s p.oJ k),(218,cu eQ)] (rh (rQ4 p)) 227 [(226,cu (Y8 p))]:=
 jP.mk (λf=>upd (upd f 225 .nil) 226 (cu (Y8 p))) (λf a b=>by
  cases p;rcases oJ
  ·(revert g s k;refine Ja ?_;kernel_rfl)
  ·(revert g s;refine CY ?_;kernel_rfl)) (λf=>(Fr.refl.upd (.inl rfl)).upd (.inl rfl)) (λf=>⟨rfl,trivial⟩)
theorem lB4 (p:d8) (g s q:Bool):xx 9999 (sJ aj (FB 4)) (run KT 37) (rh (rQ4 p)) 227 [(132,tA p g s q p.oq),(218,cu eQ)] Sb 231 [(229,ol (Y9 p) 229),(230,NO p)]:=
 xx.mk (λf=>upd (upd (upd (upd f 227 .nil) 228 .nil) 229 (ol (Y9 p) 229)) 230 (NO p)) (λf a b=>by
  cases p
  (revert g s q oq;refine F5 ?_;kernel_rfl)) (λf=>(((Fr.refl.upd (.inl rfl)).upd (.inl rfl)).upd (.inl rfl)).upd (.inl rfl)) (λf=>iW rfl rfl trivial)
def Jb:Env:=rh [(215692019,Sb)]
theorem d0 (p:d8):eV 9999 (xJ H (CT 0)) (run KT 38) Jb 233 [(230,NO p),(220,cu (Xw p))] (Xp p) 235 []:=
 eV.mk (λf=>iw 2 f 233) (λg k=>by
  cases p
  (revert b0 b1;refine CY ?_;kernel_rfl)) (λf=>Fr.iw Fr.refl rfl 2) (λf=>trivial)
theorem d1 (p:d8):eV 9999 (xJ H (CT 1)) (run KT 38) Jb 235 [(230,NO p),(216,cu (eR p))] (Xq p) 237 []:=
 eV.mk (λf=>iw 2 f 235) (λg k=>by
  cases p
  (revert b2 b3 b9 vE;refine F5 ?_;kernel_rfl)) (λf=>Fr.iw Fr.refl rfl 2) (λf=>trivial)
theorem d2 (p:d8):eV 9999 (xJ H (CT 2)) (run KT 38) Jb 237 [(230,NO p),(222,cu (Xx p))] (Xr p) 239 []:=
 eV.mk (λf=>iw 2 f 237) (λg k=>by
  cases p
  (revert b4 b5 b6 b7 b8;refine MT ?_;kernel_rfl)) (λf=>Fr.iw Fr.refl rfl 2) (λf=>trivial)
theorem d3 (p:d8):eV 9999 (xJ H (CT 3)) (run KT 38) Jb 239 [(230,NO p),(224,cu (Y7 p))] (Xs p) 241 []:=
 eV.mk (λf=>iw 2 f 239) (λg k=>by
  cases p
  (revert oH;refine sQ ?_;kernel_rfl)) (λf=>Fr.iw Fr.refl rfl 2) (λf=>trivial)
theorem d4 (p:d8):eV 9999 (xJ H (CT 4)) (run KT 38) Jb 241 [(230,NO p),(226,cu (Y8 p))] (Xu p) 243 []:=
 eV.mk (λf=>iw 2 f 241) (λg k=>by
  cases p
  (revert oJ;refine sQ ?_;kernel_rfl)) (λf=>Fr.iw Fr.refl rfl 2) (λf=>trivial)
theorem d5 (p:d8):eV 9999 (xJ H (CT 5)) (run KT 38) Jb 243 [(230,NO p),(229,ol (Y9 p) 229)] (Xv p) 245 []:=
 eV.mk (λf=>iw 2 f 243) (λg k=>by
  cases p
  (revert oq;refine sQ ?_;kernel_rfl)) (λf=>Fr.iw Fr.refl rfl 2) (λf=>trivial)
end
section
theorem aaD (c:find x ρ.loc=O v):(yO (kP (xC F) (dS (qB x) (dS A (dS B ko))))).f r ρ h kn kr=A.f r ρ h λa h=>B.f r ρ h λb h=>r F [v,a,b] h kr:=by
 refine(?_:(aA aq (λv=>A.f r ρ h λa h=>B.f r ρ h λb h=>r F [v,a,b] h kr) (find x ρ.loc):Option Res)=_);exact U c rfl
def UC:XS:=fB (sJ aj (yO (kP (xC (bL 2723)) (dS (qB 3978710003956) (dS (xJ aj XR) (dS (xJ aj XQ) ko)))))) vZ
theorem UD v h k:run KT 39 (bL 2737) [v] h k=UC.f (run KT 38) (rh [(3978710003956,v)]) h (λa h=>k dc h) k:=by kernel_rfl
def UE:XS:=fB (sJ aj (FB 0)) (fB (sJ aj (FB 1)) (fB (sJ aj (FB 2)) (fB (sJ aj (FB 3)) (fB (sJ aj (FB 4)) vZ))))
theorem UG (a b c) h k:run KT 38 (bL 2723) [a,b,c] h k=UE.f (run KT 37) (rh [(3978710003956,a),(509205389587181,b),(509719682249458,c)]) h (λd h=>k dc h) k:=by kernel_rfl
def Jc (p:d8):TR:=tA p (jm p) p.oH p.oJ p.oq
def M1 (p:d8):List (Nat×TR):=[(229,ol (Y9 p) 229),(230,NO p),(226,cu (Y8 p)),(224,cu (Y7 p)),(222,cu (Xx p)),(220,cu (Xw p)),(216,cu (eR p))]
theorem Qo p f (h:At f [(132,Jc p),(218,cu eQ)]) (h':At f [(216,cu (eR p))]):∃g,(∀k,run KT 38 (bL 2723) [EO H,mR,qR] (HH f 219) k=k Sb (HH g 231))/\Fr 9999 f 219 g/\At g (M1 p):=by
 refine jB (lB0 p _ _ _ _ f h) λo q a r=> ?_;have b:=h.fr a rfl;refine jB (lB1 p _ _ _ o b) λs t c u=> ?_;have h1:=b.fr c rfl;refine jB (lB2 p _ _ _ s h1) λv w d x=> ?_;have h2:=h1.fr d rfl;refine jB (lB3 p _ _ _ v h2) λy z e a3=>jB (lB4 p _ _ _ y (h2.fr e rfl)) λA B i C=> ?_;have j:=e.trans i rfl;have l:=d.trans j rfl;have m:=c.trans l rfl;have n:=a.trans m rfl;exact f9 A (λk=>(UG _ _ _ _ _).trans (di q (di t (di w (di z (pV B)))))) n (C.app ((a3.fr i rfl).app ((x.fr j rfl).app ((u.fr l rfl).app ((r.fr m rfl).app (h'.fr n rfl))))))
theorem Qp p f (h:At f [(132,Jc p)]):∃g,(∀k,run KT 39 (bL 2737) [EO H] (HH f 214) k=k Sb (HH g 232))/\Fr 9999 f 214 g/\At g (M1 p):=by
 have a:Fr 9999 f 214 (upd f 214 .nil):=Fr.refl.upd (.inl rfl);have e:=h.fr a rfl;refine jB (lR p _ _ _ _ _ e) λl m i n=>jB (lQ l trivial) λo q b r=>jB (Qo p o (((e.fr i rfl).fr b rfl).app r) (n.fr b rfl)) λs t u a3=> ?_;have E:∀j c,(sJ aj (yO (kP (xC (bL 2723)) (dS (qB 3978710003956) (dS (xJ aj XR) (dS (xJ aj XQ) ko)))))).f (run KT 38) rR (HH f 214) j c=c Sb (HH (upd s 231 .nil) 232):=λj c=>
  rK.trans ((aaD (v:=EO H) rfl).trans ((m _).trans ((q _).trans ((t _).trans fk))))
 exact f9 _ (λk=>(UD _ _ _).trans (pV E)) ((((a.trans i rfl).trans b rfl).trans u rfl).upd (.inl rfl)) (a3.fr ((Fr.refl (d:=9999)).upd (.inl (rfl:bE 231 231=aj))) rfl)
theorem Qq p f (h:At f (M1 p)):∃g,(∀k,run KT 39 (bL 2695) [Sb] (HH f 232) k=k (Ez p) (HH g 246))/\Fr 9999 f 232 g:=by
 have a:Fr 9999 f 232 (upd f 232 .nil):=Fr.refl.upd (.inl rfl);have c:=h.fr a rfl;refine jB (d0 p _ (iW c.2.1 c.2.2.2.2.2.1 trivial)) λx q i b=> ?_;have h1:=c.fr i rfl;refine jB (d1 p _ (iW h1.2.1 h1.2.2.2.2.2.2.1 trivial)) λy r j b=> ?_;have h2:=h1.fr j rfl;refine jB (d2 p _ (iW h2.2.1 h2.2.2.2.2.1 trivial)) λz s l b=> ?_;have d:=h2.fr l rfl;refine jB (d3 p _ (iW d.2.1 d.2.2.2.1 trivial)) λA t m b=> ?_;have e:=d.fr m rfl;refine jB (d4 p _ (iW e.2.1 e.2.2.1 trivial)) λB u n b=> ?_;have o:=e.fr n rfl;exact jB (d5 p _ (iW o.2.1 o.1 trivial)) λC v w b=>bV _ (EA (J0:=233) (J7:=246) rfl rfl q r s t u v) (((((((a.trans i rfl).trans j rfl).trans l rfl).trans m rfl).trans n rfl).trans w rfl).upd (.inl rfl))
end
section
def xb (b:Bool) (s i:Nat):Bool:=sel (ak s i) (neg b) b
def flip (p:d8) (s:Nat):d8:=⟨xb p.b0 s 0,xb p.b1 s 1,xb p.b2 s 2,xb p.b3 s 3,xb p.b4 s 4,xb p.b5 s 5,xb p.b6 s 6,xb p.b7 s 7,xb p.b8 s 8,xb p.b9 s 9,xb p.vE s 10,xb p.oH s 11,xb p.oJ s 12,xb p.oq s 13⟩
def sL (k:Nat):XS:=Y0 (K.top 373) k
def Vr (s:Nat):List (Nat×V):=[(4016016503283,bQ 0),(1815280,bQ 16386),(1668975,bQ 49152),(245102707,aW s)]
def Xz (s:Nat):List (Nat×V):=app (Vr s) [(30815173231,bQ 573440)]
def UH (s:Nat):List (Nat×V):=app (Xz s) [(31115163622,bQ 1392640)]
def BA (s:Nat):List (Nat×V):=app (UH s) [(31083672806,bQ 1425408)]
theorem C2 {P:Nat->Prop} (g:P 0) (h1:P 1) (h2:P 2) (i:P 3) (j:P 4) (k:P 5) (l:P 6) (m:P 7) (n:P 8) (o:P 9) (a:P 10) (b:P 11) (c:P 12) (d:P 13) (e:P 14) (f:P 15):∀s,s<16->P s:=kj (kj (kj (kj (kj (kj (kj (kj (kj (kj (kj (kj (kj (kj (kj (kj (λs h=>absurd h (ku s)) g) h1) h2) i) j) k) l) m) n) o) a) b) c) d) e) f
theorem lL3 p g kn kr:∀s,s<16->(sJ aj (sL 3)).f (run KT 39) (rh (Vr s)) (HH (k6 [(3,tP p)] g) 34) kn kr=kn (rh (Xz s)) (HH (upd (upd (k6 [(3,tP p)] g) 34 .nil) 35 (tP (flip p s))) 36):=by
 cases p;refine C2 ?_ ?_ ?_ ?_ ?_ ?_ ?_ ?_ ?_ ?_ ?_ ?_ ?_ ?_ ?_ ?_
 ·(revert b0;refine sQ ?_;kernel_rfl)
 ·(revert b1;refine sQ ?_;kernel_rfl)
 ·(revert b2;refine sQ ?_;kernel_rfl)
 ·(revert b3;refine sQ ?_;kernel_rfl)
 ·(revert b4;refine sQ ?_;kernel_rfl)
 ·(revert b5;refine sQ ?_;kernel_rfl)
 ·(revert b6;refine sQ ?_;kernel_rfl)
 ·(revert b7;refine sQ ?_;kernel_rfl)
 ·(revert b8;refine sQ ?_;kernel_rfl)
 ·(revert b9;refine sQ ?_;kernel_rfl)
 ·(revert vE;refine sQ ?_;kernel_rfl)
 ·(revert oH;refine sQ ?_;kernel_rfl)
 ·(revert oJ;refine sQ ?_;kernel_rfl)
 ·(revert oq;refine sQ ?_;kernel_rfl)
 .kernel_rfl
 .kernel_rfl
def UI:XS:=jv (kq 31115163622) (wY (dS (xJ aj (kP (xC (bL 2800)) (dS (qB 1668975) ko))) (dS (xJ aj (kP (xC (bL 2800)) (dS (qB 30815173231) ko))) ko)))
theorem sL4:sL 4=UI:=by kernel_rfl
def mT:TR:=t1 (bK [xP aj,xP H])
theorem aaE (A B) x:(jv (kq x) (wY (dS A (dS B ko)))).f r ρ h kn kr=A.f r ρ h (λa h=>B.f r ρ h λb h=>new (bK [a,b]) h λv h=>kn (gg ρ x v) h):=rfl
theorem Hv (a:find x ρ.loc=O v):(kP (xC F) (dS (qB x) ko)).f r ρ h k=r F [v] h k:=by
 refine(?_:(aA aq (λv=>r F [v] h k) (find x ρ.loc):Option Res)=_);exact U a rfl
theorem Jd s g (a:Env->aev->Option Res):new (bK [xP aj,xP H]) (HH g 85) (λv h=>jump aj h λh=>a (gg (rh (Xz s)) 31115163622 v) h)=a (rh (UH s)) (HH (upd g 85 mT) 86):=by kernel_rfl
theorem lL4 (p q) s f (h:At f [(3,tP p),(35,tP q)]):∃g,(∀a e,(sJ aj (sL 4)).f (run KT 39) (rh (Xz s)) (HH f 36) a e=a (rh (UH s)) (HH g 86))/\Fr 9999 f 36 g/\At g ((85,mT)::(iF aj p++iF H q)):=by
 have i:Fr 9999 f 36 (upd (upd f 36 .nil) 37 .nil):=(Fr.refl.upd (.inl rfl)).upd (.inl rfl);have h1:=h.fr i rfl;refine jB (By aj p _ ⟨h1.1,trivial⟩) λj m k n=> ?_;have b:Fr 9999 j 60 (upd (upd j 60 .nil) 61 .nil):=(Fr.refl.upd (.inl rfl)).upd (.inl rfl);refine jB (By H q _ ⟨((h1.fr k rfl).fr b rfl).2.1,trivial⟩) λc o l a3=> ?_;have d:Fr 9999 c 84 (upd (upd c 84 .nil) 85 mT):=(Fr.refl.upd (.inl rfl)).upd (.inl rfl);refine qO (upd (upd c 84 .nil) 85 mT) (λa e=> ?_) (((i.trans k rfl).trans b rfl).trans (l.trans d rfl) rfl) rfl ((((n.fr b rfl).fr l rfl).fr d rfl).app (a3.fr d rfl));exact U sL4 (rK.trans ((aaE _ _ _).trans (xy.trans ((Hv (v:=xO aj) rfl).trans ((m _).trans (fk.trans (xy.trans ((Hv (v:=xO H) rfl).trans ((o _).trans (fk.trans (Jd s _ a)))))))))))
end
section
def UJ:XS:=jv (kq 31083672806) (yN (xJ aj (kP (xC (bL 2779)) (dS (qB 245086182) ko))) (kq 245086182) (iE (qB 31115163622)) jh)
section
variable {r:Ap} {x i j n:Nat} {elt:XE} {acc v:V} {k:aev->Option Res} {ρ:Env} {h:aev} {xs:List V}
def putBack (acc:V) (K:V->aev->Option Res) (a:V) (h:aev):Option Res:=look acc h λo h=>af aq (put acc.n (bK (app o.xs [a])) h K) (ak o.t 1)
theorem wJ (hm:m=aG n 1) (hx:HT.get h.l i=O (bK xs)) (hn:sW xs j=O v):turns r (kq x) jh (pN elt r acc) k m (gh (gp i j)) ρ h=
 elt.f r (gg ρ x v) h (putBack acc λa h=>turns r (kq x) jh (pN elt r acc) k n (gh (gp i (aG j 1))) (gg ρ x v) h):=by
 refine U hm ?_;have e:turns r (kq x) jh (pN elt r acc) k (aG n 1) (gh (gp i j)) ρ h=aA aq (λo=>af aq (aA (k h) (λv=>elt.f r (gg ρ x v) h (putBack acc λa h=>turns r (kq x) jh (pN elt r acc) k n (gh (gp i (aG j 1))) (gg ρ x v) h)) (sW o.xs j)) (ak o.t 1)) (HT.get h.l i):=rfl;refine U e (U hx ((?_:(aA (k h) _ (sW xs j):Option Res)=_)));exact U hn rfl
theorem BB (hm:m=aG n 1) (hx:HT.get h.l i=O (bK xs)) (hn:sW xs j=aq):turns r (kq x) jh (pN elt r acc) k m (gh (gp i j)) ρ h=k h:=by
 refine U hm ?_;have e:turns r (kq x) jh (pN elt r acc) k (aG n 1) (gh (gp i j)) ρ h=aA aq (λo=>af aq (aA (k h) (λv=>elt.f r (gg ρ x v) h (putBack acc λa h=>turns r (kq x) jh (pN elt r acc) k n (gh (gp i (aG j 1))) (gg ρ x v) h)) (sW o.xs j)) (ak o.t 1)) (HT.get h.l i):=rfl;refine U e (U hx ((?_:(aA (k h) _ (sW xs j):Option Res)=_)));exact U hn rfl
end
theorem M3 r s g kn kr:UJ.f r (rh (UH s)) (HH (k6 [(85,mT)] g) 87) kn kr=
 turns r (kq 245086182) jh (pN (xJ aj (kP (xC (bL 2779)) (dS (qB 245086182) ko))) r (bQ 1425408)) (λh=>kn (gg (rh (UH s)) 31083672806 (bQ 1425408)) h) 2000 (gh (gp 1392640 0)) (compEnv (rh (UH s))) (HC (k6 [(85,mT)] g) (t1 (bK [])) 87 1425409):=by kernel_rfl
theorem M4 {J n:Nat} (h:bO n (cJ 16384 (aG J 1))=H):(xJ d X).f r ρ (HC f t J n) k=X.f r ρ (HH (upd f J t) (aG J 1)) (λv h=>jump d h λh=>k v h):=ym (d:=aj) (k:=λh=>X.f r ρ h λv h=>jump d h λh=>k v h) h
theorem aaF g a K:putBack (bQ 1425408) K a (HH (k6 [(87,t1 (bK []))] g) 125)=K dc (HH (upd (k6 [(87,t1 (bK []))] g) 87 (t1 (bK [a]))) 125):=by kernel_rfl
theorem aaG g (a b) K:putBack (bQ 1425408) K a (HH (k6 [(87,t1 (bK [b]))] g) 163)=K dc (HH (upd (k6 [(87,t1 (bK [b]))] g) 87 (t1 (bK [b,a]))) 163):=by kernel_rfl
theorem F8 {J n:Nat} (h:f 85=t1 (bK xs)) (a:ak 85 J=aj):HT.get (HC f t J n).l 1392640=O (bK xs):=by
 have e:HT.get (HC f t J n).l 1392640=af (TR.get (f 85) 0) (TR.get t 0) (ak 85 J):=rfl;refine U e (U a ((?_:TR.get (f 85) 0=_)));refine U h ?_;rfl
def rL:TR:=t1 (bK [EO aj,EO H])
theorem lL5 (p q) s f (h:At f ((85,mT)::(iF aj p++iF H q))):∃g,(∀o w,(sJ aj (sL 5)).f (run KT 39) (rh (UH s)) (HH f 86) o w=o (rh (BA s)) (HH g 164))/\Fr 9999 f 86 g/\At g [(87,rL),(94,Jc p),(132,Jc q)]:=by
 have r0:Fr 9999 f 86 (upd (upd f 86 .nil) 87 (t1 (bK []))):=(Fr.refl.upd (.inl rfl)).upd (.inl rfl);have c:=h.fr r0 rfl;have hq:At (upd (upd f 86 .nil) 87 (t1 (bK []))) (iF H q):=c.2.2.2.2.2.2.2.2.2.2;refine jB (Hu aj p _ (⟨c.2.1,c.2.2.1,c.2.2.2.1,c.2.2.2.2.1,c.2.2.2.2.2.1,c.2.2.2.2.2.2.1,c.2.2.2.2.2.2.2.1,c.2.2.2.2.2.2.2.2.1,c.2.2.2.2.2.2.2.2.2.1,trivial⟩)) λB G d I=> ?_;have K:At (upd B 124 .nil) [(87,t1 (bK []))]:=⟨(jn rfl).trans (d 87 rfl rfl),trivial⟩;refine fF K.eq λS C=> ?_;have y:Fr 9999 (upd (upd f 86 .nil) 87 (t1 (bK []))) 87 (upd (upd (upd B 124 .nil) 87 (t1 (bK [EO aj]))) 125 .nil):=λj a u_=>((((d.to rfl).upd (.inl rfl)).upd (.inr rfl)).upd (.inl rfl)) j (cD.mpr (cI (cD.mp a))) (by
  induction e:ak j 87 using zB with
  |false=>rfl
  |true=>rw [bN e] at a;exact ff a)
 refine jB (Hu H q _ (hq.fr y rfl)) λD L u M=> ?_;have P:At (upd D 162 .nil) [(87,t1 (bK [EO aj]))]:=⟨(jn rfl).trans (u 87 rfl rfl),trivial⟩;refine fF P.eq λG2 E=>⟨upd (upd (upd D 162 .nil) 87 rL) 163 .nil,λo w=> ?_, ?_,rfl, ?_, ?_,trivial⟩
 .skip
  refine rK.trans ?_;have z:At (upd f 86 .nil) [(85,mT)]:=⟨h.1,trivial⟩;refine fF z.eq λQ R=> ?_;have F:=M3 (run KT 39) s Q (λρ h=>jump aj h λh=>o ρ h) (λv h=>jump aj h λh=>w v h);rw [<-R] at F;exact F.trans (bR (wJ (n:=1999) (xs:=[xP aj,xP H]) rfl (F8 h.1 rfl) rfl) (bR (M4 rfl) (bR (Hv (v:=xP aj) rfl) (bR (G _) (bR fk (U (show aG 124 1=125 from rfl) (U C (U (aaF ..) (cL C (bR (wJ (n:=1998) (xs:=[xP aj,xP H]) rfl (F8 (t:= .nil) (n:=2048000) (J:=125) (rfl.trans ((d 85 rfl rfl).trans h.1)) rfl) rfl) (bR xy (bR (Hv (v:=xP H) rfl) (bR (L _) (bR fk (U (show aG 162 1=163 from rfl) (U E (U (aaG ..) (cL E (bR (BB (n:=1997) (xs:=[xP aj,xP H]) rfl (F8 (t:= .nil) (n:=2670592) (J:=163) (rfl.trans ((u 85 rfl rfl).trans (rfl.trans ((d 85 rfl rfl).trans h.1)))) rfl) rfl) fk)))))))))))))))))))
 .intro j a A;have b:∀m,bE j 86=H->bO 86 m=H->ak j m=false:=λm h1 h2=>by
   induction e:ak j m using zB with
   |false=>rfl
   |true=>rw [bN e] at h1;exact absurd (cD.mp h1) (bC.mpr (aB h2))
  have l:∀m,bO 86 m=H->bE j m=true:=λm h2=>cD.mpr (aR (cD.mp a) (aB h2));exact(jn (b 163 a rfl)).trans ((jn (b 87 a rfl)).trans ((jn (b 162 a rfl)).trans ((u j (l 126 rfl) A).trans ((jn (b 125 a rfl)).trans ((jn (b 87 a rfl)).trans ((jn (b 124 a rfl)).trans ((d j (l 88 rfl) A).trans (r0 j a A))))))))
 .exact rfl.trans ((u 94 rfl rfl).trans (rfl.trans I))
 .exact rfl.trans M
end
section
def f6 (t u:Bool):Bool:=af aj u t
def eqB (a b:Bool):Bool:=Zf a b
theorem Af b:eqB b b=true:=by rcases b<;>rfl
theorem Hw b:eqB b (neg b)=false:=by rcases b<;>rfl
theorem BD b:f6 b H=b:=by rcases b<;>rfl
theorem t7 b:f6 b aj=false:=by rcases b<;>rfl
theorem vq f:uE f [] []=O true:=rfl
theorem eY {t u} (h1:f a b=O t) (h2:uE f x y=O u):uE f (a::x) (b::y)=O (f6 u t):=by
 refine(?_:(aA aq (λt=>aA aq (λu=>O (af aj u t)) (uE f x y)) (f a b):Option Bool)=_);refine U h1 (U h2 ?_);rcases t<;>rcases u<;>rfl
theorem C3 (e:uE (o8 h n) x y=O t):o8 h (aG n 1) (dM x) (dM y)=O t:=e
theorem qv0 h (p q):o8 h 59 (Xp p) (Xp q)=O (f6 (eqB p.b0 q.b0) (eqB p.b1 q.b1)):=by
 cases p;obtain⟨a,b,g,i,j,k,l,m,n,o,c,d,e,f⟩:=q
 (revert b0 a b1 b;refine F5 ?_;kernel_rfl)
theorem n1 h (b c) (x y:Nat) (hx:ak x y=aj):o8 h 58 (aW (sel b x y)) (aW (sel c x y))=O (eqB b c):=by
 have hy:ak y x=false:=by
  induction e:ak y x using zB with
  |false=>rfl
  |true=>rw [bN e,fy] at hx;exact ft hx
 rcases b<;>rcases c
 .show O (ak y y)=_;refine U (fy ..) ?_;rfl
 .show O (ak y x)=_;refine U hy ?_;rfl
 .show O (ak x y)=_;refine U hx ?_;rfl
 .show O (ak x x)=_;refine U (fy ..) ?_;rfl
theorem qv1 h (p q):o8 h 59 (Xq p) (Xq q)=O (f6 (f6 (f6 (f6 (f6 H (eqB p.vE q.vE)) (eqB p.b9 q.b9)) H) (eqB p.b3 q.b3)) (eqB p.b2 q.b2)):=by
 refine C3 (eY (n1 h _ _ 1048 1000 rfl) (eY (n1 h _ _ 799 800 rfl) (eY rfl (eY ?_ (eY ?_ (vq _))))))
 .rcases p.b9<;>rcases q.b9<;>kernel_rfl
 .rcases p.vE<;>rcases q.vE<;>kernel_rfl
theorem qv2 h (p q):o8 h 59 (Xr p) (Xr q)=O (f6 (f6 (f6 (f6 (f6 H (eqB p.b8 q.b8)) (eqB p.b7 q.b7)) (eqB p.b6 q.b6)) (eqB p.b5 q.b5)) (eqB p.b4 q.b4)):=by
 refine C3 (eY ?_ (eY ?_ (eY ?_ (eY ?_ (eY ?_ (vq _))))))
 .rcases p.b4<;>rcases q.b4<;>kernel_rfl
 .rcases p.b5<;>rcases q.b5<;>kernel_rfl
 .rcases p.b6<;>rcases q.b6<;>kernel_rfl
 .rcases p.b7<;>rcases q.b7<;>kernel_rfl
 .rcases p.b8<;>rcases q.b8<;>kernel_rfl
theorem qv3 h (p q):o8 h 59 (Xs p) (Xs q)=O (eqB p.oH q.oH):=by
 cases p;obtain⟨e,f,g,i,j,k,l,m,n,o,b,a,c,d⟩:=q
 (revert oH a;refine CY ?_;kernel_rfl)
theorem qv4 h (p q):o8 h 59 (Xu p) (Xu q)=O (eqB p.oJ q.oJ):=by
 cases p;obtain⟨e,f,g,i,j,k,l,m,n,o,b,c,a,d⟩:=q
 (revert oJ a;refine CY ?_;kernel_rfl)
theorem qv5 h (p q):o8 h 59 (Xv p) (Xv q)=O (eqB p.oq q.oq):=by
 cases p;obtain⟨e,f,g,i,j,k,l,m,n,o,b,c,d,a⟩:=q
 (revert oq a;refine CY ?_;kernel_rfl)
def same (p q:d8):Bool:=f6 (f6 (f6 (f6 (f6 (f6 H (eqB p.oq q.oq)) (eqB p.oJ q.oJ)) (eqB p.oH q.oH))
 (f6 (f6 (f6 (f6 (f6 H (eqB p.b8 q.b8)) (eqB p.b7 q.b7)) (eqB p.b6 q.b6)) (eqB p.b5 q.b5)) (eqB p.b4 q.b4)))
 (f6 (f6 (f6 (f6 (f6 H (eqB p.vE q.vE)) (eqB p.b9 q.b9)) H) (eqB p.b3 q.b3)) (eqB p.b2 q.b2))) (f6 (eqB p.b0 q.b0) (eqB p.b1 q.b1))
theorem Hx h (p q):o8 h 60 (Ez p) (Ez q)=O (same p q):=
 C3 (eY (qv0 h p q) (eY (qv1 h p q) (eY (qv2 h p q) (eY (qv3 h p q) (eY (qv4 h p q) (eY (qv5 h p q) (vq _)))))))
theorem M5 b:f6 aj b=false:=rfl
theorem F9 b:f6 H b=b:=rfl
theorem same_self p:same p p=true:=by
 unfold same;simp only [Af,F9]
theorem Je p:∀s,s<16->same p (flip p s)=bE 13 s:=by
 refine C2 ?_ ?_ ?_ ?_ ?_ ?_ ?_ ?_ ?_ ?_ ?_ ?_ ?_ ?_ (same_self p) (same_self p)
 all_goals
  cases p;unfold same flip;dsimp only [xb,sel,ak];simp only [Af,Hw,F9,BD,t7,M5];rfl
end
section
def gP (g g' t rest:Bool):Bool:=sel g (sel g' (f6 t rest) aj) rest
def BE (p p':d8) (g g' s s' q q' k k':Bool):Bool:=sel (ak (cA g s q k) (cA g' s' q' k'))
 (f6 (qv (Aa p) (Aa p')) (f6 (qv (Ab p) (Ab p')) (f6 (qv (Ac p) (Ac p')) (f6 H (f6 (qv (Ad p) (Ad p')) (gP g g' (qv (oh p) (oh p')) (gP s s' H (gP q q' H (gP k k' H H))))))))) aj
theorem Jf h (p p') (g g' s s' q q' k k'):Rh (o8 h 60) (d7 (Ux p g s q k) (cA g s q k)) (d7 (Ux p' g' s' q' k') (cA g' s' q' k'))=O (BE p p' g g' s s' q q' k k'):=by
 (revert g g' s s' q q' k k';refine tb8 ?_;kernel_rfl)
theorem UK (p q):qv (Aa p) (Aa q)=eqB p.b2 q.b2:=by
 cases p;obtain⟨f,g,a,h,i,j,k,l,m,n,b,c,d,e⟩:=q
 (revert b2 a;refine CY ?_;kernel_rfl)
theorem UL (p q):qv (Ab p) (Ab q)=f6 (eqB p.b3 q.b3) (eqB p.vE q.vE):=by
 cases p;obtain⟨f,g,h,b,i,j,k,l,m,n,a,c,d,e⟩:=q
 (revert b3 b vE a;refine F5 ?_;kernel_rfl)
theorem UM (p q):qv (Ac p) (Ac q)=f6 (eqB p.b9 q.b9) (eqB p.vE q.vE):=by
 cases p;obtain⟨f,g,h,i,j,k,l,m,n,b,a,c,d,e⟩:=q
 (revert b9 b vE a;refine F5 ?_;kernel_rfl)
theorem UN (p q):qv (Ad p) (Ad q)=f6 (eqB p.b0 q.b0) (eqB p.b1 q.b1):=by
 cases p;obtain⟨a,b,g,h,i,j,k,l,m,n,c,d,e,f⟩:=q
 (revert b0 a b1 b;refine F5 ?_;kernel_rfl)
theorem M6 l:qv l l=true:=by
 induction l with
 |nil=>rfl
 |cons a l b=>
  refine(?_:(af aj (qv l l) (ak a a):Bool)=H);refine U (fy ..) ?_;exact b
theorem Jg (s q k):gP s s H (gP q q H (gP k k H H))=true:=by rcases s<;>rcases q<;>rcases k<;>rfl
theorem Qt (g t) (ht:t=H):gP g g t H=true:=by subst ht;rcases g<;>rfl
theorem sj (h:ak (cA g s q k) (cA g' s' q' k')=aj):BE p p' g g' s s' q q' k k'=false:=by unfold BE;refine U h ?_;rfl
theorem EB:BE p p' g g s s q q k k=f6 (qv (Aa p) (Aa p')) (f6 (qv (Ab p) (Ab p')) (f6 (qv (Ac p) (Ac p')) (f6 H (f6 (qv (Ad p) (Ad p')) (gP g g (qv (oh p) (oh p')) H))))):=by
 unfold BE;refine U (fy ..) (U (Jg ..) ?_);rfl
def UO (p q:d8):Bool:=sel (jm p) (sel (jm q) (neg (qv (oh p) (oh q))) H) (jm q)
theorem Ag (h:UO p q=H):(jm p=H/\jm q=H/\qv (oh p) (oh q)=aj)\/jm q=neg (jm p):=by
 unfold UO at h
 induction e:jm p using zB with
 |false=>rw [e] at h;exact .inr h
 |true=>
  induction a:jm q using zB with
  |false=>exact .inr rfl
  |true=>
   rw [e,a] at h
   induction b:qv (oh p) (oh q) using zB with
   |false=>exact .inl (iW rfl rfl rfl)
   |true=>rw [b] at h;exact ff h
theorem Qu p:UO p (flip p 4)=true:=by
 cases p;revert b4 b5 b6 b7 b8;refine MT ?_;kernel_rfl
theorem Qv p:UO p (flip p 5)=true:=by
 cases p;revert b4 b5 b6 b7 b8;refine MT ?_;kernel_rfl
theorem Qw p:UO p (flip p 6)=true:=by
 cases p;revert b4 b5 b6 b7 b8;refine MT ?_;kernel_rfl
theorem Qx p:UO p (flip p 7)=true:=by
 cases p;revert b4 b5 b6 b7 b8;refine MT ?_;kernel_rfl
theorem Qy p:UO p (flip p 8)=true:=by
 cases p;revert b4 b5 b6 b7 b8;refine MT ?_;kernel_rfl
theorem XC (g s q k):ak (cA g s q k) (cA (neg g) s q k)=false:=by rcases g<;>rcases s<;>rcases q<;>rcases k<;>rfl
theorem XD (g s q k):ak (cA g s q k) (cA g (neg s) q k)=false:=by rcases g<;>rcases s<;>rcases q<;>rcases k<;>rfl
theorem XF (g s q k):ak (cA g s q k) (cA g s (neg q) k)=false:=by rcases g<;>rcases s<;>rcases q<;>rcases k<;>rfl
theorem XG (g s q k):ak (cA g s q k) (cA g s q (neg k))=false:=by rcases g<;>rcases s<;>rcases q<;>rcases k<;>rfl
def rM (p p':d8):Bool:=BE p p' (jm p) (jm p') p.oH p'.oH p.oJ p'.oJ p.oq p'.oq
theorem Jh (p p') (d:jm p'=jm p) (a:p'.oH=p.oH) (b:p'.oJ=p.oJ) (c:p'.oq=p.oq) (hb:oh p'=oh p):rM p p'=f6 (eqB p.b2 p'.b2) (f6 (f6 (eqB p.b3 p'.b3) (eqB p.vE p'.vE)) (f6 (f6 (eqB p.b9 p'.b9) (eqB p.vE p'.vE)) (f6 H (f6 (f6 (eqB p.b0 p'.b0) (eqB p.b1 p'.b1)) H)))):=by
 unfold rM;rw [d,a,b,c,EB,UK,UL,UM,UN,Qt _ _ (by refine U hb ?_;exact M6 _)]
theorem Ah (p p') (h:(jm p=H/\jm p'=H/\qv (oh p) (oh p')=aj)\/jm p'=neg (jm p)) (d:p'.oH=p.oH) (f:p'.oJ=p.oJ) (g:p'.oq=p.oq):rM p p'=false:=by
 unfold rM;refine U d (U f (U g ?_));rcases h with⟨a,b,c⟩|a
 .refine U a (U b (U EB (U c ?_)));have e:gP H H aj H=false:=rfl;refine U e ?_;simp only [t7]
 .refine U a ?_;exact sj (XC _ _ _ _)
theorem Ji p:∀s,s<16->rM p (flip p s)=bE 13 s:=by
 refine C2 ?_ ?_ ?_ ?_ (Ah p _ (Ag (Qu p)) rfl rfl rfl) (Ah p _ (Ag (Qv p)) rfl rfl rfl) (Ah p _ (Ag (Qw p)) rfl rfl rfl) (Ah p _ (Ag (Qx p)) rfl rfl rfl) (Ah p _ (Ag (Qy p)) rfl rfl rfl) ?_ ?_ (sj (XD _ _ _ _)) (sj (XF _ _ _ _)) (sj (XG _ _ _ _)) ?_ ?_
 all_goals
  refine bR (Jh p _ (by rfl) (by rfl) (by rfl) (by rfl) (by rfl)) ?_;cases p;unfold flip;dsimp only [xb,sel,ak];simp only [Af,Hw,F9,BD,t7,M5];rfl
theorem M7 h p s (a:s<16):Rh (o8 h 60) (d7 (Ux p (jm p) p.oH p.oJ p.oq) (cA (jm p) p.oH p.oJ p.oq)) (d7 (Ux (flip p s) (jm (flip p s)) (flip p s).oH (flip p s).oJ (flip p s).oq) (cA (jm (flip p s)) (flip p s).oH (flip p s).oJ (flip p s).oq))=O (bE 13 s):=
 (Jf h p (flip p s) _ _ _ _ _ _ _ _).trans (congrArg O (Ji p s a))
end
set_option backward.match.sparseCases false
section
def wK (k:Nat):Stmt:=K.sO (K.fnBody (K.top 373)) k
def Za (e:Expr) (k:Nat):Expr:=match e with
 | .BoolOp _ es _=>K.Eo es k
 |e=>e
noncomputable def NP:Expr->Expr
 | .Compare a _ _ _=>a
 |e=>e
def XH:Expr->Expr
 | .Compare _ _ es _=>K.Eo es 0
 |e=>e
def cE (e:Expr):XE:=cS K.G K.Ms 30 (CZ (K.top 373)) e
def XA0:XE:=cE (NP (NP (Za (C0 (wK 6)) 0)))
def XA1:XE:=cE (XH (NP (Za (C0 (wK 6)) 0)))
def XF0:XE:=cE (NP (NP (Za (C0 (wK 6)) 1)))
def XF1:XE:=cE (XH (NP (Za (C0 (wK 6)) 1)))
def M8 (k:Nat):XS:=Kd K.G K.Ms (CZ (K.top 373)) [ifB (wK k)]
def UP:XE:=BZ Zh (qB 245102707) (xC (aW 13))
def XJ:XT:=Dl aj (E0 Rm (BZ JA (xJ H XA0) (xJ H XA1)) UP) (E0 Rm (BZ JA XF0 XF1) UP)
theorem sL6:sL 6=Dn XJ (M8 6) E6:=by kernel_rfl
def Qz (p q:d8):List (Nat×TR):=[(85,mT),(87,rL),(94,Jc p),(132,Jc q),(3,tP p),(35,tP q)]
theorem QA r s p f (h:At f [(85,mT),(59,Vp aj p)]) k:XA0.f r (rh (BA s)) (HH f 166) k=r (bL 2695) [xP aj] (HH f 166) k:=by
 refine fF h.eq λg a=> ?_;subst a;clear h;kernel_rfl
theorem QB r s q f (h:At f [(85,mT),(83,Vp H q)]) k:XA1.f r (rh (BA s)) (HH f 182) k=r (bL 2695) [xP H] (HH f 182) k:=by
 refine fF h.eq λg a=> ?_;subst a;clear h;kernel_rfl
theorem QC r s f (h:At f [(87,rL)]) k:XF0.f r (rh (BA s)) (HH f 197) k=k (EO aj) (HH f 197):=by
 refine fF h.eq λg a=> ?_;subst a;clear h;kernel_rfl
theorem QD r s f (h:At f [(87,rL)]) k:XF1.f r (rh (BA s)) (HH f 197) k=k (EO H) (HH f 197):=by
 refine fF h.eq λg a=> ?_;subst a;clear h;kernel_rfl
theorem EC r s h k:UP.f r (rh (BA s)) h k=k (vBool (bE 13 s)) h:=by kernel_rfl
theorem ED b h k:Rm (vBool b) (vBool b) h k=k aj h:=by rcases b<;>rfl
theorem Hy (c:ak a.t 6=aj) (e:o8 h 60 a b=O t):JA a b h k=k t h:=by
 refine(?_:(af (lift (o8 h 60 a b) h k) _ (ak a.t 6):Option Res)=_);refine U c ((?_:(aA aq (λt=>k t h) (o8 h 60 a b):Option Res)=_));exact U e rfl
theorem Jj {i j c c'} (hi:HT.get h.l i=O (d7 x c)) (a:HT.get h.l j=O (d7 y c')) (e:Rh (o8 h 60) (d7 x c) (d7 y c')=O t):JA (bQ i) (bQ j) h k=k t h:=by
 have b:JA (bQ i) (bQ j) h k=aA aq (λo=>af (lift (o8 h 60 (bQ i) (bQ j)) h k) (aA aq (λo'=>lift (Rh (o8 h 60) o o') h k) (HT.get h.l j)) (ak o.t 2)) (HT.get h.l i):=rfl;refine U b (U hi (U a ((?_:(aA aq (λt=>k t h) (Rh (o8 h 60) (d7 x c) (d7 y c')):Option Res)=_))));exact U e rfl
theorem Jk (c:∀k,a.f r ρ h k=k aj h1) (d:∀k,b.f r ρ h1 k=k aj h2):(Dl aj a b).f r ρ h k=k aj h2:=U (c ..) (d k)
theorem Ai {op:V->V->M Bool} {x y} {t} (c:∀k,a.f r ρ h k=k x h1) (d:∀k,b.f r ρ h1 k=k y h2) (e:∀k,op x y h2 k=k t h2):(E0 op a b).f r ρ h k=k t h2:=
 (c _).trans ((d _).trans (e _))
theorem Aj {op:V->V->M Bool} (c:∀k,a.f r ρ h k=k x h1) (d:∀k,b.f r ρ h1 k=k y h2) (e:∀k,op x y h2 k=k t h2):(BZ op a b).f r ρ h k=k (vBool t) h2:=
 (c _).trans ((d _).trans (e _))
theorem ite_no {J J0 J1 J2:Nat} {kr} (b:J0=aG J 1) (c:J2=aG J1 3) (e:∀k,T.f r ρ (HH (upd f J .nil) J0) k=k aj (HH g J1)):(sJ H (Dn T a E6)).f r ρ (HH f J) kn kr=kn ρ (HH (upd (upd (upd g J1 .nil) (aG J1 1) .nil) (aG J1 2) .nil) J2):=by
 subst b;subst c;refine bR rK (bR (e _) ((?_:jump aj (HH g J1) (λh=>jump aj h λh=>jump H h λh=>kn ρ h)=_)));exact fk.trans (fk.trans fk)
theorem lL6 p s (l:s<16) f (h1:At f (iF aj p)) (h2:At f (iF H (flip p s))) (i:At f (Qz p (flip p s))):∃g,(∀j m,(sJ H (sL 6)).f (run KT 39) (rh (BA s)) (HH f 164) j m=j (rh (BA s)) (HH g 200))/\Fr 9999 f 164 g:=by
 have r0:Fr 9999 f 164 (upd (upd f 164 .nil) 165 .nil):=(Fr.refl.upd (.inl rfl)).upd (.inl rfl);refine dN (C1 .a p (upd (upd f 164 .nil) 165 .nil) (h1.fr r0 rfl)) λn q r=> ?_;have e:Fr 9999 f 164 (upd (upd n 180 .nil) 181 .nil):=((r0.trans r rfl).upd (.inl rfl)).upd (.inl rfl);refine dN (C1 .b (flip p s) (upd (upd n 180 .nil) 181 .nil) (h2.fr e rfl)) λd u v=> ?_;have o:Fr 9999 f 164 (upd d 196 .nil):=(e.trans v rfl).upd (.inl rfl);have h:=i.fr o rfl;refine bV _ (λj m=> ?_) (((o.upd (k:=197) (t:= .nil) (.inl rfl)).upd (k:=198) (t:= .nil) (.inl rfl)).upd (k:=199) (t:= .nil) (.inl rfl));refine U sL6 ?_;have w:∀k,(BZ JA XF0 XF1).f (run KT 39) (rh (BA s)) (HH (upd d 196 .nil) 197) k=k (vBool (bE 13 s)) (HH (upd d 196 .nil) 197):=λk=>Aj (QC _ s _ ⟨h.2.1,trivial⟩) (QD _ s _ ⟨h.2.1,trivial⟩) λk=>Jj (x:=Ux p (jm p) p.oH p.oJ p.oq) (c:=cA (jm p) p.oH p.oJ p.oq) (y:=Ux (flip p s) (jm (flip p s)) (flip p s).oH (flip p s).oJ (flip p s).oq) (c':=cA (jm (flip p s)) (flip p s).oH (flip p s).oJ (flip p s).oq)
  ((show _=TR.get (upd d 196 .nil 94) 0 from rfl).trans (U h.2.2.1 rfl)) ((show _=TR.get (upd d 196 .nil 132) 0 from rfl).trans (U h.2.2.2.1 rfl)) (M7 _ p s l)
 exact ite_no (J0:=165) (J1:=197) rfl rfl λk=>Jk (λk=>Ai (λk=>Aj (λk=>bR xy (bR (QA _ s p _ (iW (i.fr r0 rfl).1 (h1.fr r0 rfl).2.2.2.2.2.2.2.2.1 trivial) _) (bR (q _) fk))) (λk=>bR xy (bR (QB _ s (flip p s) _ (iW (i.fr e rfl).1 (h2.fr e rfl).2.2.2.2.2.2.2.2.1 trivial) _) (bR (u _) fk))) λk=>Hy rfl ((Hx _ p (flip p s)).trans (congrArg O (Je p s l)))) (EC _ s _) (ED _ _)) (λk=>Ai w (EC _ s _) (ED _ _))
end
section
def XO (e:Expr) (k:Nat):Expr:=match e with
 | .List es _=>K.Eo es k
 |e=>e
def XS0:XE:=cE (XO (NP (C0 (wK 7))) 0)
def XS1:XE:=cE (XO (NP (C0 (wK 7))) 1)
def XG0:XE:=cE (XO (XH (C0 (wK 7))) 0)
def XG1:XE:=cE (XO (XH (C0 (wK 7))) 1)
def test7:XT:=E0 Rm (wY (dS (xJ aj XS0) (dS (xJ aj XS1) ko))) (wY (dS (xJ aj XG0) (dS (xJ aj XG1) ko)))
theorem sL7:sL 7=Dn test7 (M8 7) E6:=by kernel_rfl
def Ak (g s q k:Bool):List V:=app (sel g [MV] []) (app (sel q [MX] []) (app (sel s [MW] []) (app [vStr [99,109,97,112],vStr [104,101,97,100],vStr [104,104,101,97],vStr [104,109,116,120]] (app (sel k [MY] []) [vStr [109,97,120,112]]))))
def XU (g s q k:Bool):List V:=app [vStr [99,109,97,112],vStr [104,101,97,100],vStr [104,104,101,97],vStr [104,109,116,120],vStr [109,97,120,112]] (app (sel g [MV] []) (app (sel s [MW] []) (app (sel q [MX] []) (sel k [MY] []))))
def aaJ (l:List aeu):Nat->TR->TR:=aQ (λu_ t=>t) (λo u_ ih i t=>ih (aG i 1) (TR.ins o t i)) l
def tGo (g s q k:Bool) (a b c d:List V):TR:=aaJ [bK (XU g s q k),bK [aW 4,aW 5,aW 6,aW 7,aW 8],bK [aW 11],bK [aW 12],bK [aW 13],bK a,bK b,bK c,bK d,bK (Ak g s q k)] 0 .nil
def tG (p:d8):TR:=tGo (jm p) p.oH p.oJ p.oq [vB p.b4,vB p.b5,vB p.b6,vB p.b7,vB p.b8] [vB p.oH] [vB p.oJ] [vB p.oq]
theorem lS0 t p (g s q k):eV 9999 (xJ aj XS0) (run KT 39) (rh (BA t)) 201 [(87,rL),(94,tA p g s q k)] (bQ 3309568) 203 [(202,t1 (bK (Ak g s q k)))]:=
 eV.mk (λf=>upd (upd f 201 .nil) 202 (t1 (bK (Ak g s q k)))) (λf a=>by
  (revert g s q k;refine F5 ?_;kernel_rfl)) (λf=>(Fr.refl.upd (.inl rfl)).upd (.inl rfl)) (λf=>⟨rfl,trivial⟩)
theorem lS1 t p (g s q k):eV 9999 (xJ aj XS1) (run KT 39) (rh (BA t)) 203 [(87,rL),(132,tA p g s q k)] (bQ 3342336) 205 [(204,t1 (bK (Ak g s q k)))]:=
 eV.mk (λf=>upd (upd f 203 .nil) 204 (t1 (bK (Ak g s q k)))) (λf a=>by
  (revert g s q k;refine F5 ?_;kernel_rfl)) (λf=>(Fr.refl.upd (.inl rfl)).upd (.inl rfl)) (λf=>⟨rfl,trivial⟩)
def vt (a b:Nat):TR:=t1 (bK [bQ a,bQ b])
theorem lG0 t p f (h:At f [(3,tP p)]) k:(xJ aj XG0).f (run KT 39) (rh (BA t)) (HC f (vt 3309568 3342336) 205 3358721) k=k (bQ 3375113) (HH (upd (upd f 205 (vt 3309568 3342336)) 206 (tG p)) 207):=by
 refine fF h.eq λg a=> ?_;subst a;clear h;cases p;revert oH oJ oq;refine Ja ?_;revert b4 b5 b6 b7 b8;refine h5 ?_ ?_<;>kernel_rfl
theorem lG1 t p f (h:At f [(35,tP p)]) k:(xJ aj XG1).f (run KT 39) (rh (BA t)) (HH f 207) k=k (bQ 3407881) (HH (upd (upd f 207 .nil) 208 (tG p)) 209):=by
 refine fF h.eq λg a=> ?_;subst a;clear h;cases p;revert oH oJ oq;refine Ja ?_;revert b4 b5 b6 b7 b8;refine h5 ?_ ?_<;>kernel_rfl
end
set_option backward.match.sparseCases true
section
theorem XW F t (g s q k) (a b c d) (h:At F [(202,t1 (bK (Ak g s q k))),(206,tGo g s q k a b c d)]):o8 (HC F t 209 3424257) 59 (bQ 3309568) (bQ 3375113)=O true:=by
 refine fF h.eq λF e=> ?_;subst e;clear h
 (revert g s q k;refine F5 ?_;kernel_rfl)
theorem XX F t (g s q k) (a b c d) (h:At F [(204,t1 (bK (Ak g s q k))),(208,tGo g s q k a b c d)]):o8 (HC F t 209 3424257) 59 (bQ 3342336) (bQ 3407881)=O true:=by
 refine fF h.eq λF e=> ?_;subst e;clear h
 (revert g s q k;refine F5 ?_;kernel_rfl)
theorem Jl {x y} (hi:HT.get h.l i=O (bK x)) (a:HT.get h.l j=O (bK y)) (hl:ak (len x) (len y)=H) (e:uE (o8 h 59) x y=O H):Rm (bQ i) (bQ j) h k=k aj h:=by
 have b:Rm (bQ i) (bQ j) h k=aA aq (λo=>af (aA aq (λt=>k (neg t) h) (aA aq (λx=>aA aq (λy=>Zg (o8 h 59) x y) (HT.get h.l j)) (HT.get h.l i))) (aA aq (λo'=>lift (Rh (o8 h 60) o o') h λt h=>k (neg t) h) (HT.get h.l j)) (ak o.t 2)) (HT.get h.l i):=rfl;refine U b (U hi (U a ((?_:(aA aq (λt=>k (neg t) h) (af (O aj) (uE (o8 h 59) x y) (ak (len x) (len y)):Option Bool):Option Res)=_))));refine U hl ((?_:(aA aq (λt=>k (neg t) h) (uE (o8 h 59) x y):Option Res)=_));refine U e ?_;rfl
theorem XY f K:new (bK [bQ 3309568,bQ 3342336]) (HH f 205) K=K (bQ 3358720) (HC f (vt 3309568 3342336) 205 3358721):=by kernel_rfl
theorem XZ f K:new (bK [bQ 3375113,bQ 3407881]) (HH f 209) K=K (bQ 3424256) (HC f (vt 3375113 3407881) 209 3424257):=by kernel_rfl
theorem Sd (A B):(wY (dS A (dS B ko))).f r ρ h k=A.f r ρ h λa h=>B.f r ρ h λb h=>new (bK [a,b]) h k:=rfl
theorem QE {J J0 J1 J2 n:Nat} {kr} (b:J0=aG J 1) (c:J2=aG J1 3) (hn:bO n (cJ 16384 (aG J1 1))=H) (e:∀k,T.f r ρ (HH (upd f J .nil) J0) k=k aj (HC g t J1 n)):
 (sJ H (Dn T a E6)).f r ρ (HH f J) kn kr=kn ρ (HH (upd (upd (upd g J1 t) (aG J1 1) .nil) (aG J1 2) .nil) J2):=by
 subst b;subst c;refine bR rK (bR (e _) ((?_:jump aj (HC g t J1 n) (λh=>jump aj h λh=>jump H h λh=>kn ρ h)=_)));exact(ym hn).trans (fk.trans fk)
theorem lL7 (p q) s f (h:At f (Qz p q)):∃g,(∀c i,(sJ H (sL 7)).f (run KT 39) (rh (BA s)) (HH f 200) c i=c (rh (BA s)) (HH g 212))/\Fr 9999 f 200 g:=by
 have r0:Fr 9999 f 200 (upd f 200 .nil):=Fr.refl.upd (.inl rfl);have d:=h.fr r0 rfl;refine jB (lS0 s p (jm p) p.oH p.oJ p.oq _ (iW d.2.1 d.2.2.1 trivial)) λl m j o=> ?_;have h1:=d.fr j rfl;refine jB (lS1 s q (jm q) q.oH q.oJ q.oq l (iW h1.2.1 h1.2.2.2.1 trivial)) λa r e v=> ?_;have h2:=h1.fr e rfl;have b:Fr 9999 a 205 (upd (upd a 205 (vt 3309568 3342336)) 206 (tG p)):=(Fr.refl.upd (.inl rfl)).upd (.inl rfl);have w:Fr 9999 (upd (upd a 205 (vt 3309568 3342336)) 206 (tG p)) 207 (upd (upd (upd (upd a 205 (vt 3309568 3342336)) 206 (tG p)) 207 .nil) 208 (tG q)):=(Fr.refl.upd (.inl rfl)).upd (.inl rfl);refine bV _ (λc i=> ?_) ((((((r0.trans j rfl).trans e rfl).trans b rfl).trans w rfl).upd (k:=209) (t:=vt 3375113 3407881) (.inl rfl)|>.upd (k:=210) (t:= .nil) (.inl rfl)).upd (k:=211) (t:= .nil) (.inl rfl));refine U sL7 (QE (J0:=201) (J1:=209) (n:=3424257) rfl rfl rfl λk=>Ai (x:=bQ 3358720) (y:=bQ 3424256) (h1:=HC a (vt 3309568 3342336) 205 3358721) (λk=> ?_) (λk=> ?_) λk=> ?_)
 .exact bR (Sd _ _) (bR (m _) (bR (r _) (XY _ _)))
 .exact bR (Sd _ _) (bR ((lG0 s p a ⟨h2.2.2.2.2.1,trivial⟩) _) (bR ((lG1 s q _ ⟨(h2.fr b rfl).2.2.2.2.2.1,trivial⟩) _) (XZ _ _)))
 .refine Jl (x:=[bQ 3309568,bQ 3342336]) (y:=[bQ 3375113,bQ 3407881]) rfl rfl rfl (eY (t:=H) (u:=H) ?_ (eY (t:=H) (u:=H) ?_ (vq _)))
  .exact XW _ _ _ _ _ _ _ _ _ _ (iW ((o.fr e rfl).fr b rfl).1 rfl trivial)
  .exact XX _ _ _ _ _ _ _ _ _ _ (iW (v.fr b rfl).1 rfl trivial)
end
set_option backward.match.sparseCases false
section
noncomputable def atO:Expr->Expr
 | .Call (.Attribute o _ _) _ _ _=>o
 |e=>e
def XB:XE:=cE (NP (F6 (wK 8)))
def Zb:XE:=cS K.G K.Ms 29 (CZ (K.top 373)) (atO (NP (F6 (wK 8))))
def XB1:XE:=cE (XH (F6 (wK 8)))
theorem X0:XB=Dk Zb (nm "told") (K.Ms (nm "told")) (Sx (nm "told")) (Sy (nm "told")) ko:=by kernel_rfl
theorem QF r s f (h:At f [(87,rL)]) k:Zb.f r (rh (BA s)) (HH f 214) k=r (bL 2737) [EO H] (HH f 214) k:=by
 refine fF h.eq λg a=> ?_;subst a;clear h;kernel_rfl
def Se (r:Ap) (k:V->aev->Option Res) (ov:V) (h:aev):Option Res:=(Dk (xC ov) (nm "told") (K.Ms (nm "told")) (Sx (nm "told")) (Sy (nm "told")) ko).f r (rh []) h k
theorem UQ r ρ h k:(Dk Zb (nm "told") (K.Ms (nm "told")) (Sx (nm "told")) (Sy (nm "told")) ko).f r ρ h k=Zb.f r ρ h (Se r k):=rfl
theorem Jm r p f (h:At f [(230,NO p)]) k:Se r k Sb (HH f 232)=r (bL 2695) [Sb] (HH f 232) k:=by
 refine fF h.eq λg a=> ?_;subst a;clear h;kernel_rfl
theorem QG r s q f (h:At f [(85,mT),(83,Vp H q)]) k:XB1.f r (rh (BA s)) (HH f 248) k=r (bL 2695) [xP H] (HH f 248) k:=by
 refine fF h.eq λg a=> ?_;subst a;clear h;kernel_rfl
theorem lL8 (p q) s f (h2:At f (iF H q)) (e:At f (Qz p q)):∃g,∀i a,(sJ aj (sL 8)).f (run KT 39) (rh (BA s)) (HH f 212) i a=a (vBool H) (HH g 264):=by
 have r0:Fr 9999 f 212 (upd (upd f 212 .nil) 213 .nil):=(Fr.refl.upd (.inl rfl)).upd (.inl rfl);have j:=e.fr r0 rfl;refine jB (Qp q _ ⟨j.2.2.2.1,trivial⟩) λm n o l=>dN (Qq q m l) λb r t=> ?_;have d:Fr 9999 f 212 (upd (upd b 246 .nil) 247 .nil):=((((r0.trans o rfl).trans t rfl).upd (.inl rfl)).upd (.inl rfl));refine dN (C1 .c q (upd (upd b 246 .nil) 247 .nil) (h2.fr d rfl)) λu w y=>⟨upd (upd u 262 .nil) 263 .nil,λi a=> ?_⟩;have x:∀k,(xJ H XB).f (run KT 39) (rh (BA s)) (HH (upd f 212 .nil) 213) k=k (Ez q) (HH (upd b 246 .nil) 247):=λk=>by
  refine bR xy (U X0 (U (UQ ..) (bR (QF _ s _ ⟨j.2.1,trivial⟩ _) (bR (n _) (bR (Jm _ q _ ⟨l.2.1,trivial⟩ _) (bR (r _) fk))))))
 refine bR rK ((?_:(BZ JA (xJ H XB) (xJ H XB1)).f (run KT 39) (rh (BA s)) (HH (upd f 212 .nil) 213) (λv h=>jump aj h λh=>a v h)=_));exact bR (Aj x (λk=>bR xy (bR (QG _ s q _ (iW (e.fr d rfl).1 (h2.fr d rfl).2.2.2.2.2.2.2.2.1 trivial) _) (bR (w _) fk))) λk=>Hy rfl ((Hx _ q q).trans (congrArg O (same_self q)))) fk
def Hz:XS:=fB (sJ aj (sL 3)) (fB (sJ aj (sL 4)) (fB (sJ aj (sL 5)) (fB (sJ H (sL 6)) (fB (sJ H (sL 7)) (fB (sJ aj (sL 8)) vZ)))))
theorem M9 p s (j:s<16) f (h:At f [(3,tP p)]):∃g,∀b c,Hz.f (run KT 39) (rh (Vr s)) (HH f 34) b c=c (vBool H) (HH g 264):=by
 refine fF h.eq λF hF=> ?_;have r:∀b c,(sJ aj (sL 3)).f (run KT 39) (rh (Vr s)) (HH f 34) b c=b (rh (Xz s)) (HH (upd (upd f 34 .nil) 35 (tP (flip p s))) 36):=λb c=>U hF (lL3 p F b c s j);have t:Fr 9999 f 34 (upd (upd f 34 .nil) 35 (tP (flip p s))):=(Fr.refl.upd (.inl rfl)).upd (.inl rfl);have k:At (upd (upd f 34 .nil) 35 (tP (flip p s))) [(3,tP p),(35,tP (flip p s))]:=iW ((h.fr t rfl).1) rfl trivial;refine jB (lL4 p (flip p s) s _ k) λu v w l=>jB (lL5 p (flip p s) s u l) λe x m i=> ?_;have n:=(k.fr w rfl).fr m rfl;have a:=l.fr m rfl;have hq:At e (iF H (flip p s)):=a.2.2.2.2.2.2.2.2.2.2;have hl:At e (Qz p (flip p s)):=⟨a.1,i.1,i.2.1,i.2.2.1,n.1,n.2.1,trivial⟩;refine dN (lL6 p s j e (⟨a.2.1,a.2.2.1,a.2.2.2.1,a.2.2.2.2.1,a.2.2.2.2.2.1,a.2.2.2.2.2.2.1,a.2.2.2.2.2.2.2.1,a.2.2.2.2.2.2.2.2.1,a.2.2.2.2.2.2.2.2.2.1,trivial⟩) hq hl) λy z o=> ?_;have d:=hl.fr o rfl;exact dN (lL7 p (flip p s) s y d) λA B q=>fF (lL8 p (flip p s) s A ((hq.fr o rfl).fr q rfl) (d.fr q rfl)) λC D=>⟨C,λb c=>di r (di v (di x (di z (di B (pV D)))))⟩
end
section
def X3 (us:List Nat) (i:Nat):Nat:=aA 0 (λu=>u) (sW us i)
def fT (us:List Nat) (a many:Nat):Nat:=jo (af (aG (af (gy (X3 us (jo a (len us))) (Nat.pow 16 (gy a (len us)))) 0 (isNil us)) (gy (cJ a a) 3)) (X3 us a) (bE a (len us))) many
def PT (c:List V) (us:List Nat) (a:Nat):TR:= .node (O (bK c)) (.node (O (bK (kM aW us))) .nil .nil) (.node (O (bK [bQ 16385,aW a])) .nil .nil)
def dT (us:List Nat) (a:Nat):TR:=af (t1 (bK [])) .nil (bE a (len us))
def xA (many:Nat):XE:=kP (xC (bL 2786)) (dS (Dj 1815280) (dS (xC (aW many)) ko))
def rD (v:V):Env:=⟨[(245102707,v)],[(4016016503283,bQ 0),(1815280,bQ 16386)]⟩
def UR (c:List V) (us:List Nat) (a:Nat):Prop:=∀(v:V) (g:Nat->TR) (k:V->aev->Option Res),(xA 2).f (run KT 39) (rD v) (HH (k6 [(1,PT c us a)] g) (aG 4 (cJ 2 a))) (λv h=>jump aj h λh=>k v h)=
 k (aW (fT us a 2)) (HH (upd (upd (k6 [(1,PT c us a)] g) 1 (PT c us (aG a 1))) (aG 4 (cJ 2 a)) (dT us a)) (aG 5 (cJ 2 a)))
theorem QH {P:Nat->Prop} (e:P 0) (h1:P 1) (h2:P 2) (f:P 3) (g:P 4) (i:P 5) (j:P 6) (k:P 7) (l:P 8) (m:P 9) (a:P 10) (b:P 11) (c:P 12) (d:P 13):∀s,s<14->P s:=kj (kj (kj (kj (kj (kj (kj (kj (kj (kj (kj (kj (kj (kj (λs h=>absurd h (ku s)) e) h1) h2) f) g) i) j) k) l) m) a) b) c) d
theorem draws c us:∀a,a<14->UR c us a:=by
 refine QH ?_ ?_ ?_ ?_ ?_ ?_ ?_ ?_ ?_ ?_ ?_ ?_ ?_ ?_
 all_goals
  intro v g k;revert us;refine Hq 14 ?_;kernel_rfl
end
set_option backward.match.sparseCases true
section
def aaL:XS:=jv (kq 1668975) (yN (xJ aj (xA 2)) (kq 245102707) (EZ (dS (xC (aW 14)) ko)) jh)
def rP (l:List (Nat×V)):Env:=⟨l,[(4016016503283,bQ 0),(1815280,bQ 16386)]⟩
def X4:Env:=rh [(4016016503283,bQ 0),(1815280,bQ 16386)]
theorem US r g kn kr:aaL.f r X4 (HH g 3) kn kr=
 turns r (kq 245102707) jh (pN (xJ aj (xA 2)) r (bQ 49152)) (λh=>kn (gg X4 1668975 (bQ 49152)) h) 2000 (gh (dR (NV 14 0))) (rP []) (HC g (t1 (bK [])) 3 49153):=by kernel_rfl
theorem EE {x n:Nat}:turns r (kq x) jh (pN elt r acc) k (aG n 1) (gh (dR (v::l))) ρ h=
 elt.f r (gg ρ x v) h (putBack acc λa h=>turns r (kq x) jh (pN elt r acc) k n (gh (dR l)) (gg ρ x v) h):=rfl
theorem Na {x n:Nat}:turns r (kq x) jh (pN elt r acc) k (aG n 1) (gh (dR [])) ρ h=k h:=rfl
theorem wL (h:l.length<=1000000):oLe (bK l)=true:=by
 refine(?_:bO (aG (len l) (aG (len ([]:List (V×V))) (aG (len ([]:List Nat)) (len ([]:List (Nat×V)))))) 1000000=H);exact U (len_eq ..) (mw h)
theorem put3 {J:Nat} (h:At g [(3,t1 (bK a))]) (b:ak 3 J=aj) (hl:a.length<1000000):putBack (bQ 49152) K v (HH g J)=K dc (HH (upd g 3 (t1 (bK (a++[v])))) J):=by
 have e:putBack (bQ 49152) K v (HH g J)=aA aq (λo=>af aq (af aq (K dc ⟨HT.ins (bK (app o.xs [v])) (HH g J).l 49152,(HH g J).n⟩) (oLe (bK (app o.xs [v])))) (ak o.t 1)) (HT.get (HH g J).l 49152):=rfl;have c:HT.get (HH g J).l 49152=af (TR.get (g 3) 0) aq (ak 3 J):=rfl;have d:∀o,HT.ins o (HH g J).l 49152=af ⟨upd g 3 (TR.ins o (g 3) 0),.nil,J⟩ ⟨g,TR.ins o .nil 0,J⟩ (ak 3 J):=λo=>rfl;refine U e (U c (U b ((?_:(aA aq _ (TR.get (g 3) 0):Option Res)=_))));refine U h.1 ((?_:(af aq (K dc ⟨HT.ins (bK (app a [v])) (HH g J).l 49152,(HH g J).n⟩) (oLe (bK (app a [v]))):Option Res)=_));refine U (mL ..) (U (wL (by simp;exact pZ hl)) (U (d ..) (U b ((?_:K dc ⟨⟨upd g 3 (TR.ins (bK (a++[v])) (g 3) 0),.nil,J⟩,_⟩=_)))));refine U h.1 ?_;rfl
theorem Sf (p:a<14) (b:gg ρ 245102707 (aW a)=rD (aW a)) (j:At f [(1,PT c us a),(3,t1 (bK acc))]) (hl:acc.length<1000):
 ∃g,At g [(1,PT c us (aG a 1)),(3,t1 (bK (acc++[aW (fT us a 2)])))]/\
  ∀k,(xA 2).f (run KT 39) (gg ρ 245102707 (aW a)) (HH f (aG 4 (cJ 2 a))) (λv h=>jump aj h λh=>putBack (bQ 49152) (λq h=>turns (run KT 39) (kq 245102707) jh (pN (xJ aj (xA 2)) (run KT 39) (bQ 49152)) k n (gh (dR l)) (gg ρ 245102707 (aW a)) h) v h)=
  turns (run KT 39) (kq 245102707) jh (pN (xJ aj (xA 2)) (run KT 39) (bQ 49152)) k n (gh (dR l)) (rD (aW a)) (HH g (aG 5 (cJ 2 a))):=by
 have h1:At f [(1,PT c us a)]:=⟨j.1,trivial⟩;refine fF h1.eq λF hF=> ?_;have d:∀i m,i<4->4<=m->ak i m=false:=λi m h1 h2=>by
  induction e:ak i m using zB with
  |false=>rfl
  |true=>have:=bN e;lia
 have o:4<=aG 4 (cJ 2 a):=d9 _ _;refine bV (upd (upd (upd f 1 (PT c us (aG a 1))) (aG 4 (cJ 2 a)) (dT us a)) 3 (t1 (bK (acc++[aW (fT us a 2)])))) (iW (jn (d 1 _ (fG 2) o)) rfl trivial) (λk=>(U b ?_));have e:=draws c us a p (aW a) F (putBack (bQ 49152) λq h=>turns (run KT 39) (kq 245102707) jh (pN (xJ aj (xA 2)) (run KT 39) (bQ 49152)) k n (gh (dR l)) (rD (aW a)) h);rw [<-hF] at e;exact e.trans (put3 ⟨((jn (d 3 _ (Nat.lt_add_one 3) o)).trans j.2.1),trivial⟩ (d 3 _ (Nat.lt_add_one 3) (aI (aB rfl:4<=5) (d9 _ _))) (by lia))
def Al (us:List Nat) (a:Nat):List V:=(List.range a).map λi=>aW (fT us i 2)
theorem UT:∀n a m f,n+a=14->n<m->0<a->At f [(1,PT c us a),(3,t1 (bK (Al us a)))]->∀v,
 ∃g,g 3=t1 (bK (Al us 14))/\g 1=PT c us 14/\∀k,turns (run KT 39) (kq 245102707) jh (pN (xJ aj (xA 2)) (run KT 39) (bQ 49152)) k m (gh (dR (NV n a))) (rD v) (HH f (aG 3 (cJ 2 a)))=k (HH g 31):=by
 intro n
 induction n with
 |zero=>
  intro a m f ha hm h0 hf v;have ha:a=14:=gG (Nat.add_left_cancel (id (gG ha)));subst ha;obtain⟨m,rfl⟩:∃m',m=aG m' 1:=⟨m-1,by show m=m-1+1;lia⟩;exact f9 f hf.2.1 hf.1 (λk=>Na)
 |succ n ih=>
  intro a m f ha hm h0 hf v;obtain⟨m,rfl⟩:∃m',m=aG m' 1:=⟨m-1,by show m=m-1+1;lia⟩;have ne:∀i j,i<4->4<=j->ak i j=false:=λi j h1 h2=>by
   induction e:ak i j using zB with
   |false=>rfl
   |true=>have:=bN e;lia
  have m3:4<=aG 3 (cJ 2 a):=by show 4<=3+2*a;lia
  have hf':At (upd f (aG 3 (cJ 2 a)) .nil) [(1,PT c us a),(3,t1 (bK (Al us a)))]:=iW ((jn (ne 1 _ (fG 2) m3)).trans hf.1) ((jn (ne 3 _ (Nat.lt_add_one 3) m3)).trans hf.2.1) trivial;refine aK (Sf (n:=m) (ρ:=rD v) (l:=NV n (aG a 1)) (by lia:a<14) rfl hf' (by simp [Al];lia)) λg e hg=> ?_;have hacc:Al us a++[aW (fT us a 2)]=Al us (aG a 1):=by show _=Al us (a+1);simp [Al,List.range_succ]
  rw [hacc] at hg;refine cG (ih (aG a 1) m g (by show n+(a+1)=14;lia) (by have:n+1<m+1:=hm;lia) (jL a) hg (aW a)) λg' e' h1 h2=>f9 g' h1 h2 (λk=>(bR EE (bR xy ?_)));have q:aG (aG 3 (cJ 2 a)) 1=aG 4 (cJ 2 a):=by show 3+2*a+1=4+2*a;exact gG (p7 3 (2*a))
  have q5:aG 5 (cJ 2 a)=aG 3 (cJ 2 (aG a 1)):=by show 5+2*a=3+2*(a+1);lia
  exact U q ((e k).trans (U q5 (e' k)))
theorem lL1 c us f (h:At f [(1,PT c us 0)]):∃g,(∀a b,(sJ aj (sL 1)).f (run KT 39) X4 (HH f 2) a b=a (rh [(4016016503283,bQ 0),(1815280,bQ 16386),(1668975,bQ 49152)]) (HH g 32))/\At g [(1,PT c us 14),(3,t1 (bK (Al us 14)))]:=by
 have d:At (upd (upd f 2 .nil) 3 (t1 (bK []))) [(1,PT c us 0),(3,t1 (bK []))]:=iW h.1 rfl trivial;refine aK (Sf (c:=c) (us:=us) (n:=1999) (ρ:=rP []) (l:=NV 13 1) (yy 13:0<14) rfl d (of_decide_eq_true rfl)) λg e i=>cG (UT (c:=c) (us:=us) 13 1 1999 g rfl (of_decide_eq_true rfl) (Nat.one_pos) i (aW 0)) λj k h1 h2=>qO (upd j 31 .nil) (λa b=> ?_) h2 h1 trivial;refine bR rK (bR (US _ _ _ _) (bR (EE (n:=1999)) (bR (M4 rfl) ((e _).trans ((k _).trans fk)))))
end
set_option backward.match.sparseCases false
section
noncomputable def aaM:Expr->Expr
 | .ListComp e _ _ _=>e
 |e=>e
noncomputable def aaN:Expr->List (Str×aM)
 | .ListComp _ _ sc _=>sc.names
 |_=>[]
def lcE:Expr:=XO (F6 (wK 0)) 0
def QI:XE:=cS K.G K.Ms 29 (aaN lcE) (aaM lcE)
def Nb:XE:=yN QI (kq 228274915) (iE (Sw (qB 4016016503283) (xC dc) (xC (aW 63)))) jh
def UU:Env:=rh [(4016016503283,bQ 0)]
def PA (c a:List V):TR:= .node (O (bK c)) (.node (O (bK a)) .nil .nil) .nil
def QJ (l:List V):List V:=yI (Df l 0) (ez (af (len l) 63 (bO 63 (len l))) 0)
def rC (l:List (Nat×V)):Env:=⟨l,[(4016016503283,bQ 0)]⟩
theorem QK r l g k:Nb.f r UU (HH (k6 [(0,t1 (yG l))] g) 1) k=
 (af aq (turns r (kq 228274915) jh (pN QI r (bQ 16385)) (k (bQ 16385)) 2000 (gh (gp 16384 0)) (rC []) (HC (k6 [(0,t1 (yG l))] g) (PA (QJ l) []) 1 16386)) (oLe (bK (QJ l))):Option Res):=by kernel_rfl
theorem QL (h:l.length<=63):QJ l=l:=by
 unfold QJ;refine U (Du ..) (U (Dv ..) (U (len_eq ..) ?_))
 induction e:bO 63 l.length using zB with
 |true=>
  refine(?_:(l.drop 0).take (63-0)=l);exact List.take_of_length_le h
 |false=>
  refine(?_:(l.drop 0).take (l.length-0)=l);exact List.take_of_length_le (br (fW l))
def enc (z:Int):Nat:=Int.rec (λn=>aG (cJ 2 n) 0) (λn=>aG (cJ 2 (aG n 1)) 1) z
theorem QM z h K:QI.f (run KT 39) (rC [(228274915,mD z)]) h K=K (aW (enc z)) h:=by
 rcases z<;>kernel_rfl
theorem aaO (hl:a.length<1000):putBack (bQ 16385) K v (HC f (PA c a) 1 16386)=K dc (HC f (PA c (a++[v])) 1 16386):=by
 have e:putBack (bQ 16385) K v (HC f (PA c a) 1 16386)=(af aq (K dc (HC f (PA c (app a [v])) 1 16386)) (oLe (bK (app a [v]))):Option Res):=by kernel_rfl
 exact U e (U (mL ..) (U (wL (by simp;lia)) rfl))
theorem X5:HT.get (HC f (PA c a) 1 16386).l 16384=O (bK c):=by kernel_rfl
theorem X6:∀(zs:List Int) pre a m l,c=pre++zs.map mD->zs.length<m->a.length+zs.length<=63->(l=[]\/∃v,l=[(228274915,v)])->
 turns (run KT 39) (kq 228274915) jh (pN QI (run KT 39) (bQ 16385)) k m (gh (gp 16384 pre.length)) (rC l) (HC f (PA c a) 1 16386)=k (HC f (PA c (a++zs.map λz=>aW (enc z))) 1 16386):=by
 intro zs
 induction zs with
 |nil=>
  intro pre a m l hc hm ha hl;obtain⟨m,rfl⟩:∃m',m=aG m' 1:=⟨m-1,by show m=m-1+1;lia⟩;exact U List.map_nil (U (qL ..) (BB rfl X5 (by refine U (mO ..) (U hc ?_);simp)))
 |cons z zs ih=>
  intro pre a m l hc hm ha hl;obtain⟨m,rfl⟩:∃m',m=aG m' 1:=⟨m-1,by show m=m-1+1;lia⟩;have hs:gg (rC l) 228274915 (mD z)=rC [(228274915,mD z)]:=by
   rcases hl with rfl|⟨v,rfl⟩<;>rfl
  refine bR (wJ (v:=mD z) rfl X5 (by refine U (mO ..) (U hc ?_);simp)) ?_;refine U hs (U (QM ..) (U (aaO (by simp at ha;lia)) ?_));have ih:=ih (pre++[mD z]) (a++[aW (enc z)]) m [(228274915,mD z)] (by refine U hc ?_;simp) (by have:(z::zs).length<m+1:=hm;simp at this;exact this) (by simp at ha⊢;lia) (.inr ⟨_,rfl⟩);have hp:(pre++[mD z]).length=aG pre.length 1:=by simp
  rw [hp] at ih;refine U ih ?_;simp
theorem QN c us f (a:Env->aev->Option Res):new (bK [bQ 16385,aW 0]) (HC f (PA c (kM aW us)) 1 16386) (λw h=>jump aj h λh=>a (gg UU 1815280 w) h)=a X4 (HH (upd f 1 (PT c us 0)) 2):=by kernel_rfl
theorem lL0 (ns:List Int) (hn:ns.length<=63) (f:Nat->TR) (t:TR) (ht:t=t1 (yG (ns.map mD))):∃g,(∀a d,(sJ aj (sL 0)).f (run KT 39) UU (HC f t 0 1) a d=a X4 (HH g 2))/\At g [(1,PT (ns.map mD) (ns.map enc) 0)]:=by
 refine U ht ?_;refine f9 (upd (upd f 0 (t1 (yG (ns.map mD)))) 1 (PT (ns.map mD) (ns.map enc) 0)) (λa d=> ?_) rfl trivial;have i:At (upd f 0 (t1 (yG (ns.map mD)))) [(0,t1 (yG (ns.map mD)))]:=⟨rfl,trivial⟩;refine fF i.eq λF hF=> ?_;refine(?_:jump aj (HC f (t1 (yG (ns.map mD))) 0 1) (λh=>Nb.f (run KT 39) UU h λv h=>new (bK [v,aW 0]) h λw h=>jump aj h λh=>a (gg UU 1815280 w) h)=_);refine bR (ym rfl) ?_;refine(?_:Nb.f (run KT 39) UU (HH (upd f 0 (t1 (yG (ns.map mD)))) 1) _=_);have b:(ns.map mD).length<=63:=by simpa using hn
 have e:=QK (run KT 39) (ns.map mD) F (λv h=>new (bK [v,aW 0]) h λw h=>jump aj h λh=>a (gg UU 1815280 w) h);rw [<-hF] at e;refine U e (U (QL b) (U (wL (by lia)) ?_));refine bR (X6 (c:=ns.map mD) ns [] [] 2000 [] rfl (by lia) (by simpa using hn) (.inl rfl)) ?_;have hm:([]++ns.map λz=>aW (enc z))=kM aW (ns.map enc):=by refine U (qb ..) ?_;simp
 refine U hm ?_;exact QN _ _ _ a
def Sg:XE:=kP (xC (bL 2786)) (dS (qB 1815280) (dS (xC (aW 16)) ko))
theorem sL2:sL 2=jv (kq 245102707) Sg:=by kernel_rfl
theorem UW c us g kn kr:(sJ aj (jv (kq 245102707) Sg)).f (run KT 39) (rh [(4016016503283,bQ 0),(1815280,bQ 16386),(1668975,bQ 49152)]) (HH (k6 [(1,PT c us 14)] g) 32) kn kr=
 kn (Vr (fT us 14 16)|>rh) (HH (upd (upd (upd (k6 [(1,PT c us 14)] g) 32 .nil) 1 (PT c us 15)) 33 (dT us 14)) 34):=by
 revert us;refine Hq 15 ?_;kernel_rfl
theorem X7 (h:x<2):aW x=vB (ak x 1):=by
 induction x using zN with
 |zero=>rfl
 |succ x=>
  induction x using zN with
  |zero=>rfl
  |succ x=>exact absurd h (bC.mpr (rX 2 x))
def Ga (us:List Nat):d8:=⟨ak (fT us 0 2) 1,ak (fT us 1 2) 1,ak (fT us 2 2) 1,ak (fT us 3 2) 1,ak (fT us 4 2) 1,ak (fT us 5 2) 1,ak (fT us 6 2) 1,ak (fT us 7 2) 1,
 ak (fT us 8 2) 1,ak (fT us 9 2) 1,ak (fT us 10 2) 1,ak (fT us 11 2) 1,ak (fT us 12 2) 1,ak (fT us 13 2) 1⟩
theorem Jo us:Al us 14=R6 (Ga us):=by
 have h:∀i,aW (fT us i 2)=vB (ak (fT us i 2) 1):=λi=>X7 (Nat.mod_lt _ (Nat.zero_lt_two));have e:Al us 14=[aW (fT us 0 2),aW (fT us 1 2),aW (fT us 2 2),aW (fT us 3 2),aW (fT us 4 2),aW (fT us 5 2),aW (fT us 6 2),aW (fT us 7 2),aW (fT us 8 2),aW (fT us 9 2),aW (fT us 10 2),aW (fT us 11 2),aW (fT us 12 2),aW (fT us 13 2)]:=rfl;refine U e (U (h 0) (U (h 1) (U (h 2) (U (h 3) (U (h 4) (U (h 5) (U (h 6) (U (h 7) (U (h 8) (U (h 9) (U (h 10) (U (h 11) (U (h 12) (U (h 13) ?_))))))))))))));rfl
def QO:XS:=fB (sJ aj (sL 0)) (fB (sJ aj (sL 1)) (fB (sJ aj (sL 2)) Hz))
theorem QS v h k:run KT 40 (bL 2810) [v] h k=QO.f (run KT 39) (rh [(4016016503283,v)]) h (λa h=>k dc h) k:=by kernel_rfl
theorem QT (ns:List Int) (hn:ns.length<=63) (f:Nat->TR):∃g,∀k,run KT 40 (bL 2810) [bQ 0] (HC f (t1 (yG (ns.map mD))) 0 1) k=k (vBool H) (HH g 264):=by
 refine dN (lL0 ns hn f _ rfl) λd e h=>dN (lL1 (ns.map mD) (ns.map enc) d h) λa i h1=> ?_;have j:At a [(1,PT (ns.map mD) (ns.map enc) 14)]:=⟨h1.1,trivial⟩;refine fF j.eq λF hF=> ?_;have l:∀b c,(sJ aj (sL 2)).f (run KT 39) (rh [(4016016503283,bQ 0),(1815280,bQ 16386),(1668975,bQ 49152)]) (HH a 32) b c=b (rh (Vr (fT (ns.map enc) 14 16))) (HH (upd (upd (upd a 32 .nil) 1 (PT (ns.map mD) (ns.map enc) 15)) 33 (dT (ns.map enc) 14)) 34):=λb c=>by
  refine U sL2 (U hF ?_);exact UW _ _ F b c
 have h2:At (upd (upd (upd a 32 .nil) 1 (PT (ns.map mD) (ns.map enc) 15)) 33 (dT (ns.map enc) 14)) [(3,tP (Ga (ns.map enc)))]:=⟨rfl.trans (h1.2.1.trans (U (Jo ..) rfl)),trivial⟩;exact fF (M9 (Ga (ns.map enc)) (fT (ns.map enc) 14 16) (Nat.mod_lt _ (yy 15)) _ h2) λm n=>⟨m,λk=>(QS _ _ _).trans (di e (di i (di l (n _ _))))⟩
end
end
section
open PyProof.Rows PySem.Calls PySem.SeqAt PySem.W
section
theorem UX (e:(t1 o).get j=O o'):j=0/\o'=o:=by
 have e:(TR.node (O o) .nil .nil).get j=O o':=e;rw [TR.get_node] at e;by_cases h:j=0
 .rw [if_pos h] at e;exact⟨h,(aF e).symm⟩
 .rw [if_neg h] at e;split at e<;>exact fn e
theorem UY (e:(HC z9 (t1 o) 0 1).l.get i=O o'):i=0/\o'=o:=by
 have e:HT.get ⟨z9,t1 o,0⟩ i=O o':=e;rw [HT.get_eq] at e;by_cases h:i/16384=0
 .rw [if_pos h] at e;exact gc (UX e) λh1 h2=>⟨by exact gG ((λ{i j} h=>Iff.mp (yR h)) (id (gG h)) (id (gG h1))),h2⟩
 .rw [if_neg h] at e;exact fn e
theorem QU (h:iU Qg ns its):eg X g w n (ns.map mD) its:=by
 induction h with
 |nil=>exact .nil
 |cons p _ a=>exact p.elim λt e=>e▸.cons _ _ _ _ (VR.mD _ t) a
theorem Nc (h:iU R l m):l.length=m.length:=by
 induction h with
 |nil=>rfl
 |cons _ _ a=>exact congrArg (·+1) a
theorem QV (h:VR X g w n v y) (e:v=vBool H):y= .bool true:=by
 induction h using Mine.VR.casesOn with
 |bool b=>induction b using zB with
  |true=>rfl
  |false=>exact absurd (congrArg V.n e) (aX rfl)
 |_=>exact nn (congrArg V.t e) rfl
theorem Nd (G:Good w h) (hn:ns.length<=63) (hi:iU Qg ns its) (hs:s.heap=h.push {cls:= .type "list",data:= .seq its.toArray}):
 cC (model P0 w) callerA (call (.ref 2810) [.ref h.objs.size]) (λv s'=>v= .bool H/\OldK s.heap s'.heap/\s'.gens=s.gens/\s'.os=s.os) (λu_ u_=>False) s:=by
 have B:=qo G;have hst:St (kZ w h) ⟨λu_=>h.objs.size,λu_=>aq,λu_=>0⟩ (HC z9 (t1 (yG (ns.map mD))) 0 1) s:=by
  refine⟨λi o e=> ?_,λa i e=>(fn e),λa o e ht=> ?_, ?_,λP hP=> ?_⟩
  .refine gc (UY e) λoG hq1=> ?_;subst oG;subst hq1;refine⟨bM 0,.fix _ its.toArray 0 rfl (λq=>absurd (B.htab _ q) (j9 _)) ?_ ?_ (QU hi)⟩
   .refine U hs ?_;exact aJ _ rfl
   .have:=Nc hi;refine U pI ?_;lia
  .refine U hs ?_;exact az _ e
  .refine U hs (U (bI ..) ?_);exact gW _
  .refine⟨B.htab P hP,#[], ?_, ?_,λpos q cv u_ e2=> ?_⟩
   .refine U hs ?_;exact az _ (tab_of G hP)
   .exact trivial
   .exact fn e2
 refine fF (QT ns hn z9) λg hg=> ?_;refine aV ((Uq G 40).call callerA ⟨rfl,by decide,by decide⟩ _ _ s hst (bL 2810) (.ref 2810) (.fn 2810) [bQ 0] [.ref h.objs.size] (.cons _ _ _ _ (.ref 0 (bM 0)) .nil)
  (λv hh=>af aq (O ⟨⟨[],[]⟩,dc,HC z9 .nil 0 0⟩) (G1 v 1 0 1)) ⟨⟨[],[]⟩,dc,HC z9 .nil 0 0⟩ (hg _) (λv s'=>v= .bool H/\OldK s.heap s'.heap/\s'.gens=s.gens/\s'.os=s.os) λw' h' s' v y hs' x' hv hk=> ?_) (λu_ u_ q=>q) λu_ u_ f=>f
 have hv1:G1 v 1 0 1=true:=by
  induction q:G1 v 1 0 1 using zB with
  |true=>rfl
  |false=>
   have hk:(af aq (O ⟨⟨[],[]⟩,dc,HC z9 .nil 0 0⟩) (G1 v 1 0 1):Option Res)=O ⟨⟨[],[]⟩,dc,HC z9 .nil 0 0⟩:=hk;rw [q] at hk;exact fn hk
 refine qN (QV hv (ql hv1)) ⟨λb o e=> ?_,λb o e=> ?_⟩ x'.gens x'.os
 .by_cases hb:b∈iN
  .obtain⟨low,ps,p1,_⟩:=hs'.tab b hb;refine U (aF (e.symm.trans (U hs (az _ (tab_of G hb))))) (.inr (.inl ⟨?_,rfl,#[],ps,rfl,by refine U p1 ?_;simp⟩));have hm:∃m∈Pf,m.P=b:=by
    simp only [iN,aT,aU,or_false] at hb;rcases hb with rfl|rfl|rfl|rfl
    .exact bV ⟨360,2729,2725,"known_readers"⟩ (List.mem_of_mem_head? rfl) rfl
    .exact bV ⟨364,2757,2753,"gsub_octets"⟩ (by simp [Pf]) rfl
    .exact bV ⟨365,2764,2760,"gpos_octets"⟩ (by simp [Pf]) rfl
    .exact bV ⟨366,2771,2767,"known_writers"⟩ (mW rfl) rfl
   refine aK hm λm oG=> ?_;subst oG;intro hm;obtain⟨oc,vs,_,_,_,_,_,_,_,c1,c2,c3,c4,_⟩:=Hp G hm _ _ s hst;exact uu m.c oc vs c1 c2 c3 c4
  .exact .inl (x'.old b o rfl hb (λq=>q) e)
 .by_cases hb:b∈iN
  .obtain⟨low,ps,p1,_⟩:=hs'.tab b hb;exact⟨_,p1⟩
  .exact⟨o,x'.old b o rfl hb (λq=>q) e⟩
end
end
section
section
def NT.put {α:Type} (k:Nat) (a:α) (t:NT α):NT α:=NT.rec (.n .l k a .l) (λl q v r ihl ihr=>af (af (.n l q v ihr) (.n ihl q v r) (bE k q)) (.n l k a r) (ak k q)) t
def HA {α:Type} (l:List (Str×α)):NT α:=aQ .l (λx u_ ih=>NT.put (nm x.1) x.2 ih) l
def treeOf (l:List Str):NT Unit:=HA (l.map λx=>(x,()))
theorem find_node {v:α}:NT.find (.n l q v r) j=af (af (NT.find r j) (NT.find l j) (bE j q)) (O v) (ak j q):=rfl
theorem Nf {t:NT α}:NT.find (NT.put k a t) j=af (NT.find t j) (O a) (ak j k):=by
 induction t with
 |l=>
  refine U find_node ?_;rcases bE j k<;>rfl
 |n l q v r b c=>
  have e:NT.put k a (.n l q v r)=af (af (.n l q v (NT.put k a r)) (.n (NT.put k a l) q v r) (bE k q)) (.n l k a r) (ak k q):=rfl;refine U e ?_
  induction h1:ak k q using zB with
  |true=>
   have:=aH h1;refine cL this ((?_:NT.find (.n l k a r) j=_));refine U find_node (U find_node ?_);rcases ak j k<;>rfl
  |false=>
   induction h2:bE k q using zB with
   |true=>
    refine U find_node (U find_node (U b ?_))
    induction d:ak j k using zB with
    |false=>rfl
    |true=>
     have:=aH d;subst this;exact U h1 (U h2 rfl)
   |false=>
    refine U find_node (U find_node (U c ?_))
    induction d:ak j k using zB with
    |false=>rfl
    |true=>
     have:=aH d;subst this;exact U h1 (U h2 rfl)
theorem Am (hn:aY n=H):∀{l:List (Str×α)},l.all (λp=>aY p.1)=H->NT.find (HA l) (nm n)=l.lookup n:=by
 intro l
 induction l with
 |nil=>
  intro _;exact rfl
 |cons b l c=>
  obtain⟨x,a⟩:=b;intro h;rw [iC,aP] at h;refine(?_:NT.find (NT.put (nm x) a (HA l)) (nm n)=_);refine U Nf (U bJ (U (c h.2) ?_))
  induction q:ak (nm n) (nm x) using zB with
  |true=>
   have:=gU hn h.1 (aH q);exact U this (U (beq_self_eq_true ..) rfl)
  |false=>
   have:(n==x)=false:=beq_eq_false_iff_ne.mpr λe=>aX q (congrArg nm e);exact U this rfl
theorem lookup_mem {c d:Type} [BEq c] [LawfulBEq c] {a} {b}:∀{l:List (c×d)},l.lookup a=O b->(a,b)∈l:=by
 intro l
 induction l with
 |nil=>exact λh=>fn h
 |cons p l e=>
  rcases p with⟨x,y⟩
  intro h;rw [bJ] at h;by_cases q:a=x
  .subst q;rw [beq_self_eq_true] at h;have h:=aF h;exact U h (aE ..)
  .rw [beq_eq_false_iff_ne.mpr q] at h;exact aD _ (e h)
theorem BF (hn:aY n=H) (hl:l.all aY=H) (h:(NT.find (treeOf l) (nm n)).isSome=H):n∈l:=by
 unfold treeOf at h;rw [(Am hn (l:=l.map λx=>(x,())) (U List.all_map hl))] at h;refine fF (A3.mp h) λu hu=> ?_;have:=lookup_mem hu;refine aK (gJ.mp this) λx a hx=> ?_;have a:x=n:=congrArg eG a;exact a▸hx
end
end
section
open PyProof.Rows PySem.Calls PySem.SeqAt PySem.W
section
def xB (w:World) (os:OsState):SharedT:=stK w os 1 (t6 w) 347 MC 2811 4281
def sB (w:World) (os:OsState):Shared:=⟨boot_heap w.params,#[],boot_drawn,boot_toks,os⟩
theorem Ng:pU.drop 374=[]:=by kernel_rfl
section
variable {w:World} {os:OsState} {x:Nat->Option Obj}
theorem C4 (hf:∀p∈pl,nh (mY x (xB w os)).heap p):Good w (mY x (xB w os)).heap:=by
 have key:∀a o,a<2811->(tK w 1 (t6 w) 347 MC).get a=O o->alive o=O o->(mY x (xB w os)).heap.get? a=O o:=λa o h1 h2 h3=>uA (x:=x) h1 h2 h3;have g:∀i,(tK w 1 (t6 w) 347 MC).get i=_:=λi=>Hi _ _ _ _ _ _ i;exact⟨key 3 _ (of_decide_eq_true rfl) ((g 3).trans rfl) rfl,key 0 _ (yy 2810) ((g 0).trans rfl) rfl,key 4 _ (by decide) ((g 4).trans rfl) rfl,key 2 _ (by decide) ((g 2).trans rfl) rfl,hf⟩
def Nh:List Str:=startupNames++P0.boundNames
def X8 (t:NT Unit) (e:bf):Bool:=match e.key with
 | .str s _=>aY s&&(NT.find t (nm s)).isSome
 |_=>aj
theorem Jp w:(t6 w).all (X8 (treeOf Nh))=true:=by kernel_rfl
theorem EF:Nh.all aY=true:=by kernel_rfl
set_option tactic.hygienic true in
theorem Ni (h:nsFind (t6 w).toArray k=O v):k∈startupNames\/k∈P0.boundNames:=by
 unfold nsFind findBy at h;rw [<-Array.find?_toList] at h
 induction b:(t6 w).toArray.toList.find? (λe=>e.key.isStr k) using zO with
 |none=>rw [b] at h;exact fn h
 |some e=>
  have hk:=List.find?_some (p:=λe:bf=>e.key.isStr k) b;have a:=aL.mp (Jp w) e (List.mem_of_find?_eq_some b);unfold X8 at a;split at a
  .rename_i s t c;rw [c] at hk;have hk:s=k:=by simpa [Value.isStr] using hk
   refine cL hk ?_;rw [aP] at a;exact ni.mp (BF a.1 EF a.2)
  .exact ff a
theorem Jq (w:World):(boot_heap w.params).objs.size=11:=by kernel_rfl
theorem Nj (w:World):globalOf (boot_heap w.params) "__annotations__"=O (.ref 6):=by kernel_rfl
theorem Gb:staticsOk (importedModules P0.main.body) (boot_heap w.params) (mY x (xB w os)).heap=true:=by kernel_rfl
theorem C5:(mY x (xB w os)).heap.accountedOkI (importedModules P0.main.body)=true:=by kernel_rfl
theorem QW:(mY x (xB w os)).heap.bltView=bltViewBooted:=by kernel_rfl
theorem Nk:(mY x (xB w os)).heap.isNs builtinsNs=true:=by kernel_rfl
theorem Gd w:laidNames.map (λn=>nsFind (t6 w).toArray n)=laidNames.map (λn=>globalOf (boot_heap w.params) n):=by kernel_rfl
theorem sq (G:Good w (mY x (xB w os)).heap) n:globalOf (mY x (xB w os)).heap n=nsFind (t6 w).toArray n:=by
 rfl
theorem QX (hf:∀p∈pl,nh (mY x (xB w os)).heap p) (hr:qm w N (sB w os) (topStub P0)=O (mY x (xB w os))) (hz:(sB w os).asleep):TopRan P0 w (sB w os) (mY x (xB w os)):=by
 have G:=C4 hf;have hr:topRun treeTable P0 w 11 (O (.ref 6)) N (sB w os) (topStub P0)=O (mY x (xB w os)):=hr;rw [<-table_eq_tree] at hr;refine qP (topRun_spec _ _ _ _ hz hr) λfr a l o=>⟨a,l,Shared.rest_eq o,λb ob hb hn=> ?_,Heap.accountedI_of_ok C5,statics_of_ok Gb, ?_,λn hn=>(Pin.builtinOf_eq Nk n).trans (Heap.of_bltView Nk QW n hn), ?_,λg hg=> ?_,λk v hk=> ?_,λn hn=> ?_⟩
 .have hb2:b<11:=by have:=bh hb;rw [show(sB w os).heap=boot_heap w.params from rfl,Jq] at this;exact this
  exact fr b ob hb2 (λq=>hn (.inl q)) (λq=>hn (.inr (.inl q))) (λq=>hn (.inr (.inr ((Nj w).trans q)))) hb
 .refine aK (Bv G.main (vo w)) λm u_ m1=> ?_;obtain⟨o,es,ep,ho,hd,hk,_⟩:=m1;exact⟨o,es,ep,ho,hd,hk⟩
 .exact lJ 4 _ ((sq G _).trans (by kernel_rfl)) G.bmod rfl rfl
 .exact absurd hg (by simp [mY,xB,stK])
 .rw [sq G] at hk;exact Ni hk
 .rw [sq G];exact List.map_inj_left.mp (Gd w) n hn
end
end
section
noncomputable abbrev Ao:OpenRow:=PySem.Challenge.rw_pf0157_01.row
theorem Nl:opening P0=plainProg P0.main.scope.names:=by kernel_rfl
theorem UZ:∀s,fenceModules? P0 s=O s:=λs=>by kernel_rfl
theorem opens w:∃s os,AfterRun (opening P0) w s/\fenceModules? P0 s=O (sB w os):=by
 refine aK (qu.mp (boot_open (p:=P0) (N:=600) Nl rfl UZ w)) λs₀ h2 h1=> ?_;rw [<-table_eq_tree] at h1;refine dN (Option.bind_eq_some_iff.mp h1) λs a b=> ?_;obtain⟨h,g,d,k,os⟩:=s₀;simp only [Prod.mk.injEq] at h2;obtain⟨rfl,rfl,rfl,rfl⟩:=h2;exact m7 s os (AfterImport.of_importEnds a) b
theorem U0:NT.find K.dT 2810=O ⟨1,373,0,[]⟩:=by kernel_rfl
theorem QY:P0.theDef "law"=O (rI (K.top 373),K.fnBody (K.top 373),oV (K.top 373)):=by kernel_rfl
theorem EG:(rI (K.top 373)).defaults=[]/\kwWritten? (rI (K.top 373)).kwonlyargs (rI (K.top 373)).kw_defaults=O []:=⟨by kernel_rfl,by kernel_rfl⟩
theorem EH w:nsFind (t6 w).toArray "law"=O (.ref 2810):=(nsF (by kernel_rfl) (mK (vo w)).2).trans (by kernel_rfl)
theorem QZ (as ds):Ao.toRowW.claim.post as (.bool H) ds=true:=by
 kernel_rfl
theorem Q0 {h:Heap} (c:h.get? 3=O (o3 L n)) (hb:R0 (o3 L n)=H):h.Ns 3 (nsFind L.toArray):=by
 obtain⟨m,⟨o,g,ep,d,e,f,i⟩,_⟩:=Bv c hb;have:=aF (d.symm.trans c);subst this;injection e with a b
 subst a;exact uu _ _ _ c rfl f (λj=>rfl)
section
variable {w:World} {os:OsState} {x:Nat->Option Obj}
theorem U1 (hf:∀p∈pl,nh (mY x (xB w os)).heap p):isTheDefsW P0 (mY x (xB w os)).heap "law":=by
 refine ju (hf ZY (aE ..)) λg g2 g1 g3=> ?_;have hl:Pr g 2810=true:=(rJ g3).2.2.2.2;refine tL (n9 (Mt g2 _ (gC.mpr ⟨NT.jl U0,rfl⟩))) λo fd u_ ho hd b1 b2 b3=> ?_;unfold Pr at hl;rw [ho] at hl;dsimp only at hl;rw [hd] at hl;simp only [aP,beq_iff_eq,cX] at hl;obtain⟨n1,n2,n3,n4,n5,n6,n7⟩:=hl;have d1:fd.defaults= .none:=by revert n6;generalize fd.defaults=y;intro n6;rcases y<;>first|rfl|exact ff n6
 have d2:fd.kwdefaults= .none:=by revert n7;generalize fd.kwdefaults=y;intro n7;rcases y<;>first|rfl|exact ff n7
 exact⟨2810,o,fd,_,_,_,(sq (C4 hf) _).trans (EH w),(g1 _ _ ho).2.2,hd,QY,n1,n2,b3,b1,b2,bN n3,n4,bN n5,.inl ⟨EG.1,d1⟩,[],EG.2,.inl ⟨rfl,d2⟩⟩
theorem U3 (ns:List Int):(ofPys (ns.map jZ)).length=ns.length:=by refine U (ofPys_eq ..) ?_;simp
theorem U4 {ns:List Int} (h:Ao.toRowW.pre.holds [] {args:=[ofPy (.list (ns.map jZ))]}=H):ns.length<=63:=by
 have h:WTm.holds [] (.and (.not (.arg 0)) (.lit (.bool H))) {args:=[.bool (decide ((63:Int)<((ofPys (ns.map jZ)).length:Int)))]}=true:=h;rw [U3] at h
 induction a:decide ((63:Int)<(ns.length:Int)) using zB with
 |true=>rw [a] at h;exact ff h
 |false=>exact qH.mp (kI.mp (of_decide_eq_false a))
theorem okE {b c:Type} {a} {e} {p:Prop} (h:(Except.ok a:Except b c)= .error e):p:=by injection h
theorem Jr (hf:∀p∈pl,nh (mY x (xB w os)).heap p) (hz:(mY x (xB w os)).asleep) free kept (hk:∀h',kept h') gens:Ao.toRowW.claim.CallFrom (callStub "law") w free gens kept (mY x (xB w os)):=by
 have G:=C4 hf;intro args hpre hlay ord hord;refine nG λhgo=>aC (pre_splitW (r:=Ao.toRowW) hpre) λhs2 hs1=>fF (Qj hs1) λns oG=> ?_;subst oG;obtain⟨⟨vs,s₂⟩,hlaid⟩:=A3.mp (layAllW_isSome (R:=[]) (cl:=classAt (mY x (xB w os)).heap) (P:=w.params) (ord:=ord) (λc hc=>ff hc) _ Ao.toRowW.args (mY x (xB w os)) hs1);refine ju (Qi hlaid) λits oG=> ?_;subst oG;intro hi hp;have keeps:=layAllW_keeps _ _ _ hlaid;have hal:=layAllW_rest _ _ _ hlaid;refine jB (reads_layAllW hord _ _ _ hlaid hlay s₂.heap (λu_ u_ e=>e)) λas hrd hin hold=> ?_;obtain⟨n,r,s',s'',aaP,U5,hfo,hv,hK,hg,ho⟩:=CX (prog:=P0) (w:=w) (t:=(callStub "law" [.ref (mY x (xB w os)).heap.objs.size]).cur) (s:=s₂) (R:=λr s'=>r= .ok (.ret (.bool H))/\OldK s₂.heap s'.heap/\s'.gens=s₂.gens/\s'.os=s₂.os)
  (qG hal.2.2.2 hz) (ay (eW (wpAny_nsGet ((Q0 G.main (vo w)).keeps keeps) (by
   exact U (EH ..) (ay (aV (Nd G (U4 hs2) hi hp) (λv s' q=>aO (f9 _ rfl ⟨by exact U q.1 rfl,q.2⟩ (by refine U q.2.2.1 (U hal.1 ?_);show leftWithCleanup #[]=aj;simp [leftWithCleanup]))) λu_ u_ f=>f.elim))))))
 refine vR (Shared.forget_eq hfo) λu_ eh u_ u_ eo=> ?_;subst hv;have good:GoodWG Ao.toRowW.claim (classAt (mY x (xB w os)).heap) (ExcName.means (mY x (xB w os)).heap) [ofPy (.list (ns.map jZ))] s₂ (.ok (.ret (.bool H))) s'':=
  (qN (.inl ⟨.bool H,.bool H,[],rfl,λu_=>rfl,.bool H,QZ _ _,λu_=>⟨iI,λa ha=>(aU ha).elim⟩⟩) hK ho (.of_eq (hg.trans (hal.1.trans rfl))))
 refine Rd (good.laid (c:=Ao.toRowW.claim) rfl rfl (ident_freeW (r:=Ao.toRowW) rfl rfl rfl) (⟨(bV ord hord hlaid),hrd,hin,hold,keeps,hal.1.trans rfl,hal.2.2.1⟩)) λYb hos u_=> ?_;rw [<-eo] at hos;refine hgo ⟨_,s₂,hlaid,n,_,s',U5, ?_,λu_ i y hy=>absurd hy (by simp [mY,xB,stK]),hk _,by exact U ((runN_life _ _ _ aaP).trans hal.2.2.2) rfl,Shared.rest_eq hos⟩;refine(Yb.congr eh).imp (λq=>q.elim λv q=>⟨v,congrArg outcomeOf q.1,q.2.1,q.2.2.1,q.2.2.2.1,λb o y u_=>q.2.2.2.2.1 b o y,q.2.2.2.2.2⟩) λq=>q.elim λe q=>q.elim λob q=>q.elim λcls q=>okE q.1
end
theorem BG:Ao.toRowW.promised:=bV [.list []] (by kernel_rfl) (by kernel_rfl)
theorem Yc (a:P0.tablesWhole=H):P0.bare:=⟨rfl,rfl,rfl,rfl,rfl,a⟩
theorem U6:opensWell P0=true:=by kernel_rfl
theorem Js (k1:Ao.wellSaid=H) (kt:P0.tablesWhole=H):Ao.Holds:=by
 refine A4 k1 BG (iW (Yc kt) U6 rfl) BG.witness (λw=>(nK (opens w) λs os hf A=>⟨⟨s,A⟩,λs' hs'=> ?_⟩));obtain rfl:s'=s:=AfterImport.unique hs' A;have hz:=qG (fence_lifeW hf) (AfterImport.life A);refine nK (I8 Ng (aao w os)) λx N hp hr=> ?_;have T:=QX hp hr hz;refine⟨sB w os,hf,rfl,mY x (xB w os),T,λn hn=> ?_,λc hc=>((aU hc).elim),λc hc=>((aU hc).elim),Jr hp (qG T.2.1 hz) _ _ (λh' q=>ff q) _⟩;exact U (eH.mp hn) (U1 hp)
end
end
section
open PySem.TablesWhole PySem.W PyProof.Rows
set_option backward.match.sparseCases false
section
noncomputable abbrev PL:Program:=kH
noncomputable abbrev JF:OpenLaw:=PySem.Challenge.rw_pf0157_01
def ou:Scope:=PL.main.scope
def t9 (k:aM):Bool:=NameKind.rec aj aj aj H H k
def Yd (k:aM):Bool:=NameKind.rec H H aj aj aj k
def isFree (k:aM):Bool:=NameKind.rec aj aj H aj aj k
def isCell (k:aM):Bool:=NameKind.rec aj H aj aj aj k
noncomputable def Nm (l:List Nat):Bool:=(l.take 3).all λc=> !ak c 95
noncomputable def Sh:List Str:=["Exception","super","len","chr","range","bytes","bytearray","ord","str","tuple","max","min","sorted","list","sum","dict","zip","isinstance","set","enumerate","property","abs","int"]
def wM:List Str:=PL.boundNames++Sh
def Ye:List Nat:=JF.own.map nm
def memC (c:Nat) (l:List Nat):Bool:=aQ aj (λy u_ ih=>af ih H (ak c y)) l
def tW:NT Unit:=treeOf wM
def tV:NT aM:=HA ou.names
def gZ (s:Scope):Bool:=s.names.all λp=>aY p.1
def EI (l:List Nat):Bool:=aQ H (λx r ih=>af ih aj (memC x r)) l
def U7 (k:ScopeKind):Bool:=ScopeKind.rec aj H H aj aj aj aj k
def Nn (k:ScopeKind):Bool:=ScopeKind.rec aj aj H aj aj aj aj k
def U8:Nat:=nm "super"
def Np:List Nat:=(["vars","dir","locals"]:List Str).map nm
noncomputable def Yg:Look:={strict:=aj,foot:=aq,bare:=[]}
def Yh:Nat:=nm "fast"
def Nq (more:List (Str×Const)) (x:Nat):Bool:=more.any λp=>ak (nm p.1) Yh&&aY p.1&&(match p.2 with
 | .str n=>ak (nm n) x&&aY n
 |_=>aj)
def kindAt (m:Bool) (sc:Scope) (n:Str):Option aM:=af (aZ (nm n) sc.names) (NT.find tV (nm n)) m
section
variable (b:Bool)
def Yi (f:aM->Bool) (m:Bool) (sc:Scope) (n:Str):Bool:=
 aY n&&(match kindAt m sc n with
  |some k=>f k&&(!t9 k||(NT.find tW (nm n)).isSome)
  |none=>aj)&&(Nm n.cps.toList||attrL n)&&(b|| !memC (nm n) Ye)
def Yj (m:Bool) (sc:Scope) (n:Str):Bool:=Yi b (λu_=>H) m sc n
def rN (m:Bool) (sc:Scope) (n:Str):Bool:=Yi b Yd m sc n
def Yk (n:Str):Bool:=Nm n.cps.toList||attrL n
def kC:Const->Bool
 | .str x=>(Nm x.cps.toList&& !roadStr x)||Yg.str x
 |_=>H
def rO (ch:List Scope) (m:Bool) (par own:Scope):Bool:=
 U7 own.kind&&(own.more.isEmpty||own.names.all λp=> !(p.2== .cell||p.2== .free||(p.2== .local&&own.kind== .function))||Nq own.more (nm p.1))&&gZ own&&EI (own.names.map λp=>nm p.1)&&
 own.names.all λp=>(!isFree p.2||Yi b (λk=>isCell k||(isFree k&& !Nn par.kind)) m par p.1)&&
  (!t9 p.2||ch.all λs=>match aZ (nm p.1) s.names with
   |some k=>t9 k
   |none=>H)
def Q5 (fr own:Scope):Bool:=fr.more.isEmpty||own.names.all λp=> !((p.2== .local||p.2== .cell)&&p.1.cps[0]? !=O 46)||Nq fr.more (nm p.1)
noncomputable def EJ (p:Arguments):Bool:=p.posonlyargs.isEmpty&&p.vararg.isNone&&p.kwonlyargs.isEmpty&&p.kwarg.isNone&&p.kw_defaults.isEmpty&&p.args.all λa=>a.annotation.isNone
def Q6 (own:Scope) (p:Arguments):Bool:=p.args.all λa=>rN b aj own a.arg
structure KS where
 m:Bool
 fr:Scope
 ch:List Scope
 sc:Scope
noncomputable def KS.into (s:KS) (own:Scope):KS:=⟨aj,own,own::s.ch,own⟩
noncomputable def KS.comp (s:KS) (own:Scope):KS:=⟨aj,s.fr,own::s.ch,own⟩
noncomputable def kO (f:Expr->Bool):Option Expr->Bool
 |some e=>f e
 |none=>H
def Si (f:Expr->Bool) (s:KS):Expr->Bool
 | .Name x _=>rN b s.m s.sc x
 | .Tuple es _ _=>es.all λe=>match e with
  | .Name x _=>rN b s.m s.sc x
  | .Tuple es _ _=>es.all λe=>match e with
   | .Name x _=>rN b s.m s.sc x
   |_=>aj
  |_=>aj
 | .Attribute o a _=>Yk a&&f o
 | .Subscript o i _=>f o&&f i
 |_=>aj
def kG (f:KS->Expr->Bool) (s:KS) (own:Scope):List Comprehension->Bool
 |⟨t,it,ifs,a⟩::r=>f s it&&Si b (f (s.comp own)) (s.comp own) t&&ifs.all (f (s.comp own))&&a==0&&
  r.all λg=>f (s.comp own) g.iter&&Si b (f (s.comp own)) (s.comp own) g.target&&g.ifs.all (f (s.comp own))&&g.is_async==0
 |[]=>aj
def kE:Nat->KS->Expr->Bool
 |0,_,_=>aj
 |n+1,s,e=>match e with
  | .Constant c _ _=>kC c
  | .Name x _=>Yj b s.m s.sc x&&(!ak (nm x) U8||Yj b s.m s.sc "__class__")
  | .Attribute v a _=>Yk a&&kE n s v
  | .BoolOp _ vs _=>vs.all (kE n s)
  | .BinOp l o r p=> !foldsComplex (.BinOp l o r p)&&kE n s l&&kE n s r
  | .UnaryOp _ x _=> !foldsComplex x&&kE n s x
  | .Lambda a x own _=>EJ a&&a.defaults.all (kE n s)&&rO b s.ch s.m s.sc own&&Q6 b own a&&kE n (s.into own) x
  | .IfExp t x y _=>kE n s t&&kE n s x&&kE n s y
  | .Dict ks vs _=>ks.all (kO (kE n s))&&vs.all (kE n s)
  | .ListComp e gs own _=>rO b s.ch s.m s.sc own&&Q5 s.fr own&&rN b aj own ".0"&&kG b (kE n) s own gs&&kE n (s.comp own) e
  | .DictComp k v gs own _=>rO b s.ch s.m s.sc own&&Q5 s.fr own&&rN b aj own ".0"&&kG b (kE n) s own gs&&kE n (s.comp own) k&&kE n (s.comp own) v
  | .Compare l _ cs _=>kE n s l&&cs.all (kE n s)
  | .Call f as ks _=>ks.isEmpty&&(match f with| .Name x _=> !memC (nm x) Np|_=>H)&&kE n s f&&as.all (kE n s)
  | .Subscript v i _=>kE n s v&&kE n s i
  | .Slice l u st _=>kO (kE n s) l&&kO (kE n s) u&&kO (kE n s) st
  | .List es _=>es.all (kE n s)
  | .Tuple es _ _=>es.all (kE n s)
  |_=>aj
def kD (s:KS) (a:Arguments) (ds:List Expr) (ret:Option Expr) (tp:List TypeParam) (own:Scope) (x:Str):Bool:=
 tp.isEmpty&&ret.isNone&&EJ a&&ds.all (kE b 40 s)&&a.defaults.all (kE b 40 s)&&rN b s.m s.sc x&&Q6 b own a&&rO b s.ch s.m s.sc own
def C6:Nat->Bool->KS->Stmt->Bool
 |0,_,_,_=>aj
 |n+1,y,s,t=>match t with
  | .Return v _=>y&&kO (kE b 40 s) v
  | .Assign ts v _=>kE b 40 s v&&ts.all (Si b (kE b 40 s) s)
  | .Expr v _=>kE b 40 s v
  | .If t x o _=>kE b 40 s t&&x.all (C6 n y s)&&o.all (C6 n y s)
  | .While t x o _=>kE b 40 s t&&x.all (C6 n y s)&&o.all (C6 n y s)
  | .For t i x o _=>kE b 40 s i&&Si b (kE b 40 s) s t&&x.all (C6 n y s)&&o.all (C6 n y s)
  | .Raise e c _=>kO (kE b 40 s) e&&kO (kE b 40 s) c
  | .Try x hs o f _=>x.all (C6 n y s)&&(hs.all λh=>match h with
   | .ExceptHandler t m x _=>kO (kE b 40 s) t&&m.isNone&&x.all (C6 n y s))&&o.all (C6 n y s)&&f.all (C6 n y s)
  | .Pass _=>H
  | .FunctionDef _ a x ds ret tp own _ z _=>kD b s a ds ret tp own z&&x.all (C6 n H (s.into own))
  | .ClassDef _ bs ks x ds tp own _ z _ _=>tp.isEmpty&&ks.isEmpty&&ds.isEmpty&&bs.all (kE b 40 s)&&rN b s.m s.sc z&&rO b s.ch s.m s.sc own&&x.all (C6 n aj ⟨aj,own,s.ch,own⟩)
  |_=>aj
end
end
set_option backward.match.sparseCases true
section
theorem Aq:∀{l},memC c l=aj->c∉l:=by
 intro l
 induction l with
 |nil=>
  intro _;exact aU
 |cons y l d=>
  intro h;have h:(af (memC c l) H (ak c y):Bool)=false:=h
  induction a:ak c y using zB with
  |true=>rw [a] at h;exact ft h
  |false=>
   rw [a] at h;rw [aT];rintro(q|q)
   .exact absurd q (aX a)
   .exact d h q
theorem BH (hn:aY n=H):∀{l},l.all (λp=>aY p.1)=H->aZ (nm n) l=l.lookup n:=by
 intro l
 induction l with
 |nil=>
  intro _;exact rfl
 |cons c l d=>
  obtain⟨x,a⟩:=c;intro h;rw [iC,aP] at h;refine(?_:(af (aZ (nm n) l) (O a) (ak (nm n) (nm x)):Option aM)=_);refine U bJ (U (d h.2) ?_)
  induction q:ak (nm n) (nm x) using zB with
  |true=>
   have:=gU hn h.1 (aH q);exact U this (U (beq_self_eq_true ..) rfl)
  |false=>
   have:(n==x)=false:=beq_eq_false_iff_ne.mpr λe=>aX q (congrArg nm e);exact U this rfl
theorem Nr:frameAttrs.all (λy=> !Nm y.cps.toList)=true:=by kernel_rfl
theorem C7 (h:Nm n.cps.toList=H):attrL n=true:=by
 have h1:frameAttrs.contains n=false:=by
  induction q:frameAttrs.contains n using zB with
  |false=>rfl
  |true=>
   have:=aL.mp Nr n (g9.mp q);rw [h] at this;exact ff this
 have h2:n.opensWith "__"=false:=by
  induction q:n.opensWith "__" using zB with
  |false=>rfl
  |true=>
   obtain⟨⟨l⟩⟩:=n;have q:=congrArg Array.toList (eq_of_beq q);rw [Array.toList_extract,show("__":Str).cps.toList=[95,95] from rfl,show("__":Str).cps.size=2 from rfl] at q
   induction l using zL with
   |nil=>injection q
   |cons a l=>
    have:a=95:=by simpa using congrArg (λl=>l.head?) q
    subst this;exact ff h
 unfold attrL;refine U h1 (U h2 ?_);rfl
theorem Nt (h:Yk n=H):attrL n=true:=by
 rcases cz.mp h with q|q
 .exact C7 q
 .exact q
theorem EK:wM.all aY=true:=by kernel_rfl
theorem ua:gZ ou=true:=by kernel_rfl
def tB (b:Bool) (sc:Scope) (n:Str):Prop:=(∃k,sc.names.lookup n=O k/\(t9 k=H->n∈wM))/\attrL n=H/\(b=aj->JF.own.contains n=aj)
theorem Ge (hm:m=H->sc=ou) (hp:gZ sc=H) (h:Yi b f m sc n=H):aY n=H/\tB b sc n/\∃k,sc.names.lookup n=O k/\f k=true:=by
 refine gc (mK h) λh c=>gc (mK h) λh d=>aC (mK h) λh2 h1=> ?_;have e:kindAt m sc n=sc.names.lookup n:=by
  induction m using zB with
  |false=>exact BH h1 hp
  |true=>refine U (hm rfl) ?_;exact Am h1 ua
 rw [e] at h2
 induction q:sc.names.lookup n using zO with
 |none=>rw [q] at h2;exact ff h2
 |some k=>
  rw [q] at h2;refine aC (mK h2) λa i=>⟨h1,(iW (bV k q (λg=> ?_)) ?_ (λhb=> ?_)),k,rfl,i⟩
  .rw [g] at a;exact BF h1 EK a
  .rcases cz.mp d with q|q
   .exact C7 q
   .exact q
  .subst hb;have h:memC (nm n) Ye=false:=by rwa [Bool.false_or,gv] at c
   induction q:JF.own.contains n using zB with
   |false=>rfl
   |true=>exact absurd (List.mem_map_of_mem (g9.mp q)) (Aq h)
theorem EL {sc:Scope} (hn:aY n=H) (h:Nq sc.more (nm n)=H):sc.fast.contains n=true:=by
 obtain⟨⟨k,v⟩,hm,h⟩:=iM.mp h;refine aC (mK h) λa h=>gc (mK h) λh1 h2=> ?_;have hk:k="fast":=gU h2 rfl (aH h1);subst hk;refine g9.mpr (List.mem_filterMap.mpr (bV _ hm ((?_:(if(("fast":Str)==("fast":Str))=H then _ else aq)=O n))))
 induction v using lW with
 |str x=>
  exact gc (mK a) λc d=>U (gU d hn (aH c)) rfl
 |_=>exact ff a
theorem Ar (hp:gZ own=H) (h:EI (own.names.map λp=>nm p.1)=H):noTwice own=true:=by
 have c:∀l:List (Str×aM),l.all (λp=>aY p.1)=H->EI (l.map λp=>nm p.1)=H->∀p∈l,l.filter (λq=>q.1==p.1)=[p]:=by
  intro l
  induction l with
  |nil=>intro _ _ p h;cases h
  |cons a l d=>
   intro hp h p hm;rw [iC,aP] at hp;have h:(af (EI (l.map λp=>nm p.1)) aj (memC (nm a.1) (l.map λp=>nm p.1)):Bool)=true:=h
   induction q:memC (nm a.1) (l.map λp=>nm p.1) using zB with
   |true=>rw [q] at h;exact ff h
   |false=>
    rw [q] at h;have out:∀p∈l,p.1≠a.1:=λp hp e=>Aq q (gJ.mpr (bV p hp (congrArg nm e)));rcases aT.mp hm with e|e
    .refine U e ?_;rw [List.filter_cons_of_pos (by exact U (beq_self_eq_true ..) rfl),qD.mpr λx hx e=>out x hx (eq_of_beq e)]
    .rw [List.filter_cons_of_neg (by refine U (beq_eq_false_iff_ne.mpr (out p e).symm) ?_;exact bY)];exact d hp.2 h p e
 refine aL.mpr λp hm=> ?_;have e:=c _ hp h p hm;obtain⟨n,k⟩:=p;refine(?_:(match own.names.filter (λx=>x.1==n) with|[_]=>H|[(_,a),(_,b)]=>own.kind== .class&&a != .free&&b== .free|_=>aj)=H);exact U e rfl
theorem rQ {p:Arguments->Prop} (k:∀c ds,(∀x∈c,x.annotation=aq)->p ⟨[],c,aq,[],[],aq,ds⟩):∀{a:Arguments},EJ a=H->p a
 |⟨_,c,_,_,_,_,ds⟩,h=>e6 h λh1 h2 d e g i=>eN (p:=λz=>p ⟨z,_,_,_,_,_,_⟩) h1 (eO (p:=λz=>p ⟨_,_,z,_,_,_,_⟩) h2 (eN (p:=λz=>p ⟨_,_,_,z,_,_,_⟩) d (eO (p:=λz=>p ⟨_,_,_,_,_,z,_⟩) e (eN (p:=λz=>p ⟨_,_,_,_,z,_,_⟩) g (k c ds λx hx=>cQ.mp (aL.mp i x hx))))))
structure Cl {α:Type} (b:Bool) (A:Alg α) (Q:α->Prop):Prop where
 ask:∀sc n p,tB b sc n->Q (A.ask sc n p)
 Yl:∀w sc n,w≠walrusThrough->w≠declaredGlobal->Q (A.check w sc n H)
 ent:∀sc,Q (A.enter sc)
 unit:Q A.unit
 both:∀x y,Q x->Q y->Q (A.both x y)
inductive Qs {α:Type} (Q:α->Prop):List α->Prop
 |nil:Qs Q []
 |cons {x l}:Q x->Qs Q l->Qs Q (x::l)
section
variable {α:Type} {b:Bool} {A:Alg α} {Q:α->Prop} (C:Cl b A Q)
include C
theorem Cl.all:∀{l:List α},Qs Q l->Q (A.all l)
 |_,.nil=>C.unit
 |_,.cons h r=>C.both _ _ h (Cl.all r)
theorem Cl.map {a:Type} {f}:∀{l:List a},(∀x∈l,Q (f x))->Q (A.all (l.map f)):=by
 intro l
 induction l with
 |nil=>
  intro _;exact C.unit
 |cons x l c=>
  intro h;exact C.both _ _ (h x (aE ..)) (c λy hy=>h y (aD _ hy))
theorem Cl.Jt (hk:k=H) (h1:w≠walrusThrough) (h2:w≠declaredGlobal):Q (A.check w sc n k):=by
 subst hk;exact C.Yl w sc n h1 h2
variable {m:Bool} {sc own:Scope} {ch:List Scope} (hm:m=H->sc=ou) (hp:gZ sc=H) (hc:∀s∈ch,gZ s=H)
theorem Cl.nm (hm:m=H->sc=ou) (hp:gZ sc=H) (h:Yi b f m sc n=H):Q (A.ask sc n p):=C.ask _ _ _ (Ge hm hp h).2.1
theorem Cl.bind (hm:m=H->sc=ou) (hp:gZ sc=H) (c:cx.gl=[]) (hl:cx.nl=[]) (h:rN b m sc n=H):Q (A.bind cx sc n p):=by
 obtain⟨_,a,k,e,f⟩:=Ge hm hp h;refine C.both _ _ (C.ask _ _ _ a) (C.Jt ?_ (of_decide_eq_true rfl) (by decide+kernel));refine U e (U c (U hl ?_));rcases k<;>first|rfl|exact ff f
theorem Cl.enter (hm:m=H->sc=ou) (hp:gZ sc=H) (hc:∀s∈ch,gZ s=H) (j:gl=[]) (h:rO b ch m sc own=H):gZ own=H/\Q (A.enterFrom ch aq gl sc own):=by
 unfold rO at h;refine gc (mK h) λh r=>gc (mK h) λh v=>gc (mK h) λh i=>aC (mK h) λh2 h1=> ?_;have ann:annotationLike own=false:=by
  unfold annotationLike
  induction q:own.kind using m5<;>rw [q] at h1<;>first|rfl|exact ff h1
 refine⟨i, ?_⟩;unfold Alg.enterFrom;refine U ann (U j (C.all (.cons (C.ent _) (.cons (C.Jt (Ar i v) (of_decide_eq_true rfl) (by decide+kernel)) (.cons (C.map λp d=> ?_) (.cons (C.map λp d=> ?_) (.cons C.unit (.cons ?_ (.cons C.unit .nil)))))))))
 .refine gc (gC.mp d) λc g=> ?_;have:=mK (aL.mp r p c);have g:=eq_of_beq g;have t:=this.1;rw [g] at t;obtain⟨_,a,k,e,f⟩:=Ge hm hp t;refine C.both _ _ (C.ask _ _ _ a) (C.Jt (iM.mpr (bV (p.1,k) (lookup_mem e) ?_)) (of_decide_eq_true rfl) (by decide+kernel));refine(?_:(p.1==p.1&&_)=H);refine U (beq_self_eq_true ..) (U (Bool.true_and ..) ?_)
  induction k using dm with
  |cell=>rfl
  |free=>
   have f:Nn sc.kind=false:=by
    induction q:Nn sc.kind using zB with
    |false=>rfl
    |true=>rw [q] at f;exact ff f
   have:(sc.kind==ScopeKind.class)=false:=by
    induction q:sc.kind using m5<;>rw [q] at f<;>first|rfl|exact ft f
   refine U this ?_;rfl
  |_=>exact ff f
 .refine aC (gC.mp d) λg c=> ?_;have:=(mK (aL.mp r p c)).2;have j:t9 p.2=true:=by
   have:=(mK g).1
   induction q:p.2 using dm<;>rw [q] at this<;>first|rfl|exact ff this
  rw [j] at this;have hn:=aL.mp i p c;refine C.Jt (cz.mpr (.inr ?_)) (of_decide_eq_true rfl) (by decide+kernel);have n:∀l:List Scope,(∀s∈l,s∈ch)->(match l.findSome? (λb=>b.names.lookup p.1) with|some k=> !(k== .local||k== .cell||k== .free)|none=>H)=true:=by
   intro l
   induction l with
   |nil=>intro _;rfl
   |cons s l w=>
    intro u;have c:=u s (aE ..);have h:=(aL.mp this) s c;rw [BH hn (hc s c)] at h;refine U (List.findSome?_cons) ?_
    induction q:s.names.lookup p.1 using zO with
    |none=>exact w λt ht=>u t (aD _ ht)
    |some k=>
     rw [q] at h;rcases k<;>first|rfl|exact ff h
  exact n ch λx h=>h
 .split
  .exact C.unit
  .rename_i o;refine C.map λp d=>aC (gC.mp d) λg c=>C.Jt ?_ (of_decide_eq_true rfl) (by decide+kernel);rcases cz.mp h2 with q|q
   .exact absurd (by unfold Scope.fast;refine U (cX.mp q) ?_;rfl) o
   .have:=aL.mp q p c;rw [show(p.2== .cell||p.2== .free||(p.2== .local&&own.kind== .function))=H from g] at this;exact EL (aL.mp i p c) this
theorem Cl.inl (hp:gZ own=H) (h:Q5 fr own=H):Q (A.inlined fr own):=by
 unfold Alg.inlined;split
 .exact C.unit
 .rename_i c;refine C.map λp d=>aC (gC.mp d) λe a=>C.Jt ?_ (of_decide_eq_true rfl) (by decide+kernel);rcases cz.mp h with q|q
  .exact absurd (by unfold Scope.fast;refine U (cX.mp q) ?_;rfl) c
  .have:=aL.mp q p a;rw [show((p.2== .local||p.2== .cell)&&p.1.cps[0]? !=O 46)=H from e] at this;exact EL (aL.mp hp p a) this
theorem Cl.params (hp:gZ own=H) (c:EJ a=H):Q6 b own a=H->Q (A.params own a):=
 rQ (p:=λa=>Q6 b own a=H->Q (A.params own a)) (λd ds e h=>C.map λx hx=>C.bind (m:=aj) (λq=>ff q) hp rfl rfl (aL.mp h x (by simpa using hx))) c
end
structure EP (s:KS):Prop where
 m:s.m=H->s.sc=ou
 p:gZ s.sc=H
 c:∀t∈s.ch,gZ t=H
theorem EP.into (h:EP s) (hp:gZ own=H):EP (s.into own):=
 ⟨λq=>ff q,hp,λt ht=>(aT.mp ht).elim (λe=>e▸hp) (h.c t)⟩
theorem EP.comp (h:EP s) (hp:gZ own=H):EP (s.comp own):=h.into (own:=own) hp|>λq=>⟨q.m,q.p,q.c⟩
def A1 (s:KS) (cx:TablesWhole.Ctx):Prop:=cx.frame=s.fr/\cx.encl=s.ch/\cx.gl=[]/\cx.nl=[]
section
variable {α:Type} {b:Bool} {A:Alg α} {Q:α->Prop} (C:Cl b A Q)
include C
def GE (b:Bool) (A:Alg α) (Q:α->Prop) (f:KS->Expr->Bool):Prop:=∀s e cx hold,EP s->A1 s cx->f s e=H->Q (wE A cx s.sc hold e)
variable {f:KS->Expr->Bool} (G:GE b A Q f) {s:KS} {cx:TablesWhole.Ctx} {hold:Option Scope} (S:EP s) (X:A1 s cx)
include G S X
theorem GE.es:l.all (f s)=H->Q (wEs A cx s.sc hold l):=uq C.unit λe l h k=>C.both _ _ (G s e cx hold S X h) k
theorem GE.o:∀{e:Option Expr},kO (f s) e=H->Q (wEo A cx s.sc hold e)
 |none,_=>C.unit
 |some e,h=>G s e cx hold S X h
theorem GE.os:l.all (kO (f s))=H->Q (wEos A cx s.sc hold l):=uq C.unit λe l h k=>C.both _ _ (GE.o C G S X h) k
theorem GE.ts (a:∀e,P e=H->Q (wT A cx s.sc hold e)):l.all P=H->Q (wTs A cx s.sc hold l):=uq C.unit λe l h k=>C.both _ _ (a e h) k
theorem GE.x {x} (h:rN b s.m s.sc x=H):Q (wT A cx s.sc hold (.Name x p)):=C.bind S.m S.p X.2.2.1 X.2.2.2 h
theorem GE.t (h:Si b (f s) s e=H):Q (wT A cx s.sc hold e):=by
 induction e using aS with
 |Name x p=>exact GE.x C G S X h
 |Tuple c _ _=>
  refine GE.ts C G S X (λe h=> ?_) h
  induction e using aS with
  |Name x p=>exact GE.x C G S X h
  |Tuple c _ _=>
   refine GE.ts C G S X (λe h=> ?_) h
   induction e using aS with
   |Name x p=>exact GE.x C G S X h
   |_=>exact ff h
  |_=>exact ff h
 |Attribute o a _=>exact G s o cx hold S X (mK h).2
 |Subscript o i _=>exact e2 h λh1 h2=>C.both _ _ (G s o cx hold S X h1) (G s i cx hold S X h2)
 |_=>exact ff h
end
section
variable {α:Type} {b:Bool} {A:Alg α} {Q:α->Prop} (C:Cl b A Q)
include C
theorem GE.gr (G:GE b A Q f) {x hold} (S:EP s) (X:A1 s cy):
 (l.all λg=>f s g.iter&&Si b (f s) s g.target&&g.ifs.all (f s)&&g.is_async==0)=H->Q (wGens A cx cy a s.sc x hold aj l):=
 uq (p:=λl=>Q (wGens A cx cy a s.sc x hold aj l)) C.unit λg l h k=>by
  obtain⟨t,c,d,q⟩:=g;exact e4 h λh1 h2 e i=>C.all (.cons (G s c cy hold S X h1) (.cons (GE.t C G S X h2) (.cons (GE.es C G S X e) (.cons k .nil))))
theorem GE.g (G:GE b A Q f) {x hold} (S:EP s) (X:A1 s cx) (a:EP (s.comp own)) (c:A1 (s.comp own) cy):∀{l},kG b f s own l=H->Q (wGens A cx cy s.sc own x hold H l):=by
 intro l
 induction l with
 |nil=>
  intro h;exact ff h
 |cons d l n=>
  obtain⟨t,e,i,q⟩:=d;intro h;exact e5 h λh1 h2 j o k=>C.all (.cons (G s e cx x S X h1) (.cons (GE.t C G a c h2) (.cons (GE.es C G a c j) (.cons (GE.gr C G a c k) .nil))))
theorem BI (G:GE b A Q f) (S:EP s) (X:A1 s cx) (h1:rO b s.ch s.m s.sc own=H) (h2:Q5 s.fr own=H) (d:rN b aj own ".0"=H) (e:kG b f s own gs=H)
 (k:EP (s.comp own)->A1 (s.comp own) ⟨cx.frame,[],[],own::cx.encl,aq⟩->Qs Q l):Q (A.all (A.enterFrom cx.encl aq [] s.sc own::A.inlined cx.frame own::A.bind ⟨own,[],[],[],aq⟩ own (".0":Str) none::wGens A cx ⟨cx.frame,[],[],own::cx.encl,aq⟩ s.sc own x hold H gs::l)):=by
 refine aC (C.enter S.m S.p (λt ht=>S.c t ht) rfl h1) λhe hp=> ?_;have a:A1 (s.comp own) ⟨cx.frame,[],[],own::cx.encl,aq⟩:=qN X.1 (congrArg _ X.2.1) rfl rfl;exact C.all (.cons (X.2.1▸he) (.cons (C.inl hp (X.1▸h2)) (.cons (C.bind (m:=aj) ff hp rfl rfl d) (.cons (GE.g C G S X (S.comp hp) a e) (k (S.comp hp) a)))))
theorem Nu n:GE b A Q (kE b n):=by
 induction n with
 |zero=>exact λs e cx hold S X h=>ff h
 |succ n G=>
  intro s e cx hold S X h
  induction e using aS with
  |Constant c _ _=>exact C.unit
  |Name x p=>
   refine e2 h λh1 h2=>(?_:Q (if(x==("super":Str)&&s.sc.functionLike)=H then A.both (A.ask s.sc x (O p)) (A.ask s.sc ("__class__":Str) aq) else A.ask s.sc x (O p)));by_cases q:(x==("super":Str)&&s.sc.functionLike)=H
   .refine U (if_pos q) ?_;have q:=eq_of_beq (mK q).1;subst q;exact C.both _ _ (C.nm S.m S.p h1) (C.nm S.m S.p h2)
   .refine U (if_neg q) ?_;exact C.nm S.m S.p h1
  |Attribute v a _=>exact G s v cx hold S X (mK h).2
  |BoolOp _ vs _=>exact GE.es C G S X h
  |BinOp l o r p=>exact e3 h λB h1 h2=>C.both _ _ (G s l cx hold S X h1) (G s r cx hold S X h2)
  |UnaryOp _ x _=>exact G s x cx hold S X (mK h).2
  |Lambda a x own _=>
   exact e5 h λh1 h2 d g j=>aC (C.enter S.m S.p (λt ht=>S.c t ht) rfl d) λhe hp=>C.all (.cons (rQ (p:=λa=>a.defaults.all (kE b n s)=H->Q (wDefaults A cx s.sc hold a)) (λD ds B h=>C.both _ _ (GE.es C G S X h) C.unit) h1 h2) (.cons (X.2.1▸he) (.cons (C.params hp h1 g) (.cons (G (s.into own) x _ aq (S.into hp) (qN rfl (congrArg _ X.2.1) rfl rfl) j) .nil))))
  |IfExp t x y _=>exact e3 h λh1 h2 d=>C.all (.cons (G s t cx hold S X h1) (.cons (G s x cx hold S X h2) (.cons (G s y cx hold S X d) .nil)))
  |Dict ks vs _=>exact e2 h λh1 h2=>C.both _ _ (GE.os C G S X h1) (GE.es C G S X h2)
  |ListComp e E own _=>exact e5 h λh1 h2 d g j=>BI C G S X h1 h2 d g λw z=> .cons (G (s.comp own) e _ _ w z j) .nil
  |DictComp k v E own _=>exact e6 h λh1 h2 d g j F=>BI C G S X h1 h2 d g λw z=> .cons (G (s.comp own) k _ _ w z j) (.cons (G (s.comp own) v _ _ w z F) .nil)
  |Compare l _ J _=>exact e2 h λh1 h2=>C.both _ _ (G s l cx hold S X h1) (GE.es C G S X h2)
  |Call k D ks _=>exact e4 h λh1 B d g=>C.all (.cons (G s k cx hold S X d) (.cons (GE.es C G S X g) (.cons (eN (p:=λks=>Q (wKs A cx s.sc hold ks)) h1 C.unit) .nil)))
  |Subscript v i _=>exact e2 h λh1 h2=>C.both _ _ (G s v cx hold S X h1) (G s i cx hold S X h2)
  |Slice l u t _=>exact e3 h λh1 h2 d=>C.all (.cons (GE.o C G S X h1) (.cons (GE.o C G S X h2) (.cons (GE.o C G S X d) .nil)))
  |List I _=>exact GE.es C G S X h
  |Tuple I _ _=>exact GE.es C G S X h
  |_=>exact ff h
end
theorem Gf {a b:List α} (h:a=[]) (k:b=[]):a++b=[]:=h.symm▸k
theorem C8 (a:∀t,P t=H->declS g t=[]) {l}:l.all P=H->declSs g l=[]:=uq (p:=λl=>declSs g l=[]) rfl λt l h k=>Gf (a t h) k
theorem Nv:∀n y s t,C6 b n y s t=H->declS g t=[]:=by
 intro n
 induction n with
 |zero=>
  intro _ _ _ h;exact ff h
 |succ n d=>
  intro y s t h;have G:∀{l},l.all (C6 b n y s)=H->declSs g l=[]:=C8 (d y s)
  induction t using fc with
  |If t x o _|While t x o _=>exact e3 h λa h1 h2=>Gf (G h1) (G h2)
  |For t i x o _=>exact e4 h λa a h1 h2=>Gf (G h1) (G h2)
  |Try x c o f _=>exact e4 h λh1 h2 e j=>Gf (Gf (Gf (G h1) (uq (p:=λc=>declHs g c=[]) rfl (λu l h k=>by obtain⟨t,m,x,_⟩:=u;exact Gf (G (mK h).2) k) h2)) (G e)) (G j)
  |Return|Assign|Expr|Raise|Pass|FunctionDef|ClassDef=>rfl
  |_=>exact ff h
section
variable {α:Type} {b:Bool} {A:Alg α} {Q:α->Prop} (C:Cl b A Q)
include C
theorem HB {cx:TablesWhole.Ctx} {sc:Scope}:∀{l:List Arg},(∀x∈l,x.annotation=aq)->Q (wArgAnns A cx sc aq l)
 |[],_=>C.unit
 |⟨x,O _,_⟩::l,h=>sn (h _ (aE ..))
 |⟨x,aq,_⟩::l,h=>C.both _ _ C.unit (HB λy hy=>h y (aD _ hy))
theorem U9 (S:EP s) (X:A1 s cx) {ret} (i:gl=[]) (h:kD b s a ds ret g own x=H):
 gZ own=H/\Q (wDefHead A cx s.sc a ds ret g own ts x p gl):=
 have G:=Nu C 40
 e8 h λh1 h2 d j k l n o=>
 have e:=C.enter S.m S.p (λt ht=>S.c t ht) i o
 ⟨e.1,eN (p:=λg=>Q (wDefHead A cx s.sc a ds ret g own ts x p gl)) h1 (eO (p:=λret=>Q (wDefHead A cx s.sc a ds ret [] own ts x p gl)) h2
  (C.all (.cons (GE.es C G S X j) (.cons (rQ (p:=λa=>a.defaults.all (kE b 40 s)=H->Q (wDefaults A cx s.sc aq a)) (λq ds r h=>C.both _ _ (GE.es C G S X h) C.unit) d k) (.cons (C.bind S.m S.p X.2.2.1 X.2.2.2 l) (.cons (C.params e.1 d n) (.cons (C.all (.cons (X.2.1▸e.2) (.cons (rQ (p:=λa=>Q (wAnns A cx s.sc aq a)) (λq ds h=>C.all (.cons C.unit (.cons (HB C h) (.cons C.unit (.cons C.unit (.cons C.unit .nil)))))) d) (.cons C.unit .nil)))) .nil)))))))⟩
theorem vz (a:∀t,P t=H->Q (wS A top cx sc t)):l.all P=H->Q (wSs A top cx sc l):=uq C.unit λt l h k=>C.both _ _ (a t h) k
theorem Gg top:∀n y s t cx,EP s->A1 s cx->C6 b n y s t=H->Q (wS A top cx s.sc t):=by
 intro n
 induction n with
 |zero=>
  intro _ _ _ _ _ _ h;exact ff h
 |succ n B=>
  intro y s t cx S X h;have G:=Nu C 40;have I:∀{l},l.all (C6 b n y s)=H->Q (wSs A top cx s.sc l):=vz C λt h=>B y s t cx S X h
  induction t using fc with
  |Return v _=>exact GE.o C G S X (mK h).2
  |Assign ts v _=>exact e2 h λh1 h2=>C.both _ _ (G s v cx aq S X h1) (GE.ts C G S X (λe h=>GE.t C G S X h) h2)
  |Expr v _=>exact G s v cx aq S X h
  |If t x o _|While t x o _=>exact e3 h λh1 h2 j=>C.all (.cons (G s t cx aq S X h1) (.cons (I h2) (.cons (I j) .nil)))
  |For t i x o _=>exact e4 h λh1 h2 j w=>C.all (.cons (G s i cx aq S X h1) (.cons (GE.t C G S X h2) (.cons (I j) (.cons (I w) .nil))))
  |Raise e c _=>exact e2 h λh1 h2=>C.both _ _ (GE.o C G S X h1) (GE.o C G S X h2)
  |Try x J o f _=>
   exact e4 h λh1 h2 j w=>C.all (.cons (I h1) (.cons (uq (p:=λJ=>Q (wHs A top cx s.sc J)) C.unit (λu l h k=>by
    obtain⟨t,m,x,p⟩:=u;exact e3 h λL M P=>C.all (.cons (GE.o C G S X L) (.cons (eO (p:=λm=>Q (A.optName cx s.sc m p)) M C.unit) (.cons (I P) (.cons k .nil))))) h2) (.cons (I j) (.cons (I w) .nil))))
  |Pass _=>exact C.unit
  |FunctionDef _ a x ds ret q own ts z p=>
   refine e2 h λh1 h2=> ?_;have d:=λg=>C8 (g:=g) (Nv n H (s.into own)) h2;have D:=U9 C S X (ts:=ts) (p:=p) (d H) h1;exact C.both _ _ D.2 (e8 h1 λR r r r r r r r=>eN (p:=λq=>Q (wSs A top ⟨own,declSs aj x,declSs H x,own::under q ts cx.encl,aq⟩ own x)) R (vz C (λt h=>B H (s.into own) t ⟨own,declSs aj x,declSs H x,own::cx.encl,aq⟩ (S.into D.1) (qN rfl (congrArg _ X.2.1) (d H) (d aj)) h) h2))
  |ClassDef _ F ks x ds q own ts z _ p=>
   refine e7 h λh1 h2 j w V h6 K=> ?_;have d:=λg=>C8 (g:=g) (Nv n aj ⟨aj,own,s.ch,own⟩) K;have E:=C.enter S.m S.p (λt ht=>S.c t ht) (d H) h6;exact C.both _ _ (eN (p:=λq=>Q (wClassHead A cx s.sc F ks ds q own ts z p (declSs H x))) h1 (eN (p:=λks=>Q (wClassHead A cx s.sc F ks ds [] own ts z p (declSs H x))) h2 (eN (p:=λds=>Q (wClassHead A cx s.sc F [] ds [] own ts z p (declSs H x))) j
    (C.all (.cons C.unit (.cons (C.bind S.m S.p X.2.2.1 X.2.2.2 V) (.cons (C.all (.cons (X.2.1▸E.2) (.cons (GE.es C G S X w) (.cons C.unit .nil)))) .nil)))))))
    (eN (p:=λq=>Q (wSs A top ⟨own,declSs aj x,declSs H x,under q ts cx.encl,aq⟩ own x)) h1 (vz C (λt h=>B aj ⟨aj,own,s.ch,own⟩ t ⟨own,declSs aj x,declSs H x,cx.encl,aq⟩ ⟨ff,E.1,S.c⟩ (qN rfl X.2.1 (d H) (d aj)) h) K))
  |_=>exact ff h
end
end
set_option backward.match.sparseCases false
section
noncomputable def rS (y a l p:Bool):Look:={strict:=aj,foot:=aq,yields:=y,awaits:=a,loops:=l,place:=p}
section
variable {y a l p:Bool}
theorem Va (h:Yk n=H):(rS y a l p).field n=true:=by
 simp [Look.field,Look.attr,Look.word,rS,(Nt h)]
theorem Vb (h:kC c=H):noRoadL (rS y a l p) (.Constant c k q)=true:=by
 induction c using lW with
 |str x=>
  rcases cz.mp h with q|q
  .refine gc (mK q) λd e=>(?_:(rS y a l p).str x=H);simp [Look.str,Look.word,rS,(C7 d),e]
  .exact q
 |_=>rfl
theorem Q7 n:∃q,(rS y a l p).root n=rS y a l q:=by unfold Look.root;split;exact⟨H,rfl⟩;exact⟨aj,rfl⟩
theorem args_eq f:∃q,(rS y a l p).args f=rS y a l q:=by unfold Look.args;split;exact⟨H,rfl⟩;exact⟨aj,rfl⟩
end
theorem Nx (h:(match k with| .Name x _=> !memC (nm x) Np|_=>H)=H):(nameOf? k).any (["vars","dir","locals"]:List Str).contains=false:=by
 induction k using aS with
 |Name x _=>
  cases q:(["vars","dir","locals"]:List Str).contains x with
  |false=>exact q
  |true=>exact absurd (List.mem_map_of_mem (g9.mp q)) (Aq (l:=Np) ((gv _).mp h))
 |_=>rfl
def GR (f:KS->Expr->Bool):Prop:=∀s e y a l p,f s e=H->noRoadL (rS y a l p) e=H
section
variable {b:Bool} {f:KS->Expr->Bool} (G:GR f) {s:KS} {y a l p:Bool}
include G
theorem GR.es:m.all (f s)=H->noRoadLs (rS y a l p) m=true:=uq (p:=λm=>noRoadLs (rS y a l p) m=H) rfl λe m h k=>fz (G s e y a l p h) k
theorem GR.o:∀{e:Option Expr},kO (f s) e=H->noRoadLOpt (rS y a l p) e=H
 |none,_=>rfl
 |some e,h=>G s e y a l p h
theorem GR.os:m.all (kO (f s))=H->noRoadLOpts (rS y a l p) m=true:=uq (p:=λm=>noRoadLOpts (rS y a l p) m=H) rfl λe m h k=>fz (GR.o G h) k
theorem GR.ts (c:∀e,P e=H->noRoadL (rS y a l p) e=H):m.all P=H->noRoadLs (rS y a l p) m=true:=uq (p:=λm=>noRoadLs (rS y a l p) m=H) rfl λe m h k=>fz (c e h) k
theorem GR.at_ {o} (h:(Yk n&&f s o)=H):noRoadL (rS y a l p) (.Attribute o n q)=true:=e2 h λh1 h2=>by
 exact fF (Q7 (y:=y) (a:=a) (l:=l) (p:=p) n) λq e=>fz (cz.mpr (.inl (Va h1))) (e▸G _ _ _ _ _ _ h2)
theorem GR.t (h:Si b (f s) s e=H):noRoadL (rS y a l p) e=true:=by
 induction e using aS with
 |Name x _=>rfl
 |Tuple c _ _=>
  refine GR.ts G (λe h=> ?_) h
  induction e using aS with
  |Name x _=>rfl
  |Tuple c _ _=>
   refine GR.ts G (λe h=> ?_) h
   induction e using aS with
   |Name x _=>rfl
   |_=>exact ff h
  |_=>exact ff h
 |Attribute o n _=>exact GR.at_ G h
 |Subscript o i _=>exact e2 h λh1 h2=>fz (G s o _ _ _ _ h1) (G s i _ _ _ _ h2)
 |_=>exact ff h
theorem GR.c {t it} (h1:f s' it=H) (h2:Si b (f s) s t=H) (d:ifs.all (f s)=H) (e:(k==0)=H) (g:noRoadLGens (rS y a l p) m=H):noRoadLGens (rS y a l p) (⟨t,it,ifs,k⟩::m)=true:=
 fz (fz (fz (fz (fz (cz.mpr (.inl e)) rfl) (GR.t G h2)) (G _ _ _ _ _ _ h1)) (GR.es G d)) g
theorem GR.g:∀{m},kG b f s own m=H->noRoadLGens (rS y a l p) m=true:=by
 intro m
 induction m with
 |nil=>
  intro _;exact rfl
 |cons j m r=>
  obtain⟨t,n,d,k⟩:=j;intro h;exact e5 h λh1 h2 e i o=>GR.c G h1 h2 e i (uq (p:=λm=>noRoadLGens (rS y a l p) m=H) rfl (λg m h k=>by
  obtain⟨t,n,d,q⟩:=g;exact e4 h λh1 h2 e i=>GR.c G h1 h2 e i k) o)
end
theorem HD {c:Look}:∀{m:List Arg},(∀x∈m,x.annotation=aq)->noRoadLArgL c m=H
 |[],_=>rfl
 |⟨x,O _,_⟩::l,h=>sn (h _ (aE ..))
 |⟨x,aq,_⟩::l,h=>fz rfl (HD λy hy=>h y (aD _ hy))
theorem BJ (G:GR f) (h:EJ x=H):x.defaults.all (f s)=H->noRoadLArgs (rS y a l p) x=true:=
 rQ (p:=λx=>x.defaults.all (f s)=H->noRoadLArgs (rS y a l p) x=H) (λe ds c d=>fz (fz (fz (fz (fz (fz rfl (HD c)) rfl) rfl) rfl) rfl) (GR.es G d)) h
theorem Vc n:GR (kE b n):=by
 induction n with
 |zero=>exact λs e y a l p h=>ff h
 |succ n G=>
  intro s e y a l p h
  induction e using aS with
  |Constant c _ _=>exact Vb h
  |Name x p=>rfl
  |Attribute v n _=>exact GR.at_ G h
  |BoolOp _ vs _=>exact GR.es G h
  |BinOp i o r p=>exact e3 h λh1 h2 d=>fz (fz h1 (G _ _ _ _ _ _ h2)) (G _ _ _ _ _ _ d)
  |UnaryOp _ x _=>exact e2 h λh1 h2=>fz h1 (G _ _ _ _ _ _ h2)
  |Lambda u x own _=>exact e5 h λh1 h2 j j m=>fz (BJ G h1 h2) (G _ _ _ _ _ _ m)
  |IfExp t x z _=>exact e3 h λh1 h2 d=>fz (fz (G _ _ _ _ _ _ h1) (G _ _ _ _ _ _ h2)) (G _ _ _ _ _ _ d)
  |Dict ks vs _=>exact e2 h λh1 h2=>fz (GR.os G h1) (GR.es G h2)
  |ListComp e A own _=>exact e5 h λj j j w m=>fz (G _ _ _ _ _ _ m) (GR.g G w)
  |DictComp k v A own _=>exact e6 h λj j j w m B=>fz (fz (G _ _ _ _ _ _ m) (G _ _ _ _ _ _ B)) (GR.g G w)
  |Compare u _ E _=>exact e2 h λh1 h2=>fz (G _ _ _ _ _ _ h1) (GR.es G h2)
  |Call k C ks _=>
   refine e4 h λh1 h2 d w=>eN (p:=λks=>noRoadL (rS y a l p) (.Call k C ks _)=H) h1 (fF (args_eq (y:=y) (a:=a) (l:=l) (p:=p) k) λq e=>fz (fz (fz (fz ?_ rfl) (cz.mpr (.inr (G _ _ _ _ _ _ d)))) (e▸GR.es G w)) rfl);refine gv _▸Bool.and_eq_false_iff.mpr (.inl (Nx h2))
  |Subscript v i _=>exact e2 h λh1 h2=>fz (G _ _ _ _ _ _ h1) (G _ _ _ _ _ _ h2)
  |Slice i u t _=>exact e3 h λh1 h2 d=>fz (fz (GR.o G h1) (GR.o G h2)) (GR.o G d)
  |List D _=>exact GR.es G h
  |Tuple D _ _=>exact GR.es G h
  |_=>exact ff h
theorem yp (c:∀t,P t=H->noRoadLS lk t=H):l.all P=H->noRoadLSs lk l=true:=uq (p:=λl=>noRoadLSs lk l=H) rfl λt l h k=>fz (c t h) k
theorem Ny:∀n y s t z a l p,(y=H->z=H)->C6 b n y s t=H->noRoadLS (rS z a l p) t=true:=by
 intro n
 induction n with
 |zero=>
  intro _ _ _ _ _ _ _ _ h;exact ff h
 |succ n A=>
  intro y s t z a l p hy h;have G:=Vc (b:=b) 40;have I:∀{l} {x},x.all (C6 b n y s)=H->noRoadLSs (rS z a l p) x=true:=λ{l g} h=>yp (λt h=>A y s t z a l p hy h) h
  induction t using fc with
  |Return v _=>exact e2 h λh1 h2=>fz (hy h1) (GR.o G h2)
  |Assign ts v _=>exact e2 h λh1 h2=>fz (fz rfl (GR.ts G (λe h=>GR.t G h) h2)) (G _ _ _ _ _ _ h1)
  |Expr v _=>exact cz.mpr (.inr (G _ _ _ _ _ _ h))
  |If t x o _=>exact e3 h λh1 h2 d=>fz (fz (G _ _ _ _ _ _ h1) (I h2)) (I d)
  |While t x o _=>exact e3 h λh1 h2 d=>fz (fz (G _ _ _ _ _ _ h1) (I (l:=H) h2)) (I d)
  |For t i x o _=>exact e4 h λh1 h2 d j=>fz (fz (fz (fz rfl (GR.t G h2)) (G _ _ _ _ _ _ h1)) (I (l:=H) d)) (I j)
  |Raise e c _=>exact e2 h λh1 h2=>fz (GR.o G h1) (GR.o G h2)
  |Try x B o f _=>
   exact e4 h λh1 h2 d j=>fz (fz (fz (I h1) (uq (p:=λB=>noRoadLHs (rS z a l p) B=H) rfl (λu m h k=>by
    obtain⟨t,i,x,q⟩:=u;exact e3 h λC g D=>fz (fz (GR.o G C) (I D)) k) h2)) (I d)) (I j)
  |Pass _=>rfl
  |FunctionDef _ u x ds ret w own ts q r=>
   exact e2 h λh hb=>e8 h λh1 h2 d j E g g g=>fz (fz (fz (fz (BJ G d E) (yp (λt h=>A H _ t H aj aj p (λg=>rfl) h) hb)) (GR.es G j)) (eO (p:=λr=>noRoadLOpt (rS z a l p) r=H) h2 rfl)) (eN (p:=λw=>noRoadLTps (rS z a l p) w=H) h1 rfl)
  |ClassDef _ J ks x ds w own ts q _ r=>
   exact e7 h λh1 h2 d j g g F=>fz (fz (fz (fz (GR.es G j) (eN (p:=λks=>noRoadLKws (rS z a l p) ks=H) h2 rfl)) (yp (λt h=>A aj _ t aj aj aj p ff h) F)) (eN (p:=λds=>noRoadLs (rS z a l p) ds=H) d rfl)) (eN (p:=λw=>noRoadLTps (rS z a l p) w=H) h1 rfl)
  |_=>exact ff h
end
set_option backward.match.sparseCases true
section
def Vd:KS:=⟨H,ou,[],ou⟩
abbrev KP (b:Bool) (l:List Stmt):Prop:=l.all (C6 b 40 aj Vd)=H
theorem Nz:KP aj (PL.main.body.take 369):=by kernel_rfl
theorem Sj:KP H (PL.main.body.drop 369):=by kernel_rfl
theorem NB:EP Vd:=⟨λa=>rfl,ua,λa h=>nomatch h⟩
theorem tB.weak (h:tB b sc n):tB H sc n:=iW h.1 h.2.1 (λq=>nomatch q)
theorem Cl.weak (C:Cl H A Q):Cl aj A Q:=⟨λsc n p h=>C.ask sc n p h.weak,C.Yl,C.ent,C.unit,C.both⟩
theorem Ju {Q:α->Prop} (C:Cl b A Q):∀l m,Q (wSs A ou cx ou m)->(∀t∈l,Q (wS A ou cx ou t))->Q (wSs A ou cx ou (l++m)):=by
 intro l
 induction l with
 |nil=>
  intro m h _;exact h
 |cons t l a=>
  intro m h k;exact C.both _ _ (k t (aE ..)) (a m h λu hu=>k u (aD _ hu))
theorem HE (C:Cl aj A Q):Q (wSs A ou ⟨ou,[],[],[],aq⟩ ou (PL.main.body.take 369)):=vz C (λt h=>Gg C ou 40 aj Vd t _ NB (qN rfl rfl rfl rfl) h) Nz
theorem Gh (C:Cl H A Q):Q (wSs A ou ⟨ou,[],[],[],aq⟩ ou PL.main.body):=by
 have h:=Ju C (PL.main.body.take 369) (PL.main.body.drop 369) (vz C (λt h=>Gg C ou 40 aj Vd t _ NB (qN rfl rfl rfl rfl) h) Sj) λt ht=>
  Gg C.weak ou 40 aj Vd t ⟨ou,[],[],[],aq⟩ NB (qN rfl rfl rfl rfl) (aL.mp Nz t ht)
 rwa [l8] at h
theorem NC:Cl b gather (λl=>l=[]) where
 ask _ _ _ _:=rfl
 Yl w sc n h1 h2:=by
  refine(?_:(if(w==walrusThrough&&sc.kind== .module||w==declaredGlobal)=H then [n] else [])=[]);refine U (beq_eq_false_iff_ne.mpr h1) (U (beq_eq_false_iff_ne.mpr h2) ?_);rfl
 ent _:=rfl
 unit:=rfl
 both x y hx hy:=by subst hx;subst hy;rfl
theorem BK:wSs gather ou ⟨ou,[],[],[],aq⟩ ou PL.main.body=[]:=Gh NC
theorem Gi:wSs gather ou ⟨ou,[],[],[],aq⟩ ou (PL.main.body.take 369)=[]:=HE NC
theorem Q8:Cl H holds (λx=>x=H) where
 ask sc n p h:=by
  obtain⟨⟨k,e,_⟩,_⟩:=h;refine(?_:(sc.names.lookup n).isSome=H);rw [e];rfl
 Yl _ _ _ _ _:=rfl
 ent _:=rfl
 unit:=rfl
 both x y hx hy:=by subst hx;subst hy;rfl
theorem Jv:EI (ou.names.map λp=>nm p.1)=true:=by kernel_rfl
theorem Q9 m:wModule holds m=(H&&(noTwice m.scope&&(wSs holds m.scope ⟨m.scope,[],wSs gather m.scope ⟨m.scope,[],[],[],aq⟩ m.scope m.body,[],aq⟩ m.scope m.body&&H))):=rfl
theorem Gj:wModule holds PL.main=true:=by
 refine(Q9 PL.main).trans ((?_:(H&&(noTwice ou&&(wSs holds ou ⟨ou,[],wSs gather ou ⟨ou,[],[],[],aq⟩ ou PL.main.body,[],aq⟩ ou PL.main.body&&H)))=H));rw [Ar ua Jv,BK,Gh Q8];rfl
theorem ND {p:Program} (h:wModule holds p.main=H) (h1:p.modules=[]) (h2:p.parses=[]) (a:p.harvested=[]):p.tablesWhole=true:=by
 have e:p.tablesWhole=(wModule holds p.main&&(holds.all (p.modules.map λ(_,_,m)=>wModule holds m)&&(holds.all (p.parses.map (wParse holds))&&(holds.all (p.harvested.map (wParse holds))&&H)))):=rfl;rw [e,h,h1,h2,a];rfl
theorem C9:PL.tablesWhole=true:=ND Gj rfl rfl rfl
noncomputable def Ym (f:Scope->Str->Bool):Alg Bool:=⟨λsc n u_=>f sc n,λu_ u_ u_ u_=>H,λu_=>H,H,aj,λa b=>a&&b⟩
theorem NF (h:∀sc n,tB b sc n->f sc n=H):Cl b (Ym f) (λx=>x=H) where
 ask sc n _ q:=h sc n q
 Yl _ _ _ _ _:=rfl
 ent _:=rfl
 unit:=rfl
 both x y hx hy:=by subst hx;subst hy;rfl
theorem NG f body:namesMeet PL body f=(H&&(H&&(wSs (Ym f) ou ⟨ou,[],wSs gather ou ⟨ou,[],[],[],aq⟩ ou body,[],aq⟩ ou body&&H))):=rfl
theorem wN (h:∀sc n,tB H sc n->f sc n=H):namesMeet PL PL.main.body f=true:=by
 rw [NG,BK,Gh (NF h)];rfl
theorem Gk (h:∀sc n,tB aj sc n->f sc n=H):namesMeet PL (PL.main.body.take 369) f=true:=by
 rw [NG,Gi,HE (NF h)];rfl
theorem Ra:Sh.all (λn=>builtinNamed n&& !worldNames.contains n&& !n.opensWith "__")=true:=by kernel_rfl
theorem Yn (h:tB H sc n):(match sc.names.lookup n with
 |some .globalImplicit|some .globalExplicit=>PL.boundNames.contains n||n==("__name__":Str)||n==("__debug__":Str)||(builtinNamed n&& !worldNames.contains n&& !n.opensWith "__")
 |_=>H)=true:=by
 obtain⟨⟨k,e,g⟩,_⟩:=h;refine U e ?_;have a:t9 k=H->(PL.boundNames.contains n||n==("__name__":Str)||n==("__debug__":Str)||(builtinNamed n&& !worldNames.contains n&& !n.opensWith "__"))=true:=λq=>by
  rcases ni.mp (g q) with q|q
  .rw [g9.mpr q,oi,oi,oi]
  .rw [aL.mp Ra n q,Bool.or_true]
 cases k with
 |globalImplicit=>exact a rfl
 |globalExplicit=>exact a rfl
 |_=>rfl
theorem Yo (hx:wM.contains x=aj) (h:tB H sc n):(n !=x|| !(sc.names.lookup n==O .globalImplicit||sc.names.lookup n==O .globalExplicit))=true:=by
 obtain⟨⟨k,e,g⟩,_⟩:=h;refine U e ?_;have a:t9 k=H->(n !=x)=true:=λq=>bne_iff_ne.mpr λe=>by subst e;rw [g9.mpr (g q)] at hx;cases hx
 cases k with
 |globalImplicit=>rw [a rfl];rfl
 |globalExplicit=>rw [a rfl];rfl
 |_=>exact cz.mpr (.inr rfl)
theorem Gl (hx:wM.contains x=aj):readsOut PL PL.main.body x=false:=congrArg (!·) (wN λsc n=>Yo hx)
theorem Jw:(["vars","dir","locals"]:List Str).filter (readsOut PL PL.main.body)=[]:=by
 rw [qD];intro x hx;have a:(["vars","dir","locals"]:List Str).all (λx=> !wM.contains x)=true:=by kernel_rfl
 have:=aL.mp a x hx;exact U (Gl (by rwa [gv] at this)) bY
theorem Jx:noRoadLSs Yg PL.main.body=true:=by
 have a:∀l m:List Stmt,noRoadLSs Yg m=H->(∀t∈l,noRoadLS Yg t=H)->noRoadLSs Yg (l++m)=true:=by
  intro l
  induction l with
  |nil=>intro m h _;exact h
  |cons t l b=>intro m h k;exact fz (k t (aE ..)) (b m h λu hu=>k u (aD _ hu))
 have h:=a (PL.main.body.take 369) (PL.main.body.drop 369) (yp (λt h=>Ny 40 aj Vd t aj aj aj aj ff h) Sj) λt ht=>Ny 40 aj Vd t aj aj aj aj ff (aL.mp Nz t ht)
 rwa [l8] at h
theorem EM:PL.boundNames.all (λn=> !worldNames.contains n)=true:=by kernel_rfl
theorem Gm:looksOpen PL=true:=
 look_both (look_both (look_both (look_both (look_both (by kernel_rfl) (by kernel_rfl)) (wN λsc n=>Yn)) EM)
  (by rw [Jw];exact Jx)) (wN λsc n h=>h.2.1)
theorem Jy:JF.row.partSaid=true:=
 look_both (look_both (look_both (look_both (look_both (look_both (look_both (look_both (look_both (look_both (look_both (look_both (look_both Gm rfl) rfl) rfl) rfl) rfl) rfl) (by kernel_rfl)) (by kernel_rfl)) (by kernel_rfl)) rfl) rfl) rfl) rfl
theorem BL:JF.row.wellSaid=true:=look_both (look_both Jy (by kernel_rfl)) (by kernel_rfl)
def aaQ:List Nat:=Manifest.builtinsNames.map λy=>nm (bX y.1)
def freeOf (l:List Str):Bool:=aaQ.all λc=>l.all λn=> !ak c (nm n)
theorem Rb (h:freeOf l=H) (hn:n∈l):builtinNamed n=false:=by
 cases q:builtinNamed n with
 |false=>rfl
 |true=>
  obtain⟨y,hy,e⟩:=iM.mp q;have:=aL.mp (aL.mp h (nm n) (gJ.mpr (bV y hy (congrArg nm (eq_of_beq e))))) n hn;rw [fy] at this;cases this
theorem Gn:freeOf (JF.bound'.filter λn=> !ak (nm n) (nm "__name__"))=true:=by kernel_rfl
theorem EN:(JF.bound'.filter λn=>ak (nm n) (nm "__name__")).all (λn=> !JF.reads n)=true:=by kernel_rfl
theorem Jz (hn:n∈JF.bound'):(!builtinNamed n||JF.about==[n]|| !JF.reads n)=true:=by
 cases q:ak (nm n) (nm "__name__") with
 |true=>rw [aL.mp EN n (gC.mpr ⟨hn,q⟩),Bool.or_true]
 |false=>rw [Rb Gn (gC.mpr ⟨hn,by rw [q];rfl⟩)];rfl
theorem NH:JF.wellSaid=true:=
 look_both (look_both (look_both (look_both (look_both (look_both (look_both (look_both (look_both (look_both (look_both (look_both (look_both (look_both (look_both (look_both (look_both (look_both
  BL (by kernel_rfl)) (by kernel_rfl)) (by kernel_rfl)) rfl) rfl) (by kernel_rfl)) (by kernel_rfl)) (by kernel_rfl)) (by kernel_rfl))
  (aL.mpr λn hn=>Jz hn)) (by kernel_rfl)) (by kernel_rfl)) (by kernel_rfl)) (by kernel_rfl)) (by kernel_rfl)) (by kernel_rfl))
  (Gk λsc n h=>by rw [h.2.2 rfl];rfl)) (by kernel_rfl)
end
end
end Mine
end
open PySem
theorem PySem.Challenge.cw_pf0157_01_holds : PySem.Challenge.rw_pf0157_01.Holds :=
 ⟨Mine.NH,Mine.Js Mine.BL Mine.C9⟩
