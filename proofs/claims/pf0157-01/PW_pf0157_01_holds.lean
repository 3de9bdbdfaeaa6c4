import PyProof.Rows.All
import PyProof.Rules
import PyProof.AttrMissHeap
import PyProof.TupleIter
import PyProof.ToksMono
import PyProof.SumWalk
import PyProof.StrLoop
import PyProof.StrWalks
import PyProof.CompFree
import PyProof.DictRoads
import PyProof.DictCalls
import PyProof.DictTruth
import PyProof.DictCompW
import PyProof.DictIter
import PyProof.DictRoadsH
import PyProof.EnumFor
import PyProof.EnumStmt
import PyProof.Draws
import PyProof.IsRules
import PyProof.RangeIter
import PyProof.WalksMore
import PyProof.LetGo
import PyProof.ListIndexNeg
import PyProof.ListRange
import PyProof.WalkInts
import PyProof.Rows.Tup
import PyProof.Rows.TupSub
import PyProof.ZipIter
import PyProof.Rows.Exc
import PyProof.Rows.AttrNodeAny
import PyProof.SliceMore
import PyProof.RulesAssignMore
import PyProof.Rows.TupTab
import PyProof.SetRoads
import PyProof.Rows.SetFrom
import OpenK.KMake
import OpenK.KWalk
import KE.KxBytes
import KE.BytesMake
import KE.KUnpack
import KE.KBytesWalk
import KE.KBytesCut
import KE.KDictSum
import KE.KEqDict
import KE.KItemsList
import KE.KNestM
import Wide.FinOn
import OpenK.AllK
import Wide.All
import PySem.Challenge.RW_pf0157_01
set_option tactic.hygienic false
set_option Elab.async false
set_option linter.all false
set_option genInjectivity false
set_option genSizeOf false
set_option maxRecDepth 1000000
set_option maxHeartbeats 0
open And renaming intro->jc
open Array renaming length_toList->aM,getElem?_toList->bz,getElem?_eq_none_iff->eB,size->fJ,getElem?_eq_some_iff->fL,toList_append->fQ,mem_toList_iff->mD,replicate->mY,getElem?_eq_getElem->oW,toList_push->pq,size_push->qB,toArray_toList->sq,size_append->vI
open Array.Mem renaming val->rS
open Bool renaming rec->ah,false->aj,true->H,and_eq_true->aP,false_ne_true->bZ,or_eq_true_iff->cD,and_eq_true_iff->cO,not_eq_true'->gu,or_eq_false_iff->iz,false_eq_true->ku,casesOn->lq,true_or->nZ,or_false->pT
open Eq renaming trans->bS,symm->gC
open ForInStep renaming yield->dJ
open Int renaming ofNat->bf,natCast_nonneg->cC,le_trans->eg,not_lt->kH,not_ofNat_neg->lA,toNat_natCast->lC,fdiv_eq_ediv_of_nonneg->oV,ofNat_le->qE,add_le_add_right->tB,sub_le_sub_right->tC,add_le_add->tD,lt_of_le_of_lt->vL
open List renaming mem_cons_of_mem->aD,mem_cons_self->aE,all_eq_true->aK,rec->aS,mem_cons->aT,not_mem_nil->aU,getElem?_eq_getElem->bB,lookup_cons->bK,getElem?_eq_some_iff->cg,mem_of_getElem?→cY,isEmpty_iff->cZ,length_append->dc,getD_eq_getElem?_getD->dg,map_cons->dH,forIn_cons->dO,mem_singleton->eF,length_map->eG,zip_cons_cons->fB,length->fV,any_cons->gi,nodup_cons->gw,mem_filter->gy,mem_map->gH,contains_iff_mem->g6,drop_eq_getElem_cons->iw,all_cons->iD,nodup_nil->iJ,length_cons->iK,length_eq_zero_iff->iL,any_eq_true->iN,pairwise_cons->iW,forIn_nil->jz,not_lt->jA,length_drop->jE,map_map->jG,getElem?_eq_none_iff->jI,map_append->j8,getElem?_map->k9,take_append_drop->l0,getElem_mem->mh,mem_reverse->mq,mem_of_getLast?→mS,mem_append->nc,getElem_of_mem->nv,filterMap_cons->ny,map_congr_left->nD,size_toArray->pC,cons_append->qm,filter_eq_nil_iff->qA,append_nil->qI,map->sP,drop_eq_nil_iff->sQ,drop_drop->sR,zip_nil_right->vA,take_succ_eq_append_getElem->wO,pairwise_map->wQ,range'_succ->xP
open List.Perm renaming eq_of_pairwise->yr
open Nat renaming beq->ak,le_of_ble_eq_true->aA,add->aG,le_trans->aI,lt_of_lt_of_le->aQ,ne_of_beq_eq_false->aY,le_refl->bu,not_lt->bD,blt->bI,lt_succ_self->bN,ble->bQ,ne_of_lt->cj,eq_of_beq_eq_true->cz,blt_eq->cH,lt_succ_of_lt->cK,mul->cM,le_of_eq->cX,le_add_right->d8,sub->fq,beq_refl->fu,one_lt_succ_succ->fF,le_of_add_left_le->f6,rec->gK,le_of_lt->gO,le_succ->gV,div->ia,ne_of_gt->iB,zero_le->iC,lt_of_le_of_lt->i0,le_of_add_right_le->i6,sub_add_cancel->i7,succ_pos->jJ,add_le_add_left->jP,add_assoc->j6,lt_irrefl->j7,mod->ko,not_lt_zero->kq,lt_of_succ_lt_succ->lu,ble_eq_true_of_le->mj,sub_eq_zero_of_le->mu,le_of_not_lt->mz,zero_add->oq,le_of_lt_succ->pU,succ_add_eq_add_succ->pZ,le_of_succ_le_succ->qH,div_add_mod->rQ,le_add_left->rU,sub_le_iff_le_add->sf,lt_succ_of_le->xA,le_succ_of_le->xB,sub_pos_of_lt->xE,sub_sub_self->ym,mod_eq_of_lt->yo,zero_lt_succ->yt,mod_two_eq_zero_or_one->BJ
open Ne renaming symm->rO
open Option renaming some->O,none->au,rec->aB,isNone_iff_eq_none->cT,none->oR,map_eq_some_iff->qo,isSome_iff_exists->A0
open Option.some renaming inj->aF
open Prod renaming fst->eE
open PyProof renaming noPylong_of_log2->oU
open PyProof.Rows renaming call_len_slot->xO
open PyProof.Rows.F renaming plain_set_update_loop->i9,entry_set_update_loop->pV
open PySem renaming wpAny_bind->aq,wpAny_pure->av,NameKind->aN,DictEntry->aV,builtinLookup_eq_fast->bA,wpAny_call_entry->bH,wpAny_holding->bO,wpAny_specialOf->bV,wpAny_seqItems->dB,Env->dD,wpAny_callSpecial?_slot->dU,wpAny_newObj_type->dY,wpAny_rule->fj,wpAny_isInstance->fK,wpAny_field->fN,wpAny_mono->fZ,wpAny_of_eq->f9,size_pos_of_not_empty->gm,wpAny_truthy_bool->gI,wpAny_dictEntries->gJ,mainGlobals->ic,codeAny_builtin->iH,wpAny_pyIter_list->iI,wpAny_load->jd,wpAny_typeOf->je,wpAny_setField_rec->jf,sizeLine->jr,ExceptHandler->k6,wpAny_updateSeq->lg,sysModules->ly,wpAny_pyIter_tuple->lF,FuncData->mC,wpAny_setField->mE,recursionLimit->mF,wpAny_notOrdered_dict->ng,TriplesOk->nu,entryFor_of_tree->nC,theTreesLotGoes->oS,wpAny_tupleItemsOf->pY,fastTable_eq_tree->qC,behindInMarks->qF,wpAny_attempt->qG,seqItems?→sr,storeAll->sy,bm_if_true->tF,wpAny_ite_split->ua,wpAny_dictEpoch->ud,wpAny_point->vH,wpAny_letTemporaryGo->vJ,IsRangeIter->vK,wpAny_newTuple->vM,noteFrame->wM,seqIndex?→wN,wpAny_standAt->xN,slot_dict_contains->yp,wpAny_sequenceKey->As,slot_dict_getitem->Au,wpAny_collect_seq->Aw,wpAny_setState_of->Ax,wpAny_askSetting->BK,wpAny_lookBehind->BL
open PySem.Around renaming under_plainId->jq
open PySem.Builtin.Bytes renaming buffer?→gA,joined->kI,ownRelease->vN,slotIsOwn->wR,exportsOf->wU
open PySem.Builtin.Dict renaming showsAll->kc,pendingCount->mT
open PySem.Builtin.List renaming listSameRef->nh,listTooLong->ni,listExtendWith->um,listFitsIndex->vz
open PySem.Builtin.Range renaming rangeSize->cN,small->p5,rangeFitsLong->uf
open PySem.Builtin.SmallTypes renaming nextOf->dI
open PySem.Challenge renaming pw_pf0157_01->kF
open PySem.Code renaming quiet_builtin->vC
open PySem.Const renaming casesOn->lS
open PySem.Data renaming casesOn->jH
open PySem.Expr renaming casesOn->aR
open PySem.F renaming slot_tuple_iterator_next->fW,called_set->jQ,slot_list_extend->kZ,slot_dict_keyiterator_next->oi,args_tuple_iterator_next_1->oj,entry_tuple_iterator_next->oX,slot_list_getattribute->qw,slot_zip_getattribute->qJ,args_object_init_2->uh,plain_extend_loop->vO,plainAttrs_list->yq,slot_dict_iter->Av
open PySem.Flow renaming next->tw
open PySem.Heap renaming get?_push_of_some->az,get?_push_size->aJ,lt_size->bk,get?_update_self->bE,size_push->bJ,get?_update_other->dG,SameBut->gj,size_update->jD,objs->jF,ExtBut->mQ,get?_push_ne->pD
open PySem.Heap.SameBut renaming update->gk
open PySem.NameKind renaming casesOn->dw,free->lD
open PySem.Obj renaming mapSeq->eH,mapBytearray->gZ,data_mapFields->i8,isFreed_of_fields->su,cls_mapFields->xD
open PySem.PyData renaming int->jX,keyHash->nY
open PySem.ScopeKind renaming casesOn->mX
open PySem.Sem renaming wp_mono->pS
open PySem.Shared renaming heap->fT,TypeIs->iA,asleep_of_life->qD
open PySem.Stmt renaming casesOn->eY
open PySem.Str renaming ofString->bY
open PySem.Value renaming type->cW,none->dX,casesOn->fC,int->gM,ref->iu,bytes->iT,builtin->uc
open PySem.W renaming emptyDict->eL,instObj->fG,typeIs_bytes->j9,boot_o_0->sC,kas_sort->vF
open PySem.W.BT renaming get_ins->pg
open PySem.W.Fast renaming tw10156331382660048174->Ay,tw11892475500146522536->Az,tw14364793385576792824->AA,tw6613529449190102663->AZ
open Std.Legacy.Range renaming forIn_eq_forIn_range'->iM,size->n8
open UInt8 renaming toNat->bU,ofNat->sj
open PySem
noncomputable section
namespace Mine
section
theorem zB {motive:Bool->Prop} (t:Bool) («false»:motive Bool.false) («true»:motive Bool.true):motive t:=ah «false» «true» t
theorem zO {α:Type} {motive:Option α->Prop} (t:Option α) (none:motive .none) (some:∀a,motive (.some a)):motive t:=aB none some t
theorem zL {α:Type} {motive:List α->Prop} (t:List α) (nil:motive []) (cons:∀a l,motive (a::l)):motive t:=aS nil (λa l h=>cons a l) t
theorem BN {α:Type} {motive:List α->Prop} (t:List α) (zero:motive []) (one:∀a,motive [a]) (more:∀a b l,motive (a::b::l)):motive t:=zL t zero λa l=>zL (motive:=λl=>motive (a::l)) l (one a) (more a)
theorem VD {α:Type} {motive:List α->Prop} (t:List α) (zero:motive []) (one:∀a,motive [a]) (two:∀a b,motive [a,b]) (more:∀a b c l,motive (a::b::c::l)):motive t:=BN t zero one λa b l=>zL (motive:=λl=>motive (a::b::l)) l (two a b) (more a b)
theorem zN {motive:Nat->Prop} (t:Nat) (zero:motive 0) (succ:∀n,motive (n+1)):motive t:=gK zero (λn h=>succ n) t
theorem nn {a b:Nat} {p:Prop} (h:a=b) (k:ak a b=aj):p:=absurd h (aY k)
theorem nG {p:Prop} (k:¬¬p):p:=Classical.byContradiction k
theorem ff {p:Prop} (h:aj=H):p:=Bool.noConfusion h
section
variable {a b c d e f g i:Bool} {p:Prop}
theorem e2 (h:(a&&b)=H) (k:a=H->b=H->p):p:=k (cO.mp h).1 (cO.mp h).2
theorem e3 (h:(a&&b&&c)=H) (k:a=H->b=H->c=H->p):p:=e2 h λh1 h2=>e2 h1 λj l=>k j l h2
theorem e4 (h:(a&&b&&c&&d)=H) (k:a=H->b=H->c=H->d=H->p):p:=e2 h λh1 h2=>e3 h1 λj l n=>k j l n h2
theorem e5 (h:(a&&b&&c&&d&&e)=H) (k:a=H->b=H->c=H->d=H->e=H->p):p:=e2 h λh1 h2=>e4 h1 λj l n o=>k j l n o h2
theorem e6 (h:(a&&b&&c&&d&&e&&f)=H) (k:a=H->b=H->c=H->d=H->e=H->f=H->p):p:=e2 h λh1 h2=>e5 h1 λj l n o q=>k j l n o q h2
theorem e7 (h:(a&&b&&c&&d&&e&&f&&g)=H) (k:a=H->b=H->c=H->d=H->e=H->f=H->g=H->p):p:=e2 h λh1 h2=>e6 h1 λj l n o q r=>k j l n o q r h2
theorem e8 (h:(a&&b&&c&&d&&e&&f&&g&&i)=H) (k:a=H->b=H->c=H->d=H->e=H->f=H->g=H->i=H->p):p:=e2 h λh1 h2=>e7 h1 λj l n o q r t=>k j l n o q r t h2
end
theorem eN {α:Type} {l:List α} {p:List α->Prop} (h:l.isEmpty=H) (k:p []):p l:=cZ.mp h▸k
theorem eO {α:Type} {l:Option α} {p:Option α->Prop} (h:l.isNone=H) (k:p au):p l:=cT.mp h▸k
theorem uo {α:Type} {f:α->Bool} {p:List α->Prop} (j:p []) (n:∀x l,f x=H->p l->p (x::l)):∀{l:List α},l.all f=H->p l:=by
 intro l
 induction l with
 |nil=>
  intro _;exact j
 |cons x l o=>
  intro h;exact e2 (show(f x&&l.all f)=H from h) λh1 h2=>n x l h1 (o h2)
theorem mG {a b:Bool} (h:(a&&b)=H):a=H/\b=true:=cO.mp h
theorem fy {a b:Bool} (h:a=H) (k:b=H):(a&&b)=true:=cO.mpr ⟨h,k⟩
theorem bT {b x:Bool} (h:(ah aj x b:Bool)=H):b=H/\x=true:=by
 cases b with
 |true=>exact⟨rfl,h⟩
 |false=>exact ff h
theorem bF {b x:Bool} (h:(ah x aj b:Bool)=H):b=aj/\x=true:=by
 cases b with
 |false=>exact⟨rfl,h⟩
 |true=>exact ff h
theorem fn {α:Type} {a:α} {p:Prop} (h:(none:Option α)=some a):p:=nomatch h
theorem sn {α:Type} {a:α} {p:Prop} (h:some a=(none:Option α)):p:=nomatch h
theorem ft {p:Prop} (h:H=aj):p:=Bool.noConfusion h
section
variable {M:Model} {A:Around} {α:Type} {a b:Sem α} {Q:α->Shared->Prop} {E:Value->Shared->Prop} {s:Shared}
theorem Zr {c:Prop} {d:Decidable c} (h:c) (k:wpAny M A a Q E s):wpAny M A (@ite _ c d a b) Q E s:=by rw [if_pos h];exact k
theorem NJ {c:Prop} {d:Decidable c} (h:¬c) (k:wpAny M A b Q E s):wpAny M A (@ite _ c d a b) Q E s:=by rw [if_neg h];exact k
theorem NC {d:Decidable (aj=H)} (k:wpAny M A b Q E s):wpAny M A (@ite _ (aj=H) d a b) Q E s:=by rw [if_neg bZ];exact k
end
@[elab_as_elim] theorem U {α:Sort _} {a b:α} {motive:α->Prop} (h:a=b) (k:motive b):motive a:=h▸k
@[elab_as_elim] theorem cL {α:Sort _} {a b:α} {motive:α->Prop} (h:b=a) (k:motive b):motive a:=h▸k
@[elab_as_elim] theorem Hz {α:Sort _} {motive:α->Prop} {c:Prop} {d:Decidable c} {a b:α} (h1:c->motive a) (h2:¬c->motive b):motive (@ite α c d a b):=if h:c then U (if_pos h) (h1 h) else U (if_neg h) (h2 h)
theorem kg {P:Nat->Prop} {n:Nat} (h:∀s,s<n->P s) (k:P n) (s:Nat) (j:s<n+1):P s:=(Nat.lt_succ_iff_lt_or_eq.mp j).elim (h s) λe=>e▸k
theorem nab {x:Int} {k:Nat} (h:x.natAbs<=k): -(k:Int)<=x/\x<=k:=⟨Int.neg_le_of_neg_le (eg (Int.natAbs_neg x▸Int.le_natAbs (a:= -x)) (qE.mpr h)),eg Int.le_natAbs (qE.mpr h)⟩
theorem JA {a b:Int} (q:a<b):0<=b-a-1:=Int.sub_nonneg_of_le (Int.sub_pos_of_lt q)
theorem Rw {a b:Int} (q:0<=b-a-1):a<b:=Int.lt_of_sub_pos (Int.le_of_sub_nonneg q)
theorem sw3 {n d v:Nat} (h:n-d<=v):n-v<=d:=Nat.sub_le_iff_le_add'.mpr (sf.mp h)
theorem sw1 {v d n:Nat} (hv:v<=n) (h:d<=n):v-(n-d)=d-(n-v):=(congrArg (· -(n-d)) (ym hv)).symm.trans ((Nat.sub_right_comm n (n-v) (n-d)).trans (congrArg (· -(n-v)) (ym h)))
theorem sw2 {n v d:Nat} (hv:v<=n) (hm:n-d<=v):n=v+(d-(d-(n-v))):=((congrArg (v+ ·) (ym (sw3 hm))).trans (Nat.add_sub_of_le hv)).symm
theorem iX {h:Prop} {j:Prop} {p2:Prop} (l:h) (h1:j) (h2:p2):h/\j/\p2:=⟨l,⟨h1,h2⟩⟩
theorem qK {h:Prop} {j:Prop} {l:Prop} {p3:Prop} (n:h) (h1:j) (h2:l) (o:p3):h/\j/\l/\p3:=⟨n,⟨h1,⟨h2,o⟩⟩⟩
theorem A1 {h:Prop} {j:Prop} {l:Prop} {n:Prop} {p4:Prop} (o:h) (h1:j) (h2:l) (q:n) (r:p4):h/\j/\l/\n/\p4:=⟨o,⟨h1,⟨h2,⟨q,r⟩⟩⟩⟩
theorem yw {h:Type} {j:Prop} {l:h->Prop} {n:h->Prop} (o:j) (a0:h) (h1:l a0) (h2:n a0):j/\∃a0,l a0/\n a0:=⟨o,⟨a0,⟨h1,h2⟩⟩⟩
theorem C7 {h:Type} {j:Prop} {l:h->Prop} {n:h->Prop} {o:h->Prop} (q:j) (a0:h) (h1:l a0) (h2:n a0) (r:o a0):j/\∃a0,l a0/\n a0/\o a0:=⟨q,⟨a0,⟨h1,⟨h2,r⟩⟩⟩⟩
theorem bW {h:Type} {j:h->Prop} {l:h->Prop} (a0:h) (n:j a0) (h1:l a0):∃a0,j a0/\l a0:=⟨a0,⟨n,h1⟩⟩
theorem f7 {h:Type} {j:h->Prop} {l:h->Prop} {n:h->Prop} (a0:h) (o:j a0) (h1:l a0) (h2:n a0):∃a0,j a0/\l a0/\n a0:=⟨a0,⟨o,⟨h1,h2⟩⟩⟩
theorem qL {h:Type} {j:h->Prop} {l:h->Prop} {n:h->Prop} {o:h->Prop} (a0:h) (q:j a0) (h1:l a0) (h2:n a0) (r:o a0):∃a0,j a0/\l a0/\n a0/\o a0:=⟨a0,⟨q,⟨h1,⟨h2,r⟩⟩⟩⟩
theorem gc {j l:Type} {n:j->Prop} {o:j->Prop} {q:j->l->Prop} (h:j) (r:n h) (h1:o h) (a1:l) (h2:q h a1):∃h,n h/\o h/\∃a1,q h a1:=⟨h,⟨r,⟨h1,⟨a1,h2⟩⟩⟩⟩
theorem Vp {j l:Type} {n:j->l->Prop} (h:j) (a1:l) (o:n h a1):∃h,∃a1,n h a1:=⟨h,⟨a1,o⟩⟩
theorem mZ {j l:Type} {n:j->l->Prop} {o:j->l->Prop} (h:j) (a1:l) (q:n h a1) (h1:o h a1):∃h,∃a1,n h a1/\o h a1:=⟨h,⟨a1,⟨q,h1⟩⟩⟩
theorem jY {j l:Type} {n:j->l->Prop} {o:j->l->Prop} {q:j->l->Prop} (h:j) (a1:l) (r:n h a1) (h1:o h a1) (h2:q h a1):∃h,∃a1,n h a1/\o h a1/\q h a1:=⟨h,⟨a1,⟨r,⟨h1,h2⟩⟩⟩⟩
theorem lG {j l:Type} {n:j->l->Prop} {o:j->l->Prop} {q:j->l->Prop} {r:j->l->Prop} (h:j) (a1:l) (t:n h a1) (h1:o h a1) (h2:q h a1) (u:r h a1):∃h,∃a1,n h a1/\o h a1/\q h a1/\r h a1:=⟨h,⟨a1,⟨t,⟨h1,⟨h2,u⟩⟩⟩⟩⟩
theorem lT {j l:Type} {n:j->l->Prop} {o:j->l->Prop} {q:j->l->Prop} {r:j->l->Prop} {t:j->l->Prop} (h:j) (a1:l) (u:n h a1) (h1:o h a1) (h2:q h a1) (v:r h a1) (w:t h a1):∃h,∃a1,n h a1/\o h a1/\q h a1/\r h a1/\t h a1:=⟨h,⟨a1,⟨u,⟨h1,⟨h2,⟨v,w⟩⟩⟩⟩⟩⟩
theorem uq {l n o:Type} {q:l->n->o->Prop} {r:l->n->o->Prop} {t:l->n->o->Prop} {u:l->n->o->Prop} (h:l) (j:n) (a2:o) (v:q h j a2) (h1:r h j a2) (h2:t h j a2) (w:u h j a2):∃h,∃j,∃a2,q h j a2/\r h j a2/\t h j a2/\u h j a2:=⟨h,⟨j,⟨a2,⟨v,⟨h1,⟨h2,w⟩⟩⟩⟩⟩⟩
theorem uu {n o q r:Type} {t:n->o->q->r->Prop} {u:n->o->q->r->Prop} {v:n->o->q->r->Prop} {w:n->o->q->r->Prop} (h:n) (j:o) (l:q) (a3:r) (x:t h j l a3) (h1:u h j l a3) (h2:v h j l a3) (y:w h j l a3):∃h,∃j,∃l,∃a3,t h j l a3/\u h j l a3/\v h j l a3/\w h j l a3:=⟨h,⟨j,⟨l,⟨a3,⟨x,⟨h1,⟨h2,y⟩⟩⟩⟩⟩⟩⟩
theorem jg {q r t u v w x:Type} {y:q->r->t->u->v->w->x->Prop} {z:q->r->t->u->v->w->x->Prop} {B:q->r->t->u->v->w->x->Prop} {C:q->r->t->u->v->w->x->Prop} {D:q->r->t->u->v->w->x->Prop} {F:q->r->t->u->v->w->x->Prop} {G:q->r->t->u->v->w->x->Prop} (h:q) (j:r) (l:t) (a3:u) (n:v) (o:w) (a6:x) (I:y h j l a3 n o a6) (h1:z h j l a3 n o a6) (h2:B h j l a3 n o a6) (J:C h j l a3 n o a6) (K:D h j l a3 n o a6) (L:F h j l a3 n o a6) (P:G h j l a3 n o a6):∃h,∃j,∃l,∃a3,∃n,∃o,∃a6,y h j l a3 n o a6/\z h j l a3 n o a6/\B h j l a3 n o a6/\C h j l a3 n o a6/\D h j l a3 n o a6/\F h j l a3 n o a6/\G h j l a3 n o a6:=⟨h,⟨j,⟨l,⟨a3,⟨n,⟨o,⟨a6,⟨I,⟨h1,⟨h2,⟨J,⟨K,⟨L,P⟩⟩⟩⟩⟩⟩⟩⟩⟩⟩⟩⟩⟩
theorem aC {j l:Prop} {P:Prop} (h:j/\l) (k:l->j->P):P:=k h.2 h.1
theorem gb {j l:Prop} {P:Prop} (h:j/\l) (k:j->l->P):P:=k h.1 h.2
theorem iP {j l n:Prop} {P:Prop} (h:j/\l/\n) (k:n->j->l->P):P:=k h.2.2 h.1 h.2.1
theorem fE {n:Type} {l:n->Prop} {P:Prop} (h:∃j,l j) (k:∀j,l j->P):P:=h.elim λj o=>k j o
theorem aL {q:Type} {l n:q->Prop} {P:Prop} (h:∃j,l j/\n j) (k:∀j,n j->l j->P):P:=h.elim λj o=>k j o.2 o.1
theorem dN {q:Type} {l n:q->Prop} {P:Prop} (h:∃j,l j/\n j) (k:∀j,l j->n j->P):P:=h.elim λj o=>k j o.1 o.2
theorem jB {r:Type} {n o q:r->Prop} {P:Prop} (h:∃j,n j/\o j/\q j) (k:∀j,n j->o j->q j->P):P:=h.elim λj l=>k j l.1 l.2.1 l.2.2
theorem HA {r t:Type} {n o:r->t->Prop} {P:Prop} (h:∃j l,n j l/\o j l) (k:∀j l,n j l->o j l->P):P:=h.elim λj u=>u.elim λl q=>k j l q.1 q.2
theorem dF {r:Type} {l:Prop} {n o:r->Prop} {P:Prop} (h:l/\∃j,n j/\o j) (k:∀j,o j->l->n j->P):P:=(h.2).elim λj q=>k j q.2 h.1 q.1
theorem sS {u v:Type} {o q r t:u->v->Prop} {P:Prop} (h:∃j l,o j l/\q j l/\r j l/\t j l) (k:∀j l,o j l->q j l->r j l->t j l->P):P:=h.elim λj w=>w.elim λl n=>k j l n.1 n.2.1 n.2.2.1 n.2.2.2
theorem oE {t u:Type} {o q r:t->u->Prop} {P:Prop} (h:∃j l,o j l/\q j l/\r j l) (k:∀j l,q j l->o j l->r j l->P):P:=h.elim λj v=>v.elim λl n=>k j l n.2.1 n.1 n.2.2
theorem Zs {x y z:Type} {q r t u v w:x->y->z->Prop} {P:Prop} (h:∃j l n,q j l n/\r j l n/\t j l n/\u j l n/\v j l n/\w j l n) (k:∀j l n,q j l n->r j l n->t j l n->u j l n->v j l n->w j l n->P):P:=h.elim λj B=>B.elim λl C=>C.elim λn o=>k j l n o.1 o.2.1 o.2.2.1 o.2.2.2.1 o.2.2.2.2.1 o.2.2.2.2.2
theorem fH {x y z:Type} {q r t u v w:x->y->z->Prop} {P:Prop} (h:∃j l n,q j l n/\r j l n/\t j l n/\u j l n/\v j l n/\w j l n) (k:∀j l n,u j l n->q j l n->r j l n->t j l n->v j l n->w j l n->P):P:=h.elim λj B=>B.elim λl C=>C.elim λn o=>k j l n o.2.2.2.1 o.1 o.2.1 o.2.2.1 o.2.2.2.2.1 o.2.2.2.2.2
theorem gQ {t:Type} {n:Prop} {o q r:t->Prop} {P:Prop} (h:n/\∃j,o j/\q j/\r j) (k:∀j,r j->n->o j->q j->P):P:=(h.2).elim λj l=>k j l.2.2 h.1 l.1 l.2.1
theorem eZ {j l n:Prop} {P:Prop} (h:j/\l/\n) (k:l->j->n->P):P:=k h.2.1 h.1 h.2.2
theorem z04 {j l n o:Prop} {P:Prop} (h:j/\l/\n/\o) (k:j->l->n->o->P):P:=k h.1 h.2.1 h.2.2.1 h.2.2.2
theorem qM {j l n o:Prop} {P:Prop} (h:j/\l/\n/\o) (k:o->j->l->n->P):P:=k h.2.2.2 h.1 h.2.1 h.2.2.1
theorem SH {o q:Type} {n:o->q->Prop} {P:Prop} (h:∃j l,n j l) (k:∀j l,n j l->P):P:=h.elim λj r=>r.elim λl t=>k j l t
theorem Rx {j l n:Prop} {P:Prop} (h:j/\l/\n) (k:j->l->n->P):P:=k h.1 h.2.1 h.2.2
theorem nH {r t:Type} {n o:r->t->Prop} {P:Prop} (h:∃j l,n j l/\o j l) (k:∀j l,o j l->n j l->P):P:=h.elim λj u=>u.elim λl q=>k j l q.2 q.1
theorem SI {t:Type} {n o q r:t->Prop} {P:Prop} (h:∃j,n j/\o j/\q j/\r j) (k:∀j,n j->o j->q j->r j->P):P:=h.elim λj l=>k j l.1 l.2.1 l.2.2.1 l.2.2.2
theorem cI {r:Type} {n o q:r->Prop} {P:Prop} (h:∃j,n j/\o j/\q j) (k:∀j,q j->n j->o j->P):P:=h.elim λj l=>k j l.2.2 l.1 l.2.1
theorem HB {v w:Type} {o q r t u:v->w->Prop} {P:Prop} (h:∃j l,o j l/\q j l/\r j l/\t j l/\u j l) (k:∀j l,o j l->q j l->r j l->t j l->u j l->P):P:=h.elim λj x=>x.elim λl n=>k j l n.1 n.2.1 n.2.2.1 n.2.2.2.1 n.2.2.2.2
theorem yx {j l n o q r:Prop} {P:Prop} (h:j/\l/\n/\o/\q/\r) (k:r->j->l->n->o->q->P):P:=k h.2.2.2.2.2 h.1 h.2.1 h.2.2.1 h.2.2.2.1 h.2.2.2.2.1
theorem vP {t u:Type} {o q r:t->u->Prop} {P:Prop} (h:∃j l,o j l/\q j l/\r j l) (k:∀j l,o j l->q j l->r j l->P):P:=h.elim λj v=>v.elim λl n=>k j l n.1 n.2.1 n.2.2
theorem kJ {t u:Type} {o q r:t->u->Prop} {P:Prop} (h:∃j l,o j l/\q j l/\r j l) (k:∀j l,r j l->o j l->q j l->P):P:=h.elim λj v=>v.elim λl n=>k j l n.2.2 n.1 n.2.1
theorem VE {q r t:Type} {o:q->r->t->Prop} {P:Prop} (h:∃j l n,o j l n) (k:∀j l n,o j l n->P):P:=h.elim λj u=>u.elim λl v=>v.elim λn w=>k j l n w
theorem qN {t:Type} {n o q r:t->Prop} {P:Prop} (h:∃j,n j/\o j/\q j/\r j) (k:∀j,o j->n j->q j->r j->P):P:=h.elim λj l=>k j l.2.1 l.1 l.2.2.1 l.2.2.2
theorem ju {r:Type} {n o q:r->Prop} {P:Prop} (h:∃j,n j/\o j/\q j) (k:∀j,o j->n j->q j->P):P:=h.elim λj l=>k j l.2.1 l.1 l.2.2
theorem uv {r:Type} {l:Prop} {n o:r->Prop} {P:Prop} (h:l/\∃j,n j/\o j) (k:∀j,n j->l->o j->P):P:=(h.2).elim λj q=>k j q.1 h.1 q.2
theorem jK {u v:Type} {o q r t:u->v->Prop} {P:Prop} (h:∃j l,o j l/\q j l/\r j l/\t j l) (k:∀j l,q j l->o j l->r j l->t j l->P):P:=h.elim λj w=>w.elim λl n=>k j l n.2.1 n.1 n.2.2.1 n.2.2.2
theorem tH {w x:Type} {o q r t u v:w->x->Prop} {P:Prop} (h:∃j l,o j l/\q j l/\r j l/\t j l/\u j l/\v j l) (k:∀j l,v j l->o j l->q j l->r j l->t j l->u j l->P):P:=h.elim λj y=>y.elim λl n=>k j l n.2.2.2.2.2 n.1 n.2.1 n.2.2.1 n.2.2.2.1 n.2.2.2.2.1
theorem vQ {j l n o q:Prop} {P:Prop} (h:j/\l/\n/\o/\q) (k:q->j->l->n->o->P):P:=k h.2.2.2.2 h.1 h.2.1 h.2.2.1 h.2.2.2.1
theorem iY {v w:Type} {o q r t u:v->w->Prop} {P:Prop} (h:∃j l,o j l/\q j l/\r j l/\t j l/\u j l) (k:∀j l,u j l->o j l->q j l->r j l->t j l->P):P:=h.elim λj x=>x.elim λl n=>k j l n.2.2.2.2 n.1 n.2.1 n.2.2.1 n.2.2.2.1
theorem pG {v w x y:Type} {q r t u:v->w->x->y->Prop} {P:Prop} (h:∃j l n a3,q j l n a3/\r j l n a3/\t j l n a3/\u j l n a3) (k:∀j l n a3,u j l n a3->q j l n a3->r j l n a3->t j l n a3->P):P:=h.elim λj z=>z.elim λl B=>B.elim λn C=>C.elim λa3 o=>k j l n a3 o.2.2.2 o.1 o.2.1 o.2.2.1
theorem uw {u v:Type} {o q r t:u->v->Prop} {P:Prop} (h:∃j l,o j l/\q j l/\r j l/\t j l) (k:∀j l,t j l->o j l->q j l->r j l->P):P:=h.elim λj w=>w.elim λl n=>k j l n.2.2.2 n.1 n.2.1 n.2.2.1
theorem oG {j l n o q r t:Prop} {P:Prop} (h:j/\l/\n/\o/\q/\r/\t) (k:t->j->l->n->o->q->r->P):P:=k h.2.2.2.2.2.2 h.1 h.2.1 h.2.2.1 h.2.2.2.1 h.2.2.2.2.1 h.2.2.2.2.2.1
theorem Ry {n t:Type} {o q:n->Prop} {r:n->t->Prop} {P:Prop} (h:∃j,o j/\q j/\∃a3,r j a3) (k:∀j a3,o j->q j->r j a3->P):P:=h.elim λj l=>(l.2.2).elim λa3 u=>k j a3 l.1 l.2.1 u
theorem pH {t:Type} {n o q r:t->Prop} {P:Prop} (h:∃j,n j/\o j/\q j/\r j) (k:∀j,q j->n j->o j->r j->P):P:=h.elim λj l=>k j l.2.2.1 l.1 l.2.1 l.2.2.2
theorem ux {j l n o:Prop} {P:Prop} (h:j/\l/\n/\o) (k:l->j->n->o->P):P:=k h.2.1 h.1 h.2.2.1 h.2.2.2
theorem yy {j l n o q r:Prop} {P:Prop} (h:j/\l/\n/\o/\q/\r) (k:n->j->l->o->q->r->P):P:=k h.2.2.1 h.1 h.2.1 h.2.2.2.1 h.2.2.2.2.1 h.2.2.2.2.2
theorem p6 {z B C:Type} {r t u v w x y q:z->B->C->Prop} {P:Prop} (h:∃j l n,r j l n/\t j l n/\u j l n/\v j l n/\w j l n/\x j l n/\y j l n/\q j l n) (k:∀j l n,q j l n->r j l n->t j l n->u j l n->v j l n->w j l n->x j l n->y j l n->P):P:=h.elim λj D=>D.elim λl F=>F.elim λn o=>k j l n o.2.2.2.2.2.2.2 o.1 o.2.1 o.2.2.1 o.2.2.2.1 o.2.2.2.2.1 o.2.2.2.2.2.1 o.2.2.2.2.2.2.1
theorem yC {u v:Type} {o q r t:u->v->Prop} {P:Prop} (h:∃j l,o j l/\q j l/\r j l/\t j l) (k:∀j l,o j l->r j l->q j l->t j l->P):P:=h.elim λj w=>w.elim λl n=>k j l n.1 n.2.2.1 n.2.1 n.2.2.2
theorem Zt {j l n o q r t u v:Prop} {P:Prop} (h:j/\l/\n/\o/\q/\r/\t/\u/\v) (k:j->l->n->o->q->r->t->u->v->P):P:=k h.1 h.2.1 h.2.2.1 h.2.2.2.1 h.2.2.2.2.1 h.2.2.2.2.2.1 h.2.2.2.2.2.2.1 h.2.2.2.2.2.2.2.1 h.2.2.2.2.2.2.2.2
section
variable {M:Model} {A:Around} {α β:Type} {m:Sem α} {k:α->Sem β} {Q:β->Shared->Prop} {E:Value->Shared->Prop} {s s':Shared} {a:α}
theorem bq (h:∀{Q:α->Shared->Prop},Q a s'->wpAny M A m Q E s) (c:wpAny M A (k a) Q E s'):wpAny M A (m>>=k) Q E s:=aq (h c)
theorem bp (c:wpAny M A (k a) Q E s):wpAny M A (pure a>>=k) Q E s:=aq (av c)
end
end
section
open PySem.W PySem.Calls PyProof.Rows
section
def SJ (l:List Obj):Nat->BT->BT:=aS (λu_ t=>t) (λo u_ ih i t=>ih (aG i 1) (t.ins i o)) l
def Rz (P:Params):BT:=SJ (boot_heap P).objs.toList 0 .nil
noncomputable def P0:Program:=kF
end
end
section
open PyProof.Rows PySem.Calls PySem.W
section
noncomputable def pick (u v:Option Obj):Option Obj:=match v with
 |some o=>(match alive o with|some o'=>O o'|none=>u)
 |none=>u
def nI (x:Nat->Option Obj) (T:BT) (n:Nat) (life:Life):Heap:=⟨((List.range n).map λa=>(pick (x a) (T.get a)).getD default).toArray,life⟩
theorem p7 (h:alive o=O o'):o'=o:=by
 revert h;rcases o with⟨c,d,dt,sl⟩
 rcases dt<;>first|exact λh=>fn h|exact λh=>(aF h).symm
theorem eS {o} (h:alive o=O o):pick u (O o)=O o:=by unfold pick;simp only [h]
variable {x:Nat->Option Obj}
theorem uy T n life a:(nI x T n life).objs[a]? =if a<n then O ((pick (x a) (T.get a)).getD default) else none:=by
 refine U (List.getElem?_toArray) (U k9 ?_);by_cases h:a<n
 .refine U (List.getElem?_range h) (U (if_pos h) ?_);rfl
 .rw [List.getElem?_eq_none (U List.length_range (mz h)),if_neg h];rfl
theorem A2 T n life:(nI x T n life).objs.size=n:=U pC (U (eG ..) (U List.length_range rfl))
theorem JB {a:Nat} (g:T.get a=O o) (b:alive o=O o) (c:alive (f o)=O (f o)):nI x (T.set a f) n life=(nI x T n life).update a f:=by
 have:(nI x (T.set a f) n life).objs=((nI x T n life).objs.modify a f):=by
  apply Array.ext_getElem?;intro i;refine U (Array.getElem?_modify) (U (uy ..) (U (uy ..) (U (BT.get_set ..) ?_)));by_cases e:i=a
  .subst e;refine U (if_pos rfl) (U (if_pos rfl) (U g ((?_:(if i<n then O ((pick (x i) (O (f o))).getD default) else au)=_))));refine U (eS b) (U (eS c) ?_);by_cases h:i<n
   .refine U (if_pos h) (U (if_pos h) ?_);rfl
   .refine U (if_neg h) (U (if_neg h) ?_);rfl
  .exact U (if_neg e) (U (if_neg (rO e)) rfl)
 exact congrArg (Heap.mk · life) this
theorem JC (g:((T.ins n o).get n).isSome=H) (a:alive o=O o):nI x (T.ins n o) (n+1) life=(nI x T n life).push o:=by
 have:(nI x (T.ins n o) (n+1) life).objs=((nI x T n life).objs.push o):=by
  apply Array.ext_getElem?;intro i;refine U (Array.getElem?_push) (U (uy ..) (U (uy ..) (U (A2 ..) (U (pg o T n g ..) ?_))));by_cases e:i=n
  .refine cL e ?_;refine U (if_pos (bN _)) (U (if_pos rfl) (U (if_pos rfl) (U (eS a) ?_)));rfl
  .refine U (if_neg e) (U (if_neg e) ?_);by_cases h:i<n
   .exact U (if_pos h) (U (if_pos (cK h)) rfl)
   .exact U (if_neg h) (U (if_neg (by lia)) rfl)
 exact congrArg (Heap.mk · life) this
theorem uz (h:a<n) (g:T.get a=O o) (b:alive o=O o):(nI x T n life).get? a=O o:=by
 unfold Heap.get?;refine U (uy ..) (U (if_pos h) (U g (U (eS b) ((?_:(match O o with|some ⟨_,_,.freed,_⟩=>au|o=>o)=O o)))));obtain⟨c,d,e,f⟩:=o;rcases e<;>first|rfl|exact fn b
def mU (x:Nat->Option Obj) (s:SharedT):Shared:=⟨nI x s.tree s.n s.life,s.gens,s.drawn,s.toks,s.os⟩
set_option backward.match.sparseCases false in
noncomputable def Vq (s:SharedT) (t:Thread):Bool:=match t.cur with
 | .update a _ f _=>(match s.tree.get a with|some o=>(alive (f o)).isSome|none=>aj)
 | .alloc o _=>(alive o).isSome
 | .loadIfAlive _ _=>aj
 |_=>H
theorem uA (h:(alive o).isSome=H):alive o=O o:=by
 induction q:alive o using zO with
 |none=>rw [q] at h;exact ff h
 |some o'=>exact U (p7 q) rfl
section
variable {den:Code->Sem Fin} {p:Program} {w:World}
theorem C8 {drawn} {os} {code} {stack}
 (h1:∀a q k,cur≠.load a q k) (h2:∀a q f k,cur≠.update a q f k) (c:∀o k,cur≠.alloc o k) (d:∀a k,cur≠.loadIfAlive a k)
 (h:(match step den p w ⟨{},gens,drawn,toks,os⟩ ⟨cur,code,pos,stack⟩ with
  | .go s' t'=>O ((⟨T,n,life,s'.gens,s'.drawn,s'.toks,s'.os⟩:SharedT),t')
  | .halt _ _=>au)=O (s',t')):
 step den p w ⟨nI x T n life,gens,drawn,toks,os⟩ ⟨cur,code,pos,stack⟩= .go (mU x s') t':=by
 cases q:step den p w ⟨{},gens,drawn,toks,os⟩ ⟨cur,code,pos,stack⟩ with
 |halt o s=>rw [q] at h;exact fn h
 |go s₀ b=>rw [q] at h;cases h;exact step_heap h1 h2 c d q
theorem EN (hk:Vq s t=H) (h:stepT den p w s t=O (s',t')):step den p w (mU x s) t= .go (mU x s') t':=by
 obtain⟨T,n,c,d,b,i,os⟩:=s;obtain⟨m,j,pos,stack⟩:=t
 induction m using PySem.Sem.casesOn with
 |load a q k=>
  induction e:bI a n using zB with
  |false=>simp only [stepT,e] at h;exact fn h
  |true=>
   induction g:T.get a using zO with
   |none=>simp only [stepT,e,g] at h;exact fn h
   |some o=>
    induction l:alive o using zO with
    |none=>simp only [stepT,e,g,l] at h;exact fn h
    |some o'=>
     obtain rfl:=p7 l;simp only [stepT,e,g,l] at h;cases h;refine(?_:step den p w ⟨nI x T n c,d,b,i,os⟩ ⟨.load a q k,j,pos,stack⟩=_);simp only [step,uz (aA e) g l];rfl
 |update a q f k=>
  induction e:bI a n using zB with
  |false=>simp only [stepT,e] at h;exact fn h
  |true=>
   induction g:T.get a using zO with
   |none=>simp only [stepT,e,g] at h;exact fn h
   |some o=>
    induction l:alive o using zO with
    |none=>simp only [stepT,e,g,l] at h;exact fn h
    |some o'=>
     obtain rfl:=p7 l;have hk:(match T.get a with|some o=>(alive (f o)).isSome|none=>aj)=true:=hk;rw [g] at hk;simp only [stepT,e,g,l] at h;cases h;refine(?_:step den p w ⟨nI x T n c,d,b,i,os⟩ ⟨.update a q f k,j,pos,stack⟩= .go ⟨nI x (T.set a f) n c,d,b,i,os⟩ _);refine U (JB g l (uA hk)) ?_;simp only [step,uz (aA e) g l,Option.isSome_some,if_true]
 |alloc o k=>
  induction e:((T.ins n o).get n).isSome using zB with
  |false=>simp only [stepT,e] at h;exact fn h
  |true=>
   simp only [stepT,e] at h;cases h;refine(?_:step den p w ⟨nI x T n c,d,b,i,os⟩ ⟨.alloc o k,j,pos,stack⟩= .go ⟨nI x (T.ins n o) (n+1) c,d,b,i,os⟩ _);refine U (JC e (uA hk)) ?_;simp only [step,A2]
 |loadIfAlive a k=>exact ff hk
 |_=>exact C8 (by intros;intro e;injection e) (by intros;intro e;injection e) (by intros;intro e;injection e) (by intros;intro e;injection e) h
end
def JD (tb:String->Option Builtin) (p:Program) (w:World) (n₀:Nat) (ann:Option Value) (b:Nat):Nat->SharedT->Thread->Option (Flow×SharedT×Code×Pos)
 |0,_,_=>au
 |n+1,s,t=>match endAt b t with
  |some f=>O (f,s,t.code,t.pos)
  |none=>match stepOk n₀ ann t&&Vq s t with
   |false=>au
   |true=>match stepT (denote tb) p w s t with
    |some (s',t')=>JD tb p w n₀ ann b n s' t'
    |none=>au
set_option tactic.hygienic true in
theorem C9 {n₀ m:Nat} {P:Addr} (hm:m<=n₀) (b:m<=P) (h:stepOk n₀ (O (.ref P)) t=H):stepOk m ann t=true:=by
 unfold stepOk at h⊢;rw [aP] at h⊢;refine⟨h.1, ?_⟩;have h:=h.2;revert h;rcases t.cur<;>intro h<;>try exact h
 case update a q f k=>
  simp only [Bool.or_eq_true,Nat.ble_eq,beq_iff_eq] at h⊢;rcases h with((q|q)|q)|q
  .exact .inl (.inl (.inl (aI hm q)))
  .exact .inl (.inl (.inr q))
  .exact .inl (.inr q)
  .injection q with q;injection q with q;subst q;exact .inl (.inl (.inl b))
set_option tactic.hygienic true in
theorem NK (hm:m<=n₀) (A:m<=P):∀{n} {s s'} {t} {f} {c} {q},JD tb p w n₀ (O (.ref P)) b n s t=O (f,s',c,q)->
 segRun tb p w m ann b n (mU x s) t=O (f,mU x s',c,q)/\∀d o,d<n₀->d≠mainNs->d≠cStatics->d≠P->(mU x s).heap.get? d=O o->(mU x s').heap.get? d=O o:=by
 intro n
 induction n with
 |zero=>
  intro _ _ _ _ _ _ h;exact fn h
 |succ n B=>
  intro s s' t f c q h;unfold JD at h;unfold segRun
  induction he:endAt b t using zO with
  |some x=>rw [he] at h;cases h;exact⟨rfl,λg g g g g g e=>e⟩
  |none=>
   rw [he] at h
   induction hk:stepOk n₀ (O (.ref P)) t&&Vq s t using zB with
   |false=>rw [hk] at h;exact fn h
   |true=>
    rw [hk] at h;obtain⟨hk,hx⟩:=cO.mp hk
    induction i:stepT (denote tb) p w s t using zO with
    |none=>rw [i] at h;exact fn h
    |some r=>
     obtain⟨l,u⟩:=r;rw [i] at h;have e:=EN (x:=x) hx i;obtain⟨C,D⟩:=B h;refine U (C9 hm A hk) (U e (⟨C,λd o h1 h2 v z j=>D d o h1 h2 v z (U (PySem.step_heap (denote tb) p w _ _ _ _ e) ?_)⟩));have hk:=(cO.mp hk).2;revert hk;rcases t.cur<;>intro hk<;>try exact j
     case update a q f k=>
      have:d≠a:=by
       rintro rfl;simp only [Bool.or_eq_true,Nat.ble_eq,beq_iff_eq] at hk;rcases hk with((q|q)|q)|q
       .exact absurd h1 (bD.mpr q)
       .exact h2 q
       .exact v q
       .injection q with q;injection q with q;exact z q.symm
      exact(Heap.get?_update_ne _ _ _ _ this).trans j
     case alloc y k=>exact az y j
end
end
section
set_option backward.match.sparseCases false
structure V where
 t:Nat
 s:Nat
 n:Nat
 l:List Nat
 xs:List V
structure ae6 where
 t:Nat
 c:Nat
 fs:List (Nat×V)
 xs:List V
 kvs:List (V×V)
 bs:List Nat
inductive TR where
 |nil
 |node (v:Option ae6) (l r:TR)
structure HT where
 old:Nat->TR
 cur:TR
 xF:Nat
structure ae7 where
 l:HT
 n:Nat
structure Env where
 loc:List (Nat×V)
 out:List (Nat×V)
structure Res where
 ρ:Env
 v:V
 h:ae7
section
noncomputable def di:V:=⟨0,0,0,[],[]⟩
def vBool (b:Bool):V:=⟨1,0,ah 0 1 b,[],[]⟩
noncomputable def aX (n:Nat):V:=⟨2,0,n,[],[]⟩
noncomputable def qO (n:Nat):V:=⟨2,1,n,[],[]⟩
noncomputable def vStr (l:List Nat):V:=⟨3,0,0,l,[]⟩
noncomputable def fk (l:List Nat):V:=⟨4,0,0,l,[]⟩
noncomputable def dK (xs:List V):V:=⟨5,0,0,[],xs⟩
noncomputable def bP (n:Nat):V:=⟨6,0,n,[],[]⟩
noncomputable def bM (n:Nat):V:=⟨7,0,n,[],[]⟩
noncomputable def jh (n:Nat):V:=⟨8,0,n,[],[]⟩
noncomputable def BO (n:Nat):V:=⟨9,0,n,[],[]⟩
noncomputable def NL (n:Nat):V:=⟨10,0,n,[],[]⟩
noncomputable def uB (c:Nat) (fs:List (Nat×V)):ae6:=⟨0,c,fs,[],[],[]⟩
noncomputable def bL (xs:List V):ae6:=⟨1,0,[],xs,[],[]⟩
noncomputable def yD (xs:List V):ae6:=⟨8,0,[],xs,[],[]⟩
noncomputable def dZ (kvs:List (V×V)) (c:Nat):ae6:=⟨2,c,[],[],kvs,[]⟩
def cnt (c:Nat) (old new:List (V×V)):Nat:=aG c (fq (aS 0 (λu_ u_ ih=>aG ih 1) new) (aS 0 (λu_ u_ ih=>aG ih 1) old))
noncomputable def yE (bs:List Nat):ae6:=⟨3,0,[],[],[],bs⟩
noncomputable def EO (a b c d:Nat):ae6:=⟨5,0,[],[],[],[a,b,c,d]⟩
noncomputable def uC (xs:List V) (c d:Nat):ae6:=⟨7,0,[],xs,[],[c,d]⟩
noncomputable def qP:ae6:=⟨6,0,[],[],[],[]⟩
def dS (v:V):Int:=ah (Int.negOfNat v.n) (bf v.n) (ak v.s 0)
def mw (i:Int):V:=Int.rec (λn=>aX n) (λn=>qO (aG n 1)) i
def TR.get (t:TR):Nat->Option ae6:=TR.rec (λu_=>au) (λv u_ u_ gl gr i=>ah (ah (gl (ia (fq i 1) 2)) (gr (ia (fq i 1) 2)) (ak (ko i 2) 0)) v (ak i 0)) t
def TR.one (o:ae6) (n:Nat):Nat->TR:=gK (λu_=> .nil) (λu_ ih i=>ah (ah (.node au (ih (ia (fq i 1) 2)) .nil) (.node au .nil (ih (ia (fq i 1) 2))) (ak (ko i 2) 0)) (.node (O o) .nil .nil) (ak i 0)) n
def TR.ins (o:ae6) (t:TR):Nat->TR:=TR.rec (λi=>TR.one o 30 i) (λv l r il ir i=>ah (ah (.node v (il (ia (fq i 1) 2)) r) (.node v l (ir (ia (fq i 1) 2))) (ak (ko i 2) 0)) (.node (O o) l r) (ak i 0)) t
def upd (f:Nat->TR) (j:Nat) (t:TR):Nat->TR:=λi=>ah (f i) t (ak i j)
def HT.get (t:HT) (i:Nat):Option ae6:=ah (TR.get (t.old (ia i 16384)) (ko i 16384)) (TR.get t.cur (ko i 16384)) (ak (ia i 16384) t.xF)
def HT.ins (o:ae6) (t:HT) (i:Nat):HT:=ah ⟨upd t.old (ia i 16384) (TR.ins o (t.old (ia i 16384)) (ko i 16384)),t.cur,t.xF⟩ ⟨t.old,TR.ins o t.cur (ko i 16384),t.xF⟩ (ak (ia i 16384) t.xF)
def HT.jump (d:Bool) (t:HT):HT:=⟨upd t.old t.xF (ah t.cur .nil d),.nil,aG t.xF 1⟩
def find {α:Type} (x:Nat) (l:List (Nat×α)):Option α:=aS au (λp u_ ih=>ah ih (O p.2) (ak x p.1)) l
def setIn {α:Type} (x:Nat) (v:α) (l:List (Nat×α)):List (Nat×α):=aS [(x,v)] (λp r ih=>ah (p::ih) ((x,v)::r) (ak x p.1)) l
def app {α:Type} (x y:List α):List α:=aS y (λa u_ ih=>a::ih) x
def len {α:Type} (x:List α):Nat:=aS 0 (λu_ u_ ih=>aG ih 1) x
def sU {α:Type} (x:List α):Nat->Option α:=aS (λu_=>au) (λa u_ ih i=>ah (ih (fq i 1)) (O a) (ak i 0)) x
def EP {α:Type} (v:α) (x:List α):Nat->List α:=aS (λu_=>[]) (λa r ih i=>ah (a::ih (fq i 1)) (v::r) (ak i 0)) x
def l5 {α β:Type} (f:α->β) (x:List α):List β:=aS [] (λa u_ ih=>f a::ih) x
def yF {α:Type} (x:List α):Nat->List α:=aS (λu_=>[]) (λa u_ ih i=>ah (a::ih (fq i 1)) [] (ak i 0)) x
def Dc {α:Type} (x:List α):Nat->List α:=aS (λu_=>[]) (λa r ih i=>ah (ih (fq i 1)) (a::r) (ak i 0)) x
def isNil {α:Type} (x:List α):Bool:=aS H (λu_ u_ u_=>aj) x
noncomputable def repl (n:Nat):List Nat:=gK [] (λu_ ih=>0::ih) n
def gf (ρ:Env) (x:Nat) (v:V):Env:=⟨setIn x v ρ.loc,ρ.out⟩
def JE (l:List Nat):Nat:=aS 0 (λc u_ ih=>aG c (cM 128 ih)) l
def nm (s:Str):Nat:=JE s.cps.toList
def qQ (l:List Nat):Bool:=aS H (λc u_ ih=>ah aj (ah aj ih (bI 2 c)) (bI c 128)) l
def aZ (s:Str):Bool:=qQ s.cps.toList
def bg (x:Nat) (l:List (Str×aN)):Option aN:=aS au (λp u_ ih=>ah ih (O p.2) (ak x (nm p.1))) l
def qp (x:List Nat):List Nat->Bool:=aS (λy=>isNil y) (λa u_ ih y=>aS aj (λb y u_=>ah aj (ih y) (ak a b)) y) x
def NN (x:List Nat):List Nat->Bool:=aS (λy=>ah H aj (isNil y)) (λa u_ ih y=>aS aj (λb y u_=>ah (bI a b) (ih y) (ak a b)) y) x
def AB (a b:V):Bool:=ah aj (ak a.n b.n) (ak a.s b.s)
def wV (a b:V):Bool:=ah (ah (ah (bI b.n a.n) H (ak b.s 0)) aj (ak a.s 0)) (bI a.n b.n) (ak (aG a.s b.s) 0)
def Zu (a b:Bool):Bool:=ah (ah H aj b) b a
def allInts (xs:List V):Bool:=aS H (λv u_ ih=>ah aj ih (ak v.t 2)) xs
def Gk (x:List V):List V->Option Bool:=aS (λy=>aS (O H) (λu_ u_ u_=>au) y)
 (λa x' ih y=>aS au (λb y' u_=>ah au (ah au (ah (ah au (ah au (O aj) (allInts y')) (allInts x')) (ih y') (AB a b)) (ak b.t 2)) (ak a.t 2)) y) x
def xG (x:List V):List V->Option Bool:=aS (λy=>aS (O aj) (λu_ u_ u_=>au) y)
 (λa x' ih y=>aS au (λb y' u_=>ah au (ah au (ah (ah au (ah au (O (wV a b)) (allInts y')) (allInts x')) (ih y') (AB a b)) (ak b.t 2)) (ak a.t 2)) y) x
def BP (a b:V):Option Bool:=ah au
 (ah (ah (ah (ah au (Gk a.xs b.xs) (ak a.t 5)) (O (qp a.l b.l)) (ak a.t 4)) (O (qp a.l b.l)) (ak a.t 3)) (O (AB a b)) (ak a.t 2)) (ak a.t b.t)
def SK (a b:V):Option Bool:=ah au
 (ah (ah (ah au (ah au (xG a.xs b.xs) (ak (len a.xs) (len b.xs))) (ak a.t 5)) (O (NN a.l b.l)) (ak a.t 3)) (O (wV a b)) (ak a.t 2)) (ak a.t b.t)
def HD (a b:V):Option Bool:=ah au
 (ah (ah au (O (NN a.l b.l)) (ak a.t 3)) (O (wV a b)) (ak a.t 2)) (ak a.t b.t)
def isKey (a:V):Bool:=ah (ah (ah (ah aj (allInts a.xs) (ak a.t 5)) H (ak a.t 4)) H (ak a.t 3)) H (ak a.t 2)
def iU (k:V) (d:List (V×V)):Option (Option V):=aS (ah au (O au) (isKey k)) (λp u_ ih=>aB au (λb=>ah ih (O (O p.2)) b) (BP k p.1)) d
def dput (k v:V) (d:List (V×V)):Option (List (V×V)):=aS (ah au (O [(k,v)]) (isKey k))
 (λp r ih=>aB au (λb=>ah (aB au (λr'=>O (p::r')) ih) (O ((p.1,v)::r)) b) (BP k p.1)) d
def uD (f:V->V->Option Bool) (x:List V):List V->Option Bool:=aS (λy=>O (isNil y))
 (λa u_ ih y=>aS (O aj) (λb y' u_=>aB au (λt=>aB au (λu=>O (ah aj u t)) (ih y')) (f a b)) y) x
def JF (f:V->V->Option Bool) (m:List (V×V)) (x:List (V×V)):Option Bool:=aS (O H)
 (λp u_ ih=>aB au (λo=>aB (O aj) (λu=>aB au (λt=>aB au (λu=>O (ah aj u t)) ih) (f p.2 u)) o) (iU p.1 m)) x
def Zv (f:V->V->Option Bool) (a b:ae6):Option Bool:=ah au
 (ah au (ah (O aj) (uD f a.xs b.xs) (ak (len a.xs) (len b.xs))) (ak a.t 1)) (ak a.t b.t)
def HE (t:Nat) (x:List (V×V)):Bool:=aS H (λp u_ u_=>ak p.1.t t) x
def RA (f:V->V->Option Bool) (a b:ae6):Option Bool:=ah au
 (ah (ah au (ah (O aj) (JF f b.kvs a.kvs) (ak (len a.kvs) (len b.kvs))) (ah aj (HE 3 b.kvs) (HE 3 a.kvs)))
  (ah (O aj) (JF f b.kvs a.kvs) (ak (len a.kvs) (len b.kvs))) (ah aj (HE 2 b.kvs) (HE 2 a.kvs))) (ak b.t 2)
def plainT (t:Nat):Bool:=ah (ah (ak t 5) H (ak t 2)) H (ak t 0)
def oY (h:ae7) (n:Nat):V->V->Option Bool:=gK (λu_ u_=>au) (λu_ ih a b=>ah
 (ah au (ah au (O aj) (plainT b.t)) (plainT a.t))
 (ah (ah (ah (ah (ah (ah (ah au
  (aB au (λx=>aB au (λy=>Zv ih x y) (HT.get h.l b.n)) (HT.get h.l a.n)) (ak a.t 6))
  (uD ih a.xs b.xs) (ak a.t 5))
  (O (qp a.l b.l)) (ak a.t 4))
  (O (qp a.l b.l)) (ak a.t 3))
  (O (AB a b)) (ak a.t 2))
  (O (ak a.n b.n)) (ak a.t 1))
  (O H) (ak a.t 0))
 (ak a.t b.t)) n
def vR (n:Nat):Int->Int->List V:=gK (λu_ u_=>[]) (λu_ ih a c=>mw a::ih (Int.add a c) c) n
def NO (n:Nat):Nat->List V:=gK (λu_=>[]) (λu_ ih a=>aX a::ih (aG a 1)) n
def vS (a b c:Int):Nat:=ah (ah 0 ((a-b-c-1).fdiv (-c)).toNat (decide (c<0))) ((b-a+c-1).fdiv c).toNat (decide (0<c))
noncomputable def small (v:V):Bool:=bQ v.n 1000000000000
def xQ (a b:V):Option (List V):=ah au (ah au (ah au (ah au
 (ah (O (vR (vS (dS a) (dS b) 1) (dS a) 1)) (O (NO (fq b.n a.n) a.n)) (ak (aG a.s b.s) 0)) (small b)) (small a)) (ak b.t 2)) (ak a.t 2)
def JG (a b c:V):Option (List V):=ah au (ah au (ah au (ah au (ah au (ah au (ah (O (vR (vS (dS a) (dS b) (dS c)) (dS a) (dS c))) au (ak c.n 0)) (small c)) (small b)) (small a)) (ak c.t 2)) (ak b.t 2)) (ak a.t 2)
def xR (args:List V):Option (List V):=match args with
 |[b]=>xQ (aX 0) b
 |[a,b]=>xQ a b
 |[a,b,c]=>JG a b c
 |_=>au
def ER (lt:V->V->Bool) (x:V) (l:List V):List V:=aS [x] (λy r ih=>ah (y::ih) (x::y::r) (lt x y)) l
def oH (lt:V->V->Bool) (l:List V):List V:=aS [] (λx u_ ih=>ER lt x ih) l
def RB (a b:V):Bool:=NN a.l b.l
def Dd (lim:Nat) (v:V):Option Nat:=ah au (ah au (ah au (O v.n) (bI v.n lim)) (ak v.s 0)) (ak v.t 2)
def BQ (l:List V):Option (List Nat):=aS (O []) (λv u_ ih=>aB au (λn=>aB au (λl=>O (n::l)) ih) (Dd 256 v)) l
def qx (t:Nat) (l:List V):Bool:=aS H (λv u_ ih=>ah aj ih (ak v.t t)) l
def p8 (l:List V):Bool:=aS H (λv u_ ih=>ah aj (ah (ah aj ih (allInts v.xs)) aj (isNil v.xs)) (ak v.t 5)) l
def uE (lt:Nat->Nat->Option Bool) (t:PySem.W.KasT (Array Nat)):Option (Array Nat):=PySem.W.KasT.rec (λa=>O a) (λi j u_ ih=>aB au (λb=>ih b) (lt i j)) t
def JH (l:List V):Option (List V):=ah au (aB au (λp=>O (l5 (λi=>aB di (λv=>v) (sU l i)) p.toList)) (uE (λi j=>aB au (λa=>aB au (λb=>SK a b) (sU l j)) (sU l i)) (vF (len l)))) (p8 l)
def RC (l:List V):Option (List V):=ah au (ah (ah (ah (JH l) (O l) (bQ (len l) 1)) (O (oH RB l)) (qx 3 l)) (O (oH wV l)) (qx 2 l)) (bI (len l) 64)
def uF (f:V->V->Bool) (x:V) (l:List V):Bool:=aS aj (λy u_ ih=>ah ih H (f y x)) l
def sEq (a b:V):Bool:=qp a.l b.l
def VG (x:V) (l:List V):Option Bool:=ah (ah au (ah au (O (uF sEq x l)) (qx 3 l)) (ak x.t 3)) (ah au (O (uF AB x l)) (qx 2 l)) (ak x.t 2)
def ES (x:V) (l:List V):Nat->Option Nat:=aS (λu_=>au) (λy u_ ih n=>ah (ih (aG n 1)) (O n) (qp y.l x.l)) l
def De (t:Nat) (l:List V):Option (List Nat):=aS (O []) (λv u_ ih=>ah au (aB au (λr=>O (app v.l r)) ih) (ak v.t t)) l
def pairOf (v:V):Option (V×V):=ah au (match v.xs with|[a,b]=>O (a,b)|_=>au) (ak v.t 5)
def NP (l:List V):Nat->Option Nat:=aS (λn=>O n) (λv u_ ih n=>ah au (ah au (ih (aG n v.n)) (ak v.s 0)) (ak v.t 2)) l
def Gl (gt:Bool) (l:List V):V->Option V:=aS (λm=>O m) (λx u_ ih m=>ah au (ah (ih m) (ih x) (ah (wV x m) (wV m x) gt)) (ak x.t 2)) l
def bestOf (gt:Bool) (l:List V):Option V:=aS au (λx r u_=>ah au (Gl gt r x) (ak x.t 2)) l
def yG (i:V) (n:Nat):Option Nat:=ah au (ah (ah au (O (fq n i.n)) (bQ i.n n)) (ah au (O i.n) (bI i.n n)) (ak i.s 0)) (ak i.t 2)
def bound (n d:Nat) (i:V):Option Nat:=ah (ah au (ah (O (fq n i.n)) (O (ah n i.n (bQ i.n n))) (ak i.s 0)) (ak i.t 2)) (O d) (ak i.t 0)
def JI {α:Type} (xs:List α) (lo hi:V):Option (List α):=aB au (λa=>aB au (λb=>O (yF (Dc xs a) (fq b a))) (bound (len xs) (len xs) hi)) (bound (len xs) 0 lo)
def isNone (a:V):Option Bool:=ah (ah (ah (ah (ah au (O aj) (ak a.t 6)) (O aj) (ak a.t 5)) (O aj) (ak a.t 4)) (O aj) (ak a.t 2)) (O H) (ak a.t 0)
abbrev M (α:Type):=ae7->(α->ae7->Option Res)->Option Res
abbrev Ap:=V->List V->M V
structure XE where
 f:Ap->Env->M V
structure XT where
 f:Ap->Env->M Bool
structure XL where
 f:Ap->Env->M (List V)
structure XP where
 f:Ap->Env->M (List (V×V))
structure XA where
 f:Ap->Env->V->ae7->(Env->ae7->Option Res)->Option Res
def jump (d:Bool) (h:ae7) (k:ae7->Option Res):Option Res:=ah au (k ⟨HT.jump d h.l,cM 16384 (aG h.l.xF 1)⟩) (bQ h.n (cM 16384 (aG h.l.xF 1)))
def lift {α:Type} (x:Option α):M α:=λh k=>aB au (λa=>k a h) x
def oLe (o:ae6):Bool:=bQ (aG (len o.xs) (aG (len o.kvs) (aG (len o.bs) (len o.fs)))) 1000000
def new (o:ae6):M V:=λh k=>ah au (k (bP h.n) ⟨HT.ins o h.l h.n,aG h.n 1⟩) (oLe o)
def put (i:Nat) (o:ae6):M V:=λh k=>ah au (k di ⟨HT.ins o h.l i,h.n⟩) (oLe o)
def kB (l:List Nat):M V:=λh k=>ah au (k (fk l) h) (bQ (len l) 1000000)
def kS (l:List Nat):M V:=λh k=>ah au (k (vStr l) h) (bQ (len l) 1000000)
def kT (l:List V):M V:=λh k=>ah au (k (dK l) h) (bQ (len l) 1000000)
def look (v:V):M ae6:=λh k=>ah au (aB au (λo=>k o h) (HT.get h.l v.n)) (ak v.t 6)
def gR (v:V):M (List V):=λh k=>look v h λo h=>ah au (k o.xs h) (ak o.t 1)
def ET (v:V):M (List V):=λh k=>look v h λo h=>ah (ah au (k o.xs h) (ak o.t 8)) (k o.xs h) (ak o.t 1)
def items (v:V):M (List V):=λh k=>ah (look v h λo h=>ah (ah au (k (l5 eE o.kvs) h) (ak o.t 2)) (k o.xs h) (ak o.t 1)) (k v.xs h) (ak v.t 5)
structure Src where
 t:Nat
 xs:List V
 i:Nat
 n:Nat
 k:Nat
 c:Nat
structure It where
 t:Nat
 a:Src
 b:Src
 n:Nat
structure XI where
 f:Ap->Env->M It
noncomputable def dQ (xs:List V):Src:=⟨0,xs,0,0,0,0⟩
noncomputable def gn (i k:Nat):Src:=⟨1,[],i,0,k,0⟩
noncomputable def rV (i n k c:Nat):Src:=⟨2,[],i,n,k,c⟩
noncomputable def gg (a:Src):It:=⟨0,a,a,0⟩
def yH (i:Nat):It:=⟨1,dQ [],dQ [],i⟩
noncomputable def vU (n:Nat) (a:Src):It:=⟨2,a,a,n⟩
def m5 (a:Src) (h:ae7) (ke:Option Res) (ki:V->Src->Option Res):Option Res:=ah
 (aB au (λo=>ah
  (ah au (ah au (ah au (ah au (aB ke (λx=>ki x.1 (rV a.i a.n (aG a.k 1) a.c)) (sU o.kvs a.k)) (ak o.c a.c)) (ak (len o.kvs) a.n)) (ak o.t 2)) (ak a.t 2))
  (ah au (aB ke (λx=>ki x (gn a.i (aG a.k 1))) (sU o.xs a.k)) (ak o.t 1)) (ak a.t 1)) (HT.get h.l a.i))
 (aS ke (λx r u_=>ki x (dQ r)) a.xs) (ak a.t 0)
def Gm (i:Nat) (h:ae7) (ke:ae7->Option Res) (ki:V->ae7->Option Res):Option Res:=aB au (λo=>ah au (match o.bs with
 |[a,b,c,d]=>aB au (λp=>ah au (aB au (λq=>ah au (aB (ke ⟨HT.ins qP h.l i,h.n⟩) (λx=>aB (ke ⟨HT.ins qP h.l i,h.n⟩) (λy=>ki (dK [x,y]) ⟨HT.ins (EO a (aG b 1) c (aG d 1)) h.l i,h.n⟩) (sU q.xs d)) (sU p.xs b)) (ak q.t 1)) (HT.get h.l c)) (ak p.t 1)) (HT.get h.l a)
 |_=>au) (ak o.t 5)) (HT.get h.l i)
def vV (a:It) (h:ae7) (ke:ae7->Option Res) (ki:V->It->ae7->Option Res):Option Res:=ah
 (ah (m5 a.a h (ke h) λx c=>ki (dK [aX a.n,x]) (vU (aG a.n 1) c) h) (Gm a.n h ke λv h=>ki v a h) (ak a.t 1))
 (m5 a.a h (ke h) λx c=>ki x (gg c) h) (ak a.t 0)
def JJ (v:V):M It:=λh k=>ah (ah (ah
 (look v h λo h=>ah (ah au (k (gg (rV v.n (len o.kvs) 0 o.c)) h) (ak o.t 2)) (k (gg (gn v.n 0)) h) (ak o.t 1))
 (k (gg (dQ (l5 (λc=>vStr [c]) v.l))) h) (ak v.t 3))
 (k (gg (dQ (l5 aX v.l))) h) (ak v.t 4))
 (k (gg (dQ v.xs)) h) (ak v.t 5)
def truth (v:V):M Bool:=λh k=>ah (ah (ah
 (look v h λo h=>ah (ah au (ah (ah au (k (ah H aj (isNil o.kvs)) h) (HE 3 o.kvs)) (k (ah H aj (isNil o.kvs)) h) (HE 2 o.kvs)) (ak o.t 2)) (k (ah H aj (isNil o.xs)) h) (ak o.t 1))
 (k (ah H aj (isNil v.xs)) h) (ak v.t 5))
 (k (ah H aj (ak v.n 0)) h) (ak v.t 2))
 (k (ah H aj (ak v.n 0)) h) (ak v.t 1)
def with1 (args:List V) (f:V->Option Res):Option Res:=aS au (λv r u_=>ah au (f v) (isNil r)) args
def with2 (args:List V) (f:V->V->Option Res):Option Res:=aS au (λv r u_=>with1 r (f v)) args
def VH (args:List V):M V:=λh k=>with1 args λv=>ah (ah (ah
 (look v h λo h=>ah (ah (ah au (k (aX (len o.bs)) h) (ak o.t 3)) (k (aX (len o.kvs)) h) (ak o.t 2)) (k (aX (len o.xs)) h) (ak o.t 1))
 (k (aX (len v.l)) h) (ak v.t 3)) (k (aX (len v.l)) h) (ak v.t 4)) (k (aX (len v.xs)) h) (ak v.t 5)
def NQ (args:List V):M V:=λh k=>with1 args λv=>ah
 (look v h λo h=>ah (ah au (kB o.bs h k) (ak o.t 3)) (lift (BQ o.xs) h λl h=>kB l h k) (ak o.t 1))
 (lift (Dd 1000 v) h λn h=>kB (repl n) h k) (ak v.t 2)
def SM (args:List V):M V:=λh k=>ah au (new (yE []) h k) (isNil args)
def NR (args:List V):M V:=λh k=>with1 args λv=>ah (gR v h λxs h=>kT xs h k) (kT v.xs h k) (ak v.t 5)
def SN (args:List V):M V:=λh k=>with1 args λv=>items v h λl h=>new (bL l) h k
def Df (acc x y:V):M V:=λh k=>look acc h λo h=>ah au (lift (dput x y o.kvs) h λkvs h=>put acc.n (dZ kvs (cnt o.c o.kvs kvs)) h k) (ak o.t 2)
def vW (acc:V) (l:List (V×V)):M V:=λh k=>(aS (λh=>k acc h) (λp u_ ih h=>Df acc p.1 p.2 h λu_ h=>ih h) l:ae7->Option Res) h
def xS (acc:V) (k:V->ae7->Option Res) (n:Nat):Src->ae7->Option Res:=gK (λu_ u_=>au) (λu_ ih a h=>m5 a h (k acc h) λv c=>lift (pairOf v) h λp h=>Df acc p.1 p.2 h λu_ h=>ih c h) n
def SO (args:List V):M V:=λh k=>with1 args λv=>look v h λo h=>ah
 (ah au (new (dZ [] 0) h λacc h=>xS acc k 2000 (gn v.n 0) h) (ak o.t 1))
 (ah au (ah au (new (dZ [] 0) h λacc h=>vW acc o.kvs h k) (bQ (len o.kvs) 8)) (HE 3 o.kvs)) (ak o.t 2)
def JK (args:List V):M V:=λh k=>with1 args λv=>items v h λl h=>lift (RC l) h λl h=>new (bL l) h k
def VI (args:List V):M V:=λh k=>with1 args λv=>gR v h λl h=>lift (NP l 0) h λn h=>ah au (k (aX n) h) (bQ n 1000000000000)
def BR (gt:Bool) (args:List V):M V:=λh k=>match args with
 |[v]=>ah (gR v h λl h=>lift (bestOf gt l) h k) (lift (bestOf gt v.xs) h k) (ak v.t 5)
 |[a,b]=>lift (bestOf gt [a,b]) h k
 |_=>au
def VJ (args:List V):M V:=λh k=>with1 args λv=>ah au (k (aX v.n) h) (ak v.t 2)
def VK (args:List V):M V:=λh k=>with1 args λv=>ah (ah au (k (aX v.n) h) (ak v.t 1)) (k v h) (ak v.t 2)
def VL (args:List V):M V:=λh k=>with1 args λv=>lift (Dd 128 v) h λc h=>kS [c] h k
def VM (args:List V):M V:=λh k=>with1 args λv=>ah au (match v.l with|[c]=>k (aX c) h|_=>au) (ak v.t 3)
def JL:List (Nat×(List V->M V)):=[(0,VH),(2,NQ),(3,SM),(4,NR),(5,SN),(6,SO),(8,JK),(11,VI),(12,BR H),(13,BR aj),(14,VJ),(15,VK),(16,VL),(17,VM)]
def BS (n:Nat) (args:List V):M V:=λh k=>aB au (λf=>f args h k) (find n JL)
def BU (v:V) (o:ae6) (args:List V):M V:=λh k=>with1 args λx=>ah au (put v.n (bL (app o.xs [x])) h k) (ak o.t 1)
def xT (v:V) (o:ae6) (args:List V):M V:=λh k=>with1 args λx=>ah (ah au (ah au (put v.n (yE (app o.bs x.l)) h k) (ak x.t 4)) (ak o.t 3))
 (gR x h λys h=>put v.n (bL (app o.xs ys)) h k) (ak o.t 1)
def SP (_:V) (o:ae6) (args:List V):M V:=λh k=>with2 args λx d=>ah au (lift (iU x o.kvs) h λr h=>aB (k d h) (λx=>k x h) r) (ak o.t 2)
def qS (v:V) (o:ae6) (args:List V):M V:=λh k=>with2 args λx d=>ah au
 (lift (iU x o.kvs) h λr h=>aB (lift (dput x d o.kvs) h λkvs h=>put v.n (dZ kvs (cnt o.c o.kvs kvs)) h λu_ h=>k d h) (λx=>k x h) r) (ak o.t 2)
def EU (v:V) (args:List V):M V:=λh k=>with1 args λx=>ah au (ah au (ah au (lift (ES x v.xs 0) h λn h=>k (aX n) h) (qx 3 v.xs)) (ak x.t 3)) (ak v.t 5)
def Gn (v:V) (args:List V):M V:=λh k=>with1 args λx=>ah au (gR x h λl h=>
 ah (ah au (lift (De 4 l) h λs h=>kB s h k) (ak v.t 4)) (lift (De 3 l) h λs h=>kS s h k) (ak v.t 3)) (isNil v.l)
noncomputable def RD (_:V) (_:ae6) (_:List V):M V:=λu_ u_=>au
noncomputable def RE (_:V) (_:List V):M V:=λu_ u_=>au
def VN (x y:V):M V:=λh k=>ah (ah (ah
 (gR x h λxs h=>gR y h λys h=>new (bL (app xs ys)) h k)
 (ah au (ah (ah (kT (app x.xs y.xs) h k) au (isNil y.xs)) au (isNil x.xs)) (ak y.t 5)) (ak x.t 5))
 (ah au (kB (app x.l y.l) h k) (ak y.t 4)) (ak x.t 4))
 (ah au (ah (k (mw (Int.add (dS x) (dS y))) h) (k (aX (aG x.n y.n)) h) (ak (aG x.s y.s) 0)) (ak y.t 2)) (ak x.t 2)
def NS (x y:V) (f:Option Res):Option Res:=ah au (ah au (ah au (ah au f (bQ y.n 18446744073709551615)) (bQ x.n 18446744073709551615)) (ak y.t 2)) (ak x.t 2)
def JM (x y:V) (f:Option Res):Option Res:=NS x y (ah au f (ak (aG x.s y.s) 0))
def JN (x y:V) (f:Option Res):Option Res:=ah au (ah au f (ak y.t 2)) (ak x.t 2)
def VO (x y:V):M V:=λh k=>JN x y (ah (k (mw (Int.sub (dS x) (dS y))) h) (ah (k (qO (fq y.n x.n)) h) (k (aX (fq x.n y.n)) h) (bQ y.n x.n)) (ak (aG x.s y.s) 0))
noncomputable def BV (x:V):Bool:=bQ x.n 18446744073709551615
def VP (x y:V):M V:=λh k=>JN x y (ah au (ah (k (mw (Int.mul (dS x) (dS y))) h) (k (aX (cM x.n y.n)) h) (ak (aG x.s y.s) 0)) (ah (BV y) H (BV x)))
def VQ (x y:V):M V:=λh k=>JN x y (ah au (ah au (ah (k (aX (ia x.n y.n)) h) au (ak y.n 0)) (ak (aG x.s y.s) 0)) (BV y))
def VS (x y:V):M V:=λh k=>JN x y (ah (ah (k (mw (Int.fmod (dS x) (dS y))) h) (k (aX (ko x.n y.n)) h) (ak (aG x.s y.s) 0)) au (ak y.n 0))
def VT (x y:V):M V:=λh k=>JM x y (ah au (ah au (k (aX (Nat.pow x.n y.n)) h) (bI y.n 64)) (bI x.n 64))
def VU (x y:V):M V:=λh k=>JM x y (ah au (k (aX (cM x.n (Nat.pow 2 y.n))) h) (bI y.n 1000))
def VW (x y:V):M V:=λh k=>JM x y (ah au (k (aX (ia x.n (Nat.pow 2 y.n))) h) (bI y.n 1000))
def VX (x y:V):M V:=λh k=>NS x y (ah (k (mw (Builtin.bitAnd (dS x) (dS y))) h) (k (aX (Nat.land x.n y.n)) h) (ak (aG x.s y.s) 0))
def bOr (x y:V):M V:=λh k=>JM x y (k (aX (Nat.lor x.n y.n)) h)
def YF (x v:V):M Bool:=λh k=>ah (look v h λo h=>ah (ah au (lift (iU x o.kvs) h λr h=>k (aB aj (λu_=>H) r) h) (ak o.t 2)) (lift (VG x o.xs) h k) (ak o.t 1))
 (lift (VG x v.xs) h k) (ak v.t 5)
def neg (b:Bool):Bool:=ah H aj b
def Ju (a b:V):M Bool:=λh k=>ah (lift (oY h 60 a b) h k) (look a h λo h=>ah (lift (oY h 60 a b) h k) (look b h λo' h=>lift (RA (oY h 60) o o') h k) (ak o.t 2)) (ak a.t 6)
def RG (a b:V):M Bool:=λh k=>Ju a b h λx h=>k (neg x) h
def cLt (a b:V):M Bool:=lift (SK a b)
def Zw (a b:V):M Bool:=lift (HD b a)
def cLe (a b:V):M Bool:=λh k=>lift (SK b a) h λx h=>k (neg x) h
def cGe (a b:V):M Bool:=λh k=>lift (HD a b) h λx h=>k (neg x) h
def cIs (a b:V):M Bool:=λh k=>ah au (lift (isNone a) h k) (ak b.t 0)
def JO (a b:V):M Bool:=λh k=>ah au (lift (isNone a) h λx h=>k (neg x) h) (ak b.t 0)
def JP (a b:V):M Bool:=λh k=>YF a b h λx h=>k (neg x) h
def RH (v i:V):M V:=λh k=>ah
 (look v h λo h=>ah (ah au (lift (iU i o.kvs) h λr h=>lift r h k) (ak o.t 2)) (lift (yG i (len o.xs)) h λj h=>lift (sU o.xs j) h k) (ak o.t 1))
 (lift (yG i (len v.xs)) h λj h=>lift (sU v.xs j) h k) (ak v.t 5)
def SQ (v lo hi:V):M V:=λh k=>ah (ET v h λxs h=>lift (JI xs lo hi) h λl h=>new (bL l) h k) (lift (JI v.l lo hi) h λb h=>kB b h k) (ak v.t 4)
def RI (v i x:V):M V:=λh k=>look v h λo h=>ah (ah au (lift (dput i x o.kvs) h λkvs h=>put v.n (dZ kvs (cnt o.c o.kvs kvs)) h k) (ak o.t 2))
 (lift (yG i (len o.xs)) h λj h=>put v.n (bL (EP x o.xs j)) h k) (ak o.t 1)
def attr (v:V) (n:Nat):M V:=λh k=>look v h λo h=>ah au (lift (find n o.fs) h k) (ak o.t 0)
def setAt (v:V) (n:Nat) (x:V) (cs:List (Nat×Nat)):M V:=λh k=>look v h λo h=>ah au (aB au (λu_=>put v.n (uB o.c (setIn n x o.fs)) h k) (find o.c cs)) (ak o.t 0)
noncomputable def fm:XE:=⟨λu_ u_ u_ u_=>au⟩
noncomputable def xC (v:V):XE:=⟨λu_ u_ h k=>k v h⟩
def qy (x:Nat):XE:=⟨λu_ ρ h k=>aB au (λv=>k v h) (find x ρ.loc)⟩
def Dg (x:Nat):XE:=⟨λu_ ρ h k=>aB au (λv=>k v h) (find x ρ.out)⟩
noncomputable def yI (f:V->V->M V) (a b:XE):XE:=⟨λr ρ h k=>a.f r ρ h λx h=>b.f r ρ h λy h=>f x y h k⟩
def RJ (JQ:Bool) (a b:XE):XE:=⟨λr ρ h k=>a.f r ρ h λx h=>truth x h λt h=>ah (k x h) (b.f r ρ h k) (Zu t JQ)⟩
def VY (t:XT) (a b:XE):XE:=⟨λr ρ h k=>t.f r ρ h λx h=>ah (b.f r ρ h k) (a.f r ρ h k) x⟩
def BW (f:V->V->M Bool) (a b:XE):XE:=⟨λr ρ h k=>a.f r ρ h λx h=>b.f r ρ h λy h=>f x y h λt h=>k (vBool t) h⟩
noncomputable def kh:XL:=⟨λu_ u_ h k=>k [] h⟩
noncomputable def dR (e:XE) (l:XL):XL:=⟨λr ρ h k=>e.f r ρ h λv h=>l.f r ρ h λvs h=>k (v::vs) h⟩
noncomputable def kK (f:XE) (l:XL):XE:=⟨λr ρ h k=>f.f r ρ h λg h=>l.f r ρ h λvs h=>r g vs h k⟩
def BX (a:XE):XE:=⟨λr ρ h k=>a.f r ρ h λv h=>gR v h λl h=>with1 l λv=>ah au (ah au (k (aX 1) h) (allInts v.xs)) (ak v.t 5)⟩
def BY (acc:V) (k:V->ae7->Option Res) (n:Nat):Nat->ae7->Option Res:=gK (λu_ u_=>au) (λu_ ih i h=>aB au (λo=>ah au (match o.bs with
 |[c,d]=>aB au (λq=>ah au (aS (k acc ⟨HT.ins qP h.l i,h.n⟩) (λx r u_=>aB (k acc ⟨HT.ins qP h.l i,h.n⟩) (λy=>Df acc x y ⟨HT.ins (uC r c (aG d 1)) h.l i,h.n⟩ λu_ h=>ih i h) (sU q.xs d)) o.xs) (ak q.t 1)) (HT.get h.l c)
 |_=>au) (ak o.t 7)) (HT.get h.l i)) n
def yJ (a b:XE):XE:=⟨λr ρ h k=>a.f r ρ h λx h=>b.f r ρ h λy h=>ah au (gR y h λu_ h=>new (uC x.xs y.n 0) h λz h=>look z h λo h=>ah au (new (dZ [] 0) h λacc h=>BY acc k 2000 z.n h) (ak o.t 7)) (ak x.t 5)⟩
def vX (o:XE) (l':XL):XE:=⟨λr ρ h k=>o.f r ρ h λov h=>look ov h λo h=>ah au (l'.f r ρ h λvs h=>lift (xR vs) h λl h=>look ov h λo h=>ah au (put ov.n (bL (app o.xs l)) h k) (ak o.t 1)) (ak o.t 1)⟩
def xJ (d:Bool) (a:XE):XE:=⟨λr ρ h k=>jump aj h λh=>a.f r ρ h λv h=>jump d h λh=>k v h⟩
structure OF where
 f:V->ae6->List V->M V
 ok:Nat->Bool
structure VF where
 f:V->List V->M V
 ok:Nat->Bool
def Dh (o:XE) (x:Nat) (ms:List (Nat×Nat)) (fo:OF) (fv:VF) (l:XL):XE:=⟨λr ρ h k=>o.f r ρ h λov h=>
 ah (ah au (l.f r ρ h λvs h=>fv.f ov vs h k) (fv.ok ov.t))
  (look ov h λo h=>ah (ah au (l.f r ρ h λvs h=>look ov h λo' h=>ah au (fo.f ov o' vs h k) (ak o'.t o.t)) (fo.ok o.t))
   (aB (aB au (λg=>l.f r ρ h λvs h=>r (bM g) (ov::vs) h k) (find o.c ms)) (λu_=>au) (find x o.fs)) (ak o.t 0)) (ak ov.t 6)⟩
def RK (o:XE) (x:Nat):XE:=⟨λr ρ h k=>o.f r ρ h λov h=>attr ov x h k⟩
def VZ (o i:XE):XE:=⟨λr ρ h k=>o.f r ρ h λov h=>i.f r ρ h λiv h=>RH ov iv h k⟩
def SR (o lo hi:XE):XE:=⟨λr ρ h k=>o.f r ρ h λov h=>lo.f r ρ h λa h=>hi.f r ρ h λb h=>SQ ov a b h k⟩
def wW (l:XL):XE:=⟨λr ρ h k=>l.f r ρ h λvs h=>new (bL vs) h k⟩
def BZ (l:XL):XE:=⟨λr ρ h k=>l.f r ρ h λvs h=>kT vs h k⟩
noncomputable def V0:XP:=⟨λu_ u_ h k=>k [] h⟩
noncomputable def RL (a b:XE) (l:XP):XP:=⟨λr ρ h k=>a.f r ρ h λx h=>b.f r ρ h λy h=>l.f r ρ h λvs h=>k ((x,y)::vs) h⟩
noncomputable def V1:XP:=⟨λu_ u_ u_ u_=>au⟩
def JR (l:XP):XE:=⟨λr ρ h k=>new (dZ [] 0) h λacc h=>l.f r ρ h λvs h=>vW acc vs h k⟩
def turns (r:Ap) (tgt:XA) (ifs:XT) (use:Env->M V) (k:ae7->Option Res) (n:Nat):It->Env->ae7->Option Res:=
 gK (λu_ u_ u_=>au) (λu_ ih it ρ h=>vV it h k λv it h=>tgt.f r ρ v h λρ h=>ifs.f r ρ h λb h=>ah (ih it ρ h) (use ρ h λu_ h=>ih it ρ h) b) n
def compEnv (ρ:Env):Env:=⟨[],app ρ.loc ρ.out⟩
def pI (elt:XE) (r:Ap) (acc:V) (ρ:Env):M V:=λh k=>elt.f r ρ h λa h=>look acc h λo h=>ah au (put acc.n (bL (app o.xs [a])) h k) (ak o.t 1)
def V2 (a b:XE) (r:Ap) (acc:V) (ρ:Env):M V:=λh k=>a.f r ρ h λx h=>b.f r ρ h λy h=>look acc h λo h=>ah au (lift (dput x y o.kvs) h λkvs h=>put acc.n (dZ kvs (cnt o.c o.kvs kvs)) h k) (ak o.t 2)
def yK (elt:XE) (tgt:XA) (it:XI) (ifs:XT):XE:=⟨λr ρ h k=>it.f r ρ h λit h=>new (bL []) h λacc h=>turns r tgt ifs (pI elt r acc) (k acc) 2000 it (compEnv ρ) h⟩
def EV (a b:XE) (tgt:XA) (it:XI) (ifs:XT):XE:=⟨λr ρ h k=>it.f r ρ h λit h=>new (dZ [] 0) h λacc h=>turns r tgt ifs (V2 a b r acc) (k acc) 2000 it (compEnv ρ) h⟩
def EW (l:XL):XI:=⟨λr ρ h k=>l.f r ρ h λvs h=>lift (xR vs) h λl h=>k (gg (dQ l)) h⟩
def V3 (a b:XE):XI:=⟨λr ρ h k=>a.f r ρ h λx h=>b.f r ρ h λy h=>gR x h λu_ h=>gR y h λu_ h=>new (EO x.n 0 y.n 0) h λz h=>look z h λo h=>ah au (k (yH z.n) h) (ak o.t 5)⟩
def RM (a:XE):XI:=⟨λr ρ h k=>a.f r ρ h λx h=>ah au (k (vU 0 (dQ x.xs)) h) (ak x.t 5)⟩
def iE (a:XE):XI:=⟨λr ρ h k=>a.f r ρ h λx h=>JJ x h k⟩
noncomputable def HF:XI:=⟨λu_ u_ u_ u_=>au⟩
def V4 (t:XT):XT:=⟨λr ρ h k=>t.f r ρ h λx h=>k (neg x) h⟩
def Di (JQ:Bool) (a b:XT):XT:=⟨λr ρ h k=>a.f r ρ h λx h=>ah (k x h) (b.f r ρ h k) (Zu x JQ)⟩
def V5 (t a b:XT):XT:=⟨λr ρ h k=>t.f r ρ h λx h=>ah (b.f r ρ h k) (a.f r ρ h k) x⟩
noncomputable def EX (f:V->V->M Bool) (a b:XE):XT:=⟨λr ρ h k=>a.f r ρ h λx h=>b.f r ρ h λy h=>f x y h k⟩
def RN (f g:V->V->M Bool) (a b c:XE):XT:=⟨λr ρ h k=>a.f r ρ h λx h=>b.f r ρ h λy h=>f x y h λt h=>ah (k aj h) (c.f r ρ h λz h=>g y z h k) t⟩
def tE (a:XE):XT:=⟨λr ρ h k=>a.f r ρ h λx h=>truth x h k⟩
noncomputable def qT:XT:=⟨λu_ u_ u_ u_=>au⟩
noncomputable def ji:XT:=⟨λu_ u_ h k=>k H h⟩
def RO (a b:XT):XT:=⟨λr ρ h k=>a.f r ρ h λx h=>ah (k aj h) (b.f r ρ h k) x⟩
def kj (x:Nat):XA:=⟨λu_ ρ v h k=>k (gf ρ x v) h⟩
def storeAll (xs:List Nat):List V->Env->Option Env:=aS (λvs ρ=>aS (O ρ) (λu_ u_ u_=>au) vs) (λx u_ ih vs ρ=>aS au (λv vs u_=>ih vs (gf ρ x v)) vs) xs
def Dj (v:V):M (List V):=λh k=>ah (gR v h k) (k v.xs h) (ak v.t 5)
def B0 (xs:List Nat):XA:=⟨λu_ ρ v h k=>Dj v h λvs h=>lift (storeAll xs vs ρ) h k⟩
def RP (o:XE) (x:Nat) (cs:List (Nat×Nat)):XA:=⟨λr ρ v h k=>o.f r ρ h λov h=>setAt ov x v cs h λu_ h=>k ρ h⟩
def aSub (o i:XE):XA:=⟨λr ρ v h k=>o.f r ρ h λov h=>i.f r ρ h λiv h=>RI ov iv v h λu_ h=>k ρ h⟩
noncomputable def B3:XA:=⟨λu_ u_ u_ u_ u_=>au⟩
structure XS where
 f:Ap->Env->ae7->(Env->ae7->Option Res)->(V->ae7->Option Res)->Option Res
noncomputable def k7:XS:=⟨λu_ u_ u_ u_ u_=>au⟩
noncomputable def vY:XS:=⟨λu_ ρ h kn u_=>kn ρ h⟩
noncomputable def fz (a b:XS):XS:=⟨λr ρ h kn kr=>a.f r ρ h (λρ h=>b.f r ρ h kn kr) kr⟩
def sJ (d:Bool) (a:XS):XS:=⟨λr ρ h kn kr=>jump aj h λh=>a.f r ρ h (λρ h=>jump d h λh=>kn ρ h) (λv h=>jump d h λh=>kr v h)⟩
noncomputable def RS (e:XE):XS:=⟨λr ρ h kn u_=>e.f r ρ h λu_ h=>kn ρ h⟩
noncomputable def yL (e:XE):XS:=⟨λr ρ h u_ kr=>e.f r ρ h kr⟩
noncomputable def jv (t:XA) (e:XE):XS:=⟨λr ρ h kn u_=>e.f r ρ h λv h=>t.f r ρ v h kn⟩
def Dk (t:XT) (a b:XS):XS:=⟨λr ρ h kn kr=>t.f r ρ h λx h=>ah (b.f r ρ h kn kr) (a.f r ρ h kn kr) x⟩
def forL (r:Ap) (tgt:XA) (body:XS) (kn:Env->ae7->Option Res) (kr:V->ae7->Option Res) (n:Nat):It->Env->ae7->Option Res:=
 gK (λu_ u_ u_=>au) (λu_ ih it ρ h=>vV it h (kn ρ) λv it h=>tgt.f r ρ v h λρ h=>body.f r ρ h (λρ h=>ih it ρ h) kr) n
def V6 (tgt:XA) (it:XI) (body:XS):XS:=⟨λr ρ h kn kr=>it.f r ρ h λit h=>forL r tgt body kn kr 2000 it ρ h⟩
def EY (r:Ap) (t:XT) (body:XS) (kn:Env->ae7->Option Res) (kr:V->ae7->Option Res) (n:Nat):Env->ae7->Option Res:=
 gK (λu_ u_=>au) (λu_ ih ρ h=>t.f r ρ h λx h=>ah (kn ρ h) (body.f r ρ h (λρ h=>ih ρ h) kr) x) n
def JS (t:XT) (body:XS):XS:=⟨λr ρ h kn kr=>EY r t body kn kr 100 ρ h⟩
def mkBin (op:Operator) (a b:XE):XE:=match op with
 | .Add=>yI VN a b
 | .Sub=>yI VO a b
 | .Mult=>yI VP a b
 | .FloorDiv=>yI VQ a b
 | .Mod=>yI VS a b
 | .Pow=>yI VT a b
 | .LShift=>yI VU a b
 | .RShift=>yI VW a b
 | .BitAnd=>yI VX a b
 | .BitOr=>yI bOr a b
 |_=>fm
structure CF where
 f:V->V->M Bool
def EZ (op:CmpOp):CF:=match op with
 | .Eq=>⟨Ju⟩
 | .NotEq=>⟨RG⟩
 | .Lt=>⟨cLt⟩
 | .Gt=>⟨Zw⟩
 | .LtE=>⟨cLe⟩
 | .GtE=>⟨cGe⟩
 | .Is=>⟨cIs⟩
 | .IsNot=>⟨JO⟩
 | .In=>⟨YF⟩
 | .NotIn=>⟨JP⟩
section
variable (G:Str->Option V) (Ms:Nat->List (Nat×Nat))
def SS (x:Nat):OF:=ah (ah (ah (ah ⟨RD,λu_=>aj⟩ ⟨qS,λt=>ak t 2⟩ (ak x (nm "setdefault"))) ⟨SP,λt=>ak t 2⟩ (ak x (nm "get"))) ⟨xT,λt=>ah (ak t 3) H (ak t 1)⟩ (ak x (nm "extend"))) ⟨BU,λt=>ak t 1⟩ (ak x (nm "append"))
def SV (x:Nat):VF:=ah (ah ⟨RE,λu_=>aj⟩ ⟨Gn,λt=>ah (ak t 4) H (ak t 3)⟩ (ak x (nm "join"))) ⟨EU,λt=>ak t 5⟩ (ak x (nm "index"))
def JT:Const->XE
 | .none=>xC di
 | .bool b=>xC (vBool b)
 | .int i=>xC (mw i)
 | .str s=>ah fm (xC (vStr s.cps.toList)) (bQ (len s.cps.toList) 1000000)
 | .bytes b=>ah fm (xC (fk (l5 bU b))) (bQ (len b) 1000000)
 |_=>fm
def JU (x:Str):XE:=aB fm (λv=>xC v) (G x)
def JV (names:List (Str×aN)) (x:Str):XE:=match aZ x with
 |false=>fm
 |true=>match bg (nm x) names with
  |some k=>match k with
   | .local=>qy (nm x)
   | .cell=>qy (nm x)
   | .free=>Dg (nm x)
   | .globalImplicit=>JU G x
   |_=>fm
  |none=>fm
def m6 (ns:List (Str×aN)):List (Str×aN)->Bool
 |[]=>H
 |(x,k)::r=>match aZ x with
  |false=>aj
  |true=>match k with
   | .free=>match bg (nm x) ns with
    |some .cell=>m6 ns r
    |some .free=>m6 ns r
    |_=>aj
   | .local=>m6 ns r
   | .globalImplicit=>m6 ns r
   |_=>aj
def sD (x:Nat) (l:List (Str×aN)):Bool:=match bg x l with
 |some _=>H
 |none=>aj
def Dl:List (Str×aN)->Bool
 |[]=>H
 |p::r=>match sD (nm p.1) r with
  |true=>aj
  |false=>Dl r
def B4 (l:List (Str×aN)):Bool:=match sD (nm "__debug__") l with
 |true=>aj
 |false=>match sD (nm "__classdict__") l with
  |true=>aj
  |false=>Dl l
noncomputable def isFn:ScopeKind->Bool
 | .function=>H
 |_=>aj
noncomputable def gD:List (Str×aN)->Bool
 |[]=>aj
 |p::r=>match p.2 with
  | .local=>H
  |_=>gD r
def yM (ns:List (Str×aN)) (sc:Scope):Bool:=match m6 ns sc.names with
 |true=>match isFn sc.kind with
  |true=>match gD sc.names with
   |true=>B4 sc.names
   |false=>aj
  |false=>aj
 |false=>aj
def tgtName (ns:List (Str×aN)):Expr->Option Nat
 | .Name x _=>match aZ x with
  |false=>au
  |true=>match bg (nm x) ns with
   |some k=>match k with
    | .local=>O (nm x)
    | .cell=>O (nm x)
    |_=>au
   |none=>au
 |_=>au
def fX (ns:List (Str×aN)):List Expr->Option (List Nat)
 |[]=>O []
 |e::r=>match tgtName ns e with
  |some x=>match fX ns r with
   |some l=>O (x::l)
   |none=>au
  |none=>au
def NU (x:Nat) (l:List Nat):Bool:=aS aj (λy u_ ih=>ah ih H (ak x y)) l
def ie:List Nat->Bool
 |[]=>H
 |x::r=>match NU x r with
  |true=>aj
  |false=>ie r
def lU (ns:List (Str×aN)) (e:Expr):XA:=match e with
 | .Tuple es _ _=>match fX ns es with
  |some l=>match ie l with
   |true=>B0 l
   |false=>B3
  |none=>B3
 |e=>match tgtName ns e with
  |some x=>kj x
  |none=>B3
noncomputable def isSlice:Expr->Bool
 | .Slice .. =>H
 |_=>aj
noncomputable def jx:Expr->Bool
 | .ListComp .. =>H
 | .SetComp .. =>H
 | .DictComp .. =>H
 |_=>aj
def nJ (t e:Expr):Bool:=match t with
 | .Tuple .. =>match e with
  | .Tuple vs _ _=>ah H (vs.all (foldedForSure 8)) (vs.all (constantsAlone 8))
  |_=>H
 | .Starred .. =>aj
 |_=>H
noncomputable def kM:Expr->Bool
 | .Set .. =>H
 |_=>aj
def lV (e:Expr):Bool:=match e with
 | .Call f _ _ _=>match f with
  | .Name id _=>ah H aj (ak (nm id) (nm "super"))
  |_=>H
 |_=>H
noncomputable def iQ:Expr->Bool
 | .Tuple .. =>H
 |_=>aj
noncomputable def br:Expr->Bool
 | .Starred .. =>H
 |_=>aj
def SW (ns:List (Str×aN)):Expr->Option Nat
 | .Name x _=>match aZ x with
  |true=>match bg (nm x) ns with
   |some k=>match k with
    | .globalImplicit=>match G x with
     |some v=>ah au (O v.n) (ak v.t 9)
     |none=>au
    |_=>au
   |none=>au
  |false=>au
 |_=>au
def jR (ns:List (Str×aN)) (n:Nat) (e:Expr):Bool:=aB aj (λm=>ak m n) (SW G ns e)
def Gp (f:Expr->XE):List Expr->XL
 |[]=>kh
 |e::r=>dR (f e) (Gp f r)
def mkPairs (f:Expr->XE):List (Option Expr)->List Expr->XP
 |[],[]=>V0
 |k::ks,e::es=>match k with
  |some k=>RL (f k) (f e) (mkPairs f ks es)
  |none=>V1
 |_,_=>V1
noncomputable def lW:List (Option Expr)->List Expr->Bool
 |[],[]=>H
 |k::ks,_::es=>match k with
  |some _=>lW ks es
  |none=>aj
 |_,_=>aj
def Gq (f:Expr->XE):Option Expr->XE
 |none=>xC di
 |some e=>f e
def A3 (ns:List (Str×aN)) (f:Expr->XE) (e:Expr):XI:=match e with
 | .Call g args kws _=>match kws with
  |[]=>match args.any br with
   |true=>HF
   |false=>match jR G ns 1 g with
    |true=>EW (Gp f args)
    |false=>match jR G ns 9 g with
     |true=>match args with
      |[a,b]=>V3 (f a) (f b)
      |_=>HF
     |false=>match jR G ns 10 g with
      |true=>match args with
       |[a]=>RM (f a)
       |_=>HF
      |false=>iE (f e)
  |_=>HF
 |_=>iE (f e)
def pairsOk (ns:List (Str×aN)) (t e:Expr):Bool:=match e with
 | .Call g _ _ _=>match jR G ns 9 g with
  |true=>iQ t
  |false=>match jR G ns 10 g with
   |true=>iQ t
   |false=>H
 | .Set .. =>aj
 |_=>H
def inner (ns:List (Str×aN)) (n:Nat) (e:Expr):Option (List Expr):=match e with
 | .Call g args kws _=>match kws with
  |[]=>match args.any br with
   |true=>au
   |false=>match jR G ns n g with
    |true=>O args
    |false=>au
  |_=>au
 |_=>au
def RT (ns:List (Str×aN)) (f:Expr->XE) (g:Expr) (args:List Expr):XE:=match args with
 |[a]=>match jR G ns 0 g with
  |true=>match inner G ns 7 a with
   |some [a]=>BX (f a)
   |_=>kK (f g) (Gp f args)
  |false=>match jR G ns 6 g with
   |true=>match inner G ns 9 a with
    |some [a,b]=>yJ (f a) (f b)
    |_=>kK (f g) (Gp f args)
   |false=>kK (f g) (Gp f args)
 |_=>kK (f g) (Gp f args)
def HG (f:Expr->XE) (o:Expr) (x:Nat) (args:List Expr):XE:=Dh (f o) x (Ms x) (SS x) (SV x) (Gp f args)
def RU (ns:List (Str×aN)) (f:Expr->XE) (o:Expr) (m:Str) (args:List Expr):XE:=match ak (nm m) (nm "extend") with
 |true=>match args with
  |[a]=>match inner G ns 1 a with
   |some as=>vX (f o) (Gp f as)
   |none=>HG Ms f o (nm m) args
  |_=>HG Ms f o (nm m) args
 |false=>HG Ms f o (nm m) args
mutual
def cU:Nat->List (Str×aN)->Expr->XE
 |0,_,_=>fm
 |n+1,ns,e=>match e with
  | .Name x _=>JV G ns x
  | .Constant c _ _=>JT c
  | .BinOp a op b _=>mkBin op (cU n ns a) (cU n ns b)
  | .UnaryOp op a _=>match op with
   | .USub=>match a with
    | .Constant c _ _=>match c with
     | .int i=>xC (mw (-i))
     |_=>fm
    |_=>fm
   |_=>fm
  | .BoolOp op es _=>match es with
   |[a,b]=>RJ (match op with| .And=>H| .Or=>aj) (cU n ns a) (cU n ns b)
   |_=>fm
  | .IfExp t a b _=>VY (oJ n ns t) (cU n ns a) (cU n ns b)
  | .Compare a ops es _=>match ops with
   |[op]=>match es with
    |[b]=>match kM b with
     |true=>fm
     |false=>BW (EZ op).f (cU n ns a) (cU n ns b)
    |_=>fm
   |_=>fm
  | .Call f args kws p=>match kws with
   |[]=>match args.any br with
    |true=>fm
    |false=>match f with
     | .Attribute o m ap=>match aZ m with
      |true=>match lV o with
       |true=>match ak ap.endLine p.line with
        |true=>match bI (len args) 30 with
         |true=>RU G Ms ns (cU n ns) o m args
         |false=>fm
        |false=>fm
       |false=>fm
      |false=>fm
     |f=>RT G ns (cU n ns) f args
   |_=>fm
  | .Attribute o a _=>match aZ a with
   |true=>match lV o with
    |true=>RK (cU n ns o) (nm a)
    |false=>fm
   |false=>fm
  | .Subscript o i _=>match i with
   | .Slice lo hi st _=>match st with
    |none=>SR (cU n ns o) (Gq (cU n ns) lo) (Gq (cU n ns) hi)
    |some _=>fm
   |i=>VZ (cU n ns o) (cU n ns i)
  | .List es _=>match es.any br with
   |true=>fm
   |false=>wW (Gp (cU n ns) es)
  | .Tuple es _ _=>match es.any br with
   |true=>fm
   |false=>BZ (Gp (cU n ns) es)
  | .Dict ks es _=>match bI (len ks) 16 with
   |true=>match lW ks es with
    |true=>JR (mkPairs (cU n ns) ks es)
    |false=>fm
   |false=>fm
  | .ListComp elt gens sc _=>match gens with
   |[⟨tgt,it,ifs,a⟩]=>match Int.decEq a 0 with
    | .isTrue _=>match yM ns sc with
     |true=>match pairsOk G ns tgt it with
      |true=>yK (cU n sc.names elt) (lU sc.names tgt) (A3 G ns (cU n ns) it) (uG n sc.names ifs)
      |false=>fm
     |false=>fm
    | .isFalse _=>fm
   |_=>fm
  | .DictComp x y gens sc _=>match gens with
   |[⟨tgt,it,ifs,a⟩]=>match Int.decEq a 0 with
    | .isTrue _=>match yM ns sc with
     |true=>match pairsOk G ns tgt it with
      |true=>EV (cU n sc.names x) (cU n sc.names y) (lU sc.names tgt) (A3 G ns (cU n ns) it) (uG n sc.names ifs)
      |false=>fm
     |false=>fm
    | .isFalse _=>fm
   |_=>fm
  |_=>fm
def oJ:Nat->List (Str×aN)->Expr->XT
 |0,_,_=>qT
 |n+1,ns,e=>match e with
  | .UnaryOp op a p=>match op with
   | .Not=>V4 (oJ n ns a)
   |op=>tE (cU n ns (.UnaryOp op a p))
  | .BoolOp op es _=>E0 n ns (match op with| .And=>H| .Or=>aj) es
  | .IfExp t a b _=>V5 (oJ n ns t) (oJ n ns a) (oJ n ns b)
  | .Compare a ops es _=>match ops with
   |[op]=>match es with
    |[b]=>match kM b with
     |true=>qT
     |false=>EX (EZ op).f (cU n ns a) (cU n ns b)
    |_=>qT
   |[op,Zx]=>match es with
    |[b,c]=>match kM b,kM c with
     |false,aj=>RN (EZ op).f (EZ Zx).f (cU n ns a) (cU n ns b) (cU n ns c)
     |_,_=>qT
    |_=>qT
   |_=>qT
  |e=>tE (cU n ns e)
def E0:Nat->List (Str×aN)->Bool->List Expr->XT
 |0,_,_,_=>qT
 |n+1,ns,b,es=>match es with
  |[]=>qT
  |e::r=>match r with
   |[]=>oJ n ns e
   |r=>Di b (oJ n ns e) (E0 n ns b r)
def uG:Nat->List (Str×aN)->List Expr->XT
 |0,_,_=>qT
 |n+1,ns,es=>match es with
  |[]=>ji
  |e::r=>RO (oJ n ns e) (uG n ns r)
end
def Dm (ns:List (Str×aN)) (e:Expr):XA:=match e with
 | .Attribute o a _=>match aZ a with
  |true=>RP (cU G Ms 30 ns o) (nm a) (Ms (aG (cM (nm a) 128) 1))
  |false=>B3
 | .Subscript o i _=>match isSlice i with
  |true=>B3
  |false=>aSub (cU G Ms 30 ns o) (cU G Ms 30 ns i)
 |e=>lU ns e
mutual
def Dn:Nat->List (Str×aN)->Stmt->XS
 |0,_,_=>k7
 |n+1,ns,s=>match s with
  | .Expr e _=>match jx e with
   |true=>k7
   |false=>RS (cU G Ms 30 ns e)
  | .Return e _=>yL (Gq (cU G Ms 30 ns) e)
  | .Assign ts e _=>match ts with
   |[t]=>match nJ t e with
    |true=>jv (Dm G Ms ns t) (cU G Ms 30 ns e)
    |false=>k7
   |_=>k7
  | .If t a b _=>Dk (oJ G Ms 30 ns t) (qU n ns a) (qU n ns b)
  | .For t it body els _=>match els with
   |[]=>match pairsOk G ns t it with
    |true=>V6 (lU ns t) (A3 G ns (cU G Ms 30 ns) it) (qU n ns body)
    |false=>k7
   |_=>k7
  | .While t body els _=>match els with
   |[]=>JS (oJ G Ms 30 ns t) (qU n ns body)
   |_=>k7
  |_=>k7
def qU:Nat->List (Str×aN)->List Stmt->XS
 |0,_,_=>k7
 |n+1,ns,ss=>match ss with
  |[]=>vY
  |s::r=>fz (Dn n ns s) (qU n ns r)
end
end
section
variable (G:Str->Option V) (Ms:Nat->List (Nat×Nat))
def SX (f:Expr):Bool:=match f with
 | .Attribute _ m _=>ak (nm m) (nm "told")
 | .Name x _=>ah (ak (nm x) (nm "tuple")) H (ak (nm x) (nm "layout_told"))
 |_=>aj
noncomputable def isDone (s:Stmt):Bool:=match s with
 | .If .. =>H
 | .Assign ts _ _=>match ts with
  |[t]=>match t with
   | .Subscript .. =>H
   |_=>aj
  |_=>aj
 |_=>aj
def nK:Nat->List (Str×aN)->Expr->XE
 |0,_,_=>fm
 |n+1,ns,e=>match e with
  | .Tuple es _ _=>match es.any br with
   |true=>fm
   |false=>BZ (Gp (nK n ns) es)
  | .List es _=>match es.any br with
   |true=>fm
   |false=>wW (Gp (nK n ns) es)
  | .Compare a ops es _=>match ops with
   |[op]=>match es with
    |[b]=>match kM b with
     |true=>fm
     |false=>BW (EZ op).f (nK n ns a) (nK n ns b)
    |_=>fm
   |_=>fm
  | .Call f args kws p=>xJ (SX f) (cU G Ms 30 ns (.Call f args kws p))
  |e=>cU G Ms 30 ns e
def JW (ns:List (Str×aN)) (e:Expr):XE:=match e with
 | .ListComp elt gens sc _=>match gens with
  |[⟨tgt,it,ifs,a⟩]=>match Int.decEq a 0 with
   | .isTrue _=>match yM ns sc with
    |true=>match pairsOk G ns tgt it with
     |true=>yK (nK G Ms 30 sc.names elt) (lU sc.names tgt) (A3 G ns (cU G Ms 30 ns) it) (uG G Ms 30 sc.names ifs)
     |false=>fm
    |false=>fm
   | .isFalse _=>fm
  |_=>fm
 |_=>fm
def NV (ns:List (Str×aN)) (e:Expr):XT:=match e with
 | .Compare a ops es _=>match ops with
  |[op]=>match es with
   |[b]=>match kM b with
    |true=>qT
    |false=>EX (EZ op).f (nK G Ms 30 ns a) (nK G Ms 30 ns b)
   |_=>qT
  |_=>qT
 |_=>qT
def E1 (ns:List (Str×aN)) (e:Expr):XT:=match e with
 | .BoolOp op es _=>match es with
  |[a,b]=>Di (match op with| .And=>H| .Or=>aj) (NV G Ms ns a) (NV G Ms ns b)
  |_=>qT
 | .Compare a ops es p=>NV G Ms ns (.Compare a ops es p)
 |e=>oJ G Ms 30 ns e
noncomputable def xU:Expr->Bool
 | .Call .. =>H
 |_=>aj
noncomputable def E2:Expr->Bool
 | .ListComp .. =>H
 |_=>aj
def JX (ns:List (Str×aN)) (e:Expr):XE:=match xU e with
 |true=>cU G Ms 30 ns e
 |false=>nK G Ms 30 ns e
def JY (ns:List (Str×aN)) (e:Expr):XE:=match E2 e with
 |true=>JW G Ms ns e
 |false=>match jx e with
  |true=>fm
  |false=>JX G Ms ns e
noncomputable def NW:Expr->Bool
 | .Attribute .. =>H
 |_=>aj
def JZ (ns:List (Str×aN)) (e:Expr):XE:=match e with
 | .Call f args kws p=>match kws with
  |[]=>match args.any br with
   |true=>fm
   |false=>match NW f with
    |true=>cU G Ms 30 ns (.Call f args [] p)
    |false=>kK (cU G Ms 30 ns f) (Gp (nK G Ms 30 ns) args)
  |_=>fm
 |e=>nK G Ms 30 ns e
def E3:XS:=⟨λu_ ρ h kn u_=>jump aj h λh=>jump aj h λh=>kn ρ h⟩
noncomputable def J3:Expr->Bool
 | .Subscript .. =>H
 |_=>aj
def J4 (ns:List (Str×aN)) (t e:Expr):XE:=match J3 t with
 |true=>match xU e with
  |true=>xJ H (cU G Ms 30 ns e)
  |false=>fm
 |false=>JY G Ms ns e
def J5 (ns:List (Str×aN)) (s:Stmt):XS:=match s with
 | .Assign ts e _=>match ts with
  |[t]=>match J3 t with
   |true=>match xU e with
    |true=>match nJ t e with
     |true=>jv (Dm G Ms ns t) (xJ H (cU G Ms 30 ns e))
     |false=>k7
    |false=>k7
   |false=>k7
  |_=>k7
 |s=>Dn G Ms 100 ns s
def J6 (ns:List (Str×aN)) (a:List Stmt):XS:=match a with
 |[s]=>fz (J5 G Ms ns s) vY
 |_=>k7
def E4 (ns:List (Str×aN)) (s:Stmt):XS:=match s with
 | .Return e _=>match e with
  |some e=>yL (JZ G Ms ns e)
  |none=>k7
 | .Assign ts e _=>match ts with
  |[t]=>match nJ t e with
   |true=>jv (Dm G Ms ns t) (J4 G Ms ns t e)
   |false=>k7
  |_=>k7
 | .If t a b _=>match b with
  |[]=>Dk (E1 G Ms ns t) (J6 G Ms ns a) E3
  |_=>k7
 |s=>Dn G Ms 100 ns s
def J8 (ns:List (Str×aN)):List Stmt->XS
 |[]=>vY
 |s::r=>fz (sJ (isDone s) (E4 G Ms ns s)) (J8 ns r)
end
def V7 (f:Expr->XE) (e:Expr):XE:=match e with
 | .Lambda _ _ _ pos=>xC (NL (aG (cM pos.line 4096) pos.col))
 |e=>f e
def qV (G:Str->Option V) (Ms:Nat->List (Nat×Nat)) (ns:List (Str×aN)) (b:List Stmt):XS:=match b with
 |[.Return (O (.Dict ks vs _)) _]=>match bI (len ks) 16 with
  |true=>match lW ks vs with
   |true=>fz (yL (JR (mkPairs (V7 (cU G Ms 30 ns)) ks vs))) vY
   |false=>k7
  |false=>k7
 |b=>qU G Ms 100 ns b
structure Fn where
 params:List Nat
 Dp:List V
 body:XS
 prim:Nat
structure Lm where
 params:List Nat
 body:XE
structure B5 where
 lam:Nat->Option Lm
 fn:Nat->Option Fn
 init:Nat->Option Nat
def nM (d:List V) (xs:List Nat):List V->Option (List (Nat×V)):=aS (λvs=>ah au (O []) (isNil vs))
 (λx r ih vs=>aS
  (ah au (aB au (λv=>aB au (λl=>O ((x,v)::l)) (ih [])) (sU d (fq (len d) (aG (len r) 1)))) (bQ (aG (len r) 1) (len d)))
  (λv vs u_=>aB au (λl=>O ((x,v)::l)) (ih vs)) vs) xs
def Zy (T:B5) (r:Ap) (a:Nat) (args:List V):M V:=λh k=>aB au (λF=>ah
 (with2 args λa w=>r w [a,bM F.prim,aX 0] h k)
 (aB au (λl=>F.body.f r ⟨l,[]⟩ h (λu_ h=>k di h) k) (nM F.Dp F.params args)) (ak F.prim 0)) (T.fn a)
def SY (T:B5) (r:Ap) (a:Nat) (args:List V):M V:=λh k=>lift (T.init a) h λf h=>new (uB a []) h λx h=>r (bM f) (x::args) h λv h=>ah au (k x h) (ak v.t 0)
def V8 (T:B5) (r:Ap) (j:Nat) (args:List V):M V:=λh k=>lift (T.lam j) h λL h=>lift (nM [] L.params args) h λb h=>L.body.f r ⟨b,[]⟩ h k
def apply (T:B5) (r:Ap) (f:V) (args:List V):M V:=λh k=>ah (ah (ah (ah au (V8 T r f.n args h k) (ak f.t 10)) (SY T r f.n args h k) (ak f.t 8)) (BS f.n args h k) (ak f.t 9)) (Zy T r f.n args h k) (ak f.t 7)
def run (T:B5) (n:Nat):Ap:=gK (λu_ u_ u_ u_=>au) (λu_ ih=>apply T ih) n
end
set_option backward.match.sparseCases true
theorem dM {a:Type} {x} {r} (e:(ah au x b:Option a)=O r):b=H/\x=O r:=by
 induction b using zB with
 |false=>exact fn e
 |true=>exact⟨rfl,e⟩
theorem sE {a:Type} {x y} {r} {p:Prop} (e:(ah x y b:Option a)=O r) (t:b=H->y=O r->p) (f:b=aj->x=O r->p):p:=by
 induction b using zB with
 |false=>exact f rfl e
 |true=>exact t rfl e
theorem pX {b c:Type} {o} {f:c->Option b} {r} (e:(aB au f o:Option b)=O r):∃a,o=O a/\f a=O r:=by
 induction o using zO with
 |none=>exact fn e
 |some a=>exact bW a rfl e
theorem aH {a b:Nat} (e:ak a b=H):a=b:=cz e
theorem fU {a b:Nat} (e:ak a b=aj):a≠b:=λh=>by rw [h,fu] at e;exact ft e
theorem bC (e:lift x h k=O r):∃a,x=O a/\k a h=O r:=pX e
theorem eV x p (l:List (Nat×α)):find x (p::l)=if x=p.1 then O p.2 else find x l:=by
 refine(?_:(ah (find x l) (O p.2) (ak x p.1):Option α)=_)
 induction e:ak x p.1 using zB with
 |true=>exact U (if_pos (aH e)) rfl
 |false=>exact U (if_neg (fU e)) rfl
theorem HJ x (v:α):setIn x v []=[(x,v)]:=rfl
theorem yN x v p (l:List (Nat×α)):setIn x v (p::l)=if x=p.1 then(x,v)::l else p::setIn x v l:=by
 refine(?_:(ah (p::setIn x v l) ((x,v)::l) (ak x p.1):List (Nat×α))=_)
 induction e:ak x p.1 using zB with
 |true=>exact U (if_pos (aH e)) rfl
 |false=>exact U (if_neg (fU e)) rfl
theorem jS (x y) v (l:List (Nat×α)):find y (setIn x v l)=if y=x then O v else find y l:=by
 induction l with
 |nil=>exact U (HJ ..) (U (eV ..) rfl)
 |cons p l a=>
  refine U (yN ..) ?_;by_cases h:x=p.1
  .refine U (if_pos h) (U (eV ..) (U (eV ..) ?_));by_cases hy:y=x
   .simp [hy]
   .rw [if_neg hy,if_neg hy,if_neg (by refine cL h ?_;exact hy)]
  .refine U (if_neg h) (U (eV ..) (U (eV ..) (U a ?_)));by_cases hy:y=p.1
   .rw [if_pos hy,if_neg (by refine U hy ?_;exact λe=>h e.symm),if_pos hy]
   .exact U (if_neg hy) (U (if_neg hy) rfl)
theorem mH (x y:List α):app x y=x++y:=by
 induction x with
 |nil=>rfl
 |cons a x b=>show a::app x y=_;refine U b ?_;rfl
theorem Dq x (l m:List (Nat×α)):find x (app l m)=(find x l).or (find x m):=by
 induction l with
 |nil=>rfl
 |cons p l a=>
  refine(?_:find x (p::app l m)=_);refine U (eV ..) (U (eV ..) (U a ?_));split<;>rfl
theorem len_eq (x:List α):len x=x.length:=by
 induction x with
 |nil=>rfl
 |cons a x b=>show aG (len x) 1=_;refine U b ?_;rfl
theorem mJ (x:List α) i:sU x i=x[i]? :=by
 induction x generalizing i with
 |nil=>rfl
 |cons a x b=>
  induction i using zN with
  |zero=>rfl
  |succ i=>show sU x i=_;refine U (b ..) ?_;rfl
theorem HK v (x:List α) i:EP v x i=x.set i v:=by
 induction x generalizing i with
 |nil=>rfl
 |cons a x b=>
  induction i using zN with
  |zero=>rfl
  |succ i=>show a::EP v x i=_;refine U (b ..) ?_;rfl
theorem p9 (f:α->β) x:l5 f x=x.map f:=by
 induction x with
 |nil=>rfl
 |cons a x b=>show f a::l5 f x=_;refine U b ?_;rfl
theorem Dr (x:List α) i:yF x i=x.take i:=by
 induction x generalizing i with
 |nil=>simp [yF]
 |cons a x b=>
  induction i using zN with
  |zero=>rfl
  |succ i=>show a::yF x i=_;refine U (b ..) ?_;rfl
theorem Ds (x:List α) i:Dc x i=x.drop i:=by
 induction x generalizing i with
 |nil=>simp [Dc]
 |cons a x b=>
  induction i using zN with
  |zero=>rfl
  |succ i=>show Dc x i=_;refine U (b ..) ?_;rfl
theorem TR.get_nil i:TR.nil.get i=none:=rfl
theorem TR.get_node v (l r) i:(TR.node v l r).get i=if i=0 then v else if i %2=0 then r.get ((i-1)/2) else l.get ((i-1)/2):=by
 refine(?_:(ah (ah (l.get ((i-1)/2)) (r.get ((i-1)/2)) (ak (i %2) 0)) v (ak i 0):Option ae6)=_)
 induction e:ak i 0 using zB with
 |true=>exact U (if_pos (aH e)) rfl
 |false=>
  refine U (if_neg (fU e)) ?_
  induction a:ak (i %2) 0 using zB with
  |true=>exact U (if_pos (aH a)) rfl
  |false=>exact U (if_neg (fU a)) rfl
theorem TR.J9 o (n i):TR.one o (n+1) i=if i=0 then .node (O o) .nil .nil else if i %2=0 then .node au .nil (TR.one o n ((i-1)/2)) else .node au (TR.one o n ((i-1)/2)) .nil:=by
 refine(?_:(ah (ah (.node au (TR.one o n ((i-1)/2)) .nil) (.node au .nil (TR.one o n ((i-1)/2))) (ak (i %2) 0)) (.node (O o) .nil .nil) (ak i 0):TR)=_)
 induction e:ak i 0 using zB with
 |true=>exact U (if_pos (aH e)) rfl
 |false=>
  refine U (if_neg (fU e)) ?_
  induction a:ak (i %2) 0 using zB with
  |true=>exact U (if_pos (aH a)) rfl
  |false=>exact U (if_neg (fU a)) rfl
theorem TR.ins_node o v (l r) i:TR.ins o (.node v l r) i=if i=0 then .node (O o) l r else if i %2=0 then .node v l (TR.ins o r ((i-1)/2)) else .node v (TR.ins o l ((i-1)/2)) r:=by
 refine(?_:(ah (ah (.node v (TR.ins o l ((i-1)/2)) r) (.node v l (TR.ins o r ((i-1)/2))) (ak (i %2) 0)) (.node (O o) l r) (ak i 0):TR)=_)
 induction e:ak i 0 using zB with
 |true=>exact U (if_pos (aH e)) rfl
 |false=>
  refine U (if_neg (fU e)) ?_
  induction a:ak (i %2) 0 using zB with
  |true=>exact U (if_pos (aH a)) rfl
  |false=>exact U (if_neg (fU a)) rfl
theorem NX {α} {p q} [Decidable p] [Decidable q] {a b:α} (h:p↔q):(if p then a else b)=if q then a else b:=by
 by_cases k:p
 .exact U (if_pos k) (U (if_pos (h.mp k)) rfl)
 .exact U (if_neg k) (U (if_neg λt=>k (h.mpr t)) rfl)
theorem Gr (p:a %2=b %2) (h:a/2=b/2):a=b:=cL (rQ a 2) (cL (rQ b 2) (U p (U h rfl)))
theorem V9 (p:(a+1) %2=0):a %2=1:=(BJ a).resolve_left λq=>by rw [Nat.add_mod,q] at p;exact absurd p (by decide)
theorem Wa (p:¬(a+1) %2=0):a %2=0:=(BJ a).resolve_right λq=>p (U (Nat.add_mod ..) (U q rfl))
theorem Wb:∀{i j:Nat} (hi:¬i=0) (c:¬j=0) (p:i %2=0) (q:j %2=0),((j-1)/2=(i-1)/2)↔(j=i)
 |0,_,hi,_,_,_=>(hi rfl).elim
 |_,0,_,c,_,_=>(c rfl).elim
 |a+1,b+1,_,_,p,q=>⟨λh=>congrArg (·+1) (Gr ((V9 q).trans (V9 p).symm) h),λh=>U h rfl⟩
theorem Wc:∀{i j:Nat} (p:¬i %2=0) (q:¬j %2=0),((j-1)/2=(i-1)/2)↔(j=i)
 |0,_,p,_=>(p rfl).elim
 |_,0,_,q=>(q rfl).elim
 |a+1,b+1,p,q=>⟨λh=>congrArg (·+1) (Gr ((Wa q).trans (Wa p).symm) h),λh=>U h rfl⟩
theorem RW (p:i %2=0) (q:¬j %2=0):¬j=i:=λh=>q (h▸p)
theorem uH {i} (hi:¬i=0) (h:if i %2=0 then l'=l/\∀j,r'.get j=if j=(i-1)/2 then x else r.get j else r'=r/\∀j,l'.get j=if j=(i-1)/2 then x else l.get j) j:
 (TR.node v l' r').get j=if j=i then x else(TR.node v l r).get j:=by
 refine U (TR.get_node ..) (U (TR.get_node ..) ?_);by_cases a:j=0
 .exact U (if_pos a) (U (if_pos a) (U (if_neg λq=>hi (q.symm.trans a)) rfl))
 .refine U (if_neg a) (U (if_neg a) ?_);by_cases p:i %2=0
  .rw [if_pos p] at h;by_cases q:j %2=0
   .exact U (if_pos q) (U (if_pos q) (U (h.2 ..) (U (NX (Wb hi a p q)) rfl)))
   .exact U (if_neg q) (U (if_neg q) (U h.1 (U (if_neg (RW p q)) rfl)))
  .rw [if_neg p] at h;by_cases q:j %2=0
   .exact U (if_pos q) (U (if_pos q) (U h.1 (U (if_neg λt=>RW q p t.symm) rfl)))
   .exact U (if_neg q) (U (if_neg q) (U (h.2 ..) (U (NX (Wc p q)) rfl)))
theorem Dt {i:Nat} (hi:i=0) (j:Nat):(TR.node x l r).get j=if j=i then x else(TR.node v l r).get j:=by
 refine U (TR.get_node ..) (U (TR.get_node ..) (U hi ?_));by_cases a:j=0
 .exact U (if_pos a) (U (if_pos a) rfl)
 .exact U (if_neg a) (U (if_neg a) (U (if_neg a) rfl))
theorem Du j:(TR.node au .nil .nil).get j=none:=by
 refine U (TR.get_node ..) (U (TR.get_nil ..) ?_);by_cases b:j=0
 .exact U (if_pos b) rfl
 .exact U (if_neg b) (U (ite_self ..) rfl)
theorem TR.NY o:∀n i,∃x:Option ae6,(x=O o\/x=au)/\∀j,(TR.one o n i).get j=if j=i then x else none:=by
 intro n
 induction n with
 |zero=>
  intro i;exact bW au (.inr rfl) (λj=>(ite_self au).symm)
 |succ n a=>
  intro i;refine aL (a ((i-1)/2)) λx h hx=>U (TR.J9 ..) ?_;by_cases hi:i=0
  .exact U (if_pos hi) (bW _ (.inl rfl) (λj=>(Dt (v:=au) hi j).trans (U (Du ..) rfl)))
  .refine U (if_neg hi) (bW x hx (λj=> ?_));have e:=Du j;by_cases p:i %2=0
   .refine U (if_pos p) ?_;exact(uH (l:= .nil) (r:= .nil) (x:=x) hi (U (if_pos p) (⟨rfl,h⟩)) j).trans (U e rfl)
   .refine U (if_neg p) ?_;exact(uH (l:= .nil) (r:= .nil) (x:=x) hi (U (if_neg p) (⟨rfl,h⟩)) j).trans (U e rfl)
theorem TR.uI o:∀t i,∃x:Option ae6,(x=O o\/x=au)/\∀j,(TR.ins o t i).get j=if j=i then x else t.get j:=by
 intro t
 induction t with
 |nil=>exact λi=>TR.NY o 30 i
 |node v l r a b=>
  intro i;refine U (TR.ins_node ..) ?_;by_cases hi:i=0
  .refine U (if_pos hi) ?_;exact bW _ (.inl rfl) (Dt hi)
  .refine U (if_neg hi) ?_;by_cases p:i %2=0
   .exact U (if_pos p) (aL (b ((i-1)/2)) λx h hx=>bW x hx (uH hi (U (if_pos p) (⟨rfl,h⟩))))
   .exact U (if_neg p) (aL (a ((i-1)/2)) λx h hx=>bW x hx (uH hi (U (if_neg p) (⟨rfl,h⟩))))
theorem HT.get_eq (t:HT) i:t.get i=if i/16384=t.xF then TR.get t.cur (i %16384) else TR.get (t.old (i/16384)) (i %16384):=by
 refine(?_:(ah (TR.get (t.old (i/16384)) (i %16384)) (TR.get t.cur (i %16384)) (ak (i/16384) t.xF):Option ae6)=_)
 induction e:ak (i/16384) t.xF using zB with
 |true=>exact U (if_pos (aH e)) rfl
 |false=>exact U (if_neg (fU e)) rfl
theorem Ka f j t i:upd f j t i=if i=j then t else f i:=by
 refine(?_:(ah (f i) t (ak i j):TR)=_)
 induction e:ak i j using zB with
 |true=>exact U (if_pos (aH e)) rfl
 |false=>exact U (if_neg (fU e)) rfl
theorem HT.S0 o t i:HT.ins o t i=if i/16384=t.xF then⟨t.old,TR.ins o t.cur (i %16384),t.xF⟩ else⟨upd t.old (i/16384) (TR.ins o (t.old (i/16384)) (i %16384)),t.cur,t.xF⟩:=by
 refine(?_:(ah ⟨upd t.old (i/16384) (TR.ins o (t.old (i/16384)) (i %16384)),t.cur,t.xF⟩ ⟨t.old,TR.ins o t.cur (i %16384),t.xF⟩ (ak (i/16384) t.xF):HT)=_)
 induction e:ak (i/16384) t.xF using zB with
 |true=>exact U (if_pos (aH e)) rfl
 |false=>exact U (if_neg (fU e)) rfl
theorem yO (h:j/16384=i/16384):(j %16384=i %16384)↔(j=i):=⟨λq=>(rQ j 16384).symm.trans ((congr (congrArg (λa b=>16384*a+b) h) q).trans (rQ i 16384)),λq=>U q rfl⟩
theorem HT.uI o t i:∃x:Option ae6,(x=O o\/x=au)/\∀j,(HT.ins o t i).get j=if j=i then x else t.get j:=by
 refine U (HT.S0 ..) ?_;by_cases hi:i/16384=t.xF
 .refine U (if_pos hi) (aL (TR.uI o t.cur (i %16384)) λx h hx=>bW x hx (λj=>(U (HT.get_eq ..) (U (HT.get_eq ..) ?_))));by_cases a:j/16384=t.xF
  .exact U (if_pos a) (U (if_pos a) (U (h ..) (U (NX (yO (a.trans hi.symm))) rfl)))
  .rw [if_neg a,if_neg a,if_neg λq=>a (by exact U q (U hi rfl))]
 .refine U (if_neg hi) (aL (TR.uI o (t.old (i/16384)) (i %16384)) λx h hx=>bW x hx (λj=>(U (HT.get_eq ..) (U (HT.get_eq ..) ?_))));by_cases a:j/16384=t.xF
  .rw [if_pos a,if_pos a,if_neg λq=>hi (by exact cL q (U a rfl))]
  .refine U (if_neg a) (U (if_neg a) ((?_:TR.get (upd _ _ _ _) _=_)));refine U (Ka ..) ?_;by_cases b:j/16384=i/16384
   .exact U (if_pos b) (U (h ..) (U (NX (yO b)) (U b rfl)))
   .rw [if_neg b,if_neg λq=>b (by exact U q rfl)]
theorem HT.get_ins t {i j} (e:(HT.ins o t i).get j=O o'):(j=i/\o'=o)\/(j≠i/\t.get j=O o'):=by
 refine aL (HT.uI o t i) λx h hx=> ?_;rw [h] at e;by_cases q:j=i
 .rw [if_pos q] at e;exact .inl ⟨q,hx.elim (λhx=>aF (e.symm.trans hx)) λhx=>fn (hx.symm.trans e)⟩
 .rw [if_neg q] at e;exact .inr ⟨q,e⟩
theorem HT.vZ t (a:j≠i) (e:t.get j=O o'):(HT.ins o t i).get j=O o':=by
 refine aL (HT.uI o t i) λx h hx=>U (h ..) (U (if_neg a) ?_);exact e
theorem HT.Kc {t:HT} (e:(t.jump d).get i=O o):t.get i=O o:=by
 rw [HT.get_eq] at e⊢;have e:(if i/16384=t.xF+1 then TR.get .nil (i %16384) else TR.get (upd t.old t.xF (ah t.cur .nil d) (i/16384)) (i %16384))=O o:=e;by_cases h1:i/16384=t.xF+1
 .rw [if_pos h1] at e;exact fn e
 .rw [if_neg h1,Ka] at e;by_cases h:i/16384=t.xF
  .rw [if_pos h] at e⊢
   induction d using zB with
   |false=>exact e
   |true=>exact fn e
  .rw [if_neg h] at e⊢;exact e
theorem lH (h:qQ (c::r)=H):c<128/\2<c/\qQ r=true:=by
 have h:(ah aj (ah aj (qQ r) (bI 2 c)) (bI c 128):Bool)=true:=h
 induction h1:bI c 128 using zB with
 |false=>rw [h1] at h;exact ff h
 |true=>
  rw [h1] at h
  induction h2:bI 2 c using zB with
  |false=>rw [h2] at h;exact ff h
  |true=>rw [h2] at h;exact iX (cH.mp h1) (cH.mp h2) h
theorem digit_eq (a:c<128) (b:d<128) (e:c+128*m=d+128*n):m=n/\c=d:=
 have h:=(yo a).symm.trans (((Nat.add_mul_mod_self_left c 128 m).symm.trans (congrArg (· %128) e)).trans ((Nat.add_mul_mod_self_left d 128 n).trans (yo b)))
 ⟨Nat.eq_of_mul_eq_mul_left (by decide) (Nat.add_left_cancel (h▸e:d+128*m=d+128*n)),h⟩
theorem Dv (a:2<c) (e:c+128*m=0):False:=by lia
theorem NZ:∀a b,qQ a=H->qQ b=H->JE a=JE b->a=b:=by
 intro a
 induction a with
 |nil=>
  intro b _ hb e;rcases b with _|⟨c,r⟩
  .rfl
  .exact(Dv (lH hb).2.1 (m:=JE r) e.symm).elim
 |cons c r g=>
  intro b f hb e;rcases b with _|⟨d,q⟩
  .exact(Dv (lH f).2.1 (m:=JE r) e).elim
  exact gb (digit_eq (m:=JE r) (n:=JE q) (lH f).1 (lH hb).1 e) λh1 h2=>U h2 (U (g q (lH f).2.2 (lH hb).2.2 h1) rfl)
theorem gS (hx:aZ x=H) (hy:aZ y=H) (e:nm x=nm y):x=y:=by
 obtain⟨x⟩:=x;obtain⟨y⟩:=y;exact congrArg Str.mk (Array.toList_inj.mp (NZ _ _ hx hy e))
set_option backward.match.sparseCases false
structure dz where
 prog:Program
 w:World
 h₀:Heap
 tabs:List Addr
 lam:Nat->mC->Prop
 fld:Addr->Str->Prop
 qt:Addr->Nat->Nat->Option Str
 jO:List (Str×aN)->Option (Addr×Str)
structure Wd where
 ρ:Nat->Addr
 role:Addr->Option Nat
 ug:Nat->Nat
noncomputable def oK (n:Nat):Value:=match n with
 |0=> .builtin "len"|1=> .type "range"|2=> .type "bytes"|3=> .type "bytearray"|4=> .type "tuple"|5=> .type "list"|6=> .type "dict"|7=> .type "set"|8=> .builtin "sorted"
 |9=> .type "zip"|10=> .type "enumerate"|11=> .builtin "sum"|12=> .builtin "max"|13=> .builtin "min"|14=> .builtin "abs"|15=> .type "int"|16=> .builtin "chr"|17=> .builtin "ord"
 |_=> .none
noncomputable abbrev gh (items:Array Value) (ep:Nat):Obj:={cls:= .type "tuple",data:= .seq items ep}
noncomputable abbrev gp (items:Array Value) (ep:Nat):Obj:={cls:= .type "list",data:= .seq items ep}
noncomputable abbrev cJ (es:Array aV) (ep:Nat):Obj:={cls:= .type "dict",data:= .dict es ep}
noncomputable abbrev gW (b:Array UInt8):Obj:={cls:= .type "bytearray",data:= .bytearray b 0}
noncomputable abbrev qW (c dx:Addr):Obj:={cls:= .ref c,dict:=O dx,data:= .plain}
noncomputable def strAt:Option Value->Bool
 |some (.str ..)=>H
 |_=>aj
def d9 (o:Obj):Bool:=match o.data with
 | .seq .. =>H
 | .func _=>H
 | .fields vs=>strAt vs[1]?
 |_=>aj
theorem v7 (a:o.data= .fields vs) (h:vs[1]? =O (.str q t)):d9 o=true:=by
 unfold d9;refine U a ?_;dsimp only;refine U h ?_;rfl
section
variable (X:dz) (g:Heap) (w:Wd) (n:Nat)
mutual
inductive VR:V->Value->Prop where
 |none:VR di .none
 |bool (b:Bool):VR (vBool b) (.bool b)
 |nat (k:Nat) (t:Tok):VR (aX k) (.int (bf k) t)
 |neg (k:Nat) (t:Tok):VR (qO (k+1)) (.int (Int.negSucc k) t)
 |str (l:List Nat) (t:Tok) (hn:l.length<=1000000):VR (vStr l) (.str ⟨l.toArray⟩ t)
 |bytes (b:Array UInt8) (t:Tok) (hn:b.size<=1000000):VR (fk (b.toList.map bU)) (.bytes b t)
 |tup (xs:List V) (a:Addr) (items:Array Value) (ep:Nat) (hr:w.role a=oR) (ht:a∉X.tabs) (hg:g.get? a=O (gh items ep)) (hn:items.size<=1000000) (hs:ef xs items.toList):VR (dK xs) (.ref a)
 |ref (i:Nat) (hi:i<n):VR (bP i) (.ref (w.ρ i))
 |fn (a:Addr):VR (bM a) (.ref a)
 |cls (a:Addr):VR (jh a) (.ref a)
 |bi (k:Nat):VR (BO k) (oK k)
 |lam (k:Nat) (a:Addr) (o:Obj) (fd:mC) (c:Addr) (hr:w.role a=oR) (ht:a∉X.tabs) (hg:g.get? a=O o) (hd:o.data= .func fd) (hc:fd.code= .ref c) (hrc:w.role c=oR) (htc:c∉X.tabs) (hrec:g.CodeRec (.ref c) fd.qualname) (hl:X.lam k fd):VR (NL k) (.ref a)
inductive ef:List V->List Value->Prop where
 |nil:ef [] []
 |cons (v:V) (x:Value) (vs:List V) (xs:List Value) (hv:VR v x) (hs:ef vs xs):ef (v::vs) (x::xs)
end
end
structure oZ (X:dz) (g:Heap) (w:Wd) (n:Nat) (g':Heap) (w':Wd) (n':Nat):Prop where
 ou:n<=n'
 ρ:∀i,i<n->w'.ρ i=w.ρ i
 ug:∀i,i<n->w'.ug i=w.ug i
 fix:∀a o,w.role a=au->a∉X.tabs->d9 o=H->g.get? a=O o->w'.role a=au/\g'.get? a=O o
section
variable {X:dz} {g g':Heap} {w w':Wd} {n n':Nat}
theorem VR.mono (k:oZ X g w n g' w' n') (h:VR X g w n v x):VR X g' w' n' v x:=
 VR.rec (motive_1:=λv x m=>VR X g' w' n' v x) (motive_2:=λvs xs m=>ef X g' w' n' vs xs)
  .none (λb=> .bool b) (λk t=> .nat k t) (λk t=> .neg k t) (λl t hn=> .str l t hn) (λb t hn=> .bytes b t hn)
  (λxs a items ep r ht u hn m y=>let⟨p,q⟩:=k.fix a _ r ht rfl u; .tup xs a items ep p ht q hn y)
  (λi hi=>k.ρ i hi▸VR.ref i (aQ hi k.ou)) (λa=> .fn a) (λa=> .cls a) (λk=> .bi k)
  (λj a o fd c r ht u B E z d f hl=>by
   refine aC (k.fix a o r ht (by unfold d9;exact U B rfl) u) λq p=>pG f λc' C vs t D e h1 h2=> ?_;cases e;exact aC (k.fix c C z d (v7 h2 D) h1) λG I=> .lam j a o fd c p ht q B E I d (uu c C vs t rfl G h2 D) hl)
  .nil (λv x vs xs m m y A=> .cons v x vs xs y A) h
theorem ef.mono (k:oZ X g w n g' w' n') (h:ef X g w n vs xs):ef X g' w' n' vs xs:=by
 induction vs generalizing xs with
 |nil=>cases h;exact .nil
 |cons v vs a=>cases h with|cons _ x _ xs hv b=>exact .cons _ _ _ _ (hv.mono k) (a b)
theorem ef.length (h:ef X g w n vs xs):vs.length=xs.length:=by
 induction vs generalizing xs with
 |nil=>cases h;rfl
 |cons v vs c=>cases h with|cons _ x _ xs hv d=>exact(λ{a b}=>Iff.mpr Nat.succ_inj) (c d)
theorem ef.append (h:ef X g w n vs xs) (h':ef X g w n us ys):ef X g w n (vs++us) (xs++ys):=by
 induction vs generalizing xs with
 |nil=>cases h;exact h'
 |cons v vs a=>cases h with|cons _ x _ xs hv b=>exact .cons _ _ _ _ hv (a b)
theorem ef.get (h:ef X g w n vs xs) {i:Nat} (e:vs[i]? =O v):∃x,xs[i]? =O x/\VR X g w n v x:=by
 induction vs generalizing xs i with
 |nil=>exact fn e
 |cons u vs a=>
  cases h with
  |cons _ x _ xs hv b=>
   induction i using zN with
   |zero=>injection e with e;subst e;exact bW x rfl hv
   |succ i=>exact a b e
theorem ef.get_none (h:ef X g w n vs xs) {i:Nat} (e:vs[i]? =au):xs[i]? =none:=by
 rw [jI] at e⊢;refine cL h.length ?_;exact e
theorem ef.set (h:ef X g w n vs xs) i (hv:VR X g w n v x):ef X g w n (vs.set i v) (xs.set i x):=by
 induction vs generalizing xs i with
 |nil=>cases h;exact .nil
 |cons u vs b=>
  cases h with
  |cons _ y _ ys hu a=>
   induction i using zN with
   |zero=>exact .cons _ _ _ _ hv a
   |succ i=>exact .cons _ _ _ _ hu (b a i)
theorem ef.take (h:ef X g w n vs xs) i:ef X g w n (vs.take i) (xs.take i):=by
 induction vs generalizing xs i with
 |nil=>cases h;simpa using ef.nil
 |cons u vs a=>
  cases h with
  |cons _ y _ ys hu b=>
   induction i using zN with
   |zero=>exact .nil
   |succ i=>exact .cons _ _ _ _ hu (a b i)
theorem ef.drop (h:ef X g w n vs xs) i:ef X g w n (vs.drop i) (xs.drop i):=by
 induction vs generalizing xs i with
 |nil=>cases h;simpa using ef.nil
 |cons u vs b=>
  cases h with
  |cons _ y _ ys hu a=>
   induction i using zN with
   |zero=>exact .cons _ _ _ _ hu a
   |succ i=>exact b a i
end
inductive iV {α β:Type} (R:α->β->Prop):List α->List β->Prop where
 |nil:iV R [] []
 |cons {a:α} {b:β} {l:List α} {m:List β} (h:R a b) (t:iV R l m):iV R (a::l) (b::m)
theorem iV.mono {R c:α->β->Prop} (k:∀a b,R a b->c a b) (h:iV R l m):iV c l m:=by
 induction h with
 |nil=>exact .nil
 |cons h _ d=>exact .cons (k _ _ h) d
theorem iV.length (h:iV R l m):l.length=m.length:=by
 induction h with
 |nil=>rfl
 |cons _ _ c=>exact(λ{a b}=>Iff.mpr Nat.succ_inj) c
theorem iV.append {l l'} {m m'} (h:iV R l m) (h':iV R l' m'):iV R (l++l') (m++m'):=by
 induction h with
 |nil=>exact h'
 |cons x _ a=>exact .cons x a
theorem iV.get {l:List α} {m:List β} (h:iV R l m) {i:Nat} (e:l[i]? =O a):∃b,m[i]? =O b/\R a b:=by
 induction h generalizing i with
 |nil=>exact fn e
 |cons x _ c=>
  induction i using zN with
  |zero=>injection e with e;subst e;exact bW _ rfl x
  |succ i=>exact c e
theorem iV.S1 {l:List α} {m:List β} (h:iV R l m) (hb:b∈m):∃a∈l,R a b:=by
 induction h with
 |nil=>cases hb
 |cons x _ c=>
  rcases aT.mp hb with rfl|hb
  .exact bW _ aE x
  .refine dN (c hb) λa d r=> ?_;exact bW a (aD _ d) r
structure v8 (X:dz) (g:Heap) (w:Wd) (n:Nat) (p:Nat×V) (e:aV):Prop where
 key:∃x t,e.key= .str x t/\aZ x=H/\nm x=p.1
 val:VR X g w n p.2 e.val
abbrev lX (X:dz) (g:Heap) (w:Wd) (n:Nat) (fs:List (Nat×V)) (es:List aV):Prop:=iV (v8 X g w n) fs es
def hashOf (X:dz) (v:V):Int:=if v.t=2 then hashInt (dS v) else if v.t=5 then tupleKeyHash (intKind X.prog X.w) (v.xs.map dS) else if v.t=4 then W.hashW X.w.params (.bytes (v.l.map sj)) else hashStr X.w ⟨v.l.toArray⟩
structure qX (X:dz) (g:Heap) (w:Wd) (n:Nat) (p:V×V) (e:aV):Prop where
 key:VR X g w n p.1 e.key
 val:VR X g w n p.2 e.val
 hash:e.hash=hashOf X p.1
structure gU (X:dz) (g:Heap) (w:Wd) (n:Nat) (kvs:List (V×V)) (es:List aV):Prop where
 all:iV (qX X g w n) kvs es
 kind:∃t,∀p∈kvs,p.1.t=t/\isKey p.1=H
 nodup:(kvs.map eE).Nodup
inductive Rep (X:dz) (g:Heap) (w:Wd) (n i:Nat):ae6->Prop where
 |list (xs:List V) (items:Array Value) (ep:Nat) (hr:w.role (w.ρ i)=O i) (hg:g.get? (w.ρ i)=O (gp items ep)) (hn:items.size<=1000000) (hs:ef X g w n xs items.toList):Rep X g w n i (bL xs)
 |dict (kvs:List (V×V)) (es:Array aV) (ep:Nat) (hr:w.role (w.ρ i)=O i) (hg:g.get? (w.ρ i)=O (cJ es ep)) (hn:es.size<=1000000) (hd:gU X g w n kvs es.toList) (c:Nat) (hv:ep=w.ug i+c):Rep X g w n i (dZ kvs c)
 |E5 (b:Array UInt8) (hr:w.role (w.ρ i)=O i) (hg:g.get? (w.ρ i)=O (gW b)) (hn:b.size<=1000000):Rep X g w n i (yE (b.toList.map bU))
 |inst (c:Addr) (fs:List (Nat×V)) (dx:Addr) (es:Array aV) (ep:Nat) (hr:w.role (w.ρ i)=O i) (hrd:w.role dx=O i) (hne:dx≠w.ρ i) (hg:g.get? (w.ρ i)=O (qW c dx))
  (hgd:g.get? dx=O (cJ es ep)) (hf:lX X g w n fs es.toList) (hz:es.size<=1000000) (hfl:∀x,aZ x=H->find (nm x) fs≠au->X.fld c x):Rep X g w n i (uB c fs)
 |zip (j1 k1 j2 k2:Nat) (TI TO i1 i2:Addr) (a b:Value) (hr:w.role (w.ρ i)=O i) (r1:w.role TI=O i) (r2:w.role TO=O i) (r3:w.role i1=O i) (r4:w.role i2=O i) (D:TI≠TO/\TI≠w.ρ i/\TO≠w.ρ i/\i1≠i2) (hj:j1<n/\j2<n/\j1≠i/\j2≠i)
  (hz:IsZip g (w.ρ i) TI TO .none) (h1:IsPair g TI (.ref i1) (.ref i2)) (h2:IsPair g TO a b) (h3:g.IsListIter i1 (w.ρ j1) k1) (h4:g.IsListIter i2 (w.ρ j2) k2):Rep X g w n i (EO j1 k1 j2 k2)
 |HL (xs:List V) (j2 k2:Nat) (TI TO i1 i2 t:Addr) (items:Array Value) (ep m:Nat) (a b v f:Value) (hr:w.role (w.ρ i)=O i) (r1:w.role TI=O i) (r2:w.role TO=O i) (r3:w.role i1=O i) (r4:w.role i2=O i) (D:TI≠TO/\TI≠w.ρ i/\TO≠w.ρ i/\i1≠i2) (hj:j2<n/\j2≠i)
  (hz:g.get? (w.ρ i)=O {cls:= .type "zip",data:= .fields #[v,f,.bool aj,.ref TI,.ref TO]}) (h1:IsPair g TI (.ref i1) (.ref i2)) (h2:IsPair g TO a b) (ht:w.role t=au/\t∉X.tabs) (hg:g.get? t=O (gh items ep)) (h3:g.IsTupleIter i1 t m) (hs:ef X g w n xs (items.toList.drop m)) (h4:g.IsListIter i2 (w.ρ j2) k2)
  (hv:(v= .none/\f= .bool aj)\/∃(T:Addr) (fb:Bool) (its:Array Value) (Vr:Nat),v=rawInt (T:Int)/\f= .bool fb/\w.role T=au/\T∉X.tabs/\g.get? T=O (gh its Vr)):Rep X g w n i (uC xs j2 k2)
 |junk (hr:w.role (w.ρ i)=O i):Rep X g w n i qP
 |fix (xs:List V) (items:Array Value) (ep:Nat) (hr:w.role (w.ρ i)=au) (ht:w.ρ i∉X.tabs) (hg:g.get? (w.ρ i)=O (gp items ep)) (hn:items.size<=1000000) (hs:ef X g w n xs items.toList):Rep X g w n i (yD xs)
structure bw (X:dz):Prop
section
variable {X:dz} {g g':Heap} {w w':Wd} {n n':Nat}
theorem v8.mono (k:oZ X g w n g' w' n') (h:v8 X g w n p e):v8 X g' w' n' p e:=⟨h.key,h.val.mono k⟩
theorem qX.mono (k:oZ X g w n g' w' n') (h:qX X g w n p e):qX X g' w' n' p e:=⟨h.key.mono k,h.val.mono k,h.hash⟩
theorem gU.mono (k:oZ X g w n g' w' n') (h:gU X g w n kvs es):gU X g' w' n' kvs es:=⟨h.all.mono λa a=>qX.mono k,h.kind,h.nodup⟩
theorem Rep.keep (ax:bw X) (k:oZ X g w n g' w' n') (hi:i<n) (own:∀a,w.role a=O i->w'.role a=O i) (d:∀a o,w.role a=O i->g.get? a=O o->g'.get? a=O o) (h:Rep X g w n i o):Rep X g' w' n' i o:=by
 have e:=k.ρ i hi
 induction h using Mine.Rep.casesOn with
 |list xs items ep j l hn x=>exact .list xs items ep (e▸own _ j) (e▸d _ _ j l) hn (x.mono k)
 |dict G I ep j l hn hd c hv=>exact .dict G I ep (e▸own _ j) (e▸d _ _ j l) hn (hd.mono k) c (U (k.ug i hi) hv)
 |E5 b' j l hn=>exact .E5 b' (e▸own _ j) (e▸d _ _ j l) hn
 |inst c fs dx I ep j y J l K hf hz L=>exact .inst c fs dx I ep (e▸own _ j) (own _ y) (e▸J) (e▸d _ _ j l) (d _ _ y K) (hf.mono λu_ u_=>v8.mono k) hz L
 |zip j1 k1 z M P Q R S a b j A B C E D p hz h1 h2 r u=>
  refine aL r λV r e3=>aL u λo4 u e4=> ?_;exact .zip j1 k1 z M P Q R S a b (e▸own _ j) (own _ A) (own _ B) (own _ C) (own _ E) (e▸D) (iX (aQ p.1 k.ou) (aQ p.2.1 k.ou) p.2.2) (e▸d _ _ j hz) (d _ _ A h1) (d _ _ B h2)
   (bW V (d _ _ C e3) ((k.ρ j1 p.1).symm▸r)) (bW o4 (d _ _ E e4) ((k.ρ z p.2.1).symm▸u))
 |HL xs z M P Q R S t items ep m a b v f j A B C E D p hz h1 h2 ht l r x u hv=>
  refine aL r λV r e3=>aL u λo4 u e4=>aC (k.fix t _ ht.1 ht.2 rfl l) λp2 p1=> ?_;refine .HL xs z M P Q R S t items ep m a b v f (e▸own _ j) (own _ A) (own _ B) (own _ C) (own _ E) (e▸D) ⟨aQ p.1 k.ou,p.2⟩ (e▸d _ _ j hz) (d _ _ A h1) (d _ _ B h2) ⟨p1,ht.2⟩ p2
   (bW V (d _ _ C e3) r) (x.mono k) (bW o4 (d _ _ E e4) ((k.ρ z p.1).symm▸u)) (hv.imp (λq=>q) λqq=> ?_)
  obtain⟨T,fb,its,Vr,q1,q2,q3,q4,q5⟩:=qq;exact aC (k.fix T _ q3 q4 rfl q5) λu2 u1=>⟨T,fb,its,Vr,q1,q2,u1,q4,u2⟩
 |junk j=>exact .junk (e▸own _ j)
 |fix xs items ep j ht l hn x=>
  exact aC (k.fix _ _ j ht rfl l) λp2 p1=> .fix xs items ep (e▸p1) (e▸ht) (e▸p2) hn (x.mono k)
theorem Rep.role (h:Rep X g w n i o) (a:o.t≠8):w.role (w.ρ i)=O i:=by induction h using Mine.Rep.casesOn<;>first|assumption|exact absurd rfl a
end
structure Gs (X:dz) (g:Heap) (w:Wd) (P:Addr):Prop where
 low:P<X.h₀.objs.size
 tab:∃ps,g.get? P=O ⟨.none,au,.fields ps,#[]⟩/\nu ps.toList/\∀pos q cv,X.qt P pos.line pos.col=O q->codeAmong pos ps.toList=O cv->∃c,cv= .ref c/\w.role c=au/\c∉X.tabs/\g.CodeRec (.ref c) q
theorem Gs.keep (h:Gs X g w P) (k:oZ X g w n g' w' n') (l:∀o,P<X.h₀.objs.size->g.get? P=O o->g'.get? P=O o):Gs X g' w' P:=by
 obtain⟨a,m,h1,h2,p⟩:=h;refine⟨a,m,l _ a h1,h2,λpos q r u v=> ?_⟩;refine SI (p pos q r u v) λc d=> ?_;subst d;intro x ht b;refine pG b λc' f vs t i e y j=> ?_;cases e;exact aC (k.fix c f x ht (v7 j i) y) λz A=>⟨c,rfl,A,ht,c,f,vs,t,rfl,z,j,i⟩
structure St (X:dz) (w:Wd) (h:ae7) (s:Shared):Prop where
 rep:∀i o,h.l.get i=O o->i<h.n/\Rep X s.heap w h.n i o
 lim:∀a i,w.role a=O i->i<h.n/\X.h₀.objs.size<=a/\a<s.heap.objs.size
 base:∀a o,X.h₀.get? a=O o->a∉X.tabs->s.heap.get? a=O o
 size:X.h₀.objs.size<=s.heap.objs.size
 tab:∀P∈X.tabs,Gs X s.heap w P
structure Ext (X:dz) (F:Addr->Prop) (w:Wd) (n:Nat) (s:Shared) (w':Wd) (n':Nat) (s':Shared):Prop where
 size:s.heap.objs.size<=s'.heap.objs.size
 ou:n<=n'
 ρ:∀i,i<n->w'.ρ i=w.ρ i
 ug:∀i,i<n->w'.ug i=w.ug i
 role:∀a,a<s.heap.objs.size->w'.role a=w.role a
 old:∀a o,w.role a=au->a∉X.tabs->¬F a->s.heap.get? a=O o->s'.heap.get? a=O o
 gens:s'.gens=s.gens
 os:s'.os=s.os
abbrev cV:Addr->Prop:=λu_=>False
section
variable {X:dz} {F:Addr->Prop} {w w' w'':Wd} {n n' n'':Nat} {s s' s'':Shared}
theorem Ext.refl:Ext X F w n s w n s:=⟨bu _,bu _,λa a=>rfl,λa a=>rfl,λa a=>rfl,λa a a a a e=>e,rfl,rfl⟩
theorem Ext.trans (x:Ext X F w n s w' n' s') (y:Ext X F w' n' s' w'' n'' s''):Ext X F w n s w'' n'' s'':=
 ⟨aI x.size y.size,aI x.ou y.ou,λi hi=>(y.ρ i (aQ hi x.ou)).trans (x.ρ i hi),λi hi=>(y.ug i (aQ hi x.ou)).trans (x.ug i hi),
  λa b=>(y.role a (aQ b x.size)).trans (x.role a b),
  λa o h1 h2 c e=>y.old a o ((x.role a (bk e)).trans h1) h2 c (x.old a o h1 h2 c e),y.gens.trans x.gens,y.os.trans x.os⟩
theorem Ext.weaken (x:Ext X F w n s w' n' s') (k:∀a,F a->F' a):Ext X F' w n s w' n' s':=
 ⟨x.size,x.ou,x.ρ,x.ug,x.role,λa o h1 h2 b e=>x.old a o h1 h2 (λh=>b (k a h)) e,x.gens,x.os⟩
theorem Ext.keep (x:Ext X F w n s w' n' s') (k:∀a o,F a->s.heap.get? a=O o->d9 o=aj):oZ X s.heap w n s'.heap w' n':=
 ⟨x.ou,x.ρ,x.ug,λa o h1 h2 b e=>⟨(x.role a (bk e)).trans h1,x.old a o h1 h2 (λc=>by rw [k a o c e] at b;exact ff b) e⟩⟩
theorem Ext.dW (x:Ext X cV w n s w' n' s'):oZ X s.heap w n s'.heap w' n':=x.keep λa a h=>h.elim
end
section
variable {X:dz} {F:Addr->Prop} {w:Wd} {h:ae7} {s:Shared}
theorem St.grow (l:bw X) (f:St X w h s) {s'} (b:s.heap.objs.size<=s'.heap.objs.size) (hF:∀a o,F a->s.heap.get? a=O o->d9 o=aj) (d:∀a,F a->w.role a=au/\X.h₀.objs.size<=a)
 (old:∀a o,¬F a->s.heap.get? a=O o->s'.heap.get? a=O o) (j:s'.gens=s.gens) (os:s'.os=s.os):St X w h s'/\Ext X F w h.n s w h.n s':=by
 have x:Ext X F w h.n s w h.n s':=⟨b,bu _,λc c=>rfl,λc c=>rfl,λc c=>rfl,λa o c c m e=>old a o m e,j,os⟩;refine⟨⟨λi o e=> ?_,λa i e=> ?_,λa o e ht=> ?_,aI f.size b,λP p=>(f.tab P p).keep (x.keep hF) λo hl e=>old P o (λk=>absurd hl (bD.mpr (d P k).2)) e⟩,x⟩
 .refine aC (f.rep i o e) λr hi=>⟨hi, ?_⟩;have q:∀a,w.role a=O i->¬F a:=λa h1 h2=>by rw [(d a h2).1] at h1;exact fn h1
  exact r.keep l (x.keep hF) hi (λc h=>h) λa o h1 e=>old a o (q a h1) e
 .refine eZ (f.lim a i e) λt u a3=> ?_;exact iX u t (aQ a3 b)
 .exact old a o (λk=>absurd (bk e) (bD.mpr (d a k).2)) (f.base a o e ht)
end
section
variable {X:dz} {w:Wd} {h:ae7} {s:Shared}
theorem St.put (u:bw X) (d:St X w h s) (hi:h.l.get i=O o) (c:s'.heap.objs.size=s.heap.objs.size) (old:∀a m,w.role a≠O i->s.heap.get? a=O m->s'.heap.get? a=O m)
 (p:s'.gens=s.gens) (os:s'.os=s.os) (r:oZ X s.heap w h.n s'.heap w h.n->Rep X s'.heap w h.n i o'):
 St X w ⟨HT.ins o' h.l i,h.n⟩ s'/\Ext X cV w h.n s w h.n s':=by
 have x:Ext X cV w h.n s w h.n s':=⟨cX c.symm,bu _,λf f=>rfl,λf f=>rfl,λf f=>rfl,λa o h1 f f e=>old a o (U h1 (λh=>fn h)) e,p,os⟩;have k:=x.dW;refine⟨⟨λj v e=> ?_,λa j e=> ?_,λa m e ht=> ?_,aI d.size (cX c.symm),λP y=>(d.tab P y).keep k λo hl e=>old P o (λz=>absurd hl (bD.mpr (d.lim P i z).2.1)) e⟩,x⟩
 .rcases HT.get_ins _ e with⟨rfl,rfl⟩|⟨q,e⟩
  .exact⟨(d.rep _ _ hi).1,r k⟩
  .exact aC (d.rep j v e) λA t=>⟨t,A.keep u k t (λf h=>h) λa m h1 e=>old a m (U h1 (λh=>q (aF h))) e⟩
 .refine eZ (d.lim a j e) λB C a3=> ?_;exact iX C B (c▸a3)
 .refine old a m (λh1=> ?_) (d.base a m e ht);exact absurd (bk e) (bD.mpr (d.lim a i h1).2.1)
theorem St.new (B:bw X) (f:St X w h s) {o:ae6} {b:Addr} {own:Addr->Bool} (hb:own b=H) {s':Shared} (c:s.heap.objs.size<=s'.heap.objs.size) (d:∀a,own a=H->s.heap.objs.size<=a/\a<s'.heap.objs.size)
 (old:∀a m,s.heap.get? a=O m->s'.heap.get? a=O m) (q:s'.gens=s.gens) (os:s'.os=s.os) (v:Nat) (w':Wd) (C:w'=⟨λi=>if i=h.n then b else w.ρ i,λa=>if own a=H then O h.n else w.role a,λi=>if i=h.n then v else w.ug i⟩)
 (r:oZ X s.heap w h.n s'.heap w' (h.n+1)->w'.role b=O h.n->w'.ρ h.n=b->w'.ug h.n=v->Rep X s'.heap w' (h.n+1) h.n o):
 St X w' ⟨HT.ins o h.l h.n,h.n+1⟩ s'/\Ext X cV w h.n s w' (h.n+1) s':=by
 subst C;have t:∀a,a<s.heap.objs.size->own a≠true:=λa z h1=>absurd z (bD.mpr (d a h1).1);have x:Ext X cV w h.n s ⟨λi=>if i=h.n then b else w.ρ i,λa=>if own a=H then O h.n else w.role a,λi=>if i=h.n then v else w.ug i⟩ (h.n+1) s':=
  ⟨c,gV _,λi hi=>if_neg (cj hi),λi hi=>if_neg (cj hi),λa z=>if_neg (t a z),λa o u u u e=>old a o e,q,os⟩
 have k:=x.dW;refine⟨⟨λj D e=> ?_,λa j e=> ?_,λa m e ht=>old a m (f.base a m e ht),aI f.size c,λP E=>(f.tab P E).keep k λo u e=>old P o e⟩,x⟩
 .rcases HT.get_ins _ e with⟨rfl,rfl⟩|⟨G,e⟩
  .exact⟨bN _,r k (if_pos hb) (if_pos rfl) (if_pos rfl)⟩
  .refine aC (f.rep j D e) λI A=>⟨cK A,I.keep B k A (λa h1=> ?_) λa m u e=>old a m e⟩;refine(?_:(if own a=H then O h.n else w.role a)=O j);refine U (if_neg (t a (f.lim a j h1).2.2)) ?_;exact h1
 .have p:(if own a=H then O h.n else w.role a)=O j:=e;by_cases y:own a=H
  .rw [if_pos y] at p;injection p with p;subst p
   exact iX (bN _) (aI f.size (d a y).1) ((d a y).2)
  .rw [if_neg y] at p;exact eZ (f.lim a j p) λJ K a3=>iX (cK K) J (aQ a3 c)
end
set_option backward.match.sparseCases true
def VRk (X:dz) (g:Heap) (w:Wd) (n:Nat) (v:V) (y:Value):Nat->Prop
 |0=>y= .none
 |1=>∃b,y= .bool b/\v.n=ah 0 1 b
 |2=>∃t,y= .int (dS v) t/\((v.s=0/\dS v=bf v.n)\/(v.s=1/\0<v.n/\dS v= -(v.n:Int)))
 |3=>∃t,y= .str ⟨v.l.toArray⟩ t/\v.l.length<=1000000
 |4=>∃b t,y= .bytes b t/\v.l=b.toList.map bU/\b.size<=1000000
 |5=>∃a items ep,y= .ref a/\w.role a=au/\a∉X.tabs/\g.get? a=O (gh items ep)/\items.size<=1000000/\ef X g w n v.xs items.toList
 |6=>y= .ref (w.ρ v.n)/\v.n<n
 |_=>True
def Wf (X:dz) (g:Heap) (w:Wd) (n i:Nat) (o:ae6):Nat->Prop
 |0=>∃dx es ep,w.role (w.ρ i)=O i/\w.role dx=O i/\dx≠w.ρ i/\g.get? (w.ρ i)=O (qW o.c dx)/\g.get? dx=O (cJ es ep)/\lX X g w n o.fs es.toList/\es.size<=1000000/\∀x,aZ x=H->find (nm x) o.fs≠au->X.fld o.c x
 |1=>∃items ep,w.role (w.ρ i)=O i/\g.get? (w.ρ i)=O (gp items ep)/\items.size<=1000000/\ef X g w n o.xs items.toList
 |2=>∃es ep,w.role (w.ρ i)=O i/\g.get? (w.ρ i)=O (cJ es ep)/\es.size<=1000000/\gU X g w n o.kvs es.toList/\ep=w.ug i+o.c
 |3=>∃b,w.role (w.ρ i)=O i/\g.get? (w.ρ i)=O (gW b)/\b.size<=1000000/\o.bs=b.toList.map bU
 |8=>∃items ep,w.role (w.ρ i)=au/\w.ρ i∉X.tabs/\g.get? (w.ρ i)=O (gp items ep)/\items.size<=1000000/\ef X g w n o.xs items.toList
 |_=>True
section
variable {X:dz} {g:Heap} {w:Wd} {n i:Nat} {v:V} {y:Value} {o:ae6}
theorem VR.inv (h:VR X g w n v y):VRk X g w n v y v.t:=by
 induction h using Mine.VR.casesOn with
 |none=>exact rfl
 |bool b=>exact bW b rfl rfl
 |nat k t=>exact bW t rfl (.inl ⟨rfl,rfl⟩)
 |neg k t=>exact bW t rfl (.inr (iX rfl (jJ k) rfl))
 |str l t hn=>exact bW t rfl hn
 |bytes b t hn=>exact jY b t rfl rfl hn
 |tup xs a items ep c ht d hn e=>exact⟨a,items,ep,rfl,c,ht,d,hn,e⟩
 |ref i hi=>exact⟨rfl,hi⟩
 |_=>exact trivial
theorem Rep.inv (h:Rep X g w n i o):Wf X g w n i o o.t:=by
 induction h using Mine.Rep.casesOn with
 |list xs items ep a d hn e=>exact lG items ep a d hn e
 |dict p f ep a d hn q c hv=>exact lT f ep a d hn q hv
 |E5 b a d hn=>exact qL b a d hn rfl
 |inst c u r f ep a j k d l s hz m=>exact⟨r,f,ep,a,j,k,d,l,s,hz,m⟩
 |fix xs items ep a ht d hn e=>exact lT items ep a ht d hn e
 |_=>exact trivial
theorem VR.at_ (h:VR X g w n v y) (e:v.t=t):VRk X g w n v y t:=e▸h.inv
theorem Rep.at_ (h:Rep X g w n i o) (e:o.t=t):Wf X g w n i o t:=e▸h.inv
theorem VR.cS (h:VR X g w n v y) (e:ak v.t 2=H):∃t,y= .int (dS v) t:=let⟨t,q,_⟩:=h.at_ (aH e);⟨t,q⟩
theorem VR.E6 (h:VR X g w n v y) (e:ak v.t 2=H):(v.s=0/\dS v=bf v.n)\/(v.s=1/\0<v.n/\dS v= -(v.n:Int)):=let⟨_,_,q⟩:=h.at_ (aH e);q
theorem VR.qa (h:VR X g w n v y) (e:v.t=3):∃t,y= .str ⟨v.l.toArray⟩ t/\v.l.length<=1000000:=h.at_ e
theorem VR.jL (h:VR X g w n v y) (e:v.t=4):∃b t,y= .bytes b t/\v.l=b.toList.map bU/\b.size<=1000000:=h.at_ e
theorem VR.g9 (h:VR X g w n v y) (e:v.t=5):∃a items ep,y= .ref a/\w.role a=oR/\a∉X.tabs/\g.get? a=O (gh items ep)/\items.size<=1000000/\ef X g w n v.xs items.toList:=h.at_ e
theorem VR.eu (h:VR X g w n v y) (e:v.t=6):y= .ref (w.ρ v.n)/\v.n<n:=h.at_ e
theorem Rep.lY (h:Rep X g w n i o) (e:o.t=1):∃items ep,w.role (w.ρ i)=O i/\g.get? (w.ρ i)=O (gp items ep)/\items.size<=1000000/\ef X g w n o.xs items.toList:=h.at_ e
theorem Rep.kP (h:Rep X g w n i o) (e:o.t=2):∃a ep,w.role (w.ρ i)=O i/\g.get? (w.ρ i)=O (cJ a ep)/\a.size<=1000000/\gU X g w n o.kvs a.toList/\ep=w.ug i+o.c:=h.at_ e
theorem Rep.Gu (h:Rep X g w n i o) (e:o.t=3):∃b,w.role (w.ρ i)=O i/\g.get? (w.ρ i)=O (gW b)/\b.size<=1000000/\o.bs=b.toList.map bU:=h.at_ e
def canon (v:V):V:=ah (ah (ah (ah v (dK v.xs) (ak v.t 5)) (fk v.l) (ak v.t 4)) (vStr v.l) (ak v.t 3)) (mw (dS v)) (ak v.t 2)
theorem VR.canon (h:VR X g w n v y):v=Mine.canon v:=by induction h using Mine.VR.casesOn<;>rfl
theorem VR.Kd (h:VR X g w n v y) (e:v.t=5):v=dK v.xs:=h.canon.trans (by unfold Mine.canon;exact U e rfl)
theorem VR.Ke (h:VR X g w n v y) (e:v.t=2):v=mw (dS v):=h.canon.trans (by unfold Mine.canon;exact U e rfl)
theorem VR.Kg (h:VR X g w n v y) (e:v.t=3):v=vStr v.l:=h.canon.trans (by unfold Mine.canon;exact U e rfl)
theorem VR.Dw (h:VR X g w n v y) (e:v.t=4):v=fk v.l:=h.canon.trans (by unfold Mine.canon;exact U e rfl)
theorem Rep.eqs (h:Rep X g w n i o):(o.t=1->o=bL o.xs)/\(o.t=2->o=dZ o.kvs o.c):=by
 induction h using Mine.Rep.casesOn with
 |list=>exact⟨λa=>rfl,λq=>absurd q (aY rfl:¬(1:Nat)=2)⟩
 |dict=>exact⟨λq=>absurd q (Nat.add_one_add_one_ne_one:¬(2:Nat)=1),λa=>rfl⟩
 |_=>exact⟨λq=>nn q rfl,λq=>nn q rfl⟩
theorem ef.cons_of (h:ef X g w n (v::vs) ys):∃y zs,ys=y::zs/\VR X g w n v y/\ef X g w n vs zs:=by
 cases h with
 |cons _ y _ zs a b=>exact jY y zs rfl a b
theorem ef.nil_of (h:ef X g w n [] ys):ys=[]:=by cases h;rfl
end
set_option backward.match.sparseCases false in
theorem RX {a:Type} {F:Str->Pos->Option a} {e:Expr} {r:a} (h:(match e with| .Name x p=>F x p|_=>au)=O r):∃x p,e= .Name x p/\F x p=O r:=by
 induction e using aR with
 |Name x p=>exact mZ x p rfl h
 |_=>exact fn h
theorem ef.tL (h:ef X g w n [v] ys):∃y,ys=[y]/\VR X g w n v y:=let⟨y,_,e,a,b⟩:=h.cons_of;(bW y (b.nil_of▸e) a)
theorem ef.v9 (h:ef X g w n [u,v] ys):∃y z,ys=[y,z]/\VR X g w n u y/\VR X g w n v z:=let⟨y,_,e,a,b⟩:=h.cons_of;let⟨z,f,c⟩:=b.tL;(jY y z (f▸e) a c)
theorem tL {F:V->Option Res} (e:(match vs with|[v]=>F v|_=>au)=O res):∃v,vs=[v]/\F v=O res:=by
 induction vs using zL with
 |nil=>exact fn e
 |cons v l=>
  induction l using zL with
  |nil=>exact bW v rfl e
  |cons=>exact fn e
theorem v9 {F:V->V->Option Res} (e:(match vs with|[u,v]=>F u v|_=>au)=O res):∃u v,vs=[u,v]/\F u v=O res:=by
 induction vs using zL with
 |nil=>exact fn e
 |cons u l=>
  induction l using zL with
  |nil=>exact fn e
  |cons v l=>
   induction l using zL with
   |nil=>exact mZ u v rfl e
   |cons=>exact fn e
theorem Kh {M} {Q:α->Shared->Prop} (h:∀a,Q a s):wpAny M A (pure a) Q E s:=av (h a)
end
section
open PyProof.Rows PySem.Calls
noncomputable def oM:List String:=["bytearray.__contains__","bytearray.__mod__","bytearray.__rmod__","_struct.pack_into.held","bytearray.find.held"]++Builtin.Bytes.decodersThatHold
def yP (c:Code):Bool:=match c with
 | .builtin id _=> !(oM.contains id)
 |_=>H
def Kl (l:List (Code×Pos)):Prop:=∀x∈l,yP x.1=H
def Clean (Γ:Ctx):Prop:=yP Γ.code=H/\Kl Γ.below
def cG {α:Type} (M:Model) (A:Around) (t:Sem α) (Q:α->Shared->Prop) (E:Value->Shared->Prop) (s:Shared):Prop:=
 ∀Γ p,Γ.In A->Clean Γ->Sem.wp M Γ t (λa u_ s'=>Q a s') (λe u_ s'=>E e s') p s
def codeN (M:Model) (A:Around) (c:Code) (R:Result->Shared->Prop) (s:Shared):Prop:=
 ∀Γ p,Γ.code=c->Γ.Below A->Kl Γ.below->wpCode M Γ R p s
section
variable {α β:Type} {M:Model} {A:Around} {E:Value->Shared->Prop} {s:Shared}
theorem eU {Q:α->Shared->Prop} (h:wpAny M A t Q E s):cG M A t Q E s:=λb p a c=>h b p a
theorem aO {Q:α->Shared->Prop} (h:Q a s):cG M A (pure a) Q E s:=eU (av h)
theorem aW {Q c:α->Shared->Prop} {E'} (h:cG M A t Q E s) (f:∀a s,Q a s->c a s) (g:∀e s,E e s->E' e s):cG M A t c E' s:=
 λd p b i=>pS M d t (λa j s=>f a s) (λe j s=>g e s) p s (h d p b i)
theorem ay {f:α->Sem β} (h:cG M A m (λa s'=>cG M A (f a) Q E s') E s):cG M A (m>>=f) Q E s:=λc p b d=>by
 exact U (Sem.wp_bind' ..) (pS M c m (λa g s' h'=>h' c g b d) (λe e e h'=>h') p s (h c p b d))
theorem jZ {Q:α->Shared->Prop} (h:cG M A m Q (λe s'=>cG M A (k e) (λb c=>E e c) E s') s):cG M A (m.onRaise k) Q E s:=λd p a f=>by
 exact U (Sem.wp_onRaise ..) (pS M d m (λb b b h'=>h') (λe g s' h'=>h' d g a f) p s (h d p a f))
theorem qY {Q:Except Value α->Shared->Prop} (h:cG M A m (λa=>Q (.ok a)) (λe=>Q (.error e)) s):cG M A m.attempt Q E s:=λc p b d=>by
 refine U (Sem.wp_attempt ..) ?_;exact h c p b d
theorem bh {Q:α->Shared->Prop} (h:cG M A m Q E s):cG M A (holding vs m) Q E s:=λb p a c=>by
 refine U (Sem.wp_holding ..) ?_;exact h b p a c
theorem oN {Q} (h:cG M A m Q E s):cG M A (operate vs m) Q E s:=λb p a c=>by
 refine U (Sem.wp_operate ..) ?_;exact h b p a c
theorem bG (h:Q () s):cG M A (standAt pos) Q E s:=eU (xN h)
theorem pJ (h:Q () s):cG M A (rule tag) Q E s:=eU (fj h)
theorem nj {Q:α->Shared->Prop} (e:m=pure a) (h:Q a s):cG M A m Q E s:=U e (aO h)
theorem iR (h:codeN M A c R s) (d:∀r s,R r s->R' r s):codeN M A c R' s:=λe p f a b=>wpCode_mono d (h e p f a b)
theorem Zz:au≠O byPass:=λh=>fn h
theorem Gv (g:codeN M (A.mark h) c (λr s'=>match r with| .ok f=>Q f s'| .error e=>E e s') s) (b:h≠O byPass):cG M A (PySem.run c h) Q E s:=
 λi p d a=>by
  refine U (Sem.wp_run ..) (g _ p rfl (d.enter c h p b) λx hx=> ?_);rcases aT.mp hx with rfl|hx
  .exact a.1
  .exact a.2 x hx
theorem B6 (d:codeN M A c (λr s'=>match r with| .ok (.ret v)=>Q v s'| .ok _=>False| .error e=>E e s') s):cG M A (runValue c) Q E s:=λf p b a=>by
 refine U (Sem.wp_runValue ..) (d _ p rfl (b.enter c au p (by intro x;exact fn x)) λx hx=> ?_);rcases aT.mp hx with rfl|hx
 .exact a.1
 .exact a.2 x hx
theorem nN (a:codeN M A (.call f ⟨pos,kw⟩) (λr s'=>match r with| .ok (.ret v)=>Q v s'| .ok _=>False| .error e=>E e s') s):cG M A (call f pos kw) Q E s:=B6 a
theorem dP {c:Code} {R:Result->Shared->Prop} (d:yP c=H)
 (h:cG M (A.under c) (M.den c) (λa s'=>match a with| .done f=>R (.ok f) s'| .again c'=>c'.quiet=H/\codeN M A c' R s') (λe s'=>R (.error e) s') s):codeN M A c R s:=λg p i b hb=>by
 rw [wpCode_iff_wp,i];refine pS M g _ (λa k s' h'=> ?_) (λj j j h'=>h') p s (h g p (i▸b.in) ⟨i▸d,hb⟩)
 induction a using PySem.Fin.casesOn with
 |done f=>exact h'
 |again c'=>exact⟨h'.1,h'.2 (g.goto c') k rfl (b.goto c') hb⟩
theorem yQ (b:codeN M (A.mark h) c (λr s'=>match r with| .ok f=>Q f s'| .error _=>False) s) (a:h≠O byPass):cG M A (runOwn c env h) Q E s:=by
 refine jZ (Gv (iR b λr s' q=> ?_) a)
 induction r using Except.casesOn with
 |ok f=>exact q
 |error e=>exact q.elim
theorem rW {Q:α->Shared->Prop} (h:cG M A m Q (λa a=>False) s):cG M A (m.onRaise λx=>do wM x env;oS x) Q E s:=
 jZ (aW h (λa a q=>q) λa a f=>f.elim)
theorem iZ [Decidable b] {x y} {Q:α->Shared->Prop} (h1:b->cG M A x Q E s) (h2:¬b->cG M A y Q E s):cG M A (if b then x else y) Q E s:=by
 split
 .exact h1 ‹_›
 .exact h2 ‹_›
theorem ND {Q:β->Shared->Prop} (h:∀{Q:α->Shared->Prop},Q a s'->wpAny M A m Q E s) (c:cG M A (k a) Q E s'):cG M A (m>>=k) Q E s:=ay (eU (h c))
theorem NF {a:α} {Q:β->Shared->Prop} (c:cG M A (k a) Q E s):cG M A (pure a>>=k) Q E s:=ay (aO c)
theorem Wg {Q:α->Shared->Prop} (h:¬c) (k:cG M A b Q E s):cG M A (@ite _ c d a b) Q E s:=U (if_neg h) k
theorem Wh {Q:α->Shared->Prop} (k:cG M A b Q E s):cG M A (@ite _ (aj=H) d a b) Q E s:=Wg bZ k
theorem Gw {t:Sem α} {Q:α->Shared->Prop} (h:cG M A t Q (λa a=>False) s):cG M A t Q E s:=aW h (λa a q=>q) λa a f=>f.elim
end
section
variable {M:Model} {A:Around} {E:Value->Shared->Prop} {s:Shared} {env:dD} {prog:Program} {w:World}
theorem HM {l op r pos} (h:cG M A (eval l env) (λa c=>cG M A (eval r env) (λb d=>cG M A (binaryOp op a b) Q E d) E c) E s):cG M A (eval (.BinOp l op r pos) env) Q E s:=ay (aW h (λa c e=>ay (bh (aW e (λb d f=>ay (bG (oN f))) λg g x=>x))) λg g x=>x)
theorem B7 {l op r pos} (h:cG M A (eval l env) (λa c=>cG M A (eval r env) (λb d=>cG M A (compareOp op a b) Q E d) E c) E s) (hm:qF op r=aj):cG M A (eval (.Compare l [op] [r] pos) env) Q E s:=by
 refine ay (aW h (λa c e=>ay (bh ?_)) λg g x=>x);exact U (markedBehindIn_of_false hm) (aW e (λb d f=>ay (bG (oN f))) λg g x=>x)
theorem sG {l op r pos whole}
 (h:cG M A (eval l env) (λa d=>cG M A (eval r env) (λb e=>cG M A (compareOp op a b) (λc f=>cG M A (truthy c) Q E f) E e) E d) E s) (hm:qF op r=aj):cG M A (isTrue (.Compare l [op] [r] pos) env whole) Q E s:=by
 refine ay (aW h (λa d g=>ay (bh ?_)) λi i x=>x);exact U (markedBehindIn_of_false hm) (aW g (λb e j=>ay (bG (ay (oN (aW j (λc f k=>bh k) λi i x=>x))))) λi i x=>x)
theorem yR (h:cG M A (isTrue x env (eval x env)) (λb a=>Q (!b) a) E s):cG M A (isTrue (.UnaryOp .Not x pos) env whole) Q E s:=ay (aW h (λb a c=>aO c) λd d x=>x)
theorem HN {Q} (h:cG M A (isTrue test env (eval test env)) (λb a=>if b then cG M A (eval body env) Q E a else cG M A (eval orelse env) Q E a) E s):cG M A (eval (.IfExp test body orelse pos) env) Q E s:=by
 refine ay (aW h (λb a c=> ?_) λd d x=>x);rcases b<;>exact c
theorem uJ (h:cG M A (allTrue op values env) Q E s):cG M A (isTrue (.BoolOp op values pos) env whole) Q E s:=U (arm_isTrue_BoolOp ..) h
theorem mK {e pos} (h:cG M A (eval e env) (λv=>Q (.ret v)) E s):cG M A (exec (.Return (O e) pos) env) Q E s:=ay (bG (ay (aW h (λv b a=>aO a) λc c x=>x)))
theorem S2 {test body orelse pos} (h:cG M A (isTrue test env (eval test env)) (λb a=>if b then cG M A (execs body env) Q E a else cG M A (execs orelse env) Q E a) E s):cG M A (exec (.If test body orelse pos) env) Q E s:=by
 refine ay (bG (ay (aW h (λb d c=> ?_) λe e x=>x)));rcases b<;>exact c
theorem kQ {b rest} {Q} (h:cG M A (exec b env) (λf s'=>match f with| .next=>cG M A (execs rest env) Q E s'|f=>Q f s') E s):cG M A (execs (b::rest) env) Q E s:=by
 refine ay (aW h (λf c a=> ?_) λd d x=>x)
 induction f using PySem.Flow.casesOn with
 |next=>exact a
 |_=>exact aO a
theorem Km {e pos} (h:cG (model prog w) A (eval e env) (λa=>Q .next) E s) (hi:interactive env=aj) (b:swapsWith e au pos.line env=pure aj):cG (model prog w) A (exec (.Expr e pos) env) Q E s:=U (exec_Expr env e pos hi b) (ay (bG (ay (aW h (λv s' h'=>eU (wpAny_dropValue h')) λa a x=>x))))
theorem HO {test body orelse pos} (h:codeN M A (.whileLoop test body orelse env) (λr s'=>match r with| .ok f=>Q f s'| .error _=>False) s):cG M A (exec (.While test body orelse pos) env) Q E s:=ay (bG (yQ (h:=au) h Zz))
theorem N1 {target iter body orelse pos}
 (h:cG M A (eval iter env) (λx a=>cG M A (pyIter x) (λg b=>codeN M A (.forLoop target g body orelse env) (λr s'=>match r with| .ok f=>Q f s'| .error _=>False) b) E a) E s)
 (i:∀x,foldedSetIterable iter env x=pure x):cG M A (exec (.For target iter body orelse pos) env) Q E s:=by
 refine ay (bG (ay (aW h (λx a c=> ?_) λe e x=>x)));exact ay (nj (i x) (ay (bG (ay (bh (aW c (λg b d=>yQ (h:=au) d Zz) λe e x=>x))))))
theorem HP {lower upper step}
 (h:cG M A (evalPart lower env) (λl b=>cG M A (evalPart upper env) (λu c=>cG M A (evalPart step env) (λi a=>
  Q (.ref a.heap.objs.size) {a with heap:=a.heap.push {cls:= .type "slice",data:= .fields #[l,u,i]}}) E c) E b) E s):cG M A (eval (.Slice lower upper step p) env) Q E s:=by
 refine ay (aW h (λl b d=>ay (bh (aW d (λu c e=>ay (bh (aW e (λi a f=> ?_) λg g x=>x))) λg g x=>x))) λg g x=>x);exact eU (dY f)
theorem Dy (h:cG (model prog w) A (execs stmts env) (λf s'=>R (.ok f) s') (λa a=>False) s):codeN (model prog w) A (.block stmts env) R s:=dP rfl (ay (rW (aW h (λf s' h'=>aO h') λa a h'=>h')))
theorem tM {body} (h:cG (model prog w) (A.deeper env) (execs body env) (λf s'=>R (.ok (.ret (match f with| .ret v=>v|_=> .none))) s') (λa a=>False) s):codeN (model prog w) A (.func body env) R s:=by
 refine dP rfl (ay (eU (vH (ay (jZ (aW h (λf s' h'=> ?_) λa a h'=>h'.elim))))));rcases f<;>exact aO h'
theorem yS (h:cG (model prog w) (A.deeper env) (eval e env) (λv s'=>R (.ok (.ret v)) s') (λa a=>False) s):codeN (model prog w) A (.expr e env) R s:=dP rfl (ay (eU (vH (ay (jZ (aW h (λv s' h'=>aO h') λa a h'=>h'.elim))))))
end
end
section
structure fO (n b:Nat) (A:Around):Prop where
 handled:A.handled=au
 units:A.units+200*n+b+400<=9900
 depth:A.depth+4*n<=690
theorem fO.less (x:fO n b A) (h:b'<=b):fO n b' A:=⟨x.handled,aI (Nat.add_le_add_right (jP h _) _) x.units,x.depth⟩
theorem fO.u {n b k:Nat} (x:fO n b A) (h:bQ k 400=H):A.units+k<=9900:=aI (Nat.add_le_add (aI (d8 _ _) (d8 _ _)) (aA h)) x.units
theorem cl (h:a+m<=9900) (hk:bI k m=H):a+k<cLine:=aQ (Nat.add_lt_add_left (aA hk) a) h
theorem fO.c (x:fO n b A) (h:bI k 400=H):A.units+k<cLine:=cl (x.u rfl) h
theorem S3 (h:a+200*(n+1)+0+400<=9900) (c:j+b<=200):a+j+200*n+b+400<=9900:=by
 rw [Nat.mul_succ,Nat.add_zero,<-j6 a (200*n) 200] at h;rw [Nat.add_right_comm a j,j6 _ j b];exact aI (Nat.add_le_add_right (jP c _) 400) h
theorem Kn (h:a+4*(n+1)<=690) (c:j<=4):a+j+4*n<=690:=by
 rw [Nat.mul_succ,<-j6] at h;exact U (Nat.add_right_comm ..) (aI (jP c _) h)
theorem fO.next (x:fO (n+1) 0 A) (c:A'.handled=A.handled) (hu:A'.units=A.units+j) (e:j+b<=200) (f:A'.depth=A.depth+d) (a:bQ d 4=H):fO n b A':=
 ⟨c.trans x.handled,U hu (S3 x.units e),U f (Kn x.depth (aA a))⟩
structure jT (X:dz) (G:Str->Option V):Prop where
 load:∀(w:Wd) (h:ae7) (s:Shared),St X w h s->∀x v,aZ x=H->G x=O v->∃mg mb y,s.heap.Ns mainNs mg/\s.heap.Ns builtinsNs mb/\(mg x=O y\/(mg x=au/\mb x=O y))/\∀n,VR X s.heap w n v y
structure eX (X:dz) (env:dD) (ns:List (Str×aN)) (ρ:Env) (w:Wd) (n:Nat) (s:Shared):Prop where
 fn:env.scope.kind= .function
 glob:env.globals=mainNs
 blt:env.builtins=builtinsNs
 kind:∀x k,aZ x=H->bg (nm x) ns=O k->match k with
  | .local=>env.kindOf x=O .local
  | .cell=>env.kindOf x=O .cell
  | .free=>env.kindOf x=O .cell\/env.kindOf x=O .free
  | .globalImplicit=>env.kindOf x=O .globalImplicit
  |_=>True
 cls:∀x k,bg (nm x) ns=O k->(x==("__classdict__":Str))=aj
 Gx:∀x k,bg (nm x) ns=O k->(x==("__debug__":Str))=aj
 loc:∃m,s.heap.Ns env.locals m/\∀x v,aZ x=H->bg (nm x) ns=O .local->find (nm x) ρ.loc=O v->∃y,m x=O y/\VR X s.heap w n v y
 Dz:w.role env.locals=au/\X.h₀.objs.size<=env.locals/\env.locals∉X.tabs
 cell:∀x,aZ x=H->(bg (nm x) ns=O .cell\/bg (nm x) ns=O .free)->∃c ov,env.cells.lookup x=O c/\w.role c=au/\X.h₀.objs.size<=c/\c∉X.tabs/\s.heap.IsCell c ov
 wX:∀x v c,aZ x=H->bg (nm x) ns=O .cell->find (nm x) ρ.loc=O v->env.cells.lookup x=O c->∃y,s.heap.IsCell c (O y)/\VR X s.heap w n v y
 wY:∀x v c,aZ x=H->bg (nm x) ns=O .free->find (nm x) ρ.out=O v->env.cells.lookup x=O c->∃y,s.heap.IsCell c (O y)/\VR X s.heap w n v y
 apart:∀x y c,env.cells.lookup x=O c->env.cells.lookup y=O c->x=y
 locs:∀y v,find y ρ.loc=O v->bg y ns=O .local\/bg y ns=O .cell
 outs:∀y v,find y ρ.out=O v->bg y ns≠O .cell
 N2:gD ns=aj->∀c q,X.jO ns=O (c,q)->env.code= .ref c/\env.qual=q
section
variable {X:dz} {env:dD} {ns:List (Str×aN)} {ρ:Env} {w w':Wd} {n n':Nat} {s s':Shared}
theorem uK {h h':Heap} {a} {m} (x:h.Ns a m) (k:∀o,h.get? a=O o->h'.get? a=O o):h'.Ns a m:=let⟨o,es,ep,e,r⟩:=x;⟨o,es,ep,k o e,r⟩
theorem ig {h h':Heap} (x:h.IsCell c v) (k:∀o,h.get? c=O o->h'.get? c=O o):h'.IsCell c v:=let⟨o,e,d⟩:=x;(bW o (k o e) d)
theorem eX.ext (e:eX X env ns ρ w n s) (x:Ext X cV w n s w' n' s'):eX X env ns ρ w' n' s':=by
 have k:=x.dW;have d:∀a,w.role a=au->a∉X.tabs->∀o,s.heap.get? a=O o->s'.heap.get? a=O o:=λa h1 h2 o f=>x.old a o h1 h2 (λh=>h) f;refine aL e.loc λm hv hm=> ?_;have hl:=e.Dz;refine⟨e.fn,e.glob,e.blt,e.kind,e.cls,e.Gx,(bW m (uK hm (d _ hl.1 hl.2.2)) (λy v h1 h2 f=> ?_)),⟨?_,hl.2⟩,λy h1 h2=> ?_,λy v c h1 h2 f j=> ?_,λy v c h1 h2 f j=> ?_,e.apart,e.locs,e.outs,e.N2⟩
 .refine dN (hv y v h1 h2 f) λz hz l=> ?_;exact bW z hz (l.mono k)
 .exact(x.role _ hm.lt).trans hl.1
 .exact HB (e.cell y h1 h2) λc t p g a3 i q=>lT c t p ((x.role _ q.lt).trans g) a3 i (ig q (d _ g i))
 .refine aL (e.wX y v c h1 h2 f j) λz l hz=>HB (e.cell y h1 (.inl h2)) λc' t p g a3 i q=> ?_;injection j.symm.trans p with hq;subst hq
  exact bW z (ig hz (d _ g i)) (l.mono k)
 .refine aL (e.wY y v c h1 h2 f j) λz l hz=>HB (e.cell y h1 (.inr h2)) λc' t p g a3 i q=> ?_;injection j.symm.trans p with hq;subst hq
  exact bW z (ig hz (d _ g i)) (l.mono k)
end
section
variable {X:dz}
theorem rX:Ext X F w m s w m {s with toks:=s.toks+1}:=⟨bu _,bu _,λa a=>rfl,λa a=>rfl,λa a=>rfl,λa a a a a e=>e,rfl,rfl⟩
theorem St.tok (x:St X w h s):St X w h {s with toks:=s.toks+1}:=⟨x.rep,x.lim,x.base,x.size,x.tab⟩
end
def Goes {α:Type} (P:Wd->Nat->Shared->α->Value->Prop) (X:dz) (w:Wd) (m:Nat) (s:Shared) (k:α->ae7->Option Res) (res:Res) (Q:Value->Shared->Prop):Prop:=
 ∀w' h' s' v y,St X w' h' s'->Ext X cV w m s w' h'.n s'->P w' h'.n s' v y->k v h'=O res->Q y s'
abbrev PV (X:dz):Wd->Nat->Shared->V->Value->Prop:=λw n s v y=>VR X s.heap w n v y
section
variable {X:dz} {w w':Wd} {h h':ae7} {m m':Nat} {s s':Shared} {res:Res} {Q:Value->Shared->Prop}
theorem Goes.ext (g:Goes P X w m s k res Q) (x:Ext X cV w m s w' m' s'):Goes P X w' m' s' k res Q:=
 λe f i v y a b c d=>g e f i v y a (x.trans b) c d
theorem Goes.tok (g:Goes (PV X) X w h.n s k res Q) (a:St X w h s) (c:VR X s.heap w h.n v y) (e:k v h=O res):Q y {s with toks:=s.toks+1}:=
 g w h _ v y a.tok rX c e
theorem Goes.here {k:α->ae7->Option Res} (g:Goes P X w h.n s k res Q) (a:St X w h s) (c:P w h.n s v y) (e:k v h=O res):Q y s:=
 g w h s v y a .refl c e
end
def cQ (X:dz) (r:Ap) (n b:Nat) (ns:List (Str×aN)) (e:XE) (x:Expr):Prop:=
 ∀A,fO n b A->∀env ρ w h s,St X w h s->eX X env ns ρ w h.n s->∀k res,e.f r ρ h k=O res->∀Q:Value->Shared->Prop,
  Goes (PV X) X w h.n s k res Q->cG (model X.prog X.w) A (eval x env) Q (λu_ u_=>False) s
section
variable {X:dz} {r:Ap} {n b:Nat} {ns:List (Str×aN)}
theorem cQ.bad x:cQ X r n b ns fm x:=λa a a a a a a a a a a e=>fn e
theorem cQ.loc x p (hx:aZ x=H) (hk:bg (nm x) ns=O .local\/bg (nm x) ns=O .cell):cQ X r n b ns (qy (nm x)) (.Name x p):=by
 intro A _ env ρ w h s f he k res e Q g;refine dN (pX e) λv hv e=> ?_;rcases hk with hk|hk
 .exact aL he.loc λm a hm=>aL (a x v hx hk hv) λy d hy=>eU (wpAny_Name (wpAny_loadName_local he.fn (he.kind x _ hx hk) hm hy (g w h s v y f .refl d e)) (he.Gx x _ hk))
 .exact nH (he.cell x hx (.inl hk)) λc j l i=>aL (he.wX x v c hx hk hv i) λy d hy=>eU (wpAny_Name (wpAny_loadName_cell he.fn (he.kind x _ hx hk) i hy (g w h s v y f .refl d e)) (he.Gx x _ hk))
theorem cQ.free x p (hx:aZ x=H) (hk:bg (nm x) ns=O .free):cQ X r n b ns (Dg (nm x)) (.Name x p):=by
 intro A _ env ρ w h s f he k res e Q g;refine dN (pX e) λv hv e=>nH (he.cell x hx (.inr hk)) λc j l d=>aL (he.wY x v c hx hk hv d) λy i hy=> ?_;rcases he.kind x _ hx hk with a|a
 .exact eU (wpAny_Name (wpAny_loadName_cell he.fn a d hy (g w h s v y f .refl i e)) (he.Gx x _ hk))
 .exact eU (wpAny_Name (wpAny_loadName_free he.fn a d hy (g w h s v y f .refl i e) (he.cls x _ hk)) (he.Gx x _ hk))
theorem cQ.glob (f:jT X G) x p (hx:aZ x=H) (hk:bg (nm x) ns=O .globalImplicit) v (g:G x=O v):cQ X r n b ns (xC v) (.Name x p):=by
 intro A _ env ρ w h s d he k res e Q i;obtain⟨l,o,y,h1,h2,a,j⟩:=f.load w h s d x v hx g;refine eU (wpAny_Name ?_ (he.Gx x _ hk));rw [PyProof.Rows.loadName_read he.fn (he.kind x _ hx hk)];have hq:=i w h s v y d .refl (j _) e;rcases a with a|⟨a,c⟩
 .exact Calls.loadGlobal_global (he.glob▸h1) a hq
 .exact Calls.loadGlobal_builtin (he.glob▸h1) a (he.blt▸h2) c hq
set_option tactic.hygienic true in
theorem cQ.name (a:jT X G) x p:cQ X r n b ns (JV G ns x) (.Name x p):=by
 unfold JV;split
 .exact .bad _
 .rename_i hx;split
  .rename_i k hk
   induction k using dw with
   |«local»=>exact .loc x p hx (.inl hk)
   |cell=>exact .loc x p hx (.inr hk)
   |free=>exact .free x p hx hk
   |globalImplicit=>
    refine(?_:cQ X r n b ns (JU G x) _);unfold JU
    induction c:G x using zO with
    |none=>exact .bad _
    |some v=>exact .glob a x p hx hk v c
   |globalExplicit=>exact .bad _
  .exact .bad _
end
end
section
open PyProof.Rows
section
variable {X:dz} {w w':Wd} {h h':ae7} {m m':Nat} {s s':Shared} {res:Res} {Q:Value->Shared->Prop}
theorem VR.mw i t:VR X g w n (mw i) (.int i t):=by
 induction i using Int.casesOn with
 |ofNat k=>exact .nat k t
 |negSucc k=>exact .neg k t
theorem VR.Ko t (e:i=j):VR X g w n (Mine.mw i) (.int j t):=e▸VR.mw i t
theorem VR.aX {k:Nat} t (e:(k:Int)=j):VR X g w n (Mine.aX k) (.int j t):=by subst e;exact .nat k t
theorem VR.qO {k:Nat} t (hk:0<k) (e: -(k:Int)=j):VR X g w n (Mine.qO k) (.int j t):=by
 obtain⟨k,rfl⟩:∃a,k=a+1:=⟨k-1,by lia⟩;subst e;have: -((k+1:Nat):Int)=Int.negSucc k:=Int.neg_ofNat_succ k;refine U this ?_;exact .neg k t
end
def qZ (X:dz) (b:Nat) (f:V->V->M V) (op:Operator):Prop:=
 ∀A n,fO n b A->∀w h s,St X w h s->∀u v x y,VR X s.heap w h.n u x->VR X s.heap w h.n v y->∀k res,f u v h k=O res->∀Q,Goes (PV X) X w h.n s k res Q->wpAny (model X.prog X.w) A (binaryOp op x y) Q (λu_ u_=>False) s
section
variable {X:dz} {b:Nat}
theorem A4 (e:NS x y f=O r):ak x.t 2=H/\ak y.t 2=H/\x.n<=18446744073709551615/\y.n<=18446744073709551615/\f=O r:=by
 unfold NS at e;exact aC (dM e) λe a=>aC (dM e) λe b=>aC (dM e) λe c=>gb (dM e) λd e=>A1 a b (aA c) (aA d) e
theorem rY (e:JN x y f=O r):ak x.t 2=H/\ak y.t 2=H/\f=O r:=aC (dM e) λe a=>gb (dM e) λb e=>iX a b e
theorem jj {a b:Nat} (e:ak (aG a b) 0=H):a=0/\b=0:=by have:a+b=0:=aH e;lia
theorem rZ (h:v.n<=18446744073709551615):(dS v).natAbs<2^64:=by
 unfold dS
 induction ak v.s 0 using zB with
 |true=>show(bf v.n).natAbs<_;simp;exact xA h
 |false=>show(Int.negOfNat v.n).natAbs<_;refine U Int.negOfNat_eq ?_;simp;exact xA h
theorem fc (h:v.s=0):dS v=(v.n:Int):=by unfold dS;refine U h ?_;rfl
theorem N3:qZ X b VO .Sub:=by
 intro A n _ w h s c u v x y hu hv k res e Q d;refine iP (rY e) λe g i=>fE (hu.cS g) λt a=> ?_;subst a;refine fE (hv.cS i) λq a=> ?_;subst a;refine sub_int ?_
 induction hz:ak (aG u.s v.s) 0 using zB with
 |false=>
  rw [hz] at e;exact d.tok c (VR.Ko _ rfl) e
 |true=>
  rw [hz] at e;refine gb (jj hz) λj l=>U (fc j) (U (fc l) ?_)
  induction hl:bQ v.n u.n using zB with
  |true=>
   have f:k (aX (fq u.n v.n)) h=O res:=by simpa only [hl] using e
   exact d.tok c (VR.aX _ (by have:=aA hl;show((u.n-v.n:Nat):Int)=_;exact Int.ofNat_sub this)) f
  |false=>
   have f:k (qO (fq v.n u.n)) h=O res:=by simpa only [hl] using e
   have o:¬v.n<=u.n:=λp=>by rw [Nat.ble_eq.mpr p] at hl;exact ft hl
   exact d.tok c (VR.qO _ (by show 0<v.n-u.n;lia) (by show-((v.n-u.n:Nat):Int)=_;lia)) f
theorem Wi (h:c.natAbs<2^64):IntMulOk a c:=IntMulOk.of_right (intBits_le_64 (by lia) (by lia))
theorem N4:qZ X b VP .Mult:=by
 intro A n _ w h s d u v x y hu hv k res e Q f;refine iP (rY e) λe i j=>aC (dM e) λe g=>fE (hu.cS i) λt a=> ?_;subst a;refine fE (hv.cS j) λp a=> ?_;subst a;have c:IntMulOk (dS u) (dS v):=by
  induction hb:BV u using zB with
  |true=>
   have:=rZ (aA hb);exact IntMulOk.of_left (intBits_le_64 (by lia) (by lia))
  |false=>
   rw [hb] at g;exact Wi (rZ (aA g))
 refine PyProof.Rows.mul_int ?_ c
 induction hz:ak (aG u.s v.s) 0 using zB with
 |false=>
  rw [hz] at e;exact f.tok d (VR.Ko _ rfl) e
 |true=>
  rw [hz] at e;exact gb (jj hz) λl o=>f.tok d (VR.aX _ (by refine U (fc l) (U (fc o) ?_);show((u.n*v.n:Nat):Int)=_;exact Int.natCast_mul (V.n u) (V.n v))) e
end
section
variable {X:dz} {b:Nat}
theorem r5 (e:JM x y f=O r):ak x.t 2=H/\ak y.t 2=H/\x.n<=18446744073709551615/\y.n<=18446744073709551615/\x.s=0/\y.s=0/\f=O r:=vQ (A4 e) λe a b c d=>gb (dM e) λz e=>gb (jj z) λg h=>⟨a,b,c,d,g,h,e⟩
theorem HQ (h:a<=18446744073709551615):a.log2<9000:=by
 refine aQ (m:=64) ?_ (aA rfl);rcases Nat.eq_zero_or_pos a with rfl|hp
 .decide
 .exact(Nat.log2_lt (iB hp)).mpr (xA h)
theorem nez {a:Nat} (e:(ah k au (ak a 0):Option Res)=O r):a≠0/\k=O r:=by
 induction hz:ak a 0 using zB with
 |true=>rw [hz] at e;exact fn e
 |false=>rw [hz] at e;exact⟨fU hz,e⟩
theorem N5:qZ X b VQ .FloorDiv:=by
 intro A n _ w h s c u v x y hu hv k res e Q d;refine iP (rY e) λe f g=>aC (dM e) λe i=>aC (dM e) λe z=>gb (jj z) λj l=>aC (nez e) λe hz=>fE (hu.cS f) λt a=> ?_;subst a;refine fE (hv.cS g) λm a=> ?_;subst a;refine U (fc j) (U (fc l) (floordiv_int ((λ{n}=>Iff.mpr Int.ofNat_ne_zero) hz) ?_ (.inl (oU (HQ (aA i))))));exact d.tok c (VR.aX _ (by show((u.n/v.n:Nat):Int)=_;refine U (oV _ (cC (V.n v))) ?_;rfl)) e
theorem N6:qZ X b VS .Mod:=by
 intro A n _ w h s f u v x y hu hv k res e Q g;refine iP (rY e) λe j i=>aC (nez e) λe hz=>fE (hu.cS j) λt a=> ?_;subst a;refine fE (hv.cS i) λo a=> ?_;subst a;have d:dS v≠0:=by
  rcases hv.E6 i with⟨_,q⟩|⟨_,p,q⟩
  .refine U q ?_;simp;exact hz
  .refine U q ?_;lia
 refine mod_int' d ?_
 induction c:ak (aG u.s v.s) 0 using zB with
 |false=>
  rw [c] at e;exact g.tok f (VR.Ko _ rfl) e
 |true=>
  rw [c] at e;exact gb (jj c) λl m=>g.tok f (VR.aX _ (by refine U (fc l) (U (fc m) ?_);show((u.n %v.n:Nat):Int)=_;refine U (Int.fmod_eq_emod_of_nonneg _ (cC (V.n v))) ?_;rfl)) e
theorem N7:qZ X b VT .Pow:=by
 intro A n _ w h s d u v x y hu hv k res e Q f;refine oG (r5 e) λe g i j p l c=>aC (dM e) λe q=>aC (dM e) λe m=>fE (hu.cS g) λt a=> ?_;subst a;refine fE (hv.cS i) λr a=> ?_;subst a;have o:=cH.mp m;refine pow_int_small (U (fc c) (cC (V.n v))) (by refine U (fc c) ?_;lia) (rZ j) ?_;exact f.tok d (VR.aX _ (by refine U (fc l) (U (fc c) ?_);show((u.n^v.n:Nat):Int)=_;exact Int.natCast_pow (V.n u) (V.n v))) e
theorem N8:qZ X b VU .LShift:=by
 intro A n _ w h s d u v x y hu hv k res e Q f;refine oG (r5 e) λe g i j p l c=>aC (dM e) λe m=>fE (hu.cS g) λt a=> ?_;subst a;refine fE (hv.cS i) λq a=> ?_;subst a;have o:=cH.mp m;refine lshift_int_small (U (fc c) (cC (V.n v))) (by refine U (fc c) ?_;lia) (rZ j) ?_;exact f.tok d (VR.aX _ (by refine U (fc l) (U (fc c) ?_);show((u.n*2^v.n:Nat):Int)=_;simp)) e
theorem N9:qZ X b VW .RShift:=by
 intro A n _ w h s d u v x y hu hv k res e Q f;refine oG (r5 e) λe g i l m j c=>aC (dM e) λe o=>fE (hu.cS g) λt a=> ?_;subst a;refine fE (hv.cS i) λp a=> ?_;subst a;refine rshift_int (U (fc c) (cC (V.n v))) (f.tok d (VR.aX _ ?_) e);refine U (fc j) (U (fc c) ((?_:((u.n/2^v.n:Nat):Int)=_)));have:(2:Int)^(Int.toNat (v.n:Int))=((2^v.n:Nat):Int):=rfl;refine U this (U (oV _ (cC _)) ?_);rfl
theorem Oa:qZ X b VX .BitAnd:=by
 intro A n _ w h s d u v x y hu hv k res e Q f;refine vQ (A4 e) λe g i m o=>fE (hu.cS g) λt a=> ?_;subst a;refine fE (hv.cS i) λp a=> ?_;subst a;refine and_int ?_
 induction c:ak (aG u.s v.s) 0 using zB with
 |false=>
  rw [c] at e;exact f.tok d (VR.Ko _ rfl) e
 |true=>
  rw [c] at e;exact gb (jj c) λj l=>f.tok d (VR.aX _ (by refine U (fc j) (U (fc l) (U (bitAnd_pp (cC (V.n u)) (cC (V.n v))) ?_));rfl)) e
theorem Kp (hx:0<=x) (hy:0<=y):Builtin.bitOr x y=((x.toNat|||y.toNat:Nat):Int):=by
 unfold Builtin.bitOr;exact U (bitAnd_nn (λh=>bitNot_nonneg.mp h hx) (λh=>bitNot_nonneg.mp h hy)) (U (bitNot_bitNot ..) (U (bitNot_bitNot ..) (U (bitNot_bitNot ..) rfl)))
theorem S4:qZ X b bOr .BitOr:=by
 intro A n _ w h s c u v x y hu hv k res e Q d;refine oG (r5 e) λe f g l m i j=>fE (hu.cS f) λt a=> ?_;subst a;refine fE (hv.cS g) λo a=> ?_;subst a;exact or_int (d.tok c (VR.aX _ (by refine U (fc i) (U (fc j) (U (Kp (cC (V.n u)) (cC (V.n v))) ?_));rfl)) e)
end
end
section
open PyProof.Rows PySem.Calls
theorem tN (a b):qp a b=decide (a=b):=by
 induction a generalizing b with
 |nil=>induction b using zL<;>rfl
 |cons c r f=>
  induction b using zL with
  |nil=>rfl
  |cons d q=>
   refine(?_:(ah aj (qp r q) (ak c d):Bool)=_)
   induction hb:ak c d using zB with
   |true=>exact(f q).trans (decide_eq_decide.mpr ⟨λe=>by rw [aH hb,e],λe=>(List.cons.inj e).2⟩)
   |false=>exact(decide_eq_false λe=>fU hb (List.cons.inj e).1).symm
theorem Kq {m k:Nat} (h:0<k):bf m≠-(k:Int):=by
 induction k using zN with
 |zero=>exact absurd h (j7 0)
 |succ k=>exact λe=>Int.noConfusion e
theorem yT {a b:Nat} (h:a=b):ak a b=true:=h▸fu a
theorem Ob {d:Decidable p} (h:c=H↔p):c=decide p:=by
 induction c using zB with
 |true=>exact(decide_eq_true (h.mp rfl)).symm
 |false=>exact(decide_eq_false λe=>ff (h.mpr e)).symm
theorem tO (ha:VR X g w n a x) (hb:VR X g w n b y) (ea:ak a.t 2=H) (eb:ak b.t 2=H):AB a b=decide (dS a=dS b):=by
 refine Ob ?_;unfold AB;rcases ha.E6 ea with⟨p,q⟩|⟨p,z,q⟩<;>rcases hb.E6 eb with⟨p',q'⟩|⟨p',z',q'⟩<;>refine U p (U p' (U q (U q' ?_)))
 .exact⟨λh=>congrArg bf (aH h),λh=>yT (Int.ofNat.inj h)⟩
 .exact⟨λh=>ff h,λh=>absurd h (Kq z')⟩
 .exact⟨λh=>ff h,λh=>absurd h.symm (Kq z)⟩
 .exact⟨λh=>congrArg (λn:Nat=> -(n:Int)) (aH h),λh=>yT (Int.ofNat.inj (Int.neg_inj.mp h))⟩
structure KD (X:dz) where
 K:Type
 dec:DecidableEq K
 knd:KeyKind X.prog X.w K
 t:Nat
 of:V->K
 is:∀{g w n v y},VR X g w n v y->v.t=t->knd.is (of v) y=H
 hash:∀{g w n v y},VR X g w n v y->v.t=t->knd.hash (of v)=hashOf X v
 BP:∀{g w n a b x y},VR X g w n a x->VR X g w n b y->a.t=t->b.t=t->Mine.BP a b=O (decide (of a=of b))
 inj:∀{g w n a b x y},VR X g w n a x->VR X g w n b y->a.t=t->b.t=t->of a=of b->a=b
instance KD.acW {X:dz} (kd:KD X):DecidableEq kd.K:=kd.dec
theorem yU (e:BP a b=O c):a.t=b.t:=aH (dM e).1
section
variable {X:dz} (kd:KD X) {g:Heap} {w:Wd} {n:Nat}
structure uL (p:V×V) (q:kd.K×Value):Prop where
 key:kd.of p.1=q.1
 t:p.1.t=kd.t
 kr:∃y,VR X g w n p.1 y
 val:VR X g w n p.2 q.2
variable {kd}
theorem gU.pairs (d:gU X g w n i j) (ht:∀p∈i,p.1.t=kd.t):∃f:List (kd.K×Value),iV (uL kd (g:=g) (w:=w) (n:=n)) i f/\Pairs kd.knd j f/\(∀e∈j,∃k,kd.knd.is k e.key=H/\e.hash=kd.knd.hash k):=by
 have o:=d.all;clear d
 induction o with
 |nil=>exact f7 [] .nil .nil (λe he=>(aU he).elim)
 | @cons p e l m h t ih=>
  refine cI (ih λp hp=>ht p (aD _ hp)) λf c a b=> ?_;have hp:=ht p aE;have hi:=kd.is h.key hp;refine f7 ((kd.of p.1,e.val)::f) (.cons ⟨rfl,hp,⟨_,h.key⟩,h.val⟩ a) (.cons hi rfl b) (λq he=> ?_);rcases aT.mp he with rfl|he
  .exact bW _ hi (h.hash.trans (kd.hash h.key hp).symm)
  .exact c q he
theorem uL.keys (h:iV (uL kd (g:=g) (w:=w) (n:=n)) kvs Jv):Jv.map (·.1)=kvs.map (λp=>kd.of p.1):=by
 induction h with
 |nil=>rfl
 |cons h _ a=>simp [a,h.key]
end
def yV (X:dz):KD X where
 K:=Int
 dec:=inferInstance
 knd:=intKind X.prog X.w
 t:=2
 of:=dS
 is:=λhv ht=>fE (hv.cS (yT ht)) λu hq=>U hq (intKind_is X.prog X.w _ u)
 hash:=λu_ ht=>by unfold hashOf;exact U (if_pos ht) rfl
 BP:=λha hb ta tb=>by
  refine cL (tO ha hb (yT ta) (yT tb)) ?_;unfold Mine.BP;exact U ta (U tb rfl)
 inj:=λha hb ta tb e=>(ha.Ke ta).trans ((congrArg mw e).trans (hb.Ke tb).symm)
noncomputable def DA (X:dz):KD X where
 K:=Str
 dec:=inferInstance
 knd:=strKind X.prog X.w
 t:=3
 of:=λv=>⟨v.l.toArray⟩
 is:=λhv ht=>dN (hv.qa ht) λu hq u_=>U hq (strKind_is X.prog X.w _ u)
 hash:=λu_ ht=>by unfold hashOf;exact U ht rfl
 BP:=λha hb ta tb=>by
  unfold Mine.BP;refine U ta (U tb ?_);exact congrArg O ((tN ..).trans (decide_eq_decide.mpr ⟨λe=>U e rfl,λe=>congrArg (λs:Str=>s.cps.toList) e⟩))
 inj:=λha hb ta tb e=>(ha.Kg ta).trans ((congrArg (λs:Str=>vStr s.cps.toList) e).trans (hb.Kg tb).symm)
theorem RY (l:List UInt8):(l.map bU).map sj=l:=by simp [Function.comp_def]
theorem qb (h:VR X g w n v y) (e:v.t=4):v.l=(v.l.map sj).map bU:=vP (h.jL e) λb a a q a=>U q (congrArg (sP bU) (RY b.toList).symm)
noncomputable def B8 (X:dz):KD X where
 K:=List UInt8
 dec:=inferInstance
 knd:=W.bytesKind X.prog X.w
 t:=4
 of:=λv=>v.l.map sj
 is:=λhv ht=>vP (hv.jL ht) λb t hq q u_=>U hq (U q (U (RY b.toList) (PySem.W.bytesKind_is X.prog X.w b.toList t)))
 hash:=λu_ ht=>by unfold hashOf;exact U ht rfl
 BP:=λha hb ta tb=>by
  unfold Mine.BP;refine U ta (U tb ?_);exact congrArg O ((tN ..).trans (decide_eq_decide.mpr ⟨λe=>congrArg (sP sj) e,λe=>(qb ha ta).trans ((congrArg (sP bU) e).trans (qb hb tb).symm)⟩))
 inj:=λha hb ta tb e=>(ha.Dw ta).trans ((congrArg (λl=>fk (l.map bU)) e|>λq=>(congrArg fk (qb ha ta)).trans (q.trans (congrArg fk (qb hb tb)).symm)).trans (hb.Dw tb).symm)
section
variable {X:dz} {kd:KD X} {g:Heap} {w:Wd} {n:Nat}
theorem A5 (e:iU k []=O o):o=none:=aC (dM e) λe a=>(aF e).symm
theorem qc (e:iU k (p::m)=O o):∃c,BP k p.1=O c/\((c=H/\o=O p.2)\/(c=aj/\iU k m=O o)):=by
 refine aL (pX (show(aB au (λb=>ah (iU k m) (O (O p.2)) b) (BP k p.1):Option (Option V))=O o from e)) λc e a=>bW c a ?_
 induction c using zB with
 |true=>exact .inl ⟨rfl,(aF e).symm⟩
 |false=>exact .inr ⟨rfl,e⟩
theorem B9 {K} [DecidableEq K] q l (k:K):valueAt (q::l) k=if q.1=k then O q.2 else valueAt l k:=by
 unfold valueAt;by_cases h:q.1=k<;>simp [h]
theorem Kr (hk:VR X g w n k y) (ht:k.t=kd.t) (hm:iV (uL kd (g:=g) (w:=w) (n:=n)) m Jv):
 ∀{o},iU k m=O o->match o with
  |none=>valueAt Jv (kd.of k)=au
  |some u=>∃z,valueAt Jv (kd.of k)=O z/\VR X g w n u z:=by
 induction hm with
 |nil=>intro o e;cases A5 e;rfl
 | @cons p q m Jv h t ih=>
  intro o e;refine aL (qc e) λc e f=>fE h.kr λi b=> ?_;have hq:=kd.BP hk b ht h.t;rw [f] at hq;have a:=aF hq;refine U (B9 ..) (cL h.key ?_);rcases e with⟨d,rfl⟩|⟨d,e⟩
  .rw [d] at a;have:kd.of k=kd.of p.1:=of_decide_eq_true a.symm;exact U (if_pos this.symm) (bW q.2 rfl h.val)
  .rw [d] at a;have:kd.of k≠kd.of p.1:=of_decide_eq_false a.symm;exact U (if_neg λe=>this e.symm) (ih e)
theorem S5 (h:iV (uL kd (g:=g) (w:=w) (n:=n)) a Jv):∀p∈a,∃y,VR X g w n p.1 y:=by
 induction h with
 |nil=>intro p hp;nomatch hp
 |cons h _ b=>
  intro p hp;rcases aT.mp hp with rfl|hp
  .exact h.kr
  .exact b p hp
theorem gU.dictOf (h:g.get? a=O (cJ es ep)) (d:gU X g w n b es.toList) (ht:∀p∈b,p.1.t=kd.t):
 ∃Jv:List (kd.K×Value),iV (uL kd (g:=g) (w:=w) (n:=n)) b Jv/\g.DictOf kd.knd a Jv:=by
 refine cI (d.pairs (kd:=kd) ht) λJv i h1 h2=>⟨Jv,h1,_,es,ep,h,(iX rfl rfl rfl),rfl,λe he=>i e (mD.mpr he),h2,(U (uL.keys h1) ?_)⟩;have c:∀p∈b,∀q∈b,kd.of p.1=kd.of q.1->p.1=q.1:=by
  intro p hp q hq e;exact fE (S5 h1 p hp) λy hy=>fE (S5 h1 q hq) λz hz=>kd.inj hy hz (ht p hp) (ht q hq) e
 have f:=d.nodup;clear h1 h2 i h d
 induction b with
 |nil=>exact iJ
 |cons p m j=>
  rw [dH,gw] at f⊢;refine⟨λhp=> ?_,j (λp hp=>ht p (aD _ hp)) (λp hp q hq=>c p (aD _ hp) q (aD _ hq)) f.2⟩;exact aL (gH.mp hp) λq e hq=>f.1 (gH.mpr (bW q hq (c q (aD _ hq) p aE e)))
end
end
section
open PyProof.Rows PySem.Calls PySem.SeqAt
set_option backward.match.sparseCases false
theorem E7 (e:∀f t,x≠.float f t) (c:x=y->b=H) (h:RcAt A s x y b):EqAt A s x y b:=λprog w E Q hq=>by
 refine bO (ua (λd=> ?_) (λg=> ?_))
 .rw [c (eq_of_beq d)] at hq;exact aq (fj (av hq))
 .rcases x<;>first|exact absurd rfl (e _ _)|exact aq (h prog w E _ (gI hq))
theorem Ca b t c u:RcNeAt A s (.bytes b t) (.bytes c u) (!(b.toList==c.toList)):=λd d d d h=>W.ne_bytes h
theorem E8 b t c u:RcAt A s (.bytes b t) (.bytes c u) (b.toList==c.toList):=λd d d d h=>W.eq_bytes h
structure wc (A:Around) (s:Shared) (x y:Value) (t:Bool):Prop where
 eq:EqAt A s x y t
 rc:RcAt A s x y t
 ne:RcNeAt A s x y (!t)
 same:x=y->t=H
theorem wc.of_rc (d:∀f t,x≠.float f t) (c:x=y->t=H) (h:RcAt A s x y t) (h':RcNeAt A s x y (!t)):wc A s x y t:=⟨E7 d c h,h,h',c⟩
section
variable {X:dz} {w:Wd} {n:Nat} {s:Shared}
theorem IsTuple.of {items} {g:Heap} (c:g.get? a=O (gh items ep)):g.IsTuple a items:=gc _ c rfl ep rfl
theorem IsList.of {items} {g:Heap} (c:g.get? a=O (gp items ep)):g.IsList a items:=gc _ c rfl ep rfl
theorem Gy (hx:ef X s.heap w n vs xs) (hy:ef X s.heap w n us ys)
 (o:∀a b x y t,VR X s.heap w n a x->VR X s.heap w n b y->f a b=O t->wc A s x y t):
 ∀{t},uD f vs us=O t->∃e:Nat->Bool,(∀j h1 (h2:j<ys.length),wc A s xs[j] ys[j] (e j))/\t=((List.range (min xs.length ys.length)).all e&&xs.length==ys.length):=by
 induction vs generalizing us xs ys with
 |nil=>
  intro t e;cases hx;cases hy with
  |nil=>injection e with e;subst e;exact bW (λc=>H) (λj h1=>absurd h1 (kq _)) rfl
  |cons u y us ys hu C=>injection e with e;subst e;exact bW (λc=>true) (λj h1=>absurd h1 (kq _)) (by show(false:Bool)=_;exact rfl)
 |cons v vs p=>
  intro t e;cases hx with
  |cons _ x _ xs hv d=>
   cases hy with
   |nil=>injection e with e;subst e;exact bW (λc=>true) (λj c h2=>absurd h2 (kq _)) rfl
   |cons u y us ys hu g=>
    refine aL (pX (show(aB none (λt=>aB none (λu=>some (ah false u t)) (uD f vs us)) (f v u):Option Bool)=some t from e)) λi e q=>aL (pX e) λr e z=>dN (p d g z) λB k l=>bW (λj=>match j with|0=>i|j+1=>B j) (λj h1 h2=> ?_) ?_
    .induction j using zN with
     |zero=>exact o _ _ _ _ _ hv hu q
     |succ j=>exact k j (lu h1) (lu h2)
    .have ht:t=(i&&r):=by
      have:=aF e;refine cL this ?_;rcases i<;>rfl
     refine U ht (U l (U (Nat.succ_min_succ (fV xs) (fV ys)) (U List.range_succ_eq_map (U iD (U List.all_map ?_)))));simp only [Function.comp_def,iK,Bool.and_assoc];congr 2;simp
end
section
variable {X:dz} {w:Wd} {h:ae7} {s:Shared}
noncomputable def ZA:Value->Bool
 | .float .. =>H
 |_=>aj
theorem wc.ints {i j} {t u} (d:VR X g w n a (.int i t)) (hb:VR X g w n b (.int j u)) (e:ak a.t 2=H) (f:ak b.t 2=H):wc A s (.int i t) (.int j u) (AB a b):=by
 refine fE (d.cS e) λc h1=>fE (hb.cS f) λc h2=> ?_;injection h1 with h1 _
 injection h2 with h2 _
 exact U h1 (U h2 (U (tO d hb e f) (.of_rc (λc c h=>(by injection h)) (λh=>by injection h with h1;exact beq_int_true h1) (RcAt.int_int _ _ _ _) (RcNeAt.int_int _ _ _ _))))
end
section
variable {X:dz} {w:Wd} {h:ae7} {s:Shared}
theorem S6 {A:Around} (c:A.units+k+200<=9900):A.units<cLine:=i0 (d8 _ k) (cl (k:=0) c rfl)
theorem so {p:α->Prop} (e:O a=O b) (k:p a):p b:=aF e▸k
theorem wc.diff {x y} (c:ZA x=aj) (d:x≠y) (h:RcAt A s x y aj) (h':RcNeAt A s x y H):wc A s x y false:= .of_rc (λf f e=>by rw [e] at c;exact ft c) (λe=>absurd e d) h h'
theorem Gz {f:Nat->Bool} {xs ys:Array Value} (c:∀j h1 (h2:j<ys.toList.length),wc A s xs.toList[j] ys.toList[j] (f j)) j h1 (h2:j<ys.size):EqAt A s xs[j] ys[j] (f j):=by
 have q:=(c j h1 h2).eq;simp only [Array.getElem_toList] at q;exact q
theorem eq_self {xs:Array Value} (d:∀j (h1:j<xs.toList.length) h2,wc A s xs.toList[j] xs.toList[j] (f j)):((List.range (min xs.toList.length xs.toList.length)).all f&&xs.toList.length==xs.toList.length)=true:=by
 simp only [Nat.min_self,beq_self_eq_true,Bool.and_true,aK,List.mem_range];exact λj c=>(d j c c).same rfl
theorem Ks {g:Heap} {o o':Obj} {items items2} {ep Ku} (h1:g.get? a=O {o with data:= .seq items ep}) (h2:g.get? a=O {o' with data:= .seq items2 Ku}):items=items2:=by
 injection (congrArg Obj.data (aF (h1.symm.trans h2)))
section
variable {m:Nat} {A:Around} (hu:A.units<cLine) (elems:∀a b x y t,VR X s.heap w h.n a x->VR X s.heap w h.n b y->oY h m a b=O t->wc A.in1 s x y t)
include hu elems
theorem Kv {items items2} (hl:s.heap.get? l=O (gh items ep)) (hb:s.heap.get? b=O (gh items2 Ku)) (hx:ef X s.heap w h.n xs items.toList) (hy:ef X s.heap w h.n ys items2.toList) (e:uD (oY h m) xs ys=O t):
 wc A s (.ref l) (.ref b) t:=by
 refine dN (Gy (A:=A.in1) hx hy elems e) λf d ht=>U ht (.of_rc (λg g h=>(by injection h)) (λc=> ?_) (by simpa using RcAt.tuples (e:=f) (IsTuple.of hl) (IsTuple.of hb) hu (Gz d)) (by simpa using RcNeAt.tuples (e:=f) (IsTuple.of hl) (IsTuple.of hb) hu (Gz d)));injection c with c
 rw [c] at hl;have q:=Ks (o:=gh items ep) (o':=gh items2 Ku) hl hb;subst q;exact eq_self d
theorem HR {items items2} (i:s.heap.get? l=O (gp items ep)) (c:s.heap.get? b=O (gp items2 Ku)) (hx:ef X s.heap w h.n xs items.toList) (hy:ef X s.heap w h.n ys items2.toList)
 (e:(ah (O aj) (uD (oY h m) xs ys) (ak (len xs) (len ys)):Option Bool)=O t):wc A s (.ref l) (.ref b) t:=by
 have j:l=b->items=items2:=λq=>by
  rw [q] at i;exact Ks (o:=gp items ep) (o':=gp items2 Ku) i c
 rw [len_eq,len_eq,hx.length,hy.length,aM,aM] at e
 induction hl:ak items.size items2.size using zB with
 |false=>
  rw [hl] at e;have g:=fU hl;exact so e (.diff rfl (λq=>by injection q with q;exact g (congrArg fJ (j q))) (RcAt.lists_lengths (IsList.of i) (IsList.of c) (bne_iff_ne.mpr g) hu) (RcNeAt.lists_lengths (IsList.of i) (IsList.of c) (bne_iff_ne.mpr g) hu))
 |true=>
  rw [hl] at e;have d:=aH hl;refine dN (Gy (A:=A.in1) hx hy elems e) λf p ht=> ?_;have k:t=(List.range items.size).all f:=U ht (U aM (U aM (cL d (U (Nat.min_self ..) (U (beq_self_eq_true ..) (U (Bool.and_true ..) rfl))))));refine U k (.of_rc (λr r h=>(by injection h)) (λq=> ?_) (RcAt.lists (e:=f) (IsList.of i) (IsList.of c) d hu (Gz p)) (RcNeAt.lists (e:=f) (IsList.of i) (IsList.of c) d hu (Gz p)));injection q with q
  have:=j q;subst this;exact cL k (U ht (eq_self p))
omit hu elems in
theorem VR.Kw (e:O (ak (ah 0 1 a) (ah 0 1 b))=O t):wc A s (.bool a) (.bool b) t:=so (p:=λt=>wc A s (.bool a) (.bool b) t) ((congrArg O (by rcases a<;>rcases b<;>rfl)).trans e) (.of_rc (λc c h=>(by injection h)) (λh=>by injection h with h;refine U h ?_;exact beq_self_eq_true b) (RcAt.bool_bool _ _) (RcNeAt.bool_bool _ _))
omit hu elems in
theorem VR.Oc (e:O (qp l l')=O t):wc A s (.str ⟨l.toArray⟩ u) (.str ⟨l'.toArray⟩ u') t:=by
 refine so (p:=λt=>wc A s (.str ⟨l.toArray⟩ u) (.str ⟨l'.toArray⟩ u') t) ((congrArg O (show((⟨l.toArray⟩:Str)==⟨l'.toArray⟩)=qp l l' from by refine U (tN ..) ?_;by_cases h:l=l'<;>simp [h])).trans e) ?_;exact .of_rc (λc c h=>(by injection h)) (λh=>by injection h with h _;refine U h ?_;exact beq_self_eq_true _) (RcAt.str_str _ _ _ _) (RcNeAt.str_str _ _ _ _)
omit hu elems in
theorem VR.eq_bytes {u u'} (e:O (qp (b.toList.map bU) (b'.toList.map bU))=O t):wc A s (.bytes b u) (.bytes b' u') t:=by
 have q:(b.toList==b'.toList)=qp (b.toList.map bU) (b'.toList.map bU):=by
  have:(b.toList.map bU=b'.toList.map bU)↔b.toList=b'.toList:=⟨λh=>List.map_inj_right (λc c h=>UInt8.toNat_inj.mp h)|>.mp h,λh=>U h rfl⟩;refine U (tN ..) ?_;by_cases h:b.toList=b'.toList
  .refine U (decide_eq_true (this.mpr h)) (U h ?_);exact beq_self_eq_true _
  .refine U (decide_eq_false λh'=>h (this.mp h')) ?_;exact beq_eq_false_iff_ne.mpr h
 exact so (p:=λt=>wc A s (.bytes b u) (.bytes b' u') t) ((congrArg O q).trans e) (.of_rc (λc c h=>(by injection h)) (λh=>by injection h with h _;refine U h ?_;exact beq_self_eq_true _) (E8 _ _ _ _) (Ca _ _ _ _))
theorem Wj (hb:VR X s.heap w h.n b y) (e:oY h (m+1) di b=O t):wc A s .none y t:=by
 induction hb using Mine.VR.casesOn with
 |none=>exact so e (.of_rc (λc c h=>(by injection h)) (λc=>rfl) RcAt.none_none RcNeAt.none_none)
 |nat k u=>exact so e (.diff rfl (λh=>(by injection h)) (RcAt.none_int _ _) (RcNeAt.none_int _ _))
 |neg k u=>exact so e (.diff rfl (λh=>(by injection h)) (RcAt.none_int _ _) (RcNeAt.none_int _ _))
 |tup xs a items ep f ht d hn hv=>exact so e (.diff rfl (λh=>(by injection h)) (RcAt.none_tuple (IsTuple.of d) hu) (RcNeAt.none_tuple (IsTuple.of d) hu))
 |_=>exact fn e
theorem RZ (d:VR X s.heap w h.n ⟨2,c,k,[],[]⟩ (.int i u)) {y} {t} (hb:VR X s.heap w h.n b y) (e:oY h (m+1) ⟨2,c,k,[],[]⟩ b=O t):wc A s (.int i u) y t:=by
 induction hb using Mine.VR.casesOn with
 |none=>exact so e (.diff rfl (λh=>(by injection h)) (RcAt.int_none _ _) (RcNeAt.int_none _ _))
 |nat k u=>exact so e (.ints d (.nat k u) rfl rfl)
 |neg k u=>exact so e (.ints d (.neg k u) rfl rfl)
 |tup xs a items ep g ht f hn hv=>exact so e (.diff rfl (λh=>(by injection h)) (RcAt.int_tuple _ _ (IsTuple.of f) hu) (RcNeAt.int_tuple _ _ (IsTuple.of f) hu))
 |_=>exact fn e
theorem Wk {items:Array Value} (c:s.heap.get? a=O (gh items ep)) (hv:ef X s.heap w h.n xs items.toList) {t:Bool} (hb:VR X s.heap w h.n b y) (e:oY h (m+1) (dK xs) b=O t):wc A s (.ref a) y t:=by
 induction hb using Mine.VR.casesOn with
 |none=>exact so e (.diff rfl (λh=>(by injection h)) (RcAt.tuple_none (IsTuple.of c) hu) (RcNeAt.tuple_none (IsTuple.of c) hu))
 |nat k u=>exact so e (.diff rfl (λh=>(by injection h)) (RcAt.tuple_int _ _ (IsTuple.of c) hu) (RcNeAt.tuple_int _ _ (IsTuple.of c) hu))
 |neg k u=>exact so e (.diff rfl (λh=>(by injection h)) (RcAt.tuple_int _ _ (IsTuple.of c) hu) (RcNeAt.tuple_int _ _ (IsTuple.of c) hu))
 |tup ys b d i j l f o g=>exact Kv hu elems c f hv g e
 |_=>exact fn e
theorem Wl (k:St X w h s) (hb:VR X s.heap w h.n b y) (e:oY h (m+1) (bP i) b=O t):wc A s (.ref (w.ρ i)) y t:=by
 induction hb using Mine.VR.casesOn with
 |ref j C=>
  exact aL (pX (show(aB au (λx=>aB au (λy=>Zv (oY h m) x y) (HT.get h.l j)) (HT.get h.l i):Option Bool)=O t from e)) λp e q=>aL (pX e) λr e u=>aC (dM e) λe v=>aC (dM e) λe o=>jK ((k.rep i p q).2.lY (aH o)) λitems ep z d d hv=>jK ((k.rep j r u).2.lY ((aH v).symm.trans (aH o))) λc B f d d g=>HR hu elems z f hv g e
 |_=>exact fn e
theorem Ky (d:St X w h s) (f:VR X s.heap w h.n a x) (hb:VR X s.heap w h.n b y) (e:oY h (m+1) a b=O t):wc A s x y t:=by
 induction f using Mine.VR.casesOn with
 |none=>exact Wj hu elems hb e
 |bool a=>
  induction hb using Mine.VR.casesOn with
  |bool b=>exact VR.Kw e
  |_=>exact fn e
 |nat k u=>exact RZ hu elems (.nat k u) hb e
 |neg k u=>exact RZ hu elems (.neg k u) hb e
 |str l u hn=>
  induction hb using Mine.VR.casesOn with
  |str o g c=>exact VR.Oc e
  |_=>exact fn e
 |bytes b u hn=>
  induction hb using Mine.VR.casesOn with
  |bytes p g c=>exact VR.eq_bytes e
  |_=>exact fn e
 |tup xs a items ep q ht j hn hv=>exact Wk hu elems j hv hb e
 |ref i hi=>exact Wl hu elems d hb e
 |_=>exact fn ((show oY h (m+1) _ b=au from by induction hb using Mine.VR.casesOn<;>rfl).symm.trans e)
end
theorem Kz (d:St X w h s):∀m A,A.units+m+200<=9900->∀a b x y t,VR X s.heap w h.n a x->VR X s.heap w h.n b y->oY h m a b=O t->wc A s x y t:=by
 intro m
 induction m with
 |zero=>
  intro _ _ _ _ _ _ _ _ _ e;exact fn e
 |succ m f=>
  intro A c _ _ _ _ _ g hb e;exact Ky (S6 c) (f A.in1 ((congrArg (·+200<=9900) (Nat.succ_add A.units m)).mpr c)) d g hb e
end
end
section
open PyProof.Rows PySem.Calls
def sV (X:dz) (w:Wd) (m:Nat) (s:Shared) (k:Bool->ae7->Option Res) (res:Res) (Q:Bool->Shared->Prop):Prop:=
 ∀w' h' s' c,St X w' h' s'->Ext X cV w m s w' h'.n s'->k c h'=O res->Q c s'
def KA (X:dz) (w:Wd) (m:Nat) (s:Shared) (k:List V->ae7->Option Res) (res:Res) (Q:List Value->Shared->Prop):Prop:=
 ∀w' h' s' vs ys,St X w' h' s'->Ext X cV w m s w' h'.n s'->ef X s'.heap w' h'.n vs ys->k vs h'=O res->Q ys s'
def j0 (X:dz) (r:Ap) (n b:Nat) (ns:List (Str×aN)) (t:XT) (x:Expr):Prop:=
 ∀A,fO n b A->∀env ρ w h s,St X w h s->eX X env ns ρ w h.n s->∀k res,t.f r ρ h k=O res->∀Q:Bool->Shared->Prop,sV X w h.n s k res Q->cG (model X.prog X.w) A (isTrue x env (eval x env)) Q (λu_ u_=>False) s
def nO (X:dz) (b:Nat) (f:V->V->M Bool) (op:CmpOp):Prop:=
 ∀A n,fO n b A->∀w h s,St X w h s->∀u v x y,VR X s.heap w h.n u x->VR X s.heap w h.n v y->∀k res,f u v h k=O res->∀Q:Value->Shared->Prop,sV X w h.n s k res (λc=>Q (.bool c))->wpAny (model X.prog X.w) A (compareOp op x y) Q (λu_ u_=>False) s
def KC (X:dz) (b:Nat):Prop:=
 ∀A n,fO n b A->∀w h s,St X w h s->∀v x,VR X s.heap w h.n v x->∀k res,truth v h k=O res->∀Q:Bool->Shared->Prop,sV X w h.n s k res Q->wpAny (model X.prog X.w) A (truthy x) Q (λu_ u_=>False) s
def AE (X:dz) (r:Ap) (n b:Nat) (ns:List (Str×aN)) (l:XL) (xs:List Expr):Prop:=
 ∀A,fO n b A->∀env ρ w h s,St X w h s->eX X env ns ρ w h.n s->∀k res,l.f r ρ h k=O res->∀pos (Q:List Value->Shared->Prop),KA X w h.n s k res Q->cG (model X.prog X.w) A (spliced (backTo pos (starEach xs env))) Q (λu_ u_=>False) s
section
variable {X:dz} {r:Ap} {n b:Nat} {ns:List (Str×aN)} {w w':Wd} {h h':ae7} {m m':Nat} {s s':Shared} {res:Res}
theorem sV.ext (g:sV X w m s k res Q) (x:Ext X cV w m s w' m' s'):sV X w' m' s' k res Q:=λd f i c a b e=>g d f i c a (x.trans b) e
theorem cQ.const c z p:cQ X r n b ns (JT c) (.Constant c z p):=by
 intro A _ env ρ w h s d he k res e Q g
 induction c using lS with
 |none=>exact λa a a a=>g.here d .none e
 |bool c=>exact λa a a a=>g.here d (.bool c) e
 |int i=>exact λa a a a=>g.tok d (VR.mw i s.toks) e
 |str x=>
  have e:(ah fm (xC (vStr x.cps.toList)) (bQ (len x.cps.toList) 1000000):XE).f r ρ h k=O res:=e
  induction hl:bQ (len x.cps.toList) 1000000 using zB with
  |false=>rw [hl] at e;exact fn e
  |true=>
   rw [hl] at e;have e:=e;have hn:=aA hl;rw [len_eq] at hn;exact λa a a a=>g.tok d (y:= .str x s.toks) (VR.str x.cps.toList s.toks hn) e
 |bytes x=>
  have e:(ah fm (xC (fk (l5 bU x))) (bQ (len x) 1000000):XE).f r ρ h k=O res:=e
  induction hl:bQ (len x) 1000000 using zB with
  |false=>rw [hl] at e;exact fn e
  |true=>
   rw [hl] at e;have e:k (fk (l5 bU x)) h=O res:=e;have hn:=aA hl;rw [len_eq] at hn;rw [p9] at e;exact λa a a a=>g.tok d (y:= .bytes x.toArray s.toks) (VR.bytes x.toArray s.toks hn) e
 |_=>exact fn e
theorem cQ.bin (j:qZ X b f op) pos (hx:cQ X r n b ns x l) (hy:cQ X r n b ns y r'):cQ X r n b ns (yI f x y) (.BinOp l op r' pos):=by
 intro A a env ρ w h s o he k res e Q p;exact HM (hx A a env ρ w h s o he _ res e _ λq h1 t u z c g hu B=>(hy A a env ρ q h1 t c (he.ext g) _ res B _ λC h2 D v E d i hv F=>eU (j A n a C h2 D d u v z E (hu.mono i.dW) hv k res F Q (p.ext (g.trans i)))))
theorem cQ.cmp (p:nO X b f op) pos (hm:qF op r'=aj) (hx:cQ X r n b ns x l) (hy:cQ X r n b ns y r'):cQ X r n b ns (BW f x y) (.Compare l [op] [r'] pos):=by
 intro A a env ρ w h s q he k res e Q t;refine B7 (hx A a env ρ w h s q he _ res e _ λz h1 B u C d j hu D=> ?_) hm;exact hy A a env ρ z h1 B d (he.ext j) _ res D _ λE h2 F v G g o hv I=>eU (p A n a E h2 F g u v C G (hu.mono o.dW) hv _ res I Q λJ K L c i M P=>(t J K L _ _ i ((j.trans o).trans M) (.bool c) P))
theorem j0.cmp (p:nO X b f op) pos (hm:qF op r'=aj) (hx:cQ X r n b ns x l) (hy:cQ X r n b ns y r'):j0 X r n b ns (EX f x y) (.Compare l [op] [r'] pos):=by
 intro A a env ρ w h s q he k res e Q t;refine sG (hx A a env ρ w h s q he _ res e _ λz h1 B u C d j hu D=> ?_) hm;exact hy A a env ρ z h1 B d (he.ext j) _ res D _ λE h2 F v G g o hv I=>eU (p A n a E h2 F g u v C G (hu.mono o.dW) hv _ res I _ λJ K L c i M P=>(eU<|gI (t J K L c i ((j.trans o).trans M) P)))
theorem neg_eq c:neg c= !c:=by rcases c<;>rfl
theorem j0.not pos (hx:j0 X r n b ns t x):j0 X r n b ns (V4 t) (.UnaryOp .Not x pos):=by
 intro A f env ρ w h s g he k res e Q i;refine yR (hx A f env ρ w h s g he _ res e _ λj h1 l c d o a=> ?_);have a:k (neg c) h1=O res:=a;rw [neg_eq] at a;exact i j h1 l _ d o a
theorem cQ.ite pos (ht:j0 X r n b ns t te) (hx:cQ X r n b ns x a) (hy:cQ X r n b ns y c):cQ X r n b ns (VY t x y) (.IfExp te a c pos):=by
 intro A g env ρ w h s p he k res e Q i;refine HN (ht A g env ρ w h s p he _ res e _ λj h1 l c d f o=> ?_)
 induction c using zB with
 |true=>exact hx A g env ρ j h1 l d (he.ext f) k res o Q (i.ext f)
 |false=>exact hy A g env ρ j h1 l d (he.ext f) k res o Q (i.ext f)
theorem j0.ofE (f:KC X b) (hx:cQ X r n b ns x a) (hi:∀env,isTrue a env (eval a env)=(do let v<-eval a env;standAt a.pos;holding [v] (truthy v))):j0 X r n b ns (tE x) a:=by
 intro A d env ρ w h s g he k res e Q i;exact U (hi ..) (ay (hx A d env ρ w h s g he _ res e _ λj h1 l u o c p hu q=>(ay (bG (bh (eU (f A n d j h1 l c u o hu k res q Q (i.ext p))))))))
theorem AE.nil:AE X r n b ns kh []:=by
 intro A _ env ρ w h s a he k res e pos Q c;exact aO (c w h s [] [] a .refl .nil e)
theorem AE.cons (f:br a=aj) (hx:cQ X r n b ns x a) (hl:AE X r n b ns l as):AE X r n b ns (dR x l) (a::as):=by
 intro A o env ρ w h s t he k res e pos Q y;have d:starEach (a::as) env=(aj,eval a env)::starEach as env:=by rcases a<;>first|rfl|exact ft f
 refine U d ((?_:cG _ _ (eval a env>>=λv=>pure [v]>>=λc=>holding c (spliced (backTo pos (starEach as env)))>>=λr=>pure (c++r)) _ _ s));exact ay (hx A o env ρ w h s t he _ res e _ λz h1 B u G g p hu C=>(ay (aO (ay (bh (hl A o env ρ z h1 B g (he.ext p) _ res C pos _ λD h2 E vs ys i q j F=>aO (y D h2 E _ _ i (p.trans q) (.cons _ _ _ _ (hu.mono q.dW) j) F)))))))
end
end
section
open PyProof.Rows PySem.Calls PySem.SeqAt
section
variable {X:dz} {w:Wd} {h:ae7} {s:Shared} {A:Around}
theorem Od {kd:KD X} {kb} (hm:iV (uL kd (g:=s.heap) (w:=w) (n:=n)) m kb)
 (k:∀a b x y t,VR X s.heap w n a x->VR X s.heap w n b y->f a b=O t->wc A s x y t) {ka} (hk:iV (uL kd (g:=s.heap) (w:=w) (n:=n)) kvs ka):
 ∀{t},JF f m kvs=O t->W.KeqHits A s kb ka t:=by
 induction hk with
 |nil=>intro t e;injection e with hq;subst hq;exact .nil
 | @cons p q l l' hp _ ih=>
  intro t e;refine aL (pX (show(aB au (λo=>aB (O aj) (λu=>aB au (λt=>aB au (λu=>O (ah aj u t)) (JF f m l)) (f p.2 u)) o) (iU p.1 m):Option Bool)=O t from e)) λo e r=>fE hp.kr λy hy=> ?_;have hd:=Kr hy hp.t hm r;obtain⟨qk,E⟩:=q;have c:kd.of p.1=qk:=hp.key
  induction o using zO with
  |none=>
   injection e with hq;subst hq
   rw [c] at hd;exact .miss hd
  |some u=>
   refine dN hd λz hz v=> ?_;rw [c] at hz;refine aL (pX e) λd e B=>aL (pX e) λC e D=> ?_;have ht:t=(d&&C):=by have:=aF e;refine cL this ?_;rcases d<;>rfl
   exact U ht (.hit hz (k _ _ _ _ _ hp.val v B).eq (ih D))
theorem uM (e:HE t kvs=H) (d:gU X s.heap w n kvs es):∀p∈kvs,p.1.t=t:=by
 induction kvs using zL with
 |nil=>intro p hp;nomatch hp
 |cons q l=>
  refine fE d.kind λc a=> ?_;intro p hp;exact U ((a p hp).1) (cL ((a q aE).1) (U (aH e) rfl))
theorem jM {a i:Nat} (hs:St X w h s) (hbase:10<=X.h₀.objs.size) (hr:w.role a=O i):(a==ly)=false:=by
 have:=(hs.lim a i hr).2.1;have h1:a≠1:=by lia
 exact beq_eq_false_iff_ne.mpr h1
section
variable (hs:St X w h s) (hbase:10<=X.h₀.objs.size) (hA:A.units+300<=9900) {i j:Nat} {kvs E9:List (V×V)} {es Wm:Array aV} {ep Ku:Nat} (hr:w.role (w.ρ i)=O i) (hg:s.heap.get? (w.ρ i)=O (cJ es ep)) (hd:gU X s.heap w h.n kvs es.toList)
 (hr2:w.role (w.ρ j)=O j) (KG:s.heap.get? (w.ρ j)=O (cJ Wm Ku)) (hd2:gU X s.heap w h.n E9 Wm.toList) (kd:KD X) (h1:∀p∈kvs,p.1.t=kd.t) (h2:∀p∈E9,p.1.t=kd.t) {t:Bool}
include hs hbase hA hr hg hd hr2 KG hd2 h1 h2
theorem DB (e:(ah (O aj) (JF (oY h 60) E9 kvs) (ak (len kvs) (len E9)):Option Bool)=O t):
 (Q (.bool t) s->wpAny (model X.prog X.w) A (compareOp .Eq (.ref (w.ρ i)) (.ref (w.ρ j))) Q (λa a=>False) s)/\(Q (.bool (!t)) s->wpAny (model X.prog X.w) A (compareOp .NotEq (.ref (w.ρ i)) (.ref (w.ρ j))) Q (λa a=>False) s):=by
 have hu:A.units<cLine:=aQ (show A.units<9900 by exact Nat.lt_of_add_right_lt hA) (of_decide_eq_true rfl);refine aL (hd.dictOf (kd:=kd) hg h1) λd g k=>aL (hd2.dictOf (kd:=kd) KG h2) λf l o=> ?_;have c:∀v,(d.length=f.length->W.KeqHits A.in1 s f d v)->(d.length==f.length&&v)=t->_:=λv hv hb=>
  (⟨λq=>W.keq_eq (jM hs hbase hr) (jM hs hbase hr2) g l hu hv (U hb q),λq=>W.keq_ne (jM hs hbase hr) (jM hs hbase hr2) g l hu hv (U hb q)⟩:
   (Q (.bool t) s->wpAny (model X.prog X.w) A (compareOp .Eq (.ref (w.ρ i)) (.ref (w.ρ j))) Q (λa a=>False) s)/\(Q (.bool (!t)) s->wpAny (model X.prog X.w) A (compareOp .NotEq (.ref (w.ρ i)) (.ref (w.ρ j))) Q (λa a=>False) s))
 rw [len_eq,len_eq,k.length,o.length] at e;refine sE e (λhl e=> ?_) λhl e=> ?_
 .exact c t (λa=>Od (kd:=kd) (A:=A.in1) o (Kz hs 60 A.in1 (aI (jP (m:=300) (n:=261) (aA rfl) A.units) hA)) k e) (U (aH hl) (U (beq_self_eq_true ..) rfl))
 .exact c H (λq=>absurd q (fU hl)) (U (beq_eq_false_iff_ne.mpr (fU hl)) (aF e))
end
theorem xV (hd:gU X s.heap w n kvs es) (hd2:gU X s.heap w n E9 Wm) (q:(ah aj (HE k E9) (HE k kvs):Bool)=H):(∀p∈kvs,p.1.t=k)/\(∀p∈E9,p.1.t=k):=⟨uM (bT q).1 hd,uM (bT q).2 hd2⟩
theorem S7 (hbase:10<=X.h₀.objs.size) (hs:St X w h s) (hA:A.units+300<=9900) (hi:h.l.get i=O o) (f:h.l.get j=O o') (ht:o.t=2) (e:RA (oY h 60) o o'=O t):
 (Q (.bool t) s->wpAny (model X.prog X.w) A (compareOp .Eq (.ref (w.ρ i)) (.ref (w.ρ j))) Q (λa a=>False) s)/\(Q (.bool (!t)) s->wpAny (model X.prog X.w) A (compareOp .NotEq (.ref (w.ρ i)) (.ref (w.ρ j))) Q (λa a=>False) s):=by
 refine aC (dM e) λe c=>iY ((hs.rep i o hi).2.kP ht) λes ep a hr hg hn hd=>iY ((hs.rep j o' f).2.kP (aH c)) λWm Ku a hr2 KG g hd2=>sE e (λh2 e=> ?_) λa e=> ?_
 .exact DB hs hbase hA hr hg hd hr2 KG hd2 (yV X) (xV hd hd2 h2).1 (xV hd hd2 h2).2 e
 .exact aC (dM e) λe d=>DB hs hbase hA hr hg hd hr2 KG hd2 (DA X) (xV hd hd2 d).1 (xV hd hd2 d).2 e
end
section
variable {X:dz} {b:Nat}
theorem dj (e:look v h k=O r):v.t=6/\∃o,h.l.get v.n=O o/\k o h=O r:=aC (dM e) λe a=>dN (pX e) λo c d=>yw (aH a) o c d
theorem GA (hbase:10<=X.h₀.objs.size) (hA:fO n b A) (hs:St X w h s) (hu:VR X s.heap w h.n u x) (hv:VR X s.heap w h.n v y)
 (e:Ju u v h k=O res):∃t,k t h=O res/\∀Q:Value->Shared->Prop,(Q (.bool t) s->wpAny (model X.prog X.w) A (compareOp .Eq x y) Q (λc c=>False) s)/\(Q (.bool (!t)) s->wpAny (model X.prog X.w) A (compareOp .NotEq x y) Q (λc c=>False) s):=by
 have z:A.units+400<=9900:=hA.u rfl;have a:lift (oY h 60 u v) h k=O res->∃t,k t h=O res/\∀Q:Value->Shared->Prop,(Q (.bool t) s->wpAny (model X.prog X.w) A (compareOp .Eq x y) Q (λc c=>False) s)/\(Q (.bool (!t)) s->wpAny (model X.prog X.w) A (compareOp .NotEq x y) Q (λc c=>False) s):=by
  intro e;refine dN (bC e) λt f g=> ?_;have r:=Kz hs 60 A (by lia) u v x y t hu hv f;exact bW t g (λQ=>⟨λq=>r.rc X.prog X.w _ Q q,λq=>r.ne X.prog X.w _ Q q⟩)
 unfold Ju at e
 induction l:ak u.t 6 using zB with
 |false=>rw [l] at e;exact a e
 |true=>
  rw [l] at e;refine dF (dj e) λo e c B=> ?_
  induction h2:ak o.t 2 using zB with
  |false=>simp only [h2] at e;exact a e
  |true=>
   simp only [h2] at e;refine dF (dj e) λo' e m p=>dN (bC e) λt f g=>gb (hu.eu (aH l)) λd=> ?_;subst d;intro _;refine gb (hv.eu m) λd=> ?_;subst d;intro _;exact bW t g (λQ=>S7 hbase hs (by lia) B p (aH h2) f)
theorem S8 (hbase:10<=X.h₀.objs.size):nO X b Ju .Eq:=by
 intro A n hA w h s hs u v x y hu hv k res e Q a;exact aL (GA hbase hA hs hu hv e) λt q c=>(q Q).1 (a w h s t hs .refl c)
theorem S9 (hbase:10<=X.h₀.objs.size):nO X b RG .NotEq:=by
 intro A n hA w h s hs u v x y hu hv k res e Q c;refine aL (GA hbase hA hs hu hv e) λt q a=> ?_;rw [neg_eq] at a;exact(q Q).2 (c w h s _ hs .refl a)
theorem tQ (l:VR X g w n a x) (m:VR X g w n c y) (o:ak a.t 2=H) (r:ak c.t 2=H):wV a c=decide (dS a<dS c):=by
 have d:∀q:Bool,(q=H↔dS a<dS c)->q=decide (dS a<dS c):=λq h=>by
  induction q using zB with
  |true=>exact(decide_eq_true (h.mp rfl)).symm
  |false=>exact(decide_eq_false λe=>ff (h.mpr e)).symm
 refine d _ ?_;unfold wV;rcases l.E6 o with⟨p,q⟩|⟨p,z,q⟩<;>rcases m.E6 r with⟨f,k⟩|⟨f,u,k⟩<;>refine U p (U f (U q (U k ?_)))
 .show bI a.n c.n=H↔_;refine U cH ?_;simp
 .show aj=H↔_;simp<;>lia
 .show H=H↔_;simp<;>lia
 .show bI c.n a.n=H↔_;refine U cH ?_;lia
theorem KH:∀a c:List Nat,NN a c=decide (a<c):=by
 intro a
 induction a with
 |nil=>
  intro c
  induction c using zL<;>rfl
 |cons a r d=>
  intro c;rcases c with _|⟨c,q⟩
  .rfl
  refine(?_:(ah (bI a c) (NN r q) (ak a c):Bool)=_)
  induction hb:ak a c using zB with
  |true=>
   have:=aH hb;refine cL this ((?_:NN r q=_));refine U (d q) ?_;simp [List.cons_lt_cons_iff]
  |false=>
   refine(?_:bI a c=_);rw [Bool.eq_iff_iff,cH,decide_eq_true_iff,List.cons_lt_cons_iff]
   constructor
   .exact λh=> .inl h
   .rintro(h|⟨h,_⟩)
    .exact h
    .exact absurd h (fU hb)
end
end
section
section
variable {M:Model} {A:Around} {α:Type} {a b:Sem α} {Q:α->Shared->Prop} {E:Value->Shared->Prop} {s:Shared}
end
end
section
open PyProof.Rows PySem.Calls PySem.SeqAt
structure KI (X:dz) (A:Around) (s:Shared) (x y:Value) (t:Bool):Prop where
 lt:∀Q:Value->Shared->Prop,Q (.bool t) s->wpAny (model X.prog X.w) A (compareOp .Lt x y) Q (λu_ u_=>False) s
 gt:∀Q:Value->Shared->Prop,Q (.bool t) s->wpAny (model X.prog X.w) A (compareOp .Gt y x) Q (λu_ u_=>False) s
 le:∀Q:Value->Shared->Prop,Q (.bool (!t)) s->wpAny (model X.prog X.w) A (compareOp .LtE y x) Q (λu_ u_=>False) s
 ge:∀Q:Value->Shared->Prop,Q (.bool (!t)) s->wpAny (model X.prog X.w) A (compareOp .GtE x y) Q (λu_ u_=>False) s
section
variable {X:dz} {w:Wd} {h:ae7} {s:Shared}
theorem Fb (a b:Int):decide (a<=b)= !decide (b<a):=(decide_eq_decide.mpr kH.symm).trans decide_not
theorem KI.ints:KI X A s (.int a t) (.int c u) (decide (a<c)) where
 lt:=λQ q=>lt_int q
 gt:=λQ q=>gt_int q
 le:=λQ q=>le_int (U (Fb ..) q)
 ge:=λQ q=>ge_int (U (Fb ..) q)
end
section
variable {X:dz} {w:Wd} {h:ae7} {s:Shared}
theorem KI.strs {a c:List Nat}:KI X A s (.str ⟨a.toArray⟩ t) (.str ⟨c.toArray⟩ u) (decide (a<c)) where
 lt:=λQ q=>PySem.P.lt_str q
 gt:=λQ q=>PySem.P.gt_str q
 le:=λQ q=>PySem.P.le_str q
 ge:=λQ q=>PySem.P.ge_str q
theorem uN (e:xG [] y=O t):y=[]/\t=false:=by
 induction y using zL with
 |nil=>exact⟨rfl,(aF e).symm⟩
 |cons b y=>exact fn e
theorem r6 (e:xG (a::x) y=O t):∃b c,y=b::c/\ak a.t 2=H/\ak b.t 2=H/\((AB a b=H/\xG x c=O t)\/(AB a b=aj/\t=wV a b)):=by
 induction y using zL with
 |nil=>exact fn e
 |cons b y=>
  have e:(ah au (ah au (ah (ah au (ah au (O (wV a b)) (allInts y)) (allInts x)) (xG x y) (AB a b)) (ak b.t 2)) (ak a.t 2):Option Bool)=O t:=e;refine aC (dM e) λe h1=>aC (dM e) λe h2=>lG b y rfl h1 h2 ?_
  induction hq:AB a b using zB with
  |true=>rw [hq] at e;exact .inl ⟨rfl,e⟩
  |false=>
   rw [hq] at e;exact .inr ⟨rfl,(aF ((dM ((dM e).2)).2)).symm⟩
theorem DC {dn:Value->σ} {D:List V->List V->Prop}
 (r:∀u v Q,wpAny (model prog wd) A (eqBool u v) (λc s'=>ah (wpAny (model prog wd) A (richCompare op u v) (λz=>Q (.done (dn z))) E s') (Q (.yield r0) s') c) E s->wpAny (model prog wd) A (f (u,v) r0) Q E s)
 (B:∀ys,D [] ys->R r0 s)
 (i:∀p x ys,D (p::x) ys->∃q y,ys=q::y/\ak p.t 2=H/\ak q.t 2=H/\(AB p q=AB q p->(AB p q=H/\D x y)\/(AB p q=aj/\∀t u,wV p q=decide (dS p<dS q)->wV q p=decide (dS q<dS p)->wpAny (model prog wd) A (richCompare op (.int (dS p) t) (.int (dS q) u)) (λz=>R (dn z)) E s))):
 ∀{xs ys} {g e},ef X s.heap w n xs g->ef X s.heap w n ys e->D xs ys->wpAny (model prog wd) A (forIn (g.zip e) r0 f) R E s:=by
 intro xs
 induction xs with
 |nil=>
  intro ys g e hx hy d;exact U hx.nil_of (av (B ys d))
 |cons p x F=>
  intro ys g e hx hy d;refine sS (i p x ys d) λq y C j k c=> ?_;subst C;refine vP hx.cons_of λa l G o hl=>vP hy.cons_of λb m I hb hm=>fE (o.cS j) λJ h1=>fE (hb.cS k) λK h2=>U G (U I (U h1 (U h2 (U (dO ..) (aq (r _ _ _ ((wc.ints (A:=A) (h1▸o) (h2▸hb) j k).eq prog wd _ _ ?_)))))));rcases c ((tO o hb j k).trans ((decide_eq_decide.mpr ⟨gC,gC⟩).trans (tO hb o k j).symm)) with⟨hq,d⟩|⟨hq,c⟩
  .exact U hq (F hl hm d)
  .exact U hq (fZ (c J K (tQ o hb j k) (tQ hb o k j)) (λz s' h=>av h) λL L h=>h)
theorem ef.sizes {items a:Array Value} (c:ef X g w n xs items.toList) (d:ef X g w n ys a.toList) (h:xs.length=ys.length):items.size=a.size:=(c.length.symm.trans h).trans d.length
theorem DE {prog:Program} {j:World} {A:Around} {E:Value->Shared->Prop} {P:PySem.Fin->Shared->Prop} {a b:Addr} {items d:Array Value} {ep g:Nat} {xs ys:List V} {n:Nat} {t:Bool}
 (hx:s.heap.get? a=O (gh items ep)) (hy:s.heap.get? b=O (gh d g)) (l:ef X s.heap w n xs items.toList) (m:ef X s.heap w n ys d.toList) (e:xG xs ys=O t) (i:xs.length=ys.length)
 (h:P (.done (.ret (.bool t))) s):wpAny (model prog j) A (Builtin.«tuple.__lt__» ⟨[.ref a,.ref b],[]⟩) P E s:=by
 refine(?_:wpAny _ _ (isInstance (.ref b) (.type "tuple")>>=_) _ _ s);refine bq (fK (T:="tuple") (bW _ hy rfl) isSubtype_tuple_tuple) (NC (bq (pY hx rfl) (bq (pY hy rfl) (aq (DC (op:= .Lt) (D:=λx y=>xG x y=O t) (dn:=λz=>(O (.done (.ret z)),())) ?_ (λy e=> ?_) (λp x y e=> ?_) l m e)))))
 .exact λu v Q h=>aq (fZ h (λc s' q=>by
   induction c using zB with
   |true=>exact av q
   |false=>exact aq (fj (aq (fZ q (λz o h=>av h) λf f h=>h)))) λf f h=>h)
 .exact av (U (l.sizes m i) ((congrArg (λc=>P (.done (.ret (.bool c))) s) ((decide_eq_false (j7 _)).trans (uN e).2.symm)).mpr h))
 .exact sS (r6 e) λq y h1 r B c=>lG q y h1 r B (λf=>c.imp (λh=>h) λk=>⟨k.1,λC u h1 f=>lt_int (prog:=prog) (w:=j) (A:=A) (cL h1 (cL k.2 (av h)))⟩)
theorem DF {items items2}
 (hx:s.heap.get? a=O (gh items ep)) (hy:s.heap.get? b=O (gh items2 Ku)) (i:ef X s.heap w n xs items.toList) (j:ef X s.heap w n ys items2.toList) (e:xG ys xs=O t) (g:xs.length=ys.length)
 (h:P (.done (.ret (.bool (!t)))) s):wpAny (model prog wd) A (Builtin.«tuple.__le__» ⟨[.ref a,.ref b],[]⟩) P E s:=by
 refine(?_:wpAny _ _ (isInstance (.ref b) (.type "tuple")>>=_) _ _ s);refine bq (fK (T:="tuple") (bW _ hy rfl) isSubtype_tuple_tuple) (NC (bq (pY hx rfl) (bq (pY hy rfl) (aq (DC (op:= .LtE) (D:=λx y=>xG y x=O t) (dn:=λz=>(O (.done (.ret z)),())) ?_ (λy e=> ?_) (λp x y e=> ?_) i j e)))))
 .exact λu v Q h=>aq (fZ h (λc s' q=>by
   induction c using zB with
   |true=>exact av q
   |false=>exact aq (fj (aq (fZ q (λz l h=>av h) λf f h=>h)))) λf f h=>h)
 .refine av (U (i.sizes j g) ?_);have ht:t=false:=by
   induction y using zL with
   |nil=>exact(uN e).2
   |cons q y=>exact SH (r6 e) λb m c=>(List.cons_ne_nil _ _ c.1.symm).elim
  exact(congrArg (λc=>P (.done (.ret (.bool c))) s) ((decide_eq_true (bu _)).trans (congrArg (!·) ht.symm))).mpr h
 .induction y using zL with
  |nil=>exact(List.cons_ne_nil _ _ (uN e).1).elim
  |cons q y=>
   refine sS (r6 e) λb m h1 o r c=> ?_;injection h1 with h1 h2
   subst h1;subst h2;exact lG q y rfl r o (λd=>c.imp (λh=>⟨d.trans h.1,h.2⟩) λk=>⟨d.trans k.1,λB u f h2=>le_int (prog:=prog) (w:=wd) (A:=A) (U (Fb ..) (cL h2 (cL k.2 (av h))))⟩)
end
section
variable {X:dz} {w:Wd} {h:ae7} {s:Shared} {b:Nat}
theorem Cb (hu:VR X g w n u x) (hv:VR X g w n v y) (e:HD u v=O t):KI X A s x y t:=by
 refine aC (dM e) λe ht=> ?_;have ht:=aH ht
 induction h2:ak u.t 2 using zB with
 |true=>
  rw [h2] at e;injection e with hq;subst hq
  have c:ak v.t 2=true:=cL ht h2;refine fE (hu.cS h2) λd a=> ?_;subst a;refine fE (hv.cS c) λd a=> ?_;subst a;exact U (tQ hu hv h2 c) .ints
 |false=>
  rw [h2] at e;refine aC (dM e) λe f=> ?_;injection e with e;subst e
  exact dN (hu.qa (aH f)) λk i d=>dN (hv.qa (ht.symm.trans (aH f))) λl j d=>U i (U j (U (KH ..) .strs))
theorem KJ (z:A.units+300<=9900) {x y} (hu:VR X s.heap w n u x) (hv:VR X s.heap w n v y) (e:SK u v=O t):
 (∀Q:Value->Shared->Prop,Q (.bool t) s->wpAny (model X.prog X.w) A (compareOp .Lt x y) Q (λf f=>False) s)/\(∀Q:Value->Shared->Prop,Q (.bool (!t)) s->wpAny (model X.prog X.w) A (compareOp .LtE y x) Q (λf f=>False) s):=by
 have i:A.units<cLine:=aQ (show A.units<9900 by exact Nat.lt_of_add_right_lt z) (of_decide_eq_true rfl);have d:HD u v=O t->(∀Q:Value->Shared->Prop,Q (.bool t) s->wpAny (model X.prog X.w) A (compareOp .Lt x y) Q (λf f=>False) s)/\(∀Q:Value->Shared->Prop,Q (.bool (!t)) s->wpAny (model X.prog X.w) A (compareOp .LtE y x) Q (λf f=>False) s):=
  λe=>let r:=Cb (A:=A) (s:=s) hu hv e;⟨r.lt,r.le⟩
 refine aC (dM e) λe ht=> ?_
 induction h2:ak u.t 2 using zB with
 |true=>rw [h2] at e;exact d (by unfold HD;refine U ht (U h2 ?_);exact e)
 |false=>
  rw [h2] at e
  induction m:ak u.t 3 using zB with
  |true=>
   rw [m] at e;exact d (by unfold HD;refine U ht (U h2 (U m ?_));exact e)
  |false=>
   rw [m] at e;refine aC (dM e) λe o=>gb (dM e) λhl e=> ?_;have hl:=aH hl;rw [len_eq,len_eq] at hl;refine Zs (hu.g9 (aH o)) λa items ep B f f j f p=>Zs (hv.g9 ((aH ht).symm.trans (aH o))) λc l C D f f g f k=>U B (U D ⟨λQ q=> ?_,λQ q=> ?_⟩)
   .exact wpAny_richCompare_same_room (op:= .Lt) (T:="tuple") (bW _ j rfl) (bW _ g rfl) PySem.F.slot_tuple_lt
     (bH PySem.F.slot_tuple_lt (T:="tuple") (bW _ j rfl) PySem.F.entry_tuple_lt (DE j g p k e hl (f7 _ rfl (λe=>(by injection e)) q)) (PySem.F.args_tuple_lt_2 _ _)) i
   .exact wpAny_richCompare_same_room (op:= .LtE) (T:="tuple") (bW _ g rfl) (bW _ j rfl) PySem.F.slot_tuple_le
     (bH PySem.F.slot_tuple_le (T:="tuple") (bW _ g rfl) PySem.F.entry_tuple_le (DF g j k p e hl.symm (f7 _ rfl (λe=>(by injection e)) q)) (PySem.F.args_tuple_le_2 _ _)) i
theorem Tc:nO X b cLt .Lt:=by
 intro A n a w h s c u v x y hu hv k res e Q d;exact dN (bC e) λt f g=>(KJ (a.u rfl) hu hv f).1 Q (d w h s t c .refl g)
theorem Td:nO X b cLe .LtE:=by
 intro A n c w h s d u v x y hu hv k res e Q f;refine aL (bC e) λt a g=> ?_;rw [neg_eq] at a;exact(KJ (c.u rfl) hv hu g).2 Q (f w h s _ d .refl a)
theorem Te:nO X b Zw .Gt:=by
 intro A n g w h s a u v x y hu hv k res e Q c;exact dN (bC e) λt d f=>(Cb (A:=A) (s:=s) hv hu d).gt Q (c w h s t a .refl f)
theorem Tf:nO X b cGe .GtE:=by
 intro A n g w h s c u v x y hu hv k res e Q d;refine aL (bC e) λt a f=> ?_;rw [neg_eq] at a;exact(Cb (A:=A) (s:=s) hu hv f).ge Q (d w h s _ c .refl a)
end
section
variable {X:dz} {b:Nat}
theorem A6 (hu:VR X g w n u x) (e:isNone u=O t):plainIs x .none=H/\(x==dX)=t:=by
 induction hu using Mine.VR.casesOn with
 |none=>injection e with hq;subst hq;exact⟨rfl,rfl⟩
 |nat k u=>injection e with hq;subst hq;exact⟨rfl,rfl⟩
 |neg k u=>injection e with hq;subst hq;exact⟨rfl,rfl⟩
 |bytes c u hn=>injection e with hq;subst hq;exact⟨rfl,rfl⟩
 |tup xs a items ep d ht f hn h=>injection e with hq;subst hq;exact⟨rfl,rfl⟩
 |ref i hi=>injection e with hq;subst hq;exact⟨rfl,rfl⟩
 |_=>exact fn e
theorem none_of (hu:VR X g w n u x) (e:ak u.t 0=H):x= .none:=by
 induction hu using Mine.VR.casesOn with
 |none=>rfl
 |_=>exact nn (aH e) rfl
theorem Tg:nO X b cIs .Is:=by
 intro A n i w h s a u v x y hu hv k res e Q c;refine aC (dM e) λe d=>aL (bC e) λt f g=> ?_;cases none_of hv d;exact aC (A6 hu g) λq p=>wpAny_is_plain p (U q (c w h s t a .refl f))
theorem HS:nO X b JO .IsNot:=by
 intro A n i w h s c u v x y hu hv k res e Q d;refine aC (dM e) λe f=>aL (bC e) λt a g=> ?_;cases none_of hv f;refine aC (A6 hu g) λq p=> ?_;rw [neg_eq] at a;exact wpAny_isNot_plain p (U q (d w h s _ c .refl a))
theorem St.toks (x:St X w h s) t:St X w h {s with toks:=t}:=⟨x.rep,x.lim,x.base,x.size,x.tab⟩
theorem pK t:Ext X F w m s w m {s with toks:=t}:=⟨bu _,bu _,λa a=>rfl,λa a=>rfl,λa a=>rfl,λa a a a a e=>e,rfl,rfl⟩
theorem yW (l:List α):(ah H aj (isNil l):Bool)= !l.isEmpty:=by rcases l<;>rfl
theorem Wn {a c:Type} {xs:List a} {ys:List c} (h:xs.length=ys.length):(!xs.isEmpty)= !ys.isEmpty:=by
 rcases xs<;>rcases ys<;>first|rfl|exact absurd h (aY rfl)
theorem R0 {a:Type} {xs:List V} {items:Array a} (h:xs.length=items.toList.length):(!xs.isEmpty)= !items.isEmpty:=U (Wn h) (U Array.isEmpty_toList rfl)
theorem GB (a:10<=X.h₀.objs.size) (g:St X w h s) (j:w.role (w.ρ i)=O i) (k:s.heap.get? (w.ρ i)=O (cJ es ep)) (hn:es.size<=1000000) (e:gU X s.heap w h.n c es.toList)
 (kd:KD X) (h1:∀p∈c,p.1.t=kd.t) (q:∀t,Q (ah H aj (isNil c)) {s with toks:=t}):wpAny (model X.prog X.w) A (truthy (.ref (w.ρ i))) Q (λl l=>False) s:=by
 refine aL (e.dictOf (kd:=kd) k h1) λo m f=> ?_;have d:c.length=es.size:=U e.all.length (U aM rfl);refine wpAny_truthy_dict (jM g a j) m (by refine cL f.length (U d ?_);lia) ?_;refine cL (Wn f.length) (cL (yW ..) ?_);exact q _
theorem Fc (d:10<=X.h₀.objs.size):KC X b:=by
 intro A n C w h s m v x hv k res e Q z;have g:∀{c t},k c h=O res->Q c {s with toks:=t}:=λ{c t} e=>z w h _ c (m.toks t) (pK t) e;have f:∀{c},k c h=O res->Q c s:=λ{c} e=>z w h s c m .refl e
 induction hv using Mine.VR.casesOn with
 |bool c=>
  refine gI (f ?_);rcases c<;>exact e
 |nat i u=>
  refine truthy_int (f ?_);refine U (show((bf i !=0):Bool)=ah H aj (ak i 0) by rcases i<;>rfl) ?_;exact e
 |neg i u=>exact truthy_int (f e)
 |tup xs a items ep q ht j hn y=>
  have e:k (ah H aj (isNil xs)) h=O res:=e;rw [yW,R0 y.length] at e;exact truthy_tuple (gc _ j rfl ep rfl) (by lia) (g e)
 |ref i hi=>
  refine dF (dj (show look (bP i) h (λo h=>ah (ah au (ah (ah au (k (ah H aj (isNil o.kvs)) h) (HE 3 o.kvs)) (k (ah H aj (isNil o.kvs)) h) (HE 2 o.kvs)) (ak o.t 2)) (k (ah H aj (isNil o.xs)) h) (ak o.t 1))=O res from e)) λo e l B=> ?_;have r:=(m.rep i o B).2;refine sE e (λh1 e=> ?_) λl e=> ?_
  .refine jK (r.lY (aH h1)) λitems ep j l hn hv=> ?_;rw [yW,R0 hv.length] at e;exact wpAny_truthy_list (IsList.of j) (by lia) (g e)
  exact aC (dM e) λe h2=>iY (r.kP (aH h2)) λD ep l q j hn p=>sE e (λh2 e=>GB d m q j hn p (yV X) (uM h2 p) λl=>g e) λl e=>(let⟨h3,e⟩:=dM e;GB d m q j hn p (DA X) (uM h3 p) λl=>g e)
 |_=>exact Mine.fn e
end
set_option backward.match.sparseCases false
section
variable {X:dz} {w:Wd} {s:Shared} {n:Nat}
noncomputable def YG (i:Int):Value->Bool
 | .int j _=>j==i
 |_=>aj
noncomputable def Wo (x:Str):Value->Bool
 | .str y _=>y==x
 |_=>aj
theorem yX f (x y) l:uF f x (y::l)=(f y x||uF f x l):=by
 refine(?_:(ah (uF f x l) H (f y x):Bool)=_);rcases f y x<;>rfl
theorem wg (e:qx t (y::l)=H):y.t=t/\qx t l=true:=by
 have e:(ah aj (qx t l) (ak y.t t):Bool)=true:=e
 induction h:ak y.t t using zB with
 |false=>rw [h] at e;exact ff e
 |true=>rw [h] at e;exact⟨aH h,e⟩
theorem any_ints (hu:VR X s.heap w n u (.int (dS u) tk)) (h2:ak u.t 2=H) (g:ef X s.heap w n xs ys) (b:qx 2 xs=H):
 (∀y∈ys,EqAt A s y (.int (dS u) tk) (YG (dS u) y))/\ys.any (YG (dS u))=uF AB u xs:=by
 induction xs generalizing ys with
 |nil=>cases g;exact⟨λy hy=>((aU hy).elim),rfl⟩
 |cons v xs i=>
  cases g with
  |cons _ y _ ys hv c=>
   refine aC (wg b) λb d=>gb (i c b) λj k=> ?_;have a:ak v.t 2=true:=U d rfl;refine fE (hv.cS a) λe f=> ?_;subst f;refine⟨λy hy=> ?_, ?_⟩
   .rcases aT.mp hy with rfl|hy
    .exact EqAt.int_int _ _ _ _
    .exact j y hy
   .refine U gi (U (yX ..) (U k (U (tO hv hu a h2) ?_)));have:YG (dS u) (.int (dS v) e)=decide (dS v=dS u):=by
     by_cases h:dS v=dS u<;>exact rfl
    exact U this rfl
theorem KL (f:ef X s.heap w n xs ys) (c:qx 3 xs=H):
 (∀y∈ys,EqAt A s y (.str ⟨l.toArray⟩ tk) (Wo ⟨l.toArray⟩ y))/\ys.any (Wo ⟨l.toArray⟩)=uF sEq (vStr l) xs:=by
 induction xs generalizing ys with
 |nil=>cases f;exact⟨λy hy=>((aU hy).elim),rfl⟩
 |cons v xs g=>
  cases f with
  |cons _ y _ ys hv d=>
   refine aC (wg c) λc e=>gb (g d c) λi j=> ?_
   induction hv using Mine.VR.casesOn with
   |str a b k=>
    refine⟨λy hy=> ?_, ?_⟩
    .rcases aT.mp hy with rfl|hy
     .exact EqAt.str_str _ _ _ _
     .exact i y hy
    .refine U gi (U (yX ..) (U j ((?_:(Wo ⟨l.toArray⟩ (.str ⟨a.toArray⟩ b)||_)=(qp a l||_)))));refine U (tN ..) ?_;have:Wo ⟨l.toArray⟩ (.str ⟨a.toArray⟩ b)=decide (a=l):=by
      refine(?_:((⟨a.toArray⟩:Str)==⟨l.toArray⟩)=_);by_cases h:a=l<;>simp [h]
     exact U this rfl
   |_=>exact nn e rfl
theorem KN (hu:VR X s.heap w n u x) (c:ef X s.heap w n xs ys) (e:VG u xs=O t):∃f:Value->Bool,(∀y∈ys,EqAt A s y x (f y))/\ys.any f=t:=by
 have e:(ah (ah au (ah au (O (uF sEq u xs)) (qx 3 xs)) (ak u.t 3)) (ah au (O (uF AB u xs)) (qx 2 xs)) (ak u.t 2):Option Bool)=O t:=e
 induction h2:ak u.t 2 using zB with
 |true=>
  rw [h2] at e;refine aC (dM e) λe a=> ?_;injection e with e;subst e
  refine fE (hu.cS h2) λtk b=> ?_;subst b;exact⟨YG (dS u),any_ints hu h2 c a⟩
 |false=>
  rw [h2] at e;refine aC (dM e) λe d=>aC (dM e) λe a=> ?_;injection e with e;subst e
  induction hu using Mine.VR.casesOn with
  |str l tk hn=>exact⟨Wo ⟨l.toArray⟩,KL c a⟩
  |_=>exact nn (aH d) rfl
end
set_option backward.match.sparseCases true
section
variable {X:dz} {w:Wd} {h:ae7} {s:Shared} {b:Nat}
theorem l6 (c:St X w h s) {a:Addr} (d:s.heap.objs.size<=a):w.role a=none:=by
 induction e:w.role a using zO with
 |none=>rfl
 |some i=>exact absurd (c.lim a i e).2.2 (bD.mpr d)
theorem St.junk (d:bw X) (f:St X w h s) o t:St X w h {s with heap:=s.heap.push o,toks:=t}/\Ext X cV w h.n s w h.n {s with heap:=s.heap.push o,toks:=t}:=
 f.grow d (F:=cV) (by simp) (λc c h=>h.elim) (λc h=>h.elim) (λa g c e=>az _ e) rfl rfl
theorem St.push (d:bw X) (f:St X w h s) ob o t (g:ob.isFreed=aj)
 v (r:∀c,oZ X s.heap w h.n (s.heap.push ob) c (h.n+1)->c.role (c.ρ h.n)=O h.n->(s.heap.push ob).get? (c.ρ h.n)=O ob->c.ug h.n=v->Rep X (s.heap.push ob) c (h.n+1) h.n o):
 ∃c,St X c ⟨HT.ins o h.l h.n,h.n+1⟩ {s with heap:=s.heap.push ob,toks:=t}/\Ext X cV w h.n s c (h.n+1) {s with heap:=s.heap.push ob,toks:=t}/\c.ρ h.n=s.heap.objs.size:=by
 have q:=f.new d (o:=o) (b:=s.heap.objs.size) (own:=λa=>a==s.heap.objs.size) (ReflBEq.rfl) (s':={s with heap:=s.heap.push ob,toks:=t}) (by simp)
  (λa i=>by have:a=s.heap.objs.size:=(by simpa using i);subst this;simp) (λa j e=>az _ e) rfl rfl v _ rfl (λk h1 h2 m=>r _ k (U h2 h1) (U h2 (aJ _ g)) m)
 exact f7 _ q.1 q.2 (if_pos rfl)
theorem St.newList (d:bw X) (e:St X w h s) (hv:ef X s.heap w h.n xs ys) (hz:ys.length<=1000000) t:
 ∃c,St X c ⟨HT.ins (bL xs) h.l h.n,h.n+1⟩ {s with heap:=s.heap.push (gp ys.toArray 0),toks:=t}/\Ext X cV w h.n s c (h.n+1) {s with heap:=s.heap.push (gp ys.toArray 0),toks:=t}/\c.ρ h.n=s.heap.objs.size:=
 e.push d _ _ t rfl 0 λc k h1 h2 f=> .list xs ys.toArray 0 h1 h2 hz (by simpa using hv.mono k)
theorem St.newTuple (f:bw X) (e:St X w h s) (d:∀a∈X.tabs,a<X.h₀.objs.size) (hv:ef X s.heap w h.n xs ys) (hz:ys.length<=1000000) t:
 St X w h {s with heap:=s.heap.push (gh ys.toArray 0),toks:=t}/\Ext X cV w h.n s w h.n {s with heap:=s.heap.push (gh ys.toArray 0),toks:=t}/\VR X (s.heap.push (gh ys.toArray 0)) w h.n (dK xs) (.ref s.heap.objs.size):=by
 refine aC (e.junk f (gh ys.toArray 0) t) λc a=>iX a c (.tup xs _ ys.toArray 0 (l6 e (bu _)) (λhm=> ?_) (aJ _ rfl) hz (by simpa using hv.mono c.dW));exact absurd (d _ hm) (bD.mpr e.size)
end
section
variable {X:dz} {r:Ap} {n b:Nat} {ns:List (Str×aN)}
theorem nQ (e:oLe (bL xs)=H):xs.length<=1000000:=len_eq xs▸(i6 (aA e):len xs<=1000000)
theorem bx:1000000<=jr:=by decide
theorem cQ.list (o:bw X) pos (hl:AE X r n b ns l xs):cQ X r n b ns (wW l) (.List xs pos):=by
 intro A p env ρ w h s q he k res e Q t;refine ay (bG (ay (hl A p env ρ w h s q he _ res e pos _ λx h1 i vs ys c u hv d=>(aC (dM d) λd hz=> ?_))));have a:=hv.length▸(nQ hz);refine jB (c.newList o hv a i.toks) λj f v g=>eU (dY ?_ (by have:=bx;show ys.toArray.size<=jr;simp;exact aI a this));have m:VR X (i.heap.push (gp ys.toArray 0)) j (h1.n+1) (bP h1.n) (.ref (j.ρ h1.n)):= .ref h1.n (bN _);rw [g] at m;exact t _ _ _ _ _ f (u.trans v) m d
theorem cQ.tuple (j:bw X) (c:∀a∈X.tabs,a<X.h₀.objs.size) z pos (hl:AE X r n b ns l xs):cQ X r n b ns (BZ l) (.Tuple xs z pos):=by
 intro A m env ρ w h s o he k res e Q p;refine ay (bG (ay (hl A m env ρ w h s o he _ res e pos _ λx h1 q vs ys f t hv g=>(gb (dM g) λhz g=> ?_))));have hz:=aA hz;rw [len_eq] at hz;have d:=hv.length▸hz;refine eZ (f.newTuple j c hv d q.toks) λu i v=>eU (dY ?_ (by have:=bx;show ys.toArray.size<=jr;simp;exact aI d this));exact p _ _ _ _ _ i (t.trans u) v g
end
section
variable {X:dz} {b:Nat}
theorem fR (e:gR v h k=O r):v.t=6/\∃o,h.l.get v.n=O o/\o.t=1/\k o.xs h=O r:=dF (dj e) λo e a c=>gb (dM e) λt e=>C7 a o c (aH t) e
theorem DG (e:ET v h k=O r):v.t=6/\∃o,h.l.get v.n=O o/\(o.t=1\/o.t=8)/\k o.xs h=O r:=by
 refine dF (dj e) λo e c d=> ?_
 induction h1:ak o.t 1 using zB with
 |true=>rw [h1] at e;exact C7 c o d (.inl (aH h1)) e
 |false=>
  rw [h1] at e;exact gb (dM e) λf e=>C7 c o d (.inr (aH f)) e
theorem St.listAt (hs:St X w h s) (c:h.l.get i=O o) (ht:o.t=1):∃items ep,s.heap.get? (w.ρ i)=O (gp items ep)/\items.size<=1000000/\ef X s.heap w h.n o.xs items.toList/\w.role (w.ρ i)=O i:=sS ((hs.rep i o c).2.lY ht) λitems ep d e hn hv=>lG items ep e hn hv d
theorem St.Ti (hs:St X w h s) (d:h.l.get i=O o) (ht:o.t=1\/o.t=8):∃items ep,s.heap.get? (w.ρ i)=O (gp items ep)/\items.size<=1000000/\ef X s.heap w h.n o.xs items.toList:=by
 rcases ht with ht|ht
 .exact sS (hs.listAt d ht) λitems ep a b c e=>jY items ep a b c
 .obtain⟨items,ep,_,_,a,b,c⟩:=(hs.rep i o d).2.at_ ht;exact jY items ep a b c
section
variable (ax:bw X) (htab:∀a∈X.tabs,a<X.h₀.objs.size) {A:Around} {w:Wd} {h:ae7} {s:Shared} (hs:St X w h s) {u v:V} {x y:Value} (hu:VR X s.heap w h.n u x) (hv:VR X s.heap w h.n v y) {k:V->ae7->Option Res} {res:Res} {Q:Value->Shared->Prop} (hQ:Goes (PV X) X w h.n s k res Q)
include hs hu hv hQ
theorem Wq (h2:ak u.t 2=H) (e:(ah au (ah (k (mw (Int.add (dS u) (dS v))) h) (k (aX (aG u.n v.n)) h) (ak (aG u.s v.s) 0)) (ak v.t 2):Option Res)=O res):wpAny (model X.prog X.w) A (binaryOp .Add x y) Q (λd d=>False) s:=by
 refine aC (dM e) λe f=>fE (hu.cS h2) λt h1=>fE (hv.cS f) λj c=>U h1 (U c (PyProof.Rows.add_int (sE e (λhz e=> ?_) λd e=>hQ.tok hs (VR.Ko _ rfl) e)));exact gb (jj hz) λg i=>hQ.tok hs (VR.aX _ (by refine U (fc g) (U (fc i) ?_);rfl)) e
theorem Wr (j:ak u.t 4=H) (e:(ah au (kB (app u.l v.l) h k) (ak v.t 4):Option Res)=O res):wpAny (model X.prog X.w) A (binaryOp .Add x y) Q (λm m=>False) s:=by
 refine aC (dM e) λe n=>oE (hu.jL (aH j)) λc t o h1 q=>oE (hv.jL (aH n)) λd g p f r=> ?_;have hb:app u.l v.l=(c++d).toList.map bU:=by refine U (mH ..) (U o (U p ?_));simp
 rw [hb] at e;refine gb (dM e) λhz e=> ?_;have hz:(c++d).size<=1000000:=by simpa [len_eq] using aA hz
 exact U h1 (U f (W.KBy.add_bytes (cL vI (aI hz bx)) λg i=>hQ w h _ _ _ (hs.toks i) (pK i) (VR.bytes (c++d) g hz) e))
omit hs hu hv hQ in
theorem not_nil {items:Array Value} (hv:ef X g w n xs items.toList) (h:isNil xs=aj):¬items.isEmpty=true:=λq=>by
 have e:xs.length=0:=by refine U hv.length (U aM ?_);simpa [Array.isEmpty] using q
 rw [iL.mp e] at h;exact ft h
include ax htab
theorem Ws (p:ak u.t 5=H) (e:(ah au (ah (ah (kT (app u.xs v.xs) h k) au (isNil v.xs)) au (isNil u.xs)) (ak v.t 5):Option Res)=O res):wpAny (model X.prog X.w) A (binaryOp .Add x y) Q (λc c=>False) s:=by
 refine aC (dM e) λe q=>fH (hu.g9 (aH p)) λa items ep r h1 c c hn d=>fH (hv.g9 (aH q)) λE i z j l c c B f=>U h1 (U l (sE e (λc e=>fn e) λC e=>sE e (λc e=>fn e) λD e=>gb (dM e) λhz e=> ?_));have hz:=aA hz;have g:=d.append f;rw [mH] at hz e;rw [len_eq,g.length,<-fQ,aM] at hz;refine PySem.P.add_tuple r j (not_nil d C) (not_nil f D) ?_ (cL vI (aI hz bx));refine iP (hs.newTuple ax htab g (cL fQ (U aM hz)) s.toks) λm n o=> ?_;rw [<-fQ,sq] at n o m;exact hQ _ _ _ _ _ n o m e
omit htab
theorem Wt (e:gR u h (λxs h=>gR v h λys h=>new (bL (app xs ys)) h k)=O res):wpAny (model X.prog X.w) A (binaryOp .Add x y) Q (λf f=>False) s:=by
 refine gQ (fR e) λo e q r t=>gQ (fR e) λo' e z g B=>U ((hu.eu q).1) (U ((hv.eu z).1) (sS (hs.listAt r t) λitems ep C hn i f=>sS (hs.listAt g B) λd D j E l f=>aC (dM e) λe hz=> ?_));have hz:=nQ hz;have c:=i.append l;rw [mH] at hz e;rw [c.length,<-fQ,aM] at hz;refine jB (hs.newList ax c (cL fQ (U aM hz)) s.toks) λG m p F=> ?_;rw [<-fQ,sq] at m p;exact PySem.P.add_list C j (hQ _ _ _ _ _ m p (F▸VR.ref h.n (bN _)) e) (cL vI (aI hz bx))
end
theorem Oe (ax:bw X) (htab:∀a∈X.tabs,a<X.h₀.objs.size):qZ X b VN .Add:=λA n g w h s hs u v x y hu hv k res e Q hQ=>
 sE e (λh2 e=>Wq hs hu hv hQ h2 e) λc e=>sE e (λd e=>Wr hs hu hv hQ d e) λc e=>sE e (λf e=>Ws ax htab hs hu hv hQ f e) λc e=>Wt ax hs hu hv hQ e
end
noncomputable def KO:BoolOp->Bool
 | .And=>H
 | .Or=>aj
section
variable {X:dz} {r:Ap} {n b:Nat} {ns:List (Str×aN)}
theorem cQ.bool (C:KC X b) op pos (hx:cQ X r n b ns x a) (hy:cQ X r n b ns y c):cQ X r n b ns (RJ (KO op) x y) (.BoolOp op [a,c] pos):=by
 intro A i env ρ w h s D he k res e Q j;refine ay (hx A i env ρ w h s D he _ res e _ λE h1 F u q v B hu G=>(ay (bG (ay (bh (eU (C A n i E h1 F v u q hu _ res G _ λl h2 m t d z o=> ?_)))))));have f:=(he.ext B).ext z;have g:=hu.mono z.dW;have p:=B.trans z;rcases op<;>rcases t
 .exact aO (j l h2 m u q d p g o)
 .exact hy A i env ρ l h2 m d f k res o Q (j.ext p)
 .exact hy A i env ρ l h2 m d f k res o Q (j.ext p)
 .exact aO (j l h2 m u q d p g o)
def tR (X:dz) (r:Ap) (n b:Nat) (ns:List (Str×aN)) (op:BoolOp) (t:XT) (xs:List Expr):Prop:=
 ∀A,fO n b A->∀env ρ w h s,St X w h s->eX X env ns ρ w h.n s->∀k res,t.f r ρ h k=O res->∀Q:Bool->Shared->Prop,sV X w h.n s k res Q->cG (model X.prog X.w) A (allTrue op xs env) Q (λu_ u_=>False) s
theorem tR.one (hx:j0 X r n b ns t x):tR X r n b ns op t [x]:=by
 intro A d env ρ w h s f he k res e Q g;refine ay (hx A d env ρ w h s f he k res e _ λi h1 j c a l m=> ?_);have q:=g i h1 j c a l m;rcases op<;>rcases c<;>exact aO q
theorem tR.more (hx:j0 X r n b ns t x) (f:tR X r n b ns op u (y::xs)):tR X r n b ns op (Di (KO op) t u) (x::y::xs):=by
 intro A m env ρ w h s o he k res e Q g;refine ay (hx A m env ρ w h s o he _ res e _ λi h1 j c a d l=> ?_);rcases op<;>rcases c
 .exact aO (g i h1 j _ a d l)
 .exact f A m env ρ i h1 j a (he.ext d) k res l Q (g.ext d)
 .exact f A m env ρ i h1 j a (he.ext d) k res l Q (g.ext d)
 .exact aO (g i h1 j _ a d l)
theorem j0.bools pos (hx:tR X r n b ns op t xs):j0 X r n b ns t (.BoolOp op xs pos):=by
 intro A a env ρ w h s c he k res e Q d;exact uJ (hx A a env ρ w h s c he k res e Q d)
theorem j0.ite {te a c} pos (ht:j0 X r n b ns t te) (hx:j0 X r n b ns u a) (hy:j0 X r n b ns v c):j0 X r n b ns (V5 t u v) (.IfExp te a c pos):=by
 intro A g env ρ w h s o he k res e Q i;refine ay (ht A g env ρ w h s o he _ res e _ λj h1 l q d f m=> ?_)
 induction q using zB with
 |true=>exact hx A g env ρ j h1 l d (he.ext f) k res m Q (i.ext f)
 |false=>exact hy A g env ρ j h1 l d (he.ext f) k res m Q (i.ext f)
end
section
variable {X:dz} {w:Wd} {h:ae7} {s:Shared}
theorem tS (e:iU u b=O o) (d:gU X g w n b es):∀p∈b,p.1.t=u.t:=by
 induction b using zL with
 |nil=>intro p hp;nomatch hp
 |cons q l=>
  refine aL (qc e) λc j i=>fE d.kind λk f=> ?_;intro p hp;exact U ((f p hp).1) (cL ((f q aE).1) (U (yU i) rfl))
def Tj (X:dz) (g:Heap) (w:Wd) (n:Nat) (r:Option Value):Option V->Prop
 |none=>r=au
 |some v=>∃z,r=O z/\VR X g w n v z
end
section
variable {X:dz} {w:Wd} {h:ae7} {s:Shared}
def InR (X:dz) (A:Around) (s:Shared) (x y:Value) (t:Bool) (s':Shared):Prop:=
 ∀Q:Value->Shared->Prop,(Q (.bool t) s'->wpAny (model X.prog X.w) A (compareOp .In x y) Q (λu_ u_=>False) s)/\(Q (.bool (!t)) s'->wpAny (model X.prog X.w) A (compareOp .NotIn x y) Q (λu_ u_=>False) s)
theorem xW (items:Array Value) f:items.any f=items.toList.any f:=by simp
theorem KQ {items} (c:s.heap.get? a=O (gp items ep)) (hu:VR X s.heap w h.n u x) (hv:ef X s.heap w h.n xs items.toList) (e:VG u xs=O t):InR X A s x (.ref a) t s:=by
 intro Q;refine dN (KN (A:=A.in1) hu hv e) λf b ht=> ?_;have hl:s.heap.IsList a items:=gc _ c rfl _ rfl;refine⟨λq=>in_listAt f hl (λy hy=>b y (rS hy)) ?_,λq=>notIn_listAt f hl (λy hy=>b y (rS hy)) ?_⟩
 .refine U (xW ..) (U ht ?_);exact q
 .refine U (xW ..) (U ht ?_);exact q
theorem Og {items} (c:s.heap.get? a=O (gh items ep)) (hu:VR X s.heap w h.n u x) (hv:ef X s.heap w h.n xs items.toList) (e:VG u xs=O t):InR X A s x (.ref a) t s:=by
 intro Q;refine dN (KN (A:=A.in1) hu hv e) λf b ht=> ?_;have hl:s.heap.IsTuple a items:=gc _ c rfl _ rfl;refine⟨λq=>in_tupleAt f hl (λy hy=>b y (rS hy)) ?_,λq=>notIn_tupleAt f hl (λy hy=>b y (rS hy)) ?_⟩
 .refine U (xW ..) (U ht ?_);exact q
 .refine U (xW ..) (U ht ?_);exact q
end
section
variable {X:dz} {w:Wd} {g:Heap} {n:Nat}
theorem j3:∀{xs},allInts xs=H->∀v∈xs,v.t=2:=by
 intro xs
 induction xs with
 |nil=>
  intro _;exact λv hv=>(aU hv).elim
 |cons c l b=>
  intro e;have e:(ah aj (allInts l) (ak c.t 2):Bool)=true:=e
  induction a:ak c.t 2 using zB with
  |false=>rw [a] at e;exact ff e
  |true=>
   rw [a] at e;intro v hv;rcases aT.mp hv with rfl|hv
   .exact aH a
   .exact b e v hv
theorem itemsAre (b:∀v∈xs,v.t=2) (h:ef X g w n xs ys):ItemsAre (intKind X.prog X.w) (xs.map dS) ys:=by
 induction xs generalizing ys with
 |nil=>cases h;exact .nil
 |cons c l d=>
  cases h with
  |cons _ y _ ys hv e=>exact .cons ((yV X).is hv (b c aE)) (d (λv hv=>b v (aD _ hv)) e)
theorem Cc (hu:VR X g w n u x) (ht:u.t=5) (b:allInts u.xs=H):∃a,x= .ref a/\IsTupleKey (intKind X.prog X.w) g (u.xs.map dS) a:=by
 induction hu using Mine.VR.casesOn with
 |tup xs a items ep e hm c hn d=>exact⟨a,rfl,_,items,ep,c,rfl,rfl,itemsAre (j3 b) d⟩
 |_=>exact nn ht rfl
theorem KR:∀{b} {c} {x y},ef X g w n a x->ef X g w n b y->Gk a b=O c->c=decide (a.map dS=b.map dS):=by
 induction a with
 |nil=>
  intro b c x y _ _ e;rcases b with _|⟨b,f⟩
  .injection e with e;subst e;rfl
  .exact fn e
 |cons a l i=>
  intro b c x y hx hy e;rcases b with _|⟨b,f⟩
  .exact fn e
  refine vP hx.cons_of λd d d j hl=>vP hy.cons_of λd d d hb h=> ?_;have e:(ah au (ah au (ah (ah au (ah au (O aj) (allInts f)) (allInts l)) (Gk l f) (AB a b)) (ak b.t 2)) (ak a.t 2):Option Bool)=O c:=e;refine aC (dM e) λe m=>aC (dM e) λe o=> ?_;have k:=tO j hb m o
  induction hn:AB a b using zB with
  |true=>
   rw [hn] at e k;refine U (i hl h e) ?_;simp [show dS a=dS b from of_decide_eq_true k.symm]
  |false=>
   rw [hn] at e k;refine aC (dM e) λe d=>aC (dM e) λe d=> ?_;injection e with e;subst e
   simp [show ¬dS a=dS b from of_decide_eq_false k.symm]
end
section
variable {X:dz} {w:Wd} {g:Heap} {n:Nat}
theorem GC:∀{a b} {x y},ef X g w n a x->ef X g w n b y->(∀v∈a,v.t=2)->(∀v∈b,v.t=2)->a.map dS=b.map dS->a=b:=by
 intro a
 induction a with
 |nil=>
  intro b _ _ _ _ _ _ e;rcases b with _|⟨_,_⟩
  .rfl
  .injection e
 |cons a l f=>
  intro b _ _ c hb h1 h2 e;rcases b with _|⟨b,k⟩
  .injection e
  refine vP c.cons_of λx xs h c hl=>vP hb.cons_of λy ys h hb d=> ?_;injection e with i j
  exact U ((yV X).inj c hb (h1 a aE) (h2 b aE) i) (U (f hl d (λv hv=>h1 v (aD _ hv)) (λv hv=>h2 v (aD _ hv)) j) rfl)
theorem xX (e:isKey a=H):a.t=2\/a.t=3\/a.t=4\/(a.t=5/\allInts a.xs=H):=by
 have e:(ah (ah (ah (ah aj (allInts a.xs) (ak a.t 5)) H (ak a.t 4)) H (ak a.t 3)) H (ak a.t 2):Bool)=true:=e
 induction h2:ak a.t 2 using zB with
 |true=>exact .inl (aH h2)
 |false=>
  rw [h2] at e
  induction c:ak a.t 3 using zB with
  |true=>exact .inr (.inl (aH c))
  |false=>
   rw [c] at e
   induction d:ak a.t 4 using zB with
   |true=>exact .inr (.inr (.inl (aH d)))
   |false=>
    rw [d] at e
    induction b:ak a.t 5 using zB with
    |true=>rw [b] at e;exact .inr (.inr (.inr ⟨aH b,e⟩))
    |false=>rw [b] at e;exact ff e
theorem yY:∀{a b} {c},Gk a b=O c->(∀v∈a,v.t=2)/\(∀v∈b,v.t=2):=by
 intro a
 induction a with
 |nil=>
  intro b c e
  induction b using zL with
  |nil=>exact⟨λf h=>((aU h).elim),λf h=>((aU h).elim)⟩
  |cons=>exact fn e
 |cons a l i=>
  intro b c e;rcases b with _|⟨b,j⟩
  .exact fn e
  refine aC (dM e) λe k=>aC (dM e) λe m=> ?_;have d:(∀v∈l,v.t=2)/\(∀v∈j,v.t=2):=by
   induction hn:AB a b using zB with
   |true=>rw [hn] at e;exact i e
   |false=>
    rw [hn] at e;exact aC (dM e) λe o=>aC (dM e) λe p=>⟨j3 o,j3 p⟩
  refine⟨λv hv=> ?_,λv hv=> ?_⟩
  .rcases aT.mp hv with rfl|hv
   .exact aH k
   .exact d.1 v hv
  .rcases aT.mp hv with rfl|hv
   .exact aH m
   .exact d.2 v hv
theorem keq_eq {x y} (k:VR X g w n a x) (hb:VR X g w n b y) (e:BP a b=O c):c=H↔a=b:=by
 have hk:=yU e;have f:∀kd:KD X,kd.t=a.t->(c=H↔a=b):=by
  intro kd ht;have q:=kd.BP k hb ht.symm (hk.symm.trans ht.symm);have q:O c=O (decide (kd.of a=kd.of b)):=cL q e.symm;have q:=aF q;refine⟨λh=> ?_,λh=> ?_⟩
  .rw [h] at q;exact kd.inj k hb ht.symm (hk.symm.trans ht.symm) (of_decide_eq_true q.symm)
  .rw [h] at q;refine U q ?_;simp
 refine aC (dM e) λe d=>sE e (λh2 d=>f (yV X) (aH h2).symm) λd e=>sE e (λm d=>f (DA X) (aH m).symm) λd e=>sE e (λo d=>f (B8 X) (aH o).symm) λd e=> ?_;clear f;refine gb (dM e) λi e=> ?_;have i:=aH i;refine fH (k.g9 i) λd d d d d d d d l=>fH (hb.g9 (hk.symm.trans i)) λd d d d d d d d j=> ?_;have q:=KR l j e;refine gb (yY e) λp r=>⟨λh=> ?_,λh=> ?_⟩
 .rw [h] at q;exact U (k.Kd i) (U (hb.Kd (hk.symm.trans i)) (U (GC l j p r (of_decide_eq_true q.symm)) rfl))
 .refine U q (U h ?_);exact decide_eq_true rfl
theorem Fd (hu:VR X g w n u x) (hk:∀p∈a,∃y,VR X g w n p.1 y) (e:iU u a=O o):
 (o=au/\∀p∈a,p.1≠u)\/∃(j:Nat) (v:V),o=O v/\a[j]? =O (u,v):=by
 induction a with
 |nil=>exact .inl ⟨A5 e,λp hp=>(aU hp).elim⟩
 |cons p l d=>
  refine aL (qc e) λc e f=>fE (hk p aE) λy hy=> ?_;have q:=keq_eq hu hy f;rcases e with⟨rfl,rfl⟩|⟨rfl,e⟩
  .refine .inr (mZ 0 p.2 rfl ?_);refine U (q.mp rfl) ?_;rfl
  .rcases d (λp hp=>hk p (aD _ hp)) e with⟨h1,h2⟩|⟨j,v,h1,h2⟩
   .refine .inl ⟨h1,λi b=> ?_⟩;rcases aT.mp b with rfl|b
    .exact λh=>ff (q.mpr h.symm)
    .exact h2 i b
   .exact .inr (mZ (j+1) v h1 h2)
theorem KU (e:dput k v []=O d):isKey k=H/\d=[(k,v)]:=aC (dM e) λe a=>⟨a,(aF e).symm⟩
theorem HU (e:dput k v (p::r)=O d):∃c,BP k p.1=O c/\((c=H/\d=(p.1,v)::r)\/(c=aj/\∃f,dput k v r=O f/\d=p::f)):=by
 refine aL (pX (show(aB au (λb=>ah (aB au (λh=>O (p::h)) (dput k v r)) (O ((p.1,v)::r)) b) (BP k p.1):Option (List (V×V)))=O d from e)) λc e i=>bW c i ?_
 induction c using zB with
 |true=>exact .inl ⟨rfl,(aF e).symm⟩
 |false=>
  exact aL (pX e) λf e j=> .inr (yw rfl f j ((aF e).symm))
theorem wh (hu:VR X g w n u x) {a} (hk:∀p∈a,∃y,VR X g w n p.1 y) {d} (e:dput u v a=O d):
 (iU u a=O au/\(∀p∈a,p.1≠u)/\d=a++[(u,v)])\/∃j i,iU u a=O (O i)/\a[j]? =O (u,i)/\d=a.set j (u,v):=by
 induction a generalizing d with
 |nil=>
  refine aC (KU e) λk=> ?_;subst k;intro h1;refine .inl (iX ?_ (λp hp=>((aU hp).elim)) rfl);refine(?_:(ah au (O au) (isKey u):Option (Option V))=_);exact U h1 rfl
 |cons p l s=>
  refine aL (HU e) λc e r=>fE (hk p aE) λy hy=> ?_;have q:=keq_eq hu hy r;have m:iU u (p::l)=(ah (iU u l) (O (O p.2)) c:Option (Option V)):=by
   refine(?_:(aB au (λb=>ah (iU u l) (O (O p.2)) b) (BP u p.1):Option (Option V))=_);exact U r rfl
  rcases e with⟨rfl,rfl⟩|⟨rfl,A,t,rfl⟩
  .refine .inr (jY 0 p.2 m ?_ ?_)
   .refine U (q.mp rfl) ?_;rfl
   .refine U (q.mp rfl) ?_;rfl
  .rcases s (λp hp=>hk p (aD _ hp)) t with⟨o,h1,rfl⟩|⟨j,i,o,h1,rfl⟩
   .refine .inl (iX (m.trans o) (λz f=> ?_) rfl);rcases aT.mp f with rfl|f
    .exact λh=>ff (q.mpr h.symm)
    .exact h1 z f
   .exact .inr (jY (j+1) i (m.trans o) h1 rfl)
theorem iV.S5 (h:iV (qX X g w n) a es):∀p∈a,∃y,VR X g w n p.1 y:=by
 induction h with
 |nil=>intro p hp;nomatch hp
 |cons h _ b=>
  intro p hp;rcases aT.mp hp with rfl|hp
  .exact⟨_,h.key⟩
  .exact b p hp
theorem DH {a:List (V×V)} (hn:(a.map eE).Nodup) {i j:Nat} (hi:a[i]? =O (u,v)) (d:a[j]? =O (u,v')):i=j:=by
 have b:(a.map eE)[i]? =O u:=by refine U k9 (U hi ?_);rfl
 have c:(a.map eE)[j]? =O u:=by refine U k9 (U d ?_);rfl
 exact(List.getElem?_inj (cg.mp b).1 hn).mp (b.trans c.symm)
end
structure Oh (X:dz) (g:Heap) (w:Wd) (n:Nat) (p:V×V) (q:List Int×Addr×Value):Prop where
 key:p.1.xs.map dS=q.1
 kr:VR X g w n p.1 (.ref q.2.1)
 is:(tupleKind (intKind X.prog X.w)).is g q.1 q.2.1
 val:VR X g w n p.2 q.2.2
section
variable {X:dz} {w:Wd} {n:Nat} {s:Shared}
theorem xY (hu:VR X s.heap w n u x) (hk:isKey u=H):∃d,∀t {A} {E} {Q},A.units<cLine->Q (hashOf X u) {s with toks:=t+d}->
 wpAny (model X.prog X.w) A (pyHash x) Q E {s with toks:=t}:=by
 have b:∀kd:KD X,kd.t=u.t->∃d,∀t {A} {E} {Q},A.units<cLine->Q (hashOf X u) {s with toks:=t+d}->
  wpAny (model X.prog X.w) A (pyHash x) Q E {s with toks:=t}:=λkd ht=>⟨1,λt A E Q i q=>kd.knd.pyHash (s:={s with toks:=t}) (kd.is hu ht.symm) (U (kd.hash hu ht.symm) q)⟩
 rcases xX hk with h|h|h|⟨h,f⟩
 .exact b (yV X) h.symm
 .exact b (DA X) h.symm
 .exact b (B8 X) h.symm
 .refine dN (Cc hu h f) λa c=> ?_;subst c;intro k;refine⟨(tupleKind (intKind X.prog X.w)).draws (u.xs.map dS),λt A E Q g q=>(tupleKind (intKind X.prog X.w)).pyHash (s:={s with toks:=t}) g k ?_⟩;have e:hashOf X u=(tupleKind (intKind X.prog X.w)).hash (u.xs.map dS):=by unfold hashOf;rw [if_neg (by refine U h ?_;exact aY rfl),if_pos h];rfl
  refine cL e ?_;exact q
theorem l7 (e:iU u kvs=O o) (hu:VR X g w n u x) (d:gU X g w n kvs es):isKey u=true:=by
 induction kvs using zL with
 |nil=>exact(dM e).1
 |cons p l=>
  refine aL (qc e) λc f b=> ?_;have ht:=yU b;refine fE d.kind λt h=> ?_;have hp:=(h p aE).2;unfold isKey at hp⊢;refine U ht (aC (dM b) λb f=> ?_);rw [ht] at b
  induction h2:ak p.1.t 2 using zB with
  |true=>rfl
  |false=>
   induction i:ak p.1.t 3 using zB with
   |true=>rfl
   |false=>
    induction j:ak p.1.t 4 using zB with
    |true=>rfl
    |false=>
     rw [h2,i,j] at b;refine gb (dM b) λk b=>U k ((?_:allInts u.xs=H));have q:=(yY b).1;revert q;generalize u.xs=l';intro q
     induction l' with
     |nil=>rfl
     |cons a r m=>
      refine(?_:(ah aj (allInts r) (ak a.t 2):Bool)=H);exact U (q a aE) (m λv hv=>q v (aD _ hv))
theorem gU.tups (d:gU X g w n f es) (ht:∀p∈f,p.1.t=5):∃xs,iV (Oh X g w n) f xs/\es=xs.map (entryOfKey (tupleKind (intKind X.prog X.w))):=by
 have i:=d.all;have hk:=let⟨_,h⟩:=d.kind;λp hp=>(h p hp).2;clear d
 induction i with
 |nil=>exact bW [] .nil rfl
 | @cons p e l m h t ih=>
  refine aL (ih (λp hp=>ht p (aD _ hp)) λp hp=>hk p (aD _ hp)) λxs j=> ?_;subst j;intro h1;have o:=ht p aE;have i:allInts p.1.xs=true:=by
   rcases xX (hk p aE) with h|h|h|⟨_,i⟩
   .lia
   .lia
   .lia
   .exact i
  have c:=h.key;refine aL (Cc c o i) λa k hx=> ?_;rw [hx] at c;refine bW ((p.1.xs.map dS,a,e.val)::xs) (.cons ⟨rfl,c,k,h.val⟩ h1) ?_;obtain⟨q,r,b⟩:=e;have u:hashOf X p.1=tupleKeyHash (intKind X.prog X.w) (p.1.xs.map dS):=by unfold hashOf;rw [if_neg (by refine U o ?_;exact aY rfl),if_pos o]
  cases hx;refine congrArg (· ::_) ((?_:DictEntry.mk q _ b=⟨_,_,b⟩));refine U (show q=hashOf X p.1 from(h.hash)) (U u ?_);rfl
theorem GD {x y} (j:VR X g w n a x) (hb:VR X g w n b y) (h1:a.t=5) (h2:b.t=5) (l:isKey a=H) (m:isKey b=H) (e:a.xs.map dS=b.xs.map dS):a=b:=by
 have d:∀{c},c.t=5->isKey c=H->∀v∈c.xs,v.t=2:=λh i=>by
  rcases xX i with h'|h'|h'|⟨_,j⟩
  .lia
  .lia
  .lia
  .exact j3 j
 induction j using Mine.VR.casesOn with
 |tup xs a items ep B hm C hn o=>
  induction hb using Mine.VR.casesOn with
  |tup p D f q r u z A k=>exact U (GC o k (d h1 l) (d h2 m) e) rfl
  |_=>exact nn h2 rfl
 |_=>exact nn h1 rfl
theorem Oh.keys (h:iV (Oh X g w n) kvs xs):xs.map (·.1)=kvs.map (λp=>p.1.xs.map dS):=by
 induction h with
 |nil=>rfl
 |cons h _ a=>simp [a,h.key]
theorem KV {K:Type} {f:V->K} {b:List (V×V)} (d:(b.map eE).Nodup) (c:∀p∈b,∀q∈b,f p.1=f q.1->p.1=q.1):(b.map λp=>f p.1).Nodup:=by
 induction b with
 |nil=>exact iJ
 |cons p m g=>
  rw [dH,gw] at d⊢;refine⟨λhp=> ?_,g d.2 (λp hp q hq=>c p (aD _ hp) q (aD _ hq))⟩;exact dN (gH.mp hp) λq hq e=>d.1 (gH.mpr (bW q hq (c q (aD _ hq) p aE e)))
theorem xZ (hg:s.heap.get? a=O (cJ es ep)) (g:gU X s.heap w n c es.toList)
 (hu:VR X s.heap w n u x) (e:iU u c=O o) (hA:A.units<cLine) t
 (qn:o=au->(∀p∈c,p.1≠u)->Q au {s with toks:=t}) (qs:∀j v,o=O v->c[j]? =O (u,v)->Q (O j) {s with toks:=t}):
 wpAny (model X.prog X.w) A (dictFind a x (hashOf X u)) Q E {s with toks:=t}:=by
 have I:=g.all.S5;have G:=Fd hu I e;have S:=l7 e hu g;have J:∀r:Option Nat,(r=au->∀p∈c,p.1≠u)->(∀j,r=O j->∃v,c[j]? =O (u,v))->Q r {s with toks:=t}:=by
  intro r h1 h2
  induction r using zO with
  |none=>
   have h1:=h1 rfl;rcases G with⟨a,b⟩|⟨j,v,a,b⟩
   .exact qn a b
   .exact absurd rfl (h1 _ (cY b))
  |some j=>
   refine fE (h2 j rfl) λv hv=> ?_;rcases G with⟨_,b⟩|⟨j',v',a',b⟩
   .exact absurd rfl (b _ (cY hv))
   .have:=DH g.nodup hv b;subst this;have:=aF (hv.symm.trans b);cases this;exact qs _ _ a' hv
 have K:∀kd:KD X,kd.t=u.t->wpAny (model X.prog X.w) A (dictFind a x (hashOf X u)) Q E {s with toks:=t}:=by
  intro kd ht;have hk:∀p∈c,p.1.t=kd.t:=λp hp=>(tS e g p hp).trans ht.symm;refine cL (kd.hash hu ht.symm) (cI (g.pairs (kd:=kd) hk) λJv h3 h1 h2=>wpAny_dictFind_of (s:={s with toks:=t}) (kd.is hu ht.symm) hg rfl (λe he=>h3 e (mD.mpr he)) (J _ (λh p hp=> ?_) λj h=> ?_))
  .rw [Array.findIdx?_eq_none_iff] at h;obtain⟨i,hi,L⟩:=nv hp;refine dN (g.all.get (i:=i) (a:=p) (U (bB hi) (U L rfl))) λd C D=> ?_;intro l;have q:=kd.is D.key (hk p hp);rw [l] at q;have:=h d (mD.mp (cY C));rw [q] at this;exact ft this
  .obtain⟨V,hi,_⟩:=Array.findIdx?_eq_some_iff_getElem.mp h;have hl:j<c.length:=U g.all.length V;refine aL (g.all.get (i:=j) (a:=c[j]) (bB hl)) λd D C=> ?_;have hdj:es[j]=d:=by rw [bz,oW V] at C;exact aF C
   rw [hdj] at hi;have m:=hk c[j] (mh hl);have q:=kd.is D.key m;have:=kd.inj hu D.key ht.symm m (kd.knd.inj _ _ _ hi q);exact⟨c[j].2,by exact U (bB hl) (U this rfl)⟩
 rcases xX S with h|h|h|⟨h,ha⟩
 .exact K (yV X) h.symm
 .exact K (DA X) h.symm
 .exact K (B8 X) h.symm
 .have hk:∀p∈c,p.1.t=5:=λp hp=>(tS e g p hp).trans h;have B:=let⟨_,h⟩:=g.kind;λp hp=>(h p hp).2;refine aL (g.tups hk) λxs h2 h1=>dN (Cc hu h ha) λb ow=> ?_;subst ow;intro k;have e1:hashOf X u=(tupleKind (intKind X.prog X.w)).hash (u.xs.map dS):=by unfold hashOf;rw [if_neg (by refine U h ?_;exact aY rfl),if_pos h];rfl
  refine U e1 ?_;have at1:∀(j:Nat) p,xs[j]? =O (u.xs.map dS,p)->∃v,c[j]? =O (u,v):=by
   intro j p R;have hl:j<c.length:=U h1.length ((cg.mp R).1);refine dN (h1.get (i:=j) (a:=c[j]) (bB hl)) λq M F=> ?_;cases aF (R.symm.trans M);have m:=mh hl;have:=GD hu F.kr h (hk _ m) S (B _ m) F.key.symm;exact⟨c[j].2,by refine U (bB hl) ?_;exact U (show c[j]=(c[j].1,c[j].2) from rfl) (cL this rfl)⟩
  have at2:∀p∈c,p.1=u->∃(j:Nat) (q:Addr×Value),xs[j]? =O (u.xs.map dS,q):=by
   intro p hp l;obtain⟨i,hi,L⟩:=nv hp;refine dN (h1.get (i:=i) (a:=p) (U (bB hi) (U L rfl))) λq M F=> ?_;exact Vp i q.2 (U M (cL l (U F.key rfl)))
  refine wpAny_dictFind_heap (s:={s with toks:=t}) (xs:=xs) (knd:=tupleKind (intKind X.prog X.w)) hA k hg rfl h2 (λq hq=> ?_) ?_ (λhno=>J au (λu_ p hp l=> ?_) λj h=>fn h) λj p R=>J (O j) (λh=>sn h) λj' P=>by injection P with P;subst P;exact at1 j p R
  .refine dN (h1.S1 hq) λp u_ hp=> ?_;exact hp.is
  .have nd:=g.nodup;have key:∀p∈c,∀q∈c,p.1.xs.map dS=q.1.xs.map dS->p.1=q.1:=λp hp q hq e=>by
    exact fE (I p hp) λy hy=>fE (I q hq) λz hz=>GD hy hz (hk p hp) (hk q hq) (B p hp) (B q hq) e
   exact U (Oh.keys h1) (KV (f:=λv=>v.xs.map dS) nd key)
  .exact SH (at2 p hp l) λj q R=>hno j q R
end
section
variable {X:dz} {w:Wd} {h:ae7} {s:Shared}
theorem Fe (f:s.heap.get? a=O (cJ es ep)) (b:gU X s.heap w n kvs es.toList)
 (hu:VR X s.heap w n u x) (e:iU u kvs=O o) (g:A.units<cLine)
 (q:∀t r,Tj X s.heap w n r o->Q r {s with toks:=t}):wpAny (model X.prog X.w) A (dictGet a x) Q E s:=by
 refine fE (xY hu (l7 e hu b)) λd i=> ?_;unfold dictGet
 try with_reducible refine bO ?_
 refine aq (i s.toks g (aq (xZ f b hu e g _ (λc m=> ?_) λj v c k=> ?_)))
 .exact av (q _ _ (U c rfl))
 .refine dN (b.all.get k) λl h1 h2=>aq (gJ (s:={s with toks:=s.toks+d}) f rfl (av (q _ _ (U c (bW l.val ?_ h2.val)))));refine cL bz (U h1 ?_);rfl
theorem uO (g:(a==ly)=aj) (d:s.heap.get? a=O (cJ es ep)) (i:gU X s.heap w n kvs es.toList)
 (hu:VR X s.heap w n u x) (e:iU u kvs=O o) (j:A.units+1<cLine)
 (q:∀t,Q o.isSome {s with toks:=t}):wpAny (model X.prog X.w) A (contains (.ref a) x) Q E s:=by
 have b:s.TypeIs (.ref a) "dict":=bW _ d rfl;unfold contains
 try with_reducible refine bO ?_
 refine bq (bV b yp.lookup) ((?_:wpAny _ _ (if(O (uc "dict.__contains__")==O dX)=H then _ else _) _ E s));rw [if_neg (by refine U (beq_builtin_none ..) ?_;exact bZ)];refine aq (wpAny_callSpecialUnlessNone?_slot (name:=bY "__contains__") b yp
  (bH yp b entry_dict_contains ?_ (args_dict_contains _ _)))
 refine(?_:wpAny _ _ (dictGet a x>>=_) _ _ s);refine aq (Fe d i hu e (A:=A.in1) j λt r f=> ?_)
 induction o using zO with
 |some v=>
  refine dN f λz c=> ?_;subst c;intro _;exact av (bW _ rfl (gI (q t)))
 |none=>
  refine U f ((?_:wpAny _ _ (Builtin.Dict.pendingKey? a x>>=_) _ _ _));exact aq (wpAny_pendingKey_other g (av (bW _ rfl (gI (q t)))))
theorem Oi (d:s.heap.get? a=O (cJ es ep)) (f:gU X s.heap w n kvs es.toList)
 (hu:VR X s.heap w n u x) (e:iU u kvs=O (O v)) (g:A.units+1<cLine)
 (q:∀t z,VR X s.heap w n v z->Q z {s with toks:=t}):wpAny (model X.prog X.w) A (getItem (.ref a) x) Q E s:=by
 have b:s.TypeIs (.ref a) "dict":=bW _ d rfl;unfold getItem
 try with_reducible refine bO ?_
 refine bq (As b rfl) ?_;refine aq (dU (name:=bY "__getitem__") b Au
  (bH Au b entry_dict_getitem ?_ (args_dict_getitem _ _)))
 refine(?_:wpAny _ _ (dictGet a x>>=_) _ _ s);refine aq (Fe d f hu e (A:=A.in1) g λt r i=> ?_);refine dN i λz c=> ?_;subst c;intro j;exact av (bW z rfl (av (q t z j)))
theorem t8 {o:ae6} (h:o.t=k) (hk:ak k 8=aj):o.t≠8:=λe=>nn (h.symm.trans e) hk
theorem St.turn (d:bw X) (b:St X w h s) (hi:h.l.get i=O o) F t
 (r:oZ X s.heap w h.n (s.heap.update (w.ρ i) F) w h.n->w.role (w.ρ i)=O i->Rep X (s.heap.update (w.ρ i) F) w h.n i o') (f:o.t≠8):
 St X w ⟨HT.ins o' h.l i,h.n⟩ {s with heap:=s.heap.update (w.ρ i) F,toks:=t}/\Ext X cV w h.n s w h.n {s with heap:=s.heap.update (w.ρ i) F,toks:=t}:=by
 have c:=(b.rep i o hi).2.role f;exact b.put d hi (s':={s with heap:=s.heap.update (w.ρ i) F,toks:=t}) (Heap.size_after_update s.1 (Wd.ρ w i) F) (λa j g e=>(dG _ _ (λhe=>g (by refine cL he ?_;exact c))).trans e) rfl rfl λk=>r k c
theorem HV {f:Array aV} (c:gU X g w n kvs f.toList) (hv:VR X g w n v y) (a:kvs[j]? =O (u,v0)):
 gU X g w n (kvs.set j (u,v)) (f.modify j λe=>{e with val:=y}).toList:=by
 refine dN (c.all.get a) λz h1 h2=> ?_;have k:=(cg.mp a).1;have d:iV (qX X g w n) (kvs.set j (u,v)) (f.toList.modify j λe=>{e with val:=y}):=by
  have x:=c.all;clear c h1 h2;generalize f.toList=el at x⊢
  induction x generalizing j with
  |nil=>exact fn a
  | @cons p q l m hp hl ih=>
   induction j using zN with
   |zero=>injection a with a;subst a;exact .cons ⟨hp.key,hv,hp.hash⟩ hl
   |succ j=>exact .cons hp (ih a (lu k))
 have b:(kvs.set j (u,v)).map eE=kvs.map eE:=by
  refine U List.map_set (List.ext_getElem? λi=>U (List.getElem?_set) ?_);split
  .rename_i o;subst o;simp [k9,a];exact(cg.mp a).1
  .rfl
 refine⟨by simpa using d, ?_,b▸c.nodup⟩;refine fE c.kind λt ht=>⟨t,λp hp=> ?_⟩;have r:=b▸gH.mpr (bW p hp rfl);refine dN (gH.mp r) λq hq e=>cL e ?_;exact ht q hq
theorem A7 {j:Array aV} (d:gU X g w n c j.toList) (hu:VR X g w n u x) (hv:VR X g w n v y) (e:iU u c=O au) (f:∀p∈c,p.1≠u):
 gU X g w n (c++[(u,v)]) (j.push ⟨hashOf X u,x,y⟩).toList:=by
 refine⟨?_,⟨u.t,λp hp=> ?_⟩, ?_⟩
 .exact U pq (d.all.append (.cons ⟨hu,hv,rfl⟩ .nil))
 .rcases nc.mp hp with hp|hp
  .exact fE d.kind λt ht=>⟨tS e d p hp,(ht p hp).2⟩
  .rw [eF] at hp;exact U hp (⟨rfl,l7 e hu d⟩)
 .rw [j8,List.nodup_append];refine iX d.nodup (by simp) (λa k b hb=> ?_);simp only [dH,List.map_nil,eF] at hb;refine U hb ?_;refine aL (gH.mp k) λp i=> ?_;subst i;intro hp;exact f p hp
theorem Ff c (old new):cnt c old new=c+(new.length-old.length):=by
 have h:∀l:List (V×V),(aS 0 (λa a b=>aG b 1) l:Nat)=l.length:=λl=>len_eq l;unfold cnt;refine U (h ..) (U (h ..) ?_);rfl
theorem GF (G:bw X) (z:St X w h s) (hi:h.l.get i=O (dZ kvs c)) (hu:VR X s.heap w h.n u x) (hv:VR X s.heap w h.n v y) (e:dput u v kvs=O d) (hn:d.length<=1000000)
 (I:A.units<cLine) t
 (q:∀s',St X w ⟨HT.ins (dZ d (cnt c kvs d)) h.l i,h.n⟩ s'->Ext X cV w h.n s w h.n s'->Q () s'):wpAny (model X.prog X.w) A (dictSetHashed (w.ρ i) x (hashOf X u) y) Q E {s with toks:=t}:=by
 refine aC (z.rep i _ hi) λr L=> ?_;cases r with
 |dict _ g ep o f hz b _ a=>
  unfold dictSetHashed
  try with_reducible refine bO ?_
  rcases(wh hu b.all.S5 e) with⟨p,B,rfl⟩|⟨j,M,p,J,rfl⟩
  .refine aq (xZ f b hu p I t (λK K=> ?_) λj v h=>fn h);refine aq (fj (wpAny_updateDictKeys (s:={s with toks:=t}) (hz:=aI hz bx) f rfl ?_));have C:(g.push ⟨hashOf X u,x,y⟩).size<=1000000:=by
    have:=b.all.length;rw [dc] at hn;simp at hn this⊢;lia
   have m:=z.turn G hi (Obj.mapDictKeys λg=>g.push ⟨hashOf X u,x,y⟩) t (o':=dZ (kvs++[(u,v)]) (cnt c kvs (kvs++[(u,v)]))) (λk o=> .dict _ _ (ep+1) o (bE _ f rfl) C ((A7 b hu hv p B).mono k) _ (by refine U (Ff ..) (U dc (U a ?_));simp;exact rfl)) (aY rfl);exact q _ m.1 m.2
  .refine aq (xZ f b hu p I t (λh K=>sn h) λP R h D=> ?_);have F:=DH b.nodup J D;subst F;refine aq (fj (aq (wpAny_updateDict (s:={s with toks:=t}) f rfl (vH ?_))));have m:=z.turn G hi (Obj.mapDict λg=>g.modify j λe=>{e with val:=y}) t (o':=dZ (kvs.set j (u,v)) (cnt c kvs (kvs.set j (u,v)))) (λk o=> .dict _ _ ep o (bE _ f rfl) (by simpa using hz) ((HV b hv J).mono k) _ (by refine U (Ff ..) (U List.length_set (U a ?_));lia)) (aY rfl);exact q _ m.1 m.2
theorem Fg (e:dput u v kvs=O d) (hu:VR X g w n u x) (a:gU X g w n kvs es):isKey u=true:=by
 rcases wh hu a.all.S5 e with⟨b,_,_⟩|⟨j,c,b,_,_⟩<;>exact l7 b hu a
theorem Fi (f:bw X) (a:St X w h s) (hi:h.l.get i=O (dZ kvs c)) (hu:VR X s.heap w h.n u x) (hv:VR X s.heap w h.n v y) (e:dput u v kvs=O d) (hn:d.length<=1000000)
 (b:A.units<cLine)
 (q:∀s',St X w ⟨HT.ins (dZ d (cnt c kvs d)) h.l i,h.n⟩ s'->Ext X cV w h.n s w h.n s'->Q () s'):wpAny (model X.prog X.w) A (dictSet (w.ρ i) x y) Q E s:=by
 refine aC (a.rep i _ hi) λr g=> ?_;cases r with
 |dict _ m ep o p hz j=>
  refine fE (xY hu (Fg e hu j)) λt k=> ?_;unfold dictSet
  try with_reducible refine bO ?_
  exact aq (k s.toks b (GF f a hi hu hv e hn b _ q))
theorem Fj (j:bw X) (g:St X w h s) (hi:h.l.get i=O (dZ kvs c)) (hu:VR X s.heap w h.n u x) (hv:VR X s.heap w h.n v y) (e:dput u v kvs=O d) (hn:d.length<=1000000)
 (k:A.units+1<cLine)
 (q:∀s',St X w ⟨HT.ins (dZ d (cnt c kvs d)) h.l i,h.n⟩ s'->Ext X cV w h.n s w h.n s'->Q () s'):wpAny (model X.prog X.w) A (setItem (.ref (w.ρ i)) x y) Q E s:=by
 have f:s.TypeIs (.ref (w.ρ i)) "dict":=by
  refine aC (g.rep i _ hi) λr m=> ?_;cases r with
  |dict _ p ep t o hz z=>exact bW _ o rfl
 unfold setItem
 try with_reducible refine bO ?_
 refine bq (As f rfl) ?_;refine aq (dU (name:=bY "__setitem__") f slot_dict_setitem
  (bH slot_dict_setitem f entry_dict_setitem ?_ (args_dict_setitem _ _ _)))
 refine bq (ng f) ((?_:wpAny _ _ (dictSet (w.ρ i) x y>>=_) _ _ s));exact aq (Fi j g hi hu hv e hn (A:=A.in1) k λs' a b=>av (bW .none rfl (av (q s' a b))))
end
section
variable {X:dz} {w:Wd} {h:ae7} {s:Shared} {b:Nat}
theorem KW (j:10<=X.h₀.objs.size) (d:St X w h s) (F:A.units+200<=9900) (hu:VR X s.heap w h.n u x) (hv:VR X s.heap w h.n v y) (e:YF u v h k=O res)
 :(sV X w h.n s k res (λc=>Q (.bool c))->wpAny (model X.prog X.w) A (compareOp .In x y) Q (λf f=>False) s)/\(sV X w h.n s k res (λc=>Q (.bool (!c)))->wpAny (model X.prog X.w) A (compareOp .NotIn x y) Q (λf f=>False) s):=by
 have z:A.units+1<cLine:=cl F rfl;refine sE e (λG e=> ?_) λf e=> ?_
 .refine dN (bC e) λt m r=>fH (hv.g9 (aH G)) λa items ep p hy f f hn l=> ?_;have q:=λQ=>Og (A:=A) p hu l m Q;exact U hy (⟨λg=>(q Q).1 (g w h s t d .refl r),λg=>(q Q).2 (g w h s t d .refl r)⟩)
 refine dF (dj e) λo e I B=>U ((hv.eu I).1) (sE e (λh1 e=> ?_) λf e=> ?_)
 .refine dN (bC e) λt m r=>jK ((d.rep _ o B).2.lY (aH h1)) λitems ep p C hn l=> ?_;have q:=λQ=>KQ (A:=A) p hu l m Q;exact⟨λg=>(q Q).1 (g w h s t d .refl r),λg=>(q Q).2 (g w h s t d .refl r)⟩
 refine aC (dM e) λe h2=>aL (bC e) λD e m=>iY ((d.rep _ o B).2.kP (aH h2)) λJ ep f C p hn E=> ?_;have i:=jM d j C;have e:k D.isSome h=O res:=by rcases D<;>exact e
 exact⟨λg=>aq (uO (A:=A) i p E hu m z λt=>av (g w h _ _ (d.toks t) (pK t) e)),
  λg=>aq (uO (A:=A) i p E hu m z λt=>av (g w h _ _ (d.toks t) (pK t) e))⟩
theorem Tn (a:10<=X.h₀.objs.size):nO X b YF .In:=by
 intro A n c w h s d u v x y hu hv k res e Q f;exact(KW a d (c.u rfl) hu hv e).1 f
theorem HW (d:10<=X.h₀.objs.size):nO X b JP .NotIn:=by
 intro A n f w h s g u v x y hu hv k res e Q i;refine(KW d g (f.u rfl) hu hv (k:=λx h=>k (neg x) h) e).2 λj h' s' c a b l=> ?_;have:=i j h' s' (neg c) a b l;rw [neg_eq] at this;exact this
theorem DI (hv:VR X g w m i x) (hn:n<=1000000) (e:yG i n=O j):
 ∃tk,x= .int (dS i) tk/\vz (dS i)=H/\ -(2^63)<=dS i/\dS i<2^63/\wN (dS i) n=O j/\j<n:=by
 refine aC (dM e) λe h2=>fE (hv.cS h2) λtk c=> ?_;subst c;refine bW tk rfl ?_;rcases hv.E6 h2 with⟨p,q⟩|⟨p,z,q⟩
 .rw [p] at e;refine aC (dM e) λe d=> ?_;injection e with e;subst e
  have f:=cH.mp d;refine U (show dS i=(i.n:Int) from q) (A1 (fitsIndex_of (cC (V.n i)) (by lia)) (Int.neg_ofNat_le_natCast (2^63) (V.n i)) (by lia) ?_ f);exact seqIndex_of (cC (V.n i)) (by lia)
 .rw [p] at e;refine aC (dM e) λe d=> ?_;injection e with e;subst e
  have a:=aA d;refine U q (A1 (fitsIndex_neg (by lia) (by lia)) (by lia) (by lia) ?_ (by show n-i.n<n;exact Nat.sub_lt_self z a));exact U (seqIndex_neg (by lia) (by lia)) (congrArg O (congrArg Int.toNat ((Int.add_comm (-(i.n:Int)) n).trans (Int.ofNat_sub a).symm)))
theorem A8 (e:wN k n=O j):(0<=k/\k<n/\j=k.toNat)\/(k<0/\ -(n:Int)<=k/\j=(k+n).toNat):=by
 by_cases h:k<0
 .by_cases h2: -(n:Int)<=k
  .rw [seqIndex_neg h h2] at e;exact .inr (iX h h2 ((aF e).symm))
  .unfold wN at e;simp only [h,if_true] at e;rw [if_neg (by simp only [aP,decide_eq_true_eq];lia)] at e;exact fn e
 .by_cases h2:k<n
  .rw [seqIndex_of ((λ{a b}=>Iff.mp kH) h) h2] at e;exact .inl (iX ((λ{a b}=>Iff.mp kH) h) h2 ((aF e).symm))
  .unfold wN at e;simp only [h,if_false] at e;rw [if_neg (by simp only [aP,decide_eq_true_eq];exact(λ{a b}=>Iff.mpr not_and) λa=>h2)] at e;exact fn e
theorem R1 {items:Array Value} (c:ef X g w n xs items.toList) (hn:items.size<=1000000) (hu:VR X g w n u x) (i:yG u (len xs)=O j) (k:sU xs j=O z):
 ∃tk zz,x= .int (dS u) tk/\ -(2^63)<=dS u/\dS u<2^63/\wN (dS u) items.size=O j/\items[j]? =O zz/\VR X g w n z zz:=by
 rw [len_eq,c.length,aM] at i;obtain⟨tk,e,_,h1,h2,l,m⟩:=DI hu hn i;rw [mJ] at k;refine dN (c.get k) λzz d f=> ?_;rw [bz] at d;exact⟨tk,zz,e,h1,h2,l,d,f⟩
theorem KX (l:St X w h s) (J:A.units+200<=9900) (hv:VR X s.heap w h.n v y) (hu:VR X s.heap w h.n u x) (e:RH v u h k=O res):
 (s.TypeIs y "tuple"\/s.TypeIs y "list"\/s.TypeIs y "dict")/\∀{Q},Goes (PV X) X w h.n s k res Q->wpAny (model X.prog X.w) A (getItem y x) Q (λf f=>False) s:=by
 refine sE (show(ah (look v h λo h=>ah (ah au (lift (iU u o.kvs) h λr h=>lift r h k) (ak o.t 2)) (lift (yG u (len o.xs)) h λj h=>lift (sU o.xs j) h k) (ak o.t 1))
  (lift (yG u (len v.xs)) h λj h=>lift (sU v.xs j) h k) (ak v.t 5):Option Res)=O res from e) (λK e=> ?_) λf e=> ?_
 .refine aL (bC e) λj e C=>dN (bC e) λz D m=>fH (hv.g9 (aH K)) λa items ep g hy f f hn i=> ?_;obtain⟨tk,p,hx,h1,h2,E,c,d⟩:=R1 i hn hu C D;exact U hy (U hx (⟨.inl (bW _ g rfl),λB=>getItem_tuple (gc _ g rfl _ rfl) h1 h2 E c (B w h s z p l .refl d m)⟩))
 refine dF (dj e) λo e L G=>U ((hv.eu L).1) (sE e (λh1 e=> ?_) λf e=> ?_)
 .refine aL (bC e) λj e C=>dN (bC e) λz D m=>jK ((l.rep _ o G).2.lY (aH h1)) λitems ep g f hn i=> ?_;obtain⟨tk,p,hx,h1,h2,E,c,d⟩:=R1 i hn hu C D;have hl:s.heap.IsList (w.ρ v.n) items:=gc _ g rfl _ rfl;refine U hx (⟨.inr (.inl (bW _ g rfl)),λB=> ?_⟩);rcases A8 E with⟨F,I,q⟩|⟨F,I,q⟩
  .exact wpAny_getItem_list hl F h2 (q▸c) (B w h s z p l .refl d m)
  .exact wpAny_getItem_list_neg hl F I h1 (q▸c) (B w h s z p l .refl d m)
 exact aC (dM e) λe h2=>dN (bC e) λR C e=>aL (bC e) λz m hz=>iY ((l.rep _ o G).2.kP (aH h2)) λS ep f f g hn M=>⟨.inr (.inr (bW _ g rfl)),λB=>Oi g M hu (hz▸C) (cl J rfl) λt p P=>B w h _ z p (l.toks t) (pK t) P m⟩
end
end
section
open PyProof.Rows PySem.Calls PySem.SeqAt PySem.W
noncomputable def KY (K:Frag) (c:Addr) (x:Str):Bool:=findIn K (.ref c) x==O au&&findIn K (.ref c) "__getattribute__"==O (O (.builtin "object.__getattribute__"))&&findIn K (.ref c) "__setattr__"==O (O (.builtin "object.__setattr__"))&&plainOver K c&&(clsIn K c).any (·.hasDict)
def Fl (X:dz) (F:Frag):Prop:=∀a o,F.lookup a=O o->X.h₀.get? a=O o/\a∉X.tabs
theorem Fl.In (f:Fl X F) (b:St X w h s):F.In s.heap:=λa o e=>b.base a o (f a o e).1 (f a o e).2
structure Jw (X:dz) (K:Frag):Prop where
 fld:∀c x,X.fld c x->∃F,Fl X F/\KY F c x=H
structure ZC (K:Frag) (c:Addr) (x:Str):Prop where
 none:findIn K (.ref c) x=O .none
 ga:findIn K (.ref c) "__getattribute__"=O (O (.builtin "object.__getattribute__"))
 sa:findIn K (.ref c) "__setattr__"=O (O (.builtin "object.__setattr__"))
 plain:plainOver K c=H
 dict:(clsIn K c).any (·.hasDict)=H
theorem Jw.Wu {K} (a:Jw X K) (h:X.fld c x):∃F,Fl X F/\ZC F c x:=by
 refine aL (a.fld c x h) λF e hF=> ?_;unfold KY at e;simp only [aP,beq_iff_eq] at e;exact⟨F,hF,e.1.1.1.1,e.1.1.1.2,e.1.1.2,e.1.2,e.2⟩
section
variable {X:dz} {g:Heap} {w:Wd} {n:Nat}
theorem A9 (x y) t:(Value.str y t).isStr x=decide (y=x):=by
 by_cases h:y=x<;>exact rfl
theorem wZ (d:lX X g w n fs l) (hx:aZ x=H):
 (∀v,find (nm x) fs=O v->∃e,l.find? (·.key.isStr x)=O e/\VR X g w n v e.val)/\(find (nm x) fs=au->l.find? (·.key.isStr x)=au)/\l.any (·.refKey)=false:=by
 induction d with
 |nil=>exact iX (λv e=>(fn e)) (λm=>rfl) rfl
 | @cons p e fs l hp _ ih=>
  refine kJ hp.key λy t hn hk hy=>Rx ih λf i j=> ?_;have c:e.key.isStr x=decide (y=x):=U hk (A9 x y t);refine U (eV ..) (U (List.find?_cons) ?_);have k:e.refKey=false:=by unfold DictEntry.refKey;exact U hk rfl
  refine iX (λv a=> ?_) (λa=> ?_) (U gi (U k (U j rfl)))
  .by_cases h:nm x=p.1
   .rw [if_pos h] at a;injection a with a;subst a
    have b:=gS hy hx (hn.trans h.symm);exact U c (U (decide_eq_true b) (bW e rfl hp.val))
   .rw [if_neg h] at a;have b:¬y=x:=λq=>h (cL q hn);exact U c (U (decide_eq_false b) (f v a))
  .by_cases h:nm x=p.1
   .rw [if_pos h] at a;exact sn a
   .rw [if_neg h] at a;have b:¬y=x:=λq=>h (cL q hn);exact U c (U (decide_eq_false b) (i a))
theorem GG (a:lX X g w n fs es.toList) (hx:aZ x=H):
 (∀v,find (nm x) fs=O v->∃y,lookIn x (cJ es ep)=O (O y)/\VR X g w n v y)/\(find (nm x) fs=au->lookIn x (cJ es ep)=O au):=by
 refine Rx (wZ a hx) λb c d=>⟨λv e=> ?_,λe=> ?_⟩
 .refine dN (b v e) λf h1 h2=>bW f.val ?_ h2;refine(?_:(match es.toList.find? (·.key.isStr x) with|some e=>O (O e.val)|none=>if es.toList.any (·.refKey) then au else O au)=_);exact U h1 rfl
 .refine(?_:(match es.toList.find? (·.key.isStr x) with|some e=>O (O e.val)|none=>if es.toList.any (·.refKey) then au else O au)=_);refine U (c e) (U d ?_);rfl
theorem HX k:handedIn (oK k)=true:=if h:k<18 then(by decide+kernel:∀k,k<18->handedIn (oK k)=H) k h else i7 (mz h)▸(rfl:handedIn (oK (k-18+18))=H)
theorem VR.handed (h:VR X g w n v x):handedIn x=true:=by
 induction h using Mine.VR.casesOn<;>first|rfl|exact HX _
end
section
variable {X:dz} {K:Frag} {w:Wd} {h:ae7} {s:Shared}
theorem St.Fo (d:St X w h s) (e:h.l.get i=O o) (ht:o.t=0):∃a b ep,w.role (w.ρ i)=O i/\w.role a=O i/\a≠w.ρ i/\s.heap.get? (w.ρ i)=O (qW o.c a)/\s.heap.get? a=O (cJ b ep)/\
 lX X s.heap w h.n o.fs b.toList/\b.size<=1000000/\∀x,aZ x=H->find (nm x) o.fs≠au->X.fld o.c x:=(d.rep i o e).2.at_ ht
theorem r7 (h1:g.get? a=O (qW c dx)) (h2:g.get? dx=O (cJ es ep)):InstAt g a (qW c dx) c (O (cJ es ep)):=⟨h1,rfl,rfl,h2⟩
theorem Oj (l:Jw X K) (b:St X w h s) (hv:VR X s.heap w h.n v y) {x} (hx:aZ x=H) (e:attr v (nm x) h k=O res)
 (m:Goes (PV X) X w h.n s k res Q):wpAny (model X.prog X.w) A (getAttr y x expr) Q (λa a=>False) s:=by
 refine dF (dj e) λo e p r=>aC (dM e) λe t=>dN (bC e) λz hz e=>gb (hv.eu p) λc=> ?_;subst c;intro _;refine p6 (b.Fo r (aH t)) λI i ep d a a a u f B a=>dN ((GG (ep:=ep) B hx).1 z hz) λJ C j=>aL (l.Wu (d x hx (U hz (λq=>sn q)))) λa F hF=>dN (any_some F.dict) λD E G=>get_value (hF.In b) (r7 u f) F.ga ?_ j.handed (m.tok b j e);unfold findObj;refine U E (U F.none ((?_:((W.ownOf D (O (cJ i ep)) x).bind _)=_)));unfold W.ownOf;refine U G (U (if_pos rfl) ((?_:((lookIn x (cJ i ep)).bind _)=_)));refine U C ?_;rfl
theorem lX.set (o:lX X g w n fs es.toList) (hx:aZ x=H) (hu:VR X g w n u z) hh t ep:
 ∃c f,Obj.putName x hh (.str x t) z (cJ es ep)=cJ c f/\lX X g w n (setIn (nm x) u fs) c.toList/\c.size=(setIn (nm x) u fs).length:=by
 have k:(∃j,es.findIdx? (·.key.isStr x)=O j/\lX X g w n (setIn (nm x) u fs) (es.toList.modify j λe=>{e with val:=z}))\/
  (es.findIdx? (·.key.isStr x)=au/\lX X g w n (setIn (nm x) u fs) (es.toList++[⟨hh,.str x t,z⟩])):=by
  have hl:es.findIdx? (·.key.isStr x)=es.toList.findIdx? (·.key.isStr x):=by obtain⟨l⟩:=es;exact List.findIdx?_toArray (λm=>Value.isStr (DictEntry.key m) x) l
  refine U hl ?_;generalize es.toList=l at o
  induction o with
  |nil=>exact .inr ⟨rfl,.cons ⟨(jY x t rfl hx rfl),hu⟩ .nil⟩
  | @cons p e fs l hp hr ih=>
   refine kJ hp.key λy r hn hk hy=> ?_;have v:e.key.isStr x=decide (y=x):=U hk (A9 x y r);refine U (yN ..) (U (List.findIdx?_cons) (U v ?_));by_cases h:nm x=p.1
   .have d:=gS hy hx (hn.trans h.symm);exact U (if_pos h) (U (decide_eq_true d) (.inl (bW 0 rfl (.cons ⟨(jY y r hk hy (hn.trans h.symm)),hu⟩ hr))))
   .have d:¬y=x:=λq=>h (cL q hn);refine U (if_neg h) (U (decide_eq_false d) ?_);rcases ih with⟨j,a,b⟩|⟨a,b⟩
    .refine U a ?_;exact .inl (bW (j+1) rfl (.cons hp b))
    .refine U a ?_;exact .inr ⟨rfl,.cons hp b⟩
 refine U Obj.putName_eq ?_;rcases k with⟨j,a,b⟩|⟨a,b⟩
 .refine jY (es.modify j λe=>{e with val:=z}) ep ?_ (by simpa using b) ?_
  .refine(?_:(match es.findIdx? (·.key.isStr x) with|some i=>_|none=>_)=_);exact U a rfl
  .have:=b.length;refine U this ?_;simp
 .refine jY (es.push ⟨hh,.str x t,z⟩) (ep+1) ?_ (by simpa using b) ?_
  .refine(?_:(match es.findIdx? (·.key.isStr x) with|some i=>_|none=>_)=_);exact U a rfl
  .have:=b.length;refine U this ?_;simp
theorem Tp {c:Addr} {fs} (e:oLe (uB c fs)=H):fs.length<=1000000:=len_eq fs▸(f6 (f6 (f6 (aA e))):len fs<=1000000)
theorem Fq (ax:bw X) (kx:Jw X K) (M:St X w h s) (hv:VR X s.heap w h.n v y) (hx:aZ x=H) (hu:VR X s.heap w h.n u z) (P:∀c,find c cs≠au->X.fld c x)
 (e:setAt v (nm x) u cs h k=O res)
 (hQ:∀h' s',St X w h' s'->h'.n=h.n->Ext X cV w h.n s w h.n s'->k di h'=O res->Q () s'):wpAny (model X.prog X.w) A (setAttr y x z) Q (λI I=>False) s:=by
 refine dF (dj e) λo e h6 ho=>aC (dM e) λe h0=>aL (pX e) λq1 e f=>aC (dM e) λe R=>gb (hv.eu h6) λS=> ?_;subst S;intro _;refine p6 (M.Fo ho (aH h0)) λj J ep V hr l m L d hf hz=> ?_;have p:=P o.c (U f (λq=>sn q));refine aL (kx.Wu p) λI F hF=> ?_;have XK:=hF.In M;refine set_plain XK (r7 L d) F.sa (osa_open (s:={s with toks:=s.toks+1}) (r:=au) XK (r7 L d) F.plain (by unfold takerIn;refine U F.none ?_;rfl) λb=> ?_);refine dN (any_some F.dict) λcd hc hd'=>bp (aq (aq (wpAny_loadPart (s:={s with toks:=s.toks+1}) L (aq ((looks_clsIn (h:=s.heap) XK hc).at (U hd' (av (a:=O j) (bp (aq (aq (aq (BK (av (aq (wpAny_mkText (bq (wpAny_loadPart d) (vP (hf.set hx hu (nY X.w.params x) (s.toks+1) ep) λt B h1 h2 h3=> ?_)))))))))))))))));dsimp only;rw [aRefKeyMayBeTheName_at,show(!J.any (·.key.isStr x)&&J.any (·.refKey))=aj by exact U (show J.any (·.refKey)=J.toList.any (·.refKey) by exact gC Array.any_toList) (U ((wZ hf hx).2.2) (U (Bool.and_false ..) rfl))];have C:(s.heap.update j (Obj.putName x (nY X.w.params x) (.str x (s.toks+1)) z)).get? j=O (cJ t B):=by
  refine cL h1 ?_;exact bE _ d (U h1 rfl)
 have D:=Tp R;refine wpAny_updatePart d (bq (BL C (pastItsLine_dict (U h3 (aI D (aI bx (gV _)))))) (av ?_));have E:=M.put ax ho (o':=uB o.c (setIn (nm x) u o.fs)) (s':={s with heap:=s.heap.update j (Obj.putName x (nY X.w.params x) (.str x (s.toks+1)) z),toks:=s.toks+2}) (Heap.size_after_update s.1 j (Obj.putName x (nY (World.params (dz.w X)) x) (Value.str x (Shared.toks s+1)) z))
  (λa ob ha e=>(dG _ _ (λhe=>ha (by refine cL he ?_;exact l))).trans e) rfl rfl λkk=>
   .inst o.c _ j t B hr l m ((dG _ _ m).trans L) C (h2.mono λI I=>v8.mono kk) (by lia) λx' G i=>by
    rw [jS] at i;by_cases hq:nm x'=nm x
    .refine U (gS G hx hq) ?_;exact p
    .rw [if_neg hq] at i;exact V x' G i
 exact hQ _ _ E.1 rfl E.2 e
end
section
variable {M:Model} {A:Around} {E:Value->Shared->Prop} {s:Shared} {env:dD}
theorem Cd {id} (e:lV (.Call (.Name id np) args kws cp)=H):(id !=("super":Str))=true:=by
 have e:(ah H aj (ak (nm id) (nm "super")):Bool)=true:=e
 induction h:ak (nm id) (nm "super") using zB with
 |true=>rw [h] at e;exact ff e
 |false=>rw [bne_iff_ne];intro q;exact fU h (by rw [q])
theorem KZ o:(∃id d pos,o= .Call (.Name id d) [] [] pos)\/∀c env t,attributeBase o c env t=t:=by
 induction o using aR with
 |Call f args e pos=>
  induction f using aR with
  |Name id d=>
   induction args using zL with
   |nil=>
    induction e using zL with
    |nil=>exact .inl ⟨id,d,pos,rfl⟩
    |cons=>exact .inr λa a a=>rfl
   |cons=>exact .inr λa a a=>rfl
  |_=>exact .inr λa a a=>rfl
 |_=>exact .inr λa a a=>rfl
theorem Ol (hn:lV o=H) attr t:attributeBase o attr env t=t\/attributeBase o attr env t=t>>=pure:=by
 rcases KZ o with⟨id,a,pos,e⟩|e
 .have q:=Cd (e▸hn);refine U e ?_;unfold attributeBase;dsimp only;rw [q,nZ,nZ,nZ,if_pos rfl]
  first|exact .inl rfl|exact .inr rfl
 .exact .inl (e _ _ _)
end
section
variable {prog:Program} {w:World} {A:Around} {E:Value->Shared->Prop} {s:Shared}
theorem Ce {T id} (f:s.TypeIs o T) (hl:typeLookup (.type T) "__getitem__"=pure (O (.builtin id))) (j:isSlice slice=aj) (h:wpAny (model prog w) A (getItem o i) Q E s):
 wpAny (model prog w) A (subscriptTail value slice o i) Q E s:=by
 have hs:subscripted slice aj o i=operate [o,i] (getItem o i):=by rcases slice<;>first|rfl|exact ft j
 refine aq (bq (bV f hl) ?_);have d:wpAny (model prog w) A (subscripted slice aj o i) (λr a=>wpAny (model prog w) A (letTemporaryGo value o r>>=λe=>pure r) Q E a) E s:=by
  refine U hs ?_;exact wpAny_operating (fZ h (λr a c=>aq (vJ (av c))) λe e x=>x)
 exact av (aq d)
theorem GH {lo hi} {T id} (f:s.TypeIs o T) (hl:typeLookup (.type T) "__getitem__"=pure (O (.builtin id))) (h:wpAny (model prog w) A (getItem o i) Q E s):
 wpAny (model prog w) A (subscriptTail value (.Slice lo hi au p) o i) Q E s:=by
 have hs:∀b,subscripted (.Slice lo hi au p) b o i=operate [i,o] (getItem o i):=λd=>rfl;refine aq (bq (bV f hl) ?_);have e:wpAny (model prog w) A (subscripted (.Slice lo hi au p) aj o i) (λr a=>wpAny (model prog w) A (letTemporaryGo value o r>>=λd=>pure r) Q E a) E s:=by
  refine U (hs ..) ?_;exact wpAny_operating (fZ h (λr a c=>aq (vJ (av c))) λd d x=>x)
 exact av (aq e)
end
def Tq (X:dz) (r:Ap) (n b:Nat) (ns:List (Str×aN)) (e:XE) (x:Option Expr):Prop:=
 ∀A,fO n b A->∀env ρ w h s,St X w h s->eX X env ns ρ w h.n s->∀k res,e.f r ρ h k=O res->∀Q:Value->Shared->Prop,
  Goes (PV X) X w h.n s k res Q->cG (model X.prog X.w) A (evalPart x env) Q (λu_ u_=>False) s
def AF (env:dD) (ns:List (Str×aN)):Addr->Prop:=λa=>a=env.locals\/∃x,aZ x=H/\bg (nm x) ns=O .cell/\env.cells.lookup x=O a
def ri (X:dz) (r:Ap) (n b:Nat) (ns:List (Str×aN)) (a:XA) (t:Expr):Prop:=
 ∀A,fO n b A->∀env ρ w h s,St X w h s->eX X env ns ρ w h.n s->∀v y,VR X s.heap w h.n v y->∀kn res,a.f r ρ v h kn=O res->∀Q:Unit->Shared->Prop,
  (∀ρ' w' h' s',St X w' h' s'->eX X env ns ρ' w' h'.n s'->Ext X (AF env ns) w h.n s w' h'.n s'->kn ρ' h'=O res->Q () s')->cG (model X.prog X.w) A (assign t env y) Q (λu_ u_=>False) s
section
variable {X:dz} {K:Frag} {r:Ap} {n b:Nat} {ns:List (Str×aN)} {w:Wd} {h:ae7} {s:Shared}
theorem Tq.none:Tq X r n b ns (xC di) .none:=λA a env ρ w h s hs he k res e Q hQ=>aO (hQ.here hs .none e)
theorem Tq.some (h:cQ X r n b ns e x):Tq X r n b ns e (.some x):=h
theorem K0 {M} {attr} (hn:lV o=H) (h:cG M A t Q E s):cG M A (attributeBase o attr env t) Q E s:=by
 rcases Ol hn attr t with e|e<;>refine U e ?_
 .exact h
 .exact ay (aW h (λa a q=>aO q) λa a x=>x)
theorem yZ {M}
 (h:cG M A (eval value env) (λo a=>cG M A (eval slice env) (λi c=>cG M A (subscriptTail value slice o i) Q E c) E a) E s):cG M A (eval (.Subscript value slice pos) env) Q E s:=ay (aW h (λo a d=>ay (bh (aW d (λi c e=>ay (bG e)) λf f x=>x))) λf f x=>x)
theorem cQ.attr (d:Jw X K) pos (hx:aZ x=H) (hn:lV v=H) (f:cQ X r n b ns o v):cQ X r n b ns (RK o (nm x)) (.Attribute v x pos):=by
 intro A i env ρ w h s hs he k res e Q hQ;exact ay (K0 hn (f A i env ρ w h s hs he _ res e _ λB h1 C u u' a j hu l=>(ay (bG (ay (bh (eU (Oj d a hu hx l λm h2 p z z' c q hz t=>(ay (eU (vJ (aO (hQ m h2 p _ _ c (j.trans q) hz t)))))))))))))
theorem cQ.sub pos (a:isSlice j=aj) (p:cQ X r n b ns o v) (hi:cQ X r n b ns i j):cQ X r n b ns (VZ o i) (.Subscript v j pos):=by
 intro A c env ρ w h s hs he k res e Q hQ;refine yZ (p A c env ρ w h s hs he _ res e _ λt h1 x u u' d l hu B=>(hi A c env ρ t h1 x d (he.ext l) _ res B _ λG h2 I z z' f m hz C=>aC (KX f (A:=A) (c.u rfl) (hu.mono m.dW) hz C) λD F=> ?_));have q:=D (hQ.ext (l.trans m));rcases F with T|T|T
 .exact eU (Ce T slot_tuple_getitem.lookup a q)
 .exact eU (Ce T slot_list_getitem.lookup a q)
 .exact eU (Ce T Au.lookup a q)
theorem uP (hv:VR X g w m i y) (e:bound n d i=O a):∃k,IsPart y k/\k.elim d (clipAt n)=a:=by
 have e:(ah (ah au (ah (O (fq n i.n)) (O (ah n i.n (bQ i.n n))) (ak i.s 0)) (ak i.t 2)) (O d) (ak i.t 0):Option Nat)=O a:=e
 induction c:ak i.t 0 using zB with
 |true=>
  rw [c] at e;cases none_of hv c;exact bW au .none (aF e)
 |false=>
  rw [c] at e;refine aC (dM e) λe h2=>fE (hv.cS h2) λtk f=> ?_;subst f;refine bW (O (dS i)) (.int _ _) ?_;rcases hv.E6 h2 with⟨p,q⟩|⟨p,z,q⟩
  .rw [p] at e;refine U q ((?_:clipAt n (i.n:Int)=a));refine U (clipAt_nat ..) ?_
   induction hb:bQ i.n n using zB with
   |true=>
    rw [hb] at e;have:=aA hb;have:=aF e;lia
   |false=>
    rw [hb] at e;have j:¬i.n<=n:=λq=>by rw [mj q] at hb;exact ft hb
    have:=aF e;lia
  .rw [p] at e;refine U q ((?_:clipAt n (-(i.n:Int))=a));exact U (clipAt_neg n i.n z) (aF e)
theorem Ba {lo hi} {l} (e:JI xs lo hi=O l):∃a c,bound xs.length 0 lo=O a/\bound xs.length xs.length hi=O c/\l=(xs.drop a).take (c-a):=by
 refine aL (pX e) λa e d=>aL (pX e) λc e f=> ?_;rw [len_eq] at d f;rw [Ds,Dr] at e;exact jY a c d f ((aF e).symm)
theorem uQ (e:kB l h k=O res):l.length<=1000000/\k (fk l) h=O res:=by
 refine gb (dM e) λa e=> ?_;have:=aA a;rw [len_eq] at this;exact⟨this,e⟩
section
variable {w:Wd} {h:ae7} {s:Shared} {A:Around} {k:V->ae7->Option Res} {res:Res} {Q:Value->Shared->Prop} {u y z:V} {u' y' z':Value} {g g':Heap} {v v':Wd} {n n':Nat} {sl:Addr} (hs:St X w h s) (hu:VR X s.heap w h.n u u') (hy:VR X g v n y y') (hz:VR X g' v' n' z z') (hsl:s.heap.IsSliceOf sl y' z' .none) (hQ:Goes (PV X) X w h.n s k res Q)
include hs hu hy hz hsl hQ
theorem Tr (h4:ak u.t 4=H) (e:lift (JI u.l y z) h (λb h=>kB b h k)=O res):wpAny (model X.prog X.w) A (getItem u' (.ref sl)) Q (λu_ u_=>False) s/\s.TypeIs u' "bytes":=by
 refine dN (bC e) λl e4 e5=>kJ (Ba e4) λa c el b1 b2=>gb (uQ e5) λhz5 e5=>oE (hu.jL (aH h4)) λbs tk hul ZD hn=> ?_;have hl:u.l.length=bs.size:=U hul (U (eG ..) (U aM rfl));rw [hl] at b1 b2;refine aL (uP hy b1) λk1 q1 p1=>aL (uP hz b2) λk2 q2 p2=> ?_;have hpk:(KBy.picked bs k1 k2).toList.map bU=l:=by
  have q:=KBc.ints_picked (b:=bs) rfl k1 k2;rw [KBw.ints_length,q1,q2] at q;have q:(KBy.picked bs k1 k2).toList.map (λc:UInt8=>(c.toNat:Int))=((bs.toList.map λc:UInt8=>(c.toNat:Int)).drop a).take (c-a):=q;have hm:∀l:List UInt8,l.map (λc:UInt8=>(c.toNat:Int))=(l.map bU).map (λn:Nat=>(n:Int)):=λl=>by simp
  rw [hm,hm,<-List.map_drop,<-List.map_take,<-hul] at q;exact U el ((List.map_inj_right (λx y e=>Int.ofNat.inj e)).mp q)
 rw [<-hpk] at e5;refine U ZD ?_;exact⟨getItem_meets (j9 _ _ _) rfl FB.slot_bytes_getitem FB.entry_bytes_getitem (FB.args_bytes_getitem_2 _ _) (KBc.meets_slice2 bs tk _ p1 p2)
  (iX hsl (aI (KBc.size_picked_le bs _ _) (aI hn bx)) (λt' kk=>hQ w h _ _ _ (hs.toks kk) (pK kk) (VR.bytes _ t' (aI (KBc.size_picked_le bs _ _) hn)) e5)),j9 _ _ _⟩
theorem Tt (B:bw X) (e:ET u h (λxs h=>lift (JI xs y z) h λl h=>new (bL l) h k)=O res):wpAny (model X.prog X.w) A (getItem u' (.ref sl)) Q (λC C=>False) s/\s.TypeIs u' "list":=by
 refine gQ (DG e) λob f D j F=>dN (bC f) λl G f=>aC (dM f) λf d=> ?_;have d:=nQ d;refine vP (hs.Ti j F) λitems ep I hn i=>kJ (Ba G) λa c J p t=> ?_;rw [i.length,aM] at p t;refine aL (uP hy p) λk1 L P=>aL (uP hz t) λk2 R S=> ?_;have x:s.heap.IsList (w.ρ u.n) items:=gc _ I rfl _ rfl;have hv:=(i.drop a).take (c-a);rw [J] at d f;refine U ((hu.eu D).1) (⟨wpAny_getItem_list_slice x hsl P S .none (λq=>fn q) ?_ (aI hn bx),x.typeIs⟩);exact U (slicePick_plain ..) (U L (U R (jB (hs.newList B hv (cL hv.length d) s.toks) λw5 m x5 o=>(hQ w5 _ _ _ _ m x5 (o▸VR.ref h.n (bN _)) f))))
end
theorem cQ.cut (ax:bw X) {lo hi} (p pos) (ho:cQ X r n b ns o v) (hi':Tq X r n b ns i lo) (hj':Tq X r n b ns j hi):cQ X r n b ns (SR o i j) (.Subscript v (.Slice lo hi au p) pos):=by
 intro A hA env ρ w h s hs he k res e Q hQ;refine yZ (ho A hA env ρ w h s hs he _ res e _ λw1 h1 s1 u u' hs1 x1 hu e1=>HP (hi' A hA env ρ w1 h1 s1 hs1 (he.ext x1) _ res e1 _ λw2 h2 s2 y y' hs2 x2 hy e2=>hj' A hA env ρ w2 h2 s2 hs2 ((he.ext x1).ext x2) _ res e2 _ λw3 h3 s3 z z' Jx x3 hz e3=>aO (aC (Jx.junk ax {cls:= .type "slice",data:= .fields #[y',z',.none]} s3.toks) λx4 Vs=> ?_)));have hu4:=((hu.mono x2.dW).mono x3.dW).mono x4.dW;have hsl:=Heap.IsSliceOf.new s3.heap y' z' .none;have hQ4:=hQ.ext (((x1.trans x2).trans x3).trans x4);refine sE e3 (λh4 e=> ?_) λu_ e=> ?_
 .exact gb (Tr (A:=A) Vs hu4 hy hz hsl hQ4 h4 e) λq t=>eU (GH t FB.slot_bytes_getitem.lookup q)
 .exact gb (Tt (A:=A) Vs hu4 hy hz hsl hQ4 ax e) λq t=>eU (GH t slot_list_getitem.lookup q)
end
section
variable {X:dz} {K:Frag} {r:Ap} {n b:Nat} {ns:List (Str×aN)} {w:Wd} {h:ae7} {s:Shared} {env:dD} {ρ:Env}
theorem uR {g:Heap} (x:g.Ns a m) (e:g.get? a=O o):d9 o=false:=by
 obtain⟨o',f,ep,c,d,_⟩:=x;injection e.symm.trans c with hq;subst hq
 unfold d9;exact U d rfl
theorem y9 {g:Heap} (x:g.IsCell a v) (e:g.get? a=O o):d9 o=false:=by
 refine dN x λo' c d=> ?_;injection e.symm.trans c with hq;subst hq
 unfold d9;exact U d rfl
theorem rj {g:Heap} (x:g.Ns a m) (y:g.IsCell a v):False:=by
 obtain⟨o,i,ep,e,d,_⟩:=x;refine dN y λo' f c=> ?_;injection e.symm.trans f with hq;subst hq
 rw [d] at c;injection c
theorem za (ax:bw X) (hs:St X w h s) (he:eX X env ns ρ w h.n s) (hx:aZ x=H) (hk:bg (nm x) ns=O .local\/bg (nm x) ns=O .cell) (hv:VR X s.heap w h.n v y)
 (hQ:∀s',St X w h s'->eX X env ns (gf ρ (nm x) v) w h.n s'->Ext X (AF env ns) w h.n s w h.n s'->Q () s'):wpAny (model X.prog X.w) A (storeName env x y) Q E s:=by
 refine aL he.loc λm J hm=> ?_;have G:∀y u,find y (gf ρ (nm x) v).loc=O u->bg y ns=O .local\/bg y ns=O .cell:=λy u h=>by
  have h:find y (setIn (nm x) v ρ.loc)=O u:=h;rw [jS] at h;by_cases hq:y=nm x
  .refine U hq ?_;exact hk
  .rw [if_neg hq] at h;exact he.locs y u h
 rcases hk with hk|hk
 .refine wpAny_storeName_local (he.kind x _ hx hk) hm (λh' D p=> ?_) (U he.fn rfl);have d:∀a,a≠env.locals->∀o,s.heap.get? a=O o->h'.get? a=O o:=λa g o e=>(p.2 a g).trans e;have t:∀a o,a=env.locals->s.heap.get? a=O o->d9 o=false:=λa o g e=>by subst g;exact uR hm e
  refine aC (hs.grow ax (F:=λa=>a=env.locals) (s':={s with heap:=h',toks:=s.toks+1}) (cX p.1.symm) t (λa g=>by subst g;exact⟨he.Dz.1,he.Dz.2.1⟩) (λa o g e=>d a g o e) rfl rfl) λL V=> ?_;have k:=L.keep t;have I:∀{c M},s.heap.IsCell c M->c≠env.locals:=λhc hq=>by subst hq;exact rj hm hc
  refine hQ _ V ⟨he.fn,he.glob,he.blt,he.kind,he.cls,he.Gx,(bW _ D (λz u h1 h2 f=> ?_)),he.Dz,λz h1 h2=> ?_,λz u c h1 h2 f C=> ?_,λz u c h1 h2 f C=> ?_,he.apart,G,he.outs,he.N2⟩ (L.weaken λa g=> .inl g)
  .have f:find (nm z) (setIn (nm x) v ρ.loc)=O u:=f;rw [jS] at f;by_cases hq:nm z=nm x
   .rw [if_pos hq] at f;injection f with f;subst f
    exact bW y (if_pos (gS h1 hx hq)) (hv.mono k)
   .rw [if_neg hq] at f;exact aL (J z u h1 h2 f) λB j i=>bW B ((if_neg λe=>hq (by exact U e rfl)).trans i) (j.mono k)
  .exact HB (he.cell z h1 h2) λc M i j a3 R S=>lT c M i j a3 R (ig S (d _ (I S)))
  .have f:find (nm z) (setIn (nm x) v ρ.loc)=O u:=f;rw [jS,if_neg (λhq=>by rw [hq,hk] at h2;cases h2)] at f;exact aL (he.wX z u c h1 h2 f C) λB j i=>bW B (ig i (d _ (I i))) (j.mono k)
  .exact aL (he.wY z u c h1 h2 f C) λB j i=>bW B (ig i (d _ (I i))) (j.mono k)
 .refine HB (he.cell x hx (.inl hk)) λl abC P c2 c3 c4 c5=>wpAny_storeName_cell he.fn (he.kind x _ hx hk) P c5 (λh' D p=> ?_);have d:∀a,a≠l->∀o,s.heap.get? a=O o->h'.get? a=O o:=λa g o e=>(p.2 a g).trans e;have t:∀a o,a=l->s.heap.get? a=O o->d9 o=false:=λa o g e=>by subst g;exact y9 c5 e
  refine aC (hs.grow ax (F:=λa=>a=l) (s':={s with heap:=h'}) (cX p.1.symm) t (λa g=>by subst g;exact⟨c2,c3⟩) (λa o g e=>d a g o e) rfl rfl) λL V=> ?_;have k:=L.keep t;refine hQ _ V ⟨he.fn,he.glob,he.blt,he.kind,he.cls,he.Gx,(bW m (uK hm (d _ λq=>rj hm (q▸c5))) (λz u h1 h2 f=> ?_)),he.Dz,λz h1 h2=> ?_,λz u c h1 h2 f C=> ?_,λz u c h1 h2 f C=> ?_,he.apart,G,he.outs,he.N2⟩
   (L.weaken λa g=> .inr (f7 x hx hk (g▸P)))
  .have f:find (nm z) (setIn (nm x) v ρ.loc)=O u:=f;rw [jS,if_neg (λhq=>by rw [hq,hk] at h2;cases h2)] at f;exact aL (J z u h1 h2 f) λB j i=>bW B i (j.mono k)
  .refine HB (he.cell z h1 h2) λc M i j a3 R S=> ?_;by_cases hq:c=l
   .subst hq;exact lT c _ i j a3 R D
   .exact lT c M i j a3 R (ig S (d _ hq))
  .have f:find (nm z) (setIn (nm x) v ρ.loc)=O u:=f;rw [jS] at f;by_cases hq:nm z=nm x
   .rw [if_pos hq] at f;injection f with f;subst f
    cases gS h1 hx hq;injection C.symm.trans P with hq;subst hq
    exact bW y D (hv.mono k)
   .rw [if_neg hq] at f;exact aL (he.wX z u c h1 h2 f C) λB j i=>bW B (ig i (d _ λe=>hq (U (he.apart z x c C (e▸P)) rfl))) (j.mono k)
  .exact aL (he.wY z u c h1 h2 f C) λB j i=>bW B (ig i (d _ λe=>by rw [he.apart z x c C (e▸P),hk] at h2;cases h2)) (j.mono k)
theorem ri.loc (f:bw X) x p (hx:aZ x=H) (hk:bg (nm x) ns=O .local\/bg (nm x) ns=O .cell):ri X r n b ns (kj (nm x)) (.Name x p):=by
 intro A j env ρ w h s g he v y hv k res e Q i;exact eU (aq (xN (wpAny_bindName (za f g he hx hk hv λs' a c d=>i _ w h s' a c d e))))
theorem ri.bad t:ri X r n b ns B3 t:=λc c c c c c c c c c c c c c e=>fn e
theorem AF.fixed (he:eX X env ns ρ w h.n s):∀a o,AF env ns a->s.heap.get? a=O o->d9 o=false:=by
 intro a o f e;rcases f with rfl|⟨x,h1,h2,g⟩
 .refine aL he.loc λm d hm=> ?_;exact uR hm e
 .refine HB (he.cell x h1 (.inl h2)) λc k i d d d j=> ?_;injection g.symm.trans i with hq;subst hq
  exact y9 j e
theorem ri.attr (k:bw X) (l:Jw X K) p (hx:aZ x=H) (d:∀c,find c cs≠au->X.fld c x) (m:cQ X r n b ns o t):ri X r n b ns (RP o (nm x) cs) (.Attribute t x p):=by
 intro A q env ρ w h s z he v y hv G res e Q B;refine ay (bh (m A q env ρ w h s z he _ res e _ λC h1 I u J f g hu D=>(ay (bG (ay (bh (eU (Fq k l f hu hx (hv.mono g.dW) d D λh2 E i hn j F=>(eU<|wpAny_release (B ρ C h2 E i (hn▸(he.ext g).ext j) (hn▸(g.trans j).weaken λa h=>h.elim) F))))))))))
theorem Ft {items} (hl:s.heap.IsList l items) (c:vz k=H) (a:wN k items.size=O j) (p:j<items.size)
 (m:Q () {s with heap:=s.heap.update l (eH (·.setIfInBounds j v))}):wpAny (model X.prog X.w) A (setItem (.ref l) (.int k t) v) Q E s:=by
 refine Ry (id hl) λo u e x f=> ?_;have d:=oW p;unfold setItem
 try with_reducible refine bO ?_
 refine bq (As hl.typeIs rfl) ?_;refine aq (dU (name:=bY "__setitem__") hl.typeIs slot_list_setitem
  (bH slot_list_setitem hl.typeIs entry_list_setitem ?_ (args_list_setitem _ _ _)))
 refine(?_:wpAny _ _ (Builtin.List.listSubscript? (.int k t)>>=_) _ _ s);refine bq (wpAny_listSubscript_int c) ?_
 induction k using Int.casesOn with
 |ofNat i=>
  have g:i=j:=by
   rcases A8 a with⟨_,_,q⟩|⟨q,_,_⟩
   .exact q.symm
   .exact absurd q (kH.mpr (cC i))
  subst g;refine aq (aq (wpAny_seqItemAt e f (av (U d ((?_:wpAny _ _ (setSeqItemAt l i v>>=_) _ _ s))))));exact bq (wpAny_setSeqItemAt e f) (aq (av (av ⟨.none,rfl,av m⟩)))
 |negSucc i=>
  refine aq (aq ((?_:wpAny _ _ (sr (.ref l)>>=_) _ _ s)));refine aq (dB e f (av (av (U a ?_))));simp only [Option.bind_some,d,Option.map_some];exact bq (wpAny_setSeqItemAt e f) (aq (av (av ⟨.none,rfl,av m⟩)))
theorem rm (e:oLe (dZ d c)=H):d.length<=1000000:=len_eq d▸(i6 (f6 (aA e)):len d<=1000000)
theorem K1 (t:bw X) (p:St X w h s) (F:A.units+200<=9900) (hv:VR X s.heap w h.n v y) (hi:VR X s.heap w h.n i j) (hu:VR X s.heap w h.n u z) (e:RI v i u h k=O res)
 (x:∀h' s',St X w h' s'->h'.n=h.n->Ext X cV w h.n s w h.n s'->k di h'=O res->Q () s'):wpAny (model X.prog X.w) A (setItem y j z) Q (λB B=>False) s:=by
 refine dF (dj e) λo e G q=>U ((hv.eu G).1) ?_;have f:=(p.rep _ o q).2;refine sE e (λh1 e=> ?_) λB e=> ?_
 .refine aL (bC e) λl e m=>aC (dM e) λe hz=>jK (f.lY (aH h1)) λitems ep C D hn g=> ?_;rw [len_eq,g.length,aM] at m;obtain⟨tk,I,J,R,S,L,M⟩:=DI hi hn m;rw [HK] at e;refine U I (Ft (gc _ C rfl _ rfl) J L M ?_);have E:=p.turn t q (eH (·.setIfInBounds l z)) s.toks (o':=bL (o.xs.set l u)) (λP D=> .list _ (items.setIfInBounds l z) _ D (bE _ C rfl) (by simpa using hn) (by simpa using (g.set l hu).mono P)) (t8 (aH h1) rfl);exact x _ _ E.1 rfl E.2 e
 .exact aC (dM e) λe h2=>aL (bC e) λd e m=>aC (dM e) λe hz=>Fj t p ((f.eqs.2 (aH h2))▸q) hi hu m (rm hz) (cl F rfl) λs' a c=>x _ s' a rfl c e
theorem ri.sub (q:bw X) p (x:cQ X r n b ns o t) (hi:cQ X r n b ns i j):ri X r n b ns (aSub o i) (.Subscript t j p):=by
 intro A f env ρ w h s B he v y hv P res e Q C;exact ay (bh (x A f env ρ w h s B he _ res e _ λD h1 E u R g c hu F=>(ay (bh (hi A f env ρ D h1 E g (he.ext c) _ res F _ λG h2 S z V k d hz I=>(ay (bG (ay (bh (eU (K1 q k (f.u rfl) (hu.mono d.dW) hz ((hv.mono c.dW).mono d.dW) I λJ L l hn m M=>(eU<|wpAny_release (C ρ G J L l (hn▸((he.ext c).ext d).ext m) (hn▸((c.trans d).trans m).weaken λa h=>h.elim) M)))))))))))))
end
end
section
theorem wj {M} (h:Runs M Γ p t fs s e s'):s.heap.objs.size<=s'.heap.objs.size:=by
 induction h<;>(try simp only [Shared.setGen,bJ,jD] at*)<;>lia
theorem Cf {M} (h:Returns M Γ p s r s'):s.heap.objs.size<=s'.heap.objs.size:=wj h
theorem Fv {M} (h:Wakes M Γ p g r s res s'):s.heap.objs.size<=s'.heap.objs.size:=by
 unfold Wakes at h;split at h
 .exact h.elim
 .split at h
  .refine uw h λe₁ s₁ ow=> ?_;subst ow;intro hr _ _;exact(wj hr:(s.setGen g .running).heap.objs.size<=s₁.heap.objs.size)
  .refine U h.2 ?_;exact bu _
  .refine U h.2 ?_;exact bu _
 .refine uw h λe₁ s₁ ow=> ?_;subst ow;intro hr _ _;exact(wj hr:(s.setGen g .running).heap.objs.size<=s₁.heap.objs.size)
 .refine U h.2 ?_;exact bu _
 .refine U h.2 ?_;exact bu _
theorem Om M Γ n t:∀(Q:α->Pos->Shared->Prop) E p s,n<=s.heap.objs.size->Sem.wp M Γ t Q E p s->
 Sem.wp M Γ t (λa d s'=>n<=s'.heap.objs.size/\Q a d s') (λe d s'=>n<=s'.heap.objs.size/\E e d s') p s:=by
 induction t with
 |pure a=>intro Q E p s hn h;exact⟨hn,h⟩
 |raise e=>intro Q E p s hn h;exact⟨hn,h⟩
 |unsupported _=>intro Q E p s _ h;exact h
 |finish _=>intro Q E p s _ h;exact h
 |rule _ k b=>intro Q E p s hn h;exact b () Q E p s hn h
 |«at» d k b=>intro Q E p s hn h;exact b () Q E d s hn h
 |load a _ k b=>intro Q E p s hn h;refine dN h λo l h=> ?_;exact bW o l (b o Q E p s hn h)
 |update a _ f k b=>intro Q E p s hn h;exact⟨h.1,b () Q E p _ (U (jD ..) hn) h.2⟩
 |loadIfAlive a k b=>intro Q E p s hn h;exact b _ Q E p s hn h
 |point _ k b=>intro Q E p s hn h;exact b () Q E p s hn h
 |register _ _=>intro Q E p s _ h;exact h
 |alloc o k b=>intro Q E p s hn h;exact b _ Q E p _ (U (bJ ..) (xB hn)) h
 |fresh k b=>intro Q E p s hn h;exact b _ Q E p _ hn h
 |ask k b=>intro Q E p s hn h;exact b _ Q E p s hn h
 |choose u m k b=>intro Q E p s hn h;exact⟨h.1,b _ Q E p _ hn h.2⟩
 |os q _ k b=>intro Q E p s hn h;exact b _ Q E p _ hn h
 |call c x _ _ k b=>intro Q E p s hn h;refine nH h λr s' h i=> ?_;exact mZ r s' i (b r Q E p s' (aI hn (Cf i)) h)
 |handled own k b=>intro Q E p s hn h;exact b _ Q E p s hn h
 |genState g k b=>intro Q E p s hn h;refine dN h λv w h=> ?_;exact bW v w (b _ Q E p s hn h)
 |newGen c k b=>intro Q E p s hn h;exact b _ Q E p _ hn h
 |resume g r _ k b=>intro Q E p s hn h;refine nH h λres s' h j=> ?_;exact mZ res s' j (b res Q E p s' (aI hn (Fv j)) h)
 |yield _ _ _ _=>intro Q E p s _ h;exact h
 |stack k b=>intro Q E p s hn h;exact b _ Q E p s hn h
 |fork _ _=>intro Q E p s _ h;exact h
 |thread k b=>intro Q E p s hn h;exact b _ Q E p s hn h
 |await _ _ _ _ _=>intro Q E p s _ h;exact h
section
variable {α:Type} {M:Model} {A:Around} {s:Shared}
theorem bX {t:Sem α} {Q:α->Shared->Prop} {E:Value->Shared->Prop} (h:wpAny M A t (λa s'=>s.heap.objs.size<=s'.heap.objs.size->Q a s') E s):wpAny M A t Q E s:=
 λc p d=>pS M c t (λb b b x=>x.2 x.1) (λb b b x=>x.2) p s (Om M c _ t _ _ p s (bu _) (h c p d))
end
end
section
open PyProof.Rows PySem.Calls PySem.SeqAt PySem.W
section
variable {X:dz} {K:Frag} {r:Ap} {n b:Nat} {ns:List (Str×aN)} {w:Wd} {h:ae7} {s:Shared} {env:dD} {ρ:Env}
theorem St.ja (f:bw X) (g:St X w h s) (c:s.heap.objs.size<=h'.objs.size) (old:∀a o,s.heap.get? a=O o->h'.get? a=O o):
 St X w h {s with heap:=h',toks:=tk}/\Ext X cV w h.n s w h.n {s with heap:=h',toks:=tk}:=
 g.grow f (F:=cV) c (λd d h=>h.elim) (λd h=>h.elim) (λa o d e=>old a o e) rfl rfl
theorem w9 (q:bw X) (g:St X w h s) (u:A.handled=au) (hv:VR X s.heap w h.n v y) (e:Dj v h k=O res):
 ∃vs,k vs h=O res/\∀{Q} {E},(∀ys s',St X w h s'->Ext X cV w h.n s w h.n s'->ef X s'.heap w h.n vs ys->Q ys s')->wpAny (model X.prog X.w) A (unpackItems y vs.length au) Q E s:=by
 have e:(ah (gR v h k) (k v.xs h) (ak v.t 5):Option Res)=O res:=e
 induction i:ak v.t 5 using zB with
 |true=>
  rw [i] at e
  induction hv using Mine.VR.casesOn with
  |tup xs a items ep B hm j hn c=>
   refine bW xs e (λ{Q E} l=> ?_);have hl:xs.length=items.size:=by refine U c.length ?_;simp
   exact U hl (bX (wpAny_unpackItems_tuple u (gc _ j rfl _ rfl) λh' he d=>(aC (g.ja q (tk:=s.toks) d λa o e=>he a o (cj (bk e)) e) λf m=>l _ _ m f (c.mono f.dW))))
  |_=>exact nn (aH i) rfl
 |false=>
  rw [i] at e;obtain⟨x,o,z,h1,e⟩:=fR e;refine gb (hv.eu x) λp=> ?_;subst p;intro _;refine sS (g.listAt z h1) λitems ep j hn c C=>bW o.xs e (λ{Q E} l=> ?_);have hl:o.xs.length=items.size:=by refine U c.length ?_;simp
  exact U hl (bX (kun_itemsOf u (gc _ j rfl _ rfl) λh' he d=>(aC (g.ja q (tk:=s.toks) d λa o e=>he a o (cj (bk e)) e) λf m=>l _ _ m f (c.mono f.dW))))
theorem m7 (h:tgtName ns e=O x):∃y p,e= .Name y p/\aZ y=H/\x=nm y/\(bg (nm y) ns=O .local\/bg (nm y) ns=O .cell):=by
 unfold tgtName at h;refine nH (RX h) λy p h he=> ?_
 induction hy:aZ y using zB with
 |false=>rw [hy] at h;exact fn h
 |true=>
  rw [hy] at h
  induction hk:bg (nm y) ns using zO with
  |none=>rw [hk] at h;exact fn h
  |some k=>
   rw [hk] at h
   induction k using dw with
   |«local»=>exact lG y p he hy ((aF h).symm) (.inl hk)
   |cell=>exact lG y p he hy ((aF h).symm) (.inr hk)
   |_=>exact fn h
theorem lZ (e:storeAll (x::l) vs ρ=O ρ'):∃v us,vs=v::us/\storeAll l us (gf ρ x v)=O ρ':=by
 induction vs using zL with
 |nil=>exact fn e
 |cons v us=>exact mZ v us rfl e
theorem o6 (h:fX ns (e::es)=O l):∃x l',tgtName ns e=O x/\fX ns es=O l'/\l=x::l':=by
 unfold fX at h
 induction hx:tgtName ns e using zO with
 |none=>rw [hx] at h;exact fn h
 |some x=>
  induction hl:fX ns es using zO with
  |none=>rw [hx,hl] at h;exact fn h
  |some l'=>rw [hx,hl] at h;exact jY x l' rfl rfl ((aF h).symm)
theorem mL (e:storeAll l vs ρ=O ρ'):l.length=vs.length:=by
 induction l generalizing vs ρ with
 |nil=>
  induction vs using zL with
  |nil=>rfl
  |cons v us=>exact fn e
 |cons x l c=>
  refine HA (lZ e) λv us a=> ?_;subst a;intro e;simp [c e]
theorem AG:∀{f} {l},fX ns f=O l->(assignEach f env).length=l.length/\(assignEach f env).findIdx? (·.1)=none:=by
 intro f
 induction f with
 |nil=>
  intro l h;injection h with hq;subst hq;exact⟨rfl,rfl⟩
 |cons e f i=>
  intro l h;refine kJ (o6 h) λx j d=> ?_;subst d;intro hx hl;refine yC (m7 hx) λy p d g=> ?_;subst d;subst g;intro hy hk;refine aC (i hl) λc a=>⟨by exact(λ{a b}=>Iff.mpr Nat.succ_inj) a,(U (List.findIdx?_cons) ?_)⟩;simp [c]
theorem DJ (u:bw X):∀{i} {l} {vs} {ys} {ρ g} {s} {Q},fX ns i=O l->ef X s.heap w h.n vs ys->St X w h s->eX X env ns ρ w h.n s->storeAll l vs ρ=O g->
 (∀s',St X w h s'->eX X env ns g w h.n s'->Ext X (AF env ns) w h.n s w h.n s'->Q () s')->wpAny (model X.prog X.w) A (assignInOrder ((assignEach i env).map (·.2)) ys) Q (λB B=>False) s:=by
 intro i
 induction i with
 |nil=>
  intro l vs ys ρ g s Q ht hv j he e k;injection ht with hq;subst hq
  cases hv with
  |nil=>injection e with hq;subst hq;exact av (k s j he .refl)
  |cons=>exact fn e
 |cons t i C=>
  intro l vs ys ρ g s Q ht hv j he e k;refine kJ (o6 ht) λx F f=> ?_;subst f;intro hx hl;refine yC (m7 hx) λy p f m=> ?_;subst f;subst m;intro hy hk;refine HA (lZ e) λv us f=> ?_;subst f;intro e;cases hv with
  |cons _ z _ G hv o=>
   exact aq (bO (aq (xN (wpAny_bindName (za u j he hy hk hv λs' a c d=>(C hl (o.mono (d.keep (AF.fixed he))) a c e λq D c' E=>k q D c' (d.trans E)))))))
theorem ri.tup (i:bw X) (ht:fX ns es=O l) z p:ri X r n b ns (B0 l) (.Tuple es z p):=by
 intro A m env ρ w h s o he v y hv E res e Q t;refine aL (w9 i o m.handled hv e) λvs hu e=>dN (bC e) λu j x=>aC (AG (env:=env) ht) λc a=>(?_:cG _ _ (standAt p>>=λB=>unpack y (assignEach es env)) _ _ s);refine eU (bq xN ?_);unfold unpack;exact U a (U c (U (mL j) (aq (bO (hu λys s' d k f=>(DJ i ht f d (he.ext k) j λg C c' D=>t _ w h g C c' ((k.weaken λB q=>q.elim).trans D) x))))))
end
abbrev rq (M:Model) (fv:Value) (g:Heap):Prop:=∃k,(k=Keeper.frame\/k=Keeper.machine\/k=Keeper.boundFrame)/\Looks M g (keeperOf fv) k
def RV (Q:Value->Shared->Prop):Result->Shared->Prop:=λr s=>match r with| .ok (.ret v)=>Q v s|_=>False
structure Cg (X:dz) (r:Ap) (n:Nat):Prop where
 call:∀A,fO n 0 A->∀w h s,St X w h s->∀f fv,VR X s.heap w h.n f fv->∀vs ys,ef X s.heap w h.n vs ys->∀k res,r f vs h k=O res->∀Q:Value->Shared->Prop,
  Goes (PV X) X w h.n s k res Q->cG (model X.prog X.w) A (call fv ys) Q (λu_ u_=>False) s
 kept:∀w h s,St X w h s->∀f fv,VR X s.heap w h.n f fv->∀vs k res,r f vs h k=O res->rq (model X.prog X.w) fv s.heap
 fn:∀A,fO n 0 A->∀w h s,St X w h s->∀a vs ys,ef X s.heap w h.n vs ys->∀k res,r (bM a) vs h k=O res->∀Q:Value->Shared->Prop,
  Goes (PV X) X w h.n s k res Q->codeN (model X.prog X.w) A (.call (.ref a) ⟨ys,[]⟩) (RV Q) s
section
variable {X:dz} {K:Frag} {r:Ap} {n b:Nat} {ns:List (Str×aN)} {w:Wd} {h:ae7} {s:Shared} {env:dD} {ρ:Env}
theorem lI:∀{xs},xs.any br=aj->(backTo pos (starEach xs env)).any (·.1)=false:=by
 intro xs
 induction xs with
 |nil=>
  intro _;exact rfl
 |cons a d e=>
  intro h;rw [gi,iz] at h;have c:starEach (a::d) env=(aj,eval a env)::starEach d env:=by
   rcases a<;>first|rfl|exact ft (h.1)
  refine U c ((?_:(aj||(backTo pos (starEach d env)).any (·.1))=aj));refine U (e h.2) ?_;rfl
theorem l8 {M} (hp:args.any (·.1)=aj) (h:cG M A (spliced args) (λvs s'=>Q ⟨vs,[]⟩ s') E s):cG M A (evalArgs f H args []) Q E s:=by
 induction args using zL with
 |nil=>
  refine ay (aW h (λvs s' h'=> ?_) λc c x=>x);exact NF (bh (ay (aO (ay (aO (aO h'))))))
 |cons a l=>
  obtain⟨e,t⟩:=a;have d:e=false:=by
   rw [gi,iz] at hp;exact hp.1
  subst d;refine ay (aW h (λvs s' h'=> ?_) λc c x=>x);exact bh (ay (aO (ay (aO (aO h')))))
theorem K2 {M} {A} {E} {s} {vs} {m} {Q:α->Shared->Prop} (h:cG M A m Q E s):cG M A (m.keep vs) Q E s:=λc p a d=>U (Sem.wp_keep ..) (h c p a d)
theorem pM {M} (hp:args.any (·.1)=aj)
 (h:cG M A (evalArgs f H args []) (λa s₁=>rq M f s₁.heap/\cG M A (call f (first++a.pos) a.kw) Q E s₁) E s):cG M A (callWith pos f first args []) Q E s:=by
 refine ay (bh (aW h (λa s₁ e=>ay (bG ?_)) λg g x=>x));obtain⟨⟨k,hk,L⟩,h2⟩:=e;refine U (show(args.any (·.1)||([]:List (Option Str×Sem Value)).any (·.1.isNone))=aj from by rw [hp];rfl) ?_;have c:∀{t},cG M A t Q E s₁->cG M A (t>>=λr=>holding [r] point>>=λg=>pure r) Q E s₁:=
  λht=>ay (aW ht (λr i j=>ay (bh (eU (vH (aO j))))) λg g x=>x)
 have d (l:Value):cG M A (callMarked l f (first++a.pos) a.kw) Q E s₁:=by unfold callMarked;exact K2 h2
 refine ND (L.here) ?_;rcases hk with rfl|rfl|rfl<;>dsimp only<;>first|exact c h2|(split<;>first|exact c h2|exact c (d _))
theorem DK (hl:AE X r n b ns l args) (a:args.any br=aj) (d:fO n b A) (g:St X w h s) (he:eX X env ns ρ w h.n s) pos
 (e:l.f r ρ h k=O res) (i:KA X w h.n s k res (λys s'=>rq (model X.prog X.w) fv s'.heap/\cG (model X.prog X.w) A (call fv (first++ys)) Q (λc c=>False) s')):
 cG (model X.prog X.w) A (callWith pos fv first (backTo pos (starEach args env)) []) Q (λc c=>False) s:=by
 have hp:=lI (env:=env) (pos:=pos) a;exact pM hp (l8 hp (hl A d env ρ w h s g he k res e pos _ i))
theorem cQ.call (v:Cg X r n) pos (d:∀o m p,fe≠.Attribute o m p) (i:args.any br=aj) (E:cQ X r n b ns f fe) (hl:AE X r n b ns l args):cQ X r n b ns (kK f l) (.Call fe args [] pos):=by
 intro A j env ρ w h s F he k res e Q G;have q:eval (.Call fe args [] pos) env=(do callWith pos (<-eval fe env) [] (backTo pos (starEach args env)) []):=by
  rcases fe<;>first|rfl|exact absurd rfl (d _ _ _)
 refine U q (ay (E A j env ρ w h s F he _ res e _ λL h1 M g x t y I J=>(DK hl i j t (he.ext y) pos J λz h2 B vs ys a C u D=> ?_)));have c:=I.mono C.dW;exact⟨v.kept z h2 B a g x c vs k res D,v.call A (j.less (iC _)) z h2 B a g x c vs ys u k res D Q (G.ext (y.trans C))⟩
noncomputable def GI (K:Frag) (c:Addr) (x:Str) (g:Addr):Bool:=findIn K (.ref c) x==O (O (.ref g))&&typeIn K (.ref g)==O (.type "function")&&
 findIn K (.ref c) "__getattribute__"==O (O (.builtin "object.__getattribute__"))&&findIn K (.ref c) "__getattr__"==O au
structure Ci (X:dz) (K:Frag) (ms:List (Nat×Nat)) (x:Str):Prop where
 cls:∀c g,find c ms=O g->∃F,Fl X F/\GI F c x g=H
theorem Oo (d:Fl X K) (e:St X w h s) (I:InstAt s.heap a ox C od) (hm:GI K C x g=H) (c:shadowIn od x=O aj) (q:Q (.ref g,[.ref a]) s):
 wpAny (model X.prog X.w) A (getMethod (.ref a) x pl) Q E s:=by
 unfold GI at hm;simp only [aP,beq_iff_eq] at hm;exact method_fn (d.In e) I hm.1.2 hm.2 hm.1.1.1 hm.1.1.2 c q
structure R2 (X:dz) (b:Nat) (x:Str) (T id:String):Prop where
 pa:PlainAttrs T
 slot:Slot T x id
 ty:typeOf (.builtin id)=pure (.type "method_descriptor")
noncomputable def R3 (t:Nat):String:=match t with|1=>"list"|2=>"dict"|3=>"bytearray"|_=>""
noncomputable def R4 (t:Nat):String:=match t with|3=>"str"|4=>"bytes"|5=>"tuple"|_=>""
def qu (X:dz) (b:Nat) (x:Str) (fo:OF):Prop:=∀t,fo.ok t=H->(t=1\/t=2\/t=3)/\∃id,R2 X b x (R3 t) id/\
 ∀A n,fO n b A->∀w h s,St X w h s->∀ov y,VR X s.heap w h.n ov y->ov.t=6->∀o,h.l.get ov.n=O o->o.t=t->∀vs ys,ef X s.heap w h.n vs ys->∀k res,fo.f ov o vs h k=O res->∀Q:Value->Shared->Prop,
  Goes (PV X) X w h.n s k res Q->cG (model X.prog X.w) A (call (.builtin id) (y::ys)) Q (λu_ u_=>False) s
def xd (X:dz) (b:Nat) (x:Str) (fv:VF):Prop:=∀t,fv.ok t=H->(t=3\/t=4\/t=5)/\∃id,R2 X b x (R4 t) id/\
 ∀A n,fO n b A->∀w h s,St X w h s->∀ov y,VR X s.heap w h.n ov y->ov.t=t->∀vs ys,ef X s.heap w h.n vs ys->∀k res,fv.f ov vs h k=O res->∀Q:Value->Shared->Prop,
  Goes (PV X) X w h.n s k res Q->wpAny (model X.prog X.w) A (call (.builtin id) (y::ys)) Q (λu_ u_=>False) s
theorem qd M id g:rq M (.builtin id) g:=bW .machine (.inr (.inl rfl)) Looks.now
theorem sW {M} (hp:trees.any (·.1)=aj) (hm:m<30) (c:ak ap.endLine pos.line=H)
 (h:cG M A (getMethod ov x (do return(<-importBound o env).getD H)) (λp s'=>cG M A (callWith pos p.1 p.2 trees []) Q E s') E s):cG M A (methodCall o x ap pos env ov m trees []) Q E s:=by
 have d:methodCallForm m trees []=true:=by
  unfold methodCallForm;have:trees.all (λx=> !x.1)=true:=by
   rw [aK];intro y hy;rw [List.any_eq_false] at hp;exact(λ{a}=>Iff.mpr bi_not) (hp y hy)
  refine U this ?_;simp [hm]
 have e:methodCallPos H o env ap pos=pure pos:=by
  have:(ap.endLine==pos.line)=true:=by rw [beq_iff_eq];exact aH c
  exact if_pos this
 unfold methodCall;refine U d (U e (ay (bh (aW h (λp s' q=> ?_) λg g q=>q))));obtain⟨f,first⟩:=p;exact ay (aO q)
theorem VR.typeIs (h:VR X s.heap w n v y) (ht:v.t=3\/v.t=4\/v.t=5):s.TypeIs y (R4 v.t)/\∀a,y= .ref a->∃c,s.heap.get? a=O c/\c.dict=oR:=by
 induction h using Mine.VR.casesOn with
 |str f tk hn=>exact⟨typeIs_str _ _ _,λa e=>(by injection e)⟩
 |bytes f tk hn=>exact⟨j9 _ _ _,λa e=>(by injection e)⟩
 |tup xs a items ep i hm d hn g=>exact⟨(bW _ d rfl),λj e=>by injection e with e;exact(bW _ (e▸d) rfl)⟩
 |_=>rcases ht with q|q|q<;>exact nn q rfl
theorem Rep.typeIs (h:Rep X s.heap w n i o) (ht:o.t=1\/o.t=2\/o.t=3):s.TypeIs (.ref (w.ρ i)) (R3 o.t)/\∀a,iu (w.ρ i)= .ref a->∃d,s.heap.get? a=O d/\d.dict=oR:=by
 induction h using Mine.Rep.casesOn with
 |list _ _ _ _ c|dict _ _ _ _ c|E5 _ _ c=>exact⟨(bW _ c rfl),λf e=>by injection e with e;exact(bW _ (e▸c) rfl)⟩
 |_=>rcases ht with q|q|q<;>exact nn q rfl
theorem cQ.HG (kx:Jw X K) (rk:Cg X r n) (ap pos) (hx:aZ x=H) (hn:lV v=H) (E:ak ap.endLine pos.line=H) (S:args.length<30) (B:args.any br=aj)
 (ho:cQ X r n b ns o v) (hl:AE X r n b ns l args) (hm:Ci X K ms x) (hO:qu X b x fo) (hV:xd X b x fv):cQ X r n b ns (Dh o (nm x) ms fo fv l) (.Call (.Attribute v x ap) args [] pos):=by
 intro A F env ρ w h s hs he k res e Q hQ;refine ay (K0 hn (ho A F env ρ w h s hs he _ res e _ λw1 h1 s1 d y i x1 m a=>(ay (bG (sW (lI (env:=env) (pos:=pos) B) S E ?_)))));have G:=he.ext x1;have fn:∀g,l.f r ρ h1 (λvs h=>r (bM g) (d::vs) h k)=O res->cG (model X.prog X.w) A (callWith pos (.ref g) [y] (backTo pos (starEach args env)) []) Q (λI I=>False) s1:=by
  intro g p;exact DK hl B F i G pos p λP h2 R vs ys j C u e3=>⟨rk.kept P h2 R j _ _ (.fn g) (d::vs) k res e3,rk.call A (F.less (iC _)) P h2 R j _ _ (.fn g) _ _ (.cons _ _ _ _ (m.mono C.dW) u) k res e3 Q (hQ.ext (x1.trans C))⟩
 have a:(ah (ah au (l.f r ρ h1 λvs h=>fv.f d vs h k) (fv.ok d.t)) (look d h1 λo h=>ah (ah au (l.f r ρ h λvs h=>look d h λo' h=>ah au (fo.f d o' vs h k) (ak o'.t o.t)) (fo.ok o.t))
  (aB (aB au (λg=>l.f r ρ h λvs h=>r (bM g) (d::vs) h k) (find o.c ms)) (λI=>au) (find (nm x) o.fs)) (ak o.t 0)) (ak d.t 6):Option Res)=O res:=a
 induction h6:ak d.t 6 using zB with
 |false=>
  have a:(ah au (l.f r ρ h1 λvs h=>fv.f d vs h k) (fv.ok d.t):Option Res)=O res:=by rw [h6] at a;exact a
  refine aC (dM a) λa J=>dF (hV _ J) λid hc ht L=> ?_;have V:=m.typeIs ht;exact eU (getMethod_builtin V.1 L.pa L.slot L.ty V.2 (DK hl B F i G pos a λP h2 R vs ys j C u p=>⟨qd _ _ _,(eU (hc A n F P h2 R j d y (m.mono C.dW) rfl vs ys u k res p Q (hQ.ext (x1.trans C))))⟩))
 |true=>
  rw [h6] at a;refine dF (dj a) λD a h6' hob=>gb (m.eu h6') λow=> ?_;subst ow;intro hlt;have a:(ah (ah au (l.f r ρ h1 λvs h=>look d h λo' h=>ah au (fo.f d o' vs h k) (ak o'.t D.t)) (fo.ok D.t))
   (aB (aB au (λg=>l.f r ρ h1 λvs h=>r (bM g) (d::vs) h k) (find D.c ms)) (λI=>au) (find (nm x) D.fs)) (ak D.t 0):Option Res)=O res:=a
  induction h0:ak D.t 0 using zB with
  |true=>
   rw [h0] at a;refine p6 (i.Fo hob (aH h0)) λdx es ep I hr hrd hne hg hgd hf I=> ?_
   induction M:find (nm x) D.fs using zO with
   |some z=>rw [M] at a;exact Mine.fn a
   |none=>
    rw [M] at a;refine aL (pX a) λg p hg'=>aL (hm.cls _ _ hg') λI hmm hF=>eU (Oo hF i (r7 hg hgd) hmm ?_ (fn g p));refine(?_:(lookIn x (cJ es ep)).map (·.isSome)=O aj);refine U ((GG (ep:=ep) hf hx).2 M) ?_;rfl
  |false=>
   rw [h0] at a;refine aC (dM a) λa J=>dF (hO _ J) λid hc ht L=> ?_;have V:=(i.rep _ D hob).2.typeIs ht;exact eU (getMethod_builtin V.1 L.pa L.slot L.ty V.2 (DK hl B F i G pos a λP h2 R vs ys j C u p=>⟨qd _ _ _,(dF (dj p) λo' p I ho'=>aC (dM p) λp q=>hc A n F P h2 R j d _ (m.mono C.dW) h6' o' ho' (aH q) vs ys u k res p Q (hQ.ext (x1.trans C)))⟩))
end
inductive o7 (X:dz) (c:Int):List V->Int->Prop where
 |nil (x:Int):o7 X c [] x
 |cons (v:V) (l:List V) (x:Int) (hv:∀g w n t,VR X g w n v (.int x t)) (hl:o7 X c l (x+c)):o7 X c (v::l) x
inductive SrcR (X:dz) (g:Heap) (w:Wd) (n:Nat) (it:Addr):Src->Prop where
 |tup (t:Addr) (items:Array Value) (ep i:Nat) (hr:w.role t=au) (ht:t∉X.tabs) (hg:g.get? t=O (gh items ep)) (hit:g.IsTupleIter it t i) (xs:List V) (hs:ef X g w n xs (items.toList.drop i)):SrcR X g w n it (dQ xs)
 |range (x c:Int) (xs:List V) (hv:o7 X c xs x) (hit:vK g it x (xs.length:Int) c):SrcR X g w n it (dQ xs)
 |Cj (x:Str) (t:Tok) (i:Nat) (hit:g.IsStrIter it "str_ascii_iterator" x t i):SrcR X g w n it (dQ ((x.cps.toList.drop i).map λc=>vStr [c]))
 |Ck (x:Str) (t:Tok) (i:Nat) (hit:g.IsStrIter it "str_iterator" x t i):SrcR X g w n it (dQ ((x.cps.toList.drop i).map λc=>vStr [c]))
 |bytes (b:Array UInt8) (t:Tok) (i:Nat) (hit:KBw.IsBytesIter g it b t i):SrcR X g w n it (dQ ((b.toList.drop i).map λc=>aX c.toNat))
 |list (j k:Nat) (hj:j<n) (hit:g.IsListIter it (w.ρ j) k):SrcR X g w n it (gn j k)
 |keys (j m k c:Nat) (hj:j<n) (hit:g.IsKeyIter it (w.ρ j) k m (w.ug j+c)):SrcR X g w n it (rV j m k c)
section
variable {X:dz} {g g':Heap} {w w':Wd} {n n':Nat} {it:Addr}
theorem SrcR.fixed (h:SrcR X g w n it a) (e:g.get? it=O o):d9 o=false:=by
 have f:∀{o'} {vs},g.get? it=O o'->o'.data= .fields vs->strAt vs[1]? =aj->d9 o=false:=λl p hv=>by
  injection e.symm.trans l with hq;subst hq
  unfold d9;refine U p ?_;exact hv
 induction h using Mine.SrcR.casesOn with
 |tup t items ep i u ht v d xs y=>refine cI d λo' p l q=> ?_;exact f l p rfl
 |range x c xs hv d=>exact f d rfl rfl
 |Cj x t i d=>refine cI d λo' p l q=> ?_;exact f l p rfl
 |Ck x t i d=>refine cI d λo' p l q=> ?_;exact f l p rfl
 |bytes b t i d=>refine cI d λo' p l q=> ?_;exact f l p rfl
 |list j k r d=>refine cI d λo' p l q=> ?_;exact f l p rfl
 |keys j m k c r d=>refine cI d λo' p l q=> ?_;exact f l p rfl
theorem SrcR.keep (h:SrcR X g w n it a) (k:oZ X g w n g' w' n') (ki:∀o,g.get? it=O o->g'.get? it=O o):SrcR X g' w' n' it a:=by
 induction h using Mine.SrcR.casesOn with
 |tup t items ep i l ht u d xs v=>
  exact aC (k.fix t _ l ht rfl u) λq p=>aL d λo' r e=> .tup t items ep i p ht q (bW o' (ki _ e) r) xs (v.mono k)
 |range x c xs hv d=>exact .range x c xs hv (ki _ d)
 |Cj x t i d=>refine aL d λo' r e=> ?_;exact .Cj x t i (bW o' (ki _ e) r)
 |Ck x t i d=>refine aL d λo' r e=> ?_;exact .Ck x t i (bW o' (ki _ e) r)
 |bytes b t i d=>refine aL d λo' r e=> ?_;exact .bytes b t i (bW o' (ki _ e) r)
 |list j m f d=>refine aL d λo' r e=> ?_;exact .list j m (aQ f k.ou) (bW o' (ki _ e) (U (k.ρ j f) r))
 |keys j m i c f d=>refine aL d λo' r e=> ?_;exact .keys j m i c (aQ f k.ou) (bW o' (ki _ e) (U (k.ρ j f) (U (k.ug j f) r)))
end
section
variable {prog:Program} {w:World} {A:Around} {E:Value->Shared->Prop} {s:Shared}
theorem wm {it d:Addr} {i ep m:Nat} {j:Array aV} {Q:Option Value->Shared->Prop} (z:A.handled=au) (l:s.heap.IsKeyIter it d i m ep) (p:s.heap.get? d=O (cJ j ep)) (x:j.size=m)
 (B:∀q,j[i]? =O q->∀h',h'.IsKeyIter it d (i+1) m ep->gj it s.heap h'->Q (O q.key) {s with heap:=h'})
 (hn:j[i]? =au->∀h',mQ it s.heap h'->Q au {s with heap:=h'}):wpAny (model prog w) A (pyNext (.ref it)) Q E s:=by
 refine cI (id l) λo r u C=> ?_;have v:=l.typeIs;have t:(cJ j ep).data= .dict j ep:=rfl;have c:∀{D} {f} {y:D->Shared->Prop} {E'},wpAny (model prog w) A.in1 (f "dict_keyiterator") y E' s->wpAny (model prog w) A.in1 (typeNameOfWhole (.ref it)>>=f) y E' s:=λk=>aq (wpAny_typeNameOfWhole_keyiter v k);refine aq (qG (dU (name:=bY "__next__") v oi (bH oi v F.entry_dict_keyiterator_next ?_ (F.args_dict_keyiterator_next_1 _))));refine bp (aq (aq (c (av (bq (wpAny_fieldsOf u r) ((?_:wpAny _ _ (if(iu d==dX)=H then _ else _) _ _ s)))))));refine aq (av (bq (gJ p t) ?_));rw [if_neg (by refine U x ?_;simp)];refine aq (av (bq (ud p t) (NJ (by simp) (av ?_))));simp only [show ¬((i:Int)<0) from by exact lA i,if_false,lC]
 induction hx:j[i]? using zO with
 |some q=>
  have e:(s.heap.update it (Obj.mapFields (·.setIfInBounds 1 (rawInt ((i:Int)+1))))).IsKeyIter it d (i+1) m ep:=
   (f7 _ (bE _ u (su (i8 r _))) ((xD ..).trans C) (U (i8 r ..) rfl))
  refine aq (c (av (bq (wpAny_isOneOf_keyiter v) ((?_:wpAny _ _ (setField (.ref it) 1 (rawInt ((i:Int)+1))>>=_) _ _ s)))));refine aq (mE u r (fF (fV [gM (↑m) 0,gM (↑ep) 0])) (aq (bO (aq (wpAny_isOneOf_keyiter (s:={s with heap:=s.heap.update it (Obj.mapFields (·.setIfInBounds 1 (rawInt ((i:Int)+1))))}) e.typeIs ((?_:wpAny _ _ (pure q.key) _ _ _)))))));exact av (av (bW _ rfl (av (B q hx _ e (gk ..)))))
 |none=>
  refine aq (c (av ((?_:wpAny _ _ (setField (.ref it) 0 .none>>=_) _ _ s))));refine bq (mE u r (gm rfl)) ((?_:wpAny _ _ (newExc (.type "StopIteration") []>>=_) _ _ _));refine aq (aq (dY (aq (m:=firstArgMember _ _) (f9 (a:=dX) (by first|rfl|(simp only [firstArgMember];rfl)) (dY ?_ (by size_fits)))) (by size_fits)));refine bq wpAny_handled (U z (bp (wpAny_throw (aq (fK (T:="StopIteration") (b:=H) (bW _ (aJ _ rfl) rfl) isSubtype_stop ?_)))));exact av (hn hx _ (((gk ..).extBut.push _).push _))
end
section
variable {X:dz} {w:Wd} {h:ae7} {s:Shared} {it:Addr}
theorem St.iter (i:bw X) (j:St X w h s) (k:w.role it=au) (hb:X.h₀.objs.size<=it) (f:∀o,s.heap.get? it=O o->d9 o=aj) (d:s.heap.objs.size<=h'.objs.size) (old:mQ it s.heap h'):
 St X w h {s with heap:=h',toks:=tk}/\Ext X (λa=>a=it) w h.n s w h.n {s with heap:=h',toks:=tk}/\oZ X s.heap w h.n h' w h.n:=aC (j.grow i (F:=λa=>a=it) (s':={s with heap:=h',toks:=tk}) d (λa o b e=>f o (b▸e)) (λa b=>by subst b;exact⟨k,hb⟩) (λa o b e=>old a o b e) rfl rfl) λc a=>iX a c (c.keep λa o b e=>f o (b▸e))
theorem Wv {xs} (e:m5 (dQ xs) h ke ki=O res):(xs=[]/\ke=O res)\/∃v l,xs=v::l/\ki v (dQ l)=O res:=by
 induction xs using zL with
 |nil=>exact .inl ⟨rfl,e⟩
 |cons v l=>exact .inr (mZ v l rfl e)
theorem Tv {a:Type} {f} {l:Array a} (e:m5 (dQ ((l.toList.drop i).map f)) h ke ki=O res):(l[i]? =au/\ke=O res)\/∃c,l[i]? =O c/\ki (f c) (dQ ((l.toList.drop (i+1)).map f))=O res:=by
 refine cL bz ?_
 induction q:l.toList[i]? using zO with
 |none=>
  rw [sQ.mpr (jI.mp q)] at e;exact .inl ⟨rfl,e⟩
 |some c=>
  obtain⟨hi,b⟩:=cg.mp q;rw [iw hi,b] at e;exact .inr (bW c rfl e)
theorem ZE {l:Array Value} (hv:ef X g w n xs (l.toList.drop i)) (e:m5 (dQ xs) h ke ki=O res):
 (l[i]? =au/\ke=O res)\/∃y v r,l[i]? =O y/\VR X g w n v y/\ef X g w n r (l.toList.drop (i+1))/\ki v (dQ r)=O res:=by
 refine cL bz ?_;rcases Wv e with⟨q,a⟩|⟨v,r,q,a⟩
 .rw [q] at hv;exact .inl ⟨jI.mpr (sQ.mp hv.nil_of),a⟩
 .rw [q] at hv;refine vP hv.cons_of λy c b h1 h2=> ?_;have hx:l.toList[i]? =O y:=by refine cL (List.head?_drop) (U b ?_);rfl
  exact .inr (uq y v r hx h1 (cL List.tail_drop (U b h2)) a)
theorem zb (F:bw X) (P:10<=X.h₀.objs.size) (C:St X w h s) (J:A.handled=au) (G:w.role it=au) (hb:X.h₀.objs.size<=it) (ha:SrcR X s.heap w h.n it a) (e:m5 a h ke ki=O res)
 (hn:∀s',St X w h s'->Ext X (λa=>a=it) w h.n s w h.n s'->ke=O res->Q au s')
 (hi:∀s' y v c,St X w h s'->Ext X (λa=>a=it) w h.n s w h.n s'->VR X s'.heap w h.n v y->SrcR X s'.heap w h.n it c->ki v c=O res->Q (O y) s'):wpAny (model X.prog X.w) A (pyNext (.ref it)) Q E s:=by
 have I:∀o,s.heap.get? it=O o->d9 o=false:=λo e=>ha.fixed e;have z:∀{h'},s.heap.objs.size<=h'.objs.size->mQ it s.heap h'->ke=O res->Q au {s with heap:=h'}:=λb old u=>by
  exact eZ (C.iter F G hb I (tk:=s.toks) b old) λq p u_=>hn _ p q u
 induction ha using Mine.SrcR.casesOn with
 |tup t items ep i R ht K f xs D=>
  have S:t≠it:=λq=>by
   refine cI f λo e3 M V=> ?_;subst q;injection K.symm.trans M with hq;subst hq
   injection e3
  have hT:s.heap.IsTuple t items:=gc _ K rfl _ rfl;rcases ZE D e with⟨hx,u⟩|⟨y,v,l,hx,hv,hl,u⟩
  .exact bX (wpAny_pyNext_tuple_end J f hT hx λh' he b=>z b he u)
  .exact wpAny_pyNext_tuple_item f hT hx λh' d r=>eZ (C.iter F G hb I (tk:=s.toks) (cX r.1.symm) r.extBut) λq p k=>hi _ y v _ p q (hv.mono k) (.tup t items ep (i+1) R ht (r.extBut _ _ S K) d l (hl.mono k)) u
 |range x c xs hv f=>
  rcases Wv e with⟨rfl,u⟩|⟨v,l,rfl,u⟩
  .exact bX (wpAny_pyNext_range_end J f (Int.le_refl _) λh' he b=>z b he u)
  .cases hv with
   |cons _ _ _ hv hl=>
    refine wpAny_pyNext_range_item f (by simp only [iK];exact Int.ofNat_succ_pos (fV l)) λh' d r=>eZ (C.iter F G hb I (tk:=s.toks+1) (cX r.1.symm) r.extBut) λq p k=>hi _ _ v _ p q (hv _ _ _ _) (.range (x+c) c l hl ?_) u;have:(((v::l).length:Int)-1)=(l.length:Int):=by simp only [iK];lia
    rw [this] at d;exact d
 |Cj x t i f=>
  rcases Tv e with⟨hx,u⟩|⟨c,hx,u⟩
  .exact bX (wpAny_pyNext_ascii_end J f hx λh' he b=>z b he u)
  .exact wpAny_pyNext_ascii_item f hx λh' d r=>eZ (C.iter F G hb I (tk:=s.toks+1) (cX r.1.symm) r.extBut) λq p k=>hi _ _ _ _ p q (.str [c] _ (by simp)) (SrcR.Cj (X:=X) (w:=w) (n:=h.n) x t (i+1) d) u
 |Ck x t i f=>
  rcases Tv e with⟨hx,u⟩|⟨c,hx,u⟩
  .exact bX (wpAny_pyNext_wide_end J f hx λh' he b=>z b he u)
  .exact wpAny_pyNext_wide_item f hx λh' d r=>eZ (C.iter F G hb I (tk:=s.toks+1) (cX r.1.symm) r.extBut) λq p k=>hi _ _ _ _ p q (.str [c] _ (by simp)) (SrcR.Ck (X:=X) (w:=w) (n:=h.n) x t (i+1) d) u
 |bytes bs t i f=>
  rcases Tv e with⟨hx,u⟩|⟨c,hx,u⟩
  .exact bX (KBw.next_end J f hx λh' he b=>z b he u)
  .exact KBw.next_item f hx λh' d r=>eZ (C.iter F G hb I (tk:=s.toks+1) (cX r.1.symm) r.extBut) λq p k=>hi _ _ _ _ p q (.nat c.toNat _) (SrcR.bytes (X:=X) (w:=w) (n:=h.n) bs t (i+1) d) u
 |list j m hj f=>
  refine aL (pX (show(aB au (λo=>ah au (aB ke (λx=>ki x (gn j (aG m 1))) (sU o.xs m)) (ak o.t 1)) (HT.get h.l j):Option Res)=O res from e)) λo e ho=>aC (dM e) λe h1=>sS (C.listAt ho (aH h1)) λitems ep K hn' D hro=> ?_;have hL:s.heap.IsList (w.ρ j) items:=gc _ K rfl _ rfl;rw [mJ] at e
  induction hx:o.xs[m]? using zO with
  |none=>
   rw [hx] at e;have:=D.get_none hx;exact bX (wpAny_pyNext_list_end J f hL (by simpa using this) λh' he b=>z b he e)
  |some v=>
   rw [hx] at e;exact dN (D.get hx) λy hy hv=>wpAny_pyNext_list_item f hL (x:=y) (by simpa using hy) λh' d r=>eZ (C.iter F G hb I (tk:=s.toks) (cX r.1.symm) r.extBut) λq p k=>hi _ y v _ p q (hv.mono k) (.list j (m+1) hj d) e
 |keys j m i c hj f=>
  refine aL (pX (show(aB au (λo=>ah au (ah au (ah au (aB ke (λx=>ki x.1 (rV j m (aG i 1) c)) (sU o.kvs i)) (ak o.c c)) (ak (len o.kvs) m)) (ak o.t 2)) (HT.get h.l j):Option Res)=O res from e)) λo e ho=>aC (dM e) λe h2=>aC (dM e) λe h3=>aC (dM e) λe h4=>iY ((C.rep _ o ho).2.kP (aH h2)) λes ep B hro K hz hd=> ?_;have B:ep=w.ug j+c:=U B (U (aH h4) rfl);have hm:o.kvs.length=m:=cL (len_eq ..) (aH h3);rw [mJ] at e;have L:es.size=o.kvs.length:=U hd.all.length (U aM rfl);rw [<-B,<-hm] at f;refine bX (wm J f K L (λen hx h' d r b=> ?_) λhx h' he b=> ?_)
  .have hl:i<o.kvs.length:=cL L ((fL.mp hx).1);have hk:=bB hl;refine aL (hd.all.get hk) λen' V M=> ?_;rw [bz,hx] at M;rw [<-aF M] at V;rw [hk] at e;exact eZ (C.iter F G hb I (tk:=s.toks) (cX r.1.symm) r.extBut) λq p' k=>hi _ _ _ _ p' q (V.key.mono k) (.keys j _ (i+1) c hj (cL B (cL hm d))) e
  .have hk:o.kvs[i]? =none:=by rw [jI,<-L];exact eB.mp hx
   rw [hk] at e;exact z b he e
end
section
variable {prog:Program} {w:World} {A:Around} {E:Value->Shared->Prop} {s:Shared}
theorem qe {items} (k:A.handled=au) (b:s.heap.IsTupleIter it t i) (ht:s.heap.IsTuple t items)
 (hi:∀x,items[i]? =O x->∀h',h'.IsTupleIter it t (i+1)->gj it s.heap h'->Q x {s with heap:=h'})
 (hn:items[i]? =au->∀h' e,mQ it s.heap h'->(∃o,h'.get? e=O o/\o.cls= .type "StopIteration")->E (.ref e) {s with heap:=h'}):wpAny (model prog w) A (dI (.ref it)) Q E s:=by
 refine cI (id b) λo c d l=>Ry ht λp q f r j=>aq (dU (name:=bY "__next__") b.typeIs fW (bH fW b.typeIs oX ?_ (oj _)));refine(?_:wpAny _ _ (field (.ref it) 0>>=_) _ _ s);refine bq (fN d c (x:= .ref t) rfl) ((?_:wpAny _ _ (if(iu t==dX)=H then _ else _) _ _ s));refine bq (fN d c (x:= .int i 0) rfl) ((?_:wpAny _ _ (sr (.ref t)>>=_) _ _ s));refine bq (dB f j) ?_;simp only [lC]
 induction hx:items[i]? using zO with
 |some x=>
  refine aq (mE d c (fF (fV [])) (av (bW x rfl (av (hi x hx _ ?_ (gk ..))))));exact f7 _ (bE _ d (su (i8 c _))) ((xD ..).trans l) (U (i8 c ..) rfl)
 |none=>
  refine aq (fj (bq (mE d c (gm rfl)) ((?_:wpAny _ _ (newExc (.type "StopIteration") []>>=_) _ _ _))));refine aq (aq (dY (aq (m:=firstArgMember _ _) (f9 (a:=dX) (by first|rfl|(simp only [firstArgMember];rfl)) (dY ?_ (by size_fits)))) (by size_fits)));refine bq wpAny_handled ?_
  first|refine U k ?_|rw [k]
  exact bp (wpAny_throw (hn hx _ _ (((gk ..).extBut.push _).push _) (bW _ (aJ _ rfl) rfl)))
end
theorem Fw (l:A.handled=au) (it t) (k:t≠it) items:
 Draws prog w A it [it,t] items.size (λi v=>items[i]? =O v) (λi h=>h.IsTupleIter it t i/\h.IsTuple t items) where
 live:=λd d c=>let⟨o,ho,_⟩:=c.1;⟨o,ho⟩
 frame:=λd d d c hk=>⟨let⟨o,ho,r⟩:=c.1;(bW o (hk it aE o ho) r),let⟨o,ho,r⟩:=c.2;(bW o (hk t (mS rfl) o ho) r)⟩
 item:=λi s Q E hi c m=>qe l c.1 c.2 (λx hx h' f j=>m x h' s.toks hx ⟨f,c.2.extBut j.extBut k⟩ j) λhx=>by rw [eB] at hx;lia
 done:=λs Q E c p=>qe l c.1 c.2 (λx hx=>by rw [Array.getElem?_eq_none (bu _)] at hx;exact fn hx) λd h' e a b=>p h' e a b
inductive GJ (X:dz) (g:Heap) (w:Wd) (n:Nat) (S:Addr->Prop):Value->It->Prop where
 |one (it:Addr) (a:Src) (hS:∀b,S b↔b=it) (ha:SrcR X g w n it a):GJ X g w n S (.ref it) (gg a)
 |zip (i:Nat) (hi:i<n) (hS:∀b,¬S b):GJ X g w n S (.ref (w.ρ i)) (yH i)
 |enum (e it:Addr) (m:Nat) (old:Value) (t:Addr) (items:Array Value) (ep:Nat) (xs:List V) (hS:∀b,S b↔b=e\/b=it) (hne:e≠it) (he:IsEnum g e it m old) (hr:w.role t=au) (ht:t∉X.tabs)
  (hg:g.get? t=O (gh items ep)) (hit:g.IsTupleIter it t m) (hs:ef X g w n xs (items.toList.drop m)):GJ X g w n S (.ref e) (vU m (dQ xs))
structure Aq (X:dz) (g:Heap) (w:Wd) (n:Nat) (S:Addr->Prop) (iv:Value) (a:It):Prop where
 own:∀b,S b->w.role b=au/\X.h₀.objs.size<=b/\b∉X.tabs
 is:GJ X g w n S iv a
section
variable {X:dz} {g g':Heap} {w w':Wd} {n n':Nat} {S:Addr->Prop} {iv:Value} {a:It}
theorem SrcR.K3 {a} (h:SrcR X g w n it a):∃o vs,g.get? it=O o/\o.data= .fields vs:=by
 induction h using Mine.SrcR.casesOn with
 |tup t items ep i q ht r d xs u=>refine cI d λo' e f l=> ?_;exact mZ _ _ f e
 |range x c xs hv d=>exact mZ _ _ d rfl
 |Cj x t i d=>refine cI d λo' e f l=> ?_;exact mZ _ _ f e
 |Ck x t i d=>refine cI d λo' e f l=> ?_;exact mZ _ _ f e
 |bytes b t i d=>refine cI d λo' e f l=> ?_;exact mZ _ _ f e
 |list j k p d=>refine cI d λo' e f l=> ?_;exact mZ _ _ f e
 |keys j m k c p d=>refine cI d λo' e f l=> ?_;exact mZ _ _ f e
theorem GJ.K3 (h:GJ X g w n S iv a):∀b,S b->∃o vs,g.get? b=O o/\o.data= .fields vs:=by
 intro b hb
 induction h using Mine.GJ.casesOn with
 |one f a c j=>refine U ((c b).mp hb) ?_;exact j.K3
 |zip i hi c=>exact absurd hb (c b)
 |enum e f m old t items ep xs c k he q ht r d u=>
  rcases(c b).mp hb with rfl|rfl
  .exact mZ _ _ he rfl
  .refine cI d λo' l p v=> ?_;exact mZ _ _ p l
theorem GJ.fixed (h:GJ X g w n S iv a):∀b o,S b->g.get? b=O o->d9 o=false:=by
 intro b o hb e
 induction h using Mine.GJ.casesOn with
 |one f a c j=>rw [(c b).mp hb] at e;exact j.fixed e
 |zip i hi c=>exact absurd hb (c b)
 |enum q f m old t items ep xs c k he r ht u d v=>
  rcases(c b).mp hb with rfl|rfl
  .injection e.symm.trans he with hq;subst hq;rfl
  .refine cI d λo' l p x=> ?_;injection e.symm.trans p with hq;subst hq
   unfold d9;refine U l ?_;rfl
theorem Aq.keep (h:Aq X g w n S iv a) (k:oZ X g w n g' w' n') (l:∀b,S b->w'.role b=au) (ki:∀b o,S b->g.get? b=O o->g'.get? b=O o):Aq X g' w' n' S iv a:=by
 refine⟨λb hb=>⟨l b hb,(h.own b hb).2⟩, ?_⟩
 induction h.is using Mine.GJ.casesOn with
 |one d a c u=>exact .one d a c (u.keep k λo e=>ki d o ((c d).mpr rfl) e)
 |zip i hi c=>refine cL (k.ρ i hi) ?_;exact .zip i (aQ hi k.ou) c
 |enum e d m old t items ep xs c f he v ht x j y=>
  exact aC (k.fix t _ v ht rfl x) λq p=>aL j λo' r z=> .enum e d m old t items ep xs c f (ki e _ ((c e).mpr (.inl rfl)) he) p ht q (bW o' (ki d _ ((c d).mpr (.inr rfl)) z) r) (y.mono k)
end
section
variable {X:dz} {w:Wd} {h:ae7} {s:Shared}
theorem St.K4 (t:bw X) (c:St X w h s) (hi:h.l.get i=O o) {s'} (b:s.heap.objs.size<=s'.heap.objs.size) (old:∀a f,w.role a≠O i->s.heap.get? a=O f->s'.heap.get? a=O f)
 (m:s'.gens=s.gens) (os:s'.os=s.os) (r:oZ X s.heap w h.n s'.heap w h.n->Rep X s'.heap w h.n i o'):
 St X w ⟨HT.ins o' h.l i,h.n⟩ s'/\Ext X cV w h.n s w h.n s':=by
 have x:Ext X cV w h.n s w h.n s':=⟨b,bu _,λd d=>rfl,λd d=>rfl,λd d=>rfl,λa o h1 d d e=>old a o (U h1 (λh=>fn h)) e,m,os⟩;have k:=x.dW;refine⟨⟨λj u e=> ?_,λa j e=> ?_,λa f e ht=> ?_,aI c.size b,λP v=>(c.tab P v).keep k λo hl e=>old P o (λy=>absurd hl (bD.mpr (c.lim P i y).2.1)) e⟩,x⟩
 .rcases HT.get_ins _ e with⟨rfl,rfl⟩|⟨p,e⟩
  .exact⟨(c.rep _ _ hi).1,r k⟩
  .exact aC (c.rep j u e) λz q=>⟨q,z.keep t k q (λd h=>h) λa f h1 e=>old a f (U h1 (λh=>p (aF h))) e⟩
 .refine eZ (c.lim a j e) λB C a3=> ?_;exact iX C B (aQ a3 b)
 .refine old a f (λh1=> ?_) (c.base a f e ht);exact absurd (bk e) (bD.mpr (c.lim a i h1).2.1)
theorem St.R5 (i:bw X) (j:St X w h s) (k:∀b,S b->w.role b=au/\X.h₀.objs.size<=b) (f:∀b o,S b->s.heap.get? b=O o->d9 o=aj) (d:s.heap.objs.size<=h'.objs.size)
 (old:∀b o,¬S b->s.heap.get? b=O o->h'.get? b=O o):
 St X w h {s with heap:=h',toks:=tk}/\Ext X S w h.n s w h.n {s with heap:=h',toks:=tk}/\oZ X s.heap w h.n h' w h.n:=aC (j.grow i (F:=S) (s':={s with heap:=h',toks:=tk}) d f k (λa o l e=>old a o l e) rfl rfl) λc a=>iX a c (c.keep f)
theorem jk {M} (d:s.heap.get? it=O o) (e:o.cls= .type T) (f:o.data= .fields vs)
 (i:(["enumerate","zip","dict_itemiterator","dict_reverseitemiterator","odict_iterator","itertools.zip_longest","itertools.pairwise"]:List String).contains T=aj) (h:Q () s):wpAny M A (letOwnedTupleGo target (.ref it) y) Q E s:=by
 have b:wpAny M A (match (iu it,y) with
  |(.ref r,.ref a)=>do
   let o<-load r
   match o.cls,o.data with
   | .type n,.fields vs=>
    if(["enumerate","zip","dict_itemiterator","dict_reverseitemiterator","odict_iterator","itertools.zip_longest","itertools.pairwise"]:List String).contains n&&vs[0]? ==O (rawInt a) then
     rule "for.unpacks-the-owned-tuple"
     updateField r 0 .none
   |_,_=>pure ()
  |_=>pure ()) Q E s:=by
  induction y using fC with
  |ref a=>
   refine bq (jd d) (U e (U f ?_));dsimp only;exact U i (av h)
  |_=>exact av h
 induction target using aR with
 |Tuple c z p=>rcases y<;>exact b
 |List c p=>rcases y<;>exact b
 |_=>exact av h
theorem SrcR.letGo {M} (o:SrcR X s.heap w n it a) (h:Q () s):wpAny M A (letOwnedTupleGo target (.ref it) y) Q E s:=by
 induction o using Mine.SrcR.casesOn with
 |tup t items ep i q ht r d xs u=>refine cI d λo' e f l=> ?_;exact jk f l e rfl h
 |range x c xs hv d=>exact jk d rfl rfl rfl h
 |Cj x t i d=>refine cI d λo' e f l=> ?_;exact jk f l e rfl h
 |Ck x t i d=>refine cI d λo' e f l=> ?_;exact jk f l e rfl h
 |bytes b t i d=>refine cI d λo' e f l=> ?_;exact jk f l e rfl h
 |list j k p d=>refine cI d λo' e f l=> ?_;exact jk f l e rfl h
 |keys j m k c p d=>refine cI d λo' e f l=> ?_;exact jk f l e rfl h
theorem g9 (h:iQ e=H):∃b z p,e= .Tuple b z p:=by
 induction e using aR with
 |Tuple b z p=>exact⟨b,z,p,rfl⟩
 |_=>exact ff h
theorem Oq (ax:bw X) (hbase:10<=X.h₀.objs.size) (htab:∀a∈X.tabs,a<X.h₀.objs.size) (G:St X w h s) (hh:A.handled=au) (hi:Aq X s.heap w h.n S iv a) (ht:a.t=0\/iQ target=H)
 (e:vV a h ke ki=O res) {Q P:Option Value->Shared->Prop}
 (hn:∀h' s',St X w h' s'->h'.n=h.n->Ext X S w h.n s w h.n s'->ke h'=O res->Q au s')
 (hv:∀h' s' v y a',St X w h' s'->h'.n=h.n->Ext X S w h.n s w h.n s'->VR X s'.heap w h.n v y->Aq X s'.heap w h.n S iv a'->(a'.t=0\/iQ target=H)->ki v a' h'=O res->Q (O y) s')
 (pn:∀s1,Q au s1->P au s1) (ps:∀y s1,wpAny (model X.prog X.w) A (letOwnedTupleGo target iv y) (λu_ s2=>Q (O y) s2) E s1->P (O y) s1):wpAny (model X.prog X.w) A (pyNext iv) P E s:=by
 have own:=hi.own
 induction hi.is using Mine.GJ.casesOn with
 |one it a I ha=>
  have z:=own it ((I it).mpr rfl);have e:m5 a h (ke h) (λx c=>ki x (gg c) h)=O res:=e;have wk:∀{s'},Ext X (λb=>b=it) w h.n s w h.n s'->Ext X S w h.n s w h.n s':=λx=>x.weaken λb hb=>(I b).mpr hb;exact zb ax hbase G hh z.1 z.2.1 ha e (λs' a x ek=>pn _ (hn h s' a rfl (wk x) ek)) λs' y v c a x hy f ek=>ps _ _ (f.letGo (hv h s' v y (gg c) a rfl (wk x) hy ⟨own,.one it c I f⟩ (.inl rfl) ek))
 |zip i hi' I=>
  have e:Gm i h ke (λv h=>ki v (yH i) h)=O res:=e;refine aL (pX e) λo e ho=>aC (dM e) λe h5=> ?_
  induction ((G.rep i o ho).2) using Mine.Rep.casesOn with
  |zip j1 k1 j2 k2 TI TO i1 i2 aa bb K r1 r2 r3 r4 D hj hz h1 h2 h3 h4=>
   refine aL (pX e) λp e hp=>aC (dM e) λe p1=>aL (pX e) λq e hq=>aC (dM e) λe q1=>sS (G.listAt hp (aH p1)) λxs ep hg1 hn1 Ww ZF=>sS (G.listAt hq (aH q1)) λys Ku KG hn2 Wx Tw=> ?_;have hl1:s.heap.IsList (w.ρ j1) xs:=gc _ hg1 rfl _ rfl;have hl2:s.heap.IsList (w.ρ j2) ys:=gc _ KG rfl _ rfl;have L:∀{c},w.role c=O i->w.ρ j1≠c:=λf q=>hj.2.2.1 (aF (ZF.symm.trans (q▸f)));have M:∀{c},w.role c=O i->w.ρ j2≠c:=λf q=>hj.2.2.2 (aF (Tw.symm.trans (q▸f)));have j:∀{c d} {oc od},s.heap.get? c=O oc->s.heap.get? d=O od->oc.cls≠od.cls->c≠d:=λec ed B q=>by subst q;injection ec.symm.trans ed with hq;subst hq;exact B rfl
   refine cI (id h3) λo3 d3 e3 c3=>cI (id h4) λo4 d4 e4 c4=> ?_;have n1:cW "list_iterator"≠cW "zip":=by decide
   have n2:cW "tuple"≠cW "list_iterator":=by decide
   have DD:ZipApart (w.ρ i) TI TO i1 i2 (w.ρ j1) (w.ρ j2):=⟨D.2.1,D.2.2.1,j e3 hz (U c3 n1),j e4 hz (U c4 n1),D.1,j h1 e3 (U c3 n2),j h1 e4 (U c4 n2),j h2 e3 (U c3 n2),j h2 e4 (U c4 n2),D.2.2.2,
    L K,L r2,L r3,L r4,M K,M r2,M r3,M r4⟩
   have Wy:∀{b:Bool},ke ⟨HT.ins qP h.l i,h.n⟩=O res->(xs[k1]? =au\/ys[k2]? =au)->
    wpAny (model X.prog X.w) A (pyNext (.ref (w.ρ i))) P E s:=λek hend=>by
    refine bX (wpAny_pyNext_zip_end hh DD hz h1 h2 h3 h4 hl1 hl2 hend λh' hk u=> ?_);have ab:=G.K4 ax ho (s':={s with heap:=h'}) (o':=qP) u (λc ob f e=>hk c ob (λq=>f (q▸K)) (λq=>f (q▸r2)) (λq=>f (q▸r3)) (λq=>f (q▸r4)) e) rfl rfl λu_=> .junk K;exact pn _ (hn _ _ ab.1 rfl (ab.2.weaken λu_ h=>h.elim) ek)
   rw [mJ,mJ] at e
   induction hx:p.xs[k1]? using zO with
   |none=>
    rw [hx] at e;exact Wy (b:=H) e (.inl ((bz ..).symm.trans (Ww.get_none hx)))
   |some x=>
    induction hy:q.xs[k2]? using zO with
    |none=>
     rw [hx,hy] at e;exact Wy (b:=H) e (.inr ((bz ..).symm.trans (Wx.get_none hy)))
    |some y=>
     rw [hx,hy] at e;refine dN (Ww.get hx) λxv hxv vx=>dN (Wx.get hy) λyv hyv vy=>wpAny_pyNext_zip_item DD hz h1 h2 h3 h4 hl1 hl2 (x:=xv) (y:=yv) ((bz ..).symm.trans hxv) ((bz ..).symm.trans hyv) λh' z1 z2 z3 z4 z5 z6 z7=> ?_;refine VE (g9 (ht.resolve_left (by exact Nat.one_ne_zero))) λes zz pp ow=> ?_;subst ow;refine ps _ _ (wpAny_letOwnedTupleGo_zip z1 λC z1' z8=> ?_);have up:∀c o,c≠w.ρ i->h'.get? c=O o->C.get? c=O o:=λc o f e=>z8.extBut c o f e;have u:s.heap.objs.size<=C.objs.size:=U z8.1 (U z6 (gV _));have ab:=G.K4 ax ho (s':={s with heap:=C}) (o':=EO j1 (k1+1) j2 (k2+1)) u
      (λc ob f e=>up c ob (λq=>f (q▸K)) (z7 c ob (λq=>f (q▸K)) (λq=>f (q▸r2)) (λq=>f (q▸r3)) (λq=>f (q▸r4)) e)) rfl rfl λkk=>by
       refine .zip j1 (k1+1) j2 (k2+1) TI TO i1 i2 xv yv K r1 r2 r3 r4 D hj z1' (up _ _ D.2.1 (z7 _ _ D.2.1 D.1 DD.TIi1 DD.TIi2 h1)) (up _ _ D.2.2.1 z2) ?_ ?_
       .refine aL z3 λo' r e'=> ?_;exact bW o' (up _ _ DD.i1z e') r
       .refine aL z4 λo' r e'=> ?_;exact bW o' (up _ _ DD.i2z e') r
     have kk:=ab.2.dW;have hT:=up _ _ (iB (bk hz)) z5;exact hv _ _ _ _ (yH i) ab.1 rfl (ab.2.weaken λu_ h=>h.elim) (.tup _ _ #[xv,yv] 0 (l6 G (bu _)) (λhm=>absurd (htab _ hm) (bD.mpr G.size)) hT (of_decide_eq_true rfl) (.cons _ _ _ _ (vx.mono kk) (.cons _ _ _ _ (vy.mono kk) .nil))) ⟨own,.zip i hi' I⟩ (.inr rfl) e
  |_=>exact nn (aH h5) rfl
 |enum ev it m old t items ep xs I B he K htt hg z J=>
  have Wz:t≠it:=λq=>by
   refine cI z λo e3 e1 e2=> ?_;subst q;injection hg.symm.trans e1 with hq;subst hq
   injection e3
  have hT:s.heap.IsTuple t items:=gc _ hg rfl _ rfl;have hTe:t≠ev:=λq=>by
   subst q;have:=congrArg Obj.cls (aF (hg.symm.trans he));exact absurd this (show cW "tuple"≠cW "enumerate" from by decide)
  induction xs using zL with
  |nil=>
   have hsz:m=items.size\/items.size<=m:=by
    exact .inr (Nat.le_of_sub_eq_zero ((jE ..).symm.trans J.length.symm))
   have hx:=eB.mpr (hsz.elim (λq=>cX q.symm) id);refine bX ?_;have hTE:s.TypeIs (.ref ev) "enumerate":=bW _ he rfl;refine aq (qG (dU (name:=bY "__next__") hTE F.slot_enumerate_next
    (bH F.slot_enumerate_next hTE F.entry_enumerate_next ?_ (F.args_enumerate_next_1 _))))
   refine(?_:wpAny _ _ (field (.ref ev) 2>>=_) _ _ _);exact bq (fN he rfl (x:= .ref it) rfl) (aq (qe hh z hT (λx R=>by rw [hx] at R;exact fn R) λu_ h' x he' R=>(dN R λo ho f=>bq (fK (T:="StopIteration") (b:=H) (bW o ho f) isSubtype_stop) (av λu=>eZ (G.R5 ax (S:=S) (h':=h') (λb hb=>⟨(own b hb).1,(own b hb).2.1⟩) hi.is.fixed (tk:=s.toks) u λb o hb e=>he' b o (λq=>hb ((I b).mpr (.inr q))) e) λq p k=>pn _ (hn h _ p rfl q e)))))
  |cons v l=>
   induction hd:items.toList.drop m using zL with
   |nil=>rw [hd] at J;cases J
   |cons y ys=>
    rw [hd] at J;cases J with
    |cons _ _ _ _ YH hl=>
     have hx:=(bz ..).symm.trans ((List.head?_drop ..).symm.trans (congrArg List.head? hd));have hd':items.toList.drop (m+1)=ys:=cL List.tail_drop (U hd rfl);refine wpAny_pyNext_enum_itemD (Fw (prog:=X.prog) (w:=X.w) (A:=A.in1) hh it t Wz items) he ⟨z,hT⟩ ((fL.mp hx).1) B (by simp [B,hTe.symm]) λx h' tk hPx he' ZG hT' hz' hk'=> ?_;injection hx.symm.trans hPx with hq;subst hq
     refine VE (g9 (ht.resolve_left (by exact Nat.add_one_ne_zero 1))) λes zz pp ow=> ?_;subst ow;refine ps _ _ (wpAny_letOwnedTupleGo_enum (i:=(m:Int)+1) (item:=y) he' λC Vt V=> ?_);have old:∀b o,¬S b->s.heap.get? b=O o->C.get? b=O o:=λb o hb e=>V.extBut b o (λq=>hb ((I b).mpr (.inl q))) (hk' b o (λq=>hb ((I b).mpr (.inl q))) (λq=>hb ((I b).mpr (.inr q))) e);refine eZ (G.R5 ax (S:=S) (h':=C) (λb hb=>⟨(own b hb).1,(own b hb).2.1⟩) hi.is.fixed (tk:=tk+1) (U V.1 (U hz' (gV _))) old) λq p k=> ?_;have htS:¬S t:=λhb=>by rcases(I t).mp hb with q|q;exact hTe q;exact Wz q
     refine hv h _ _ _ (vU (aG m 1) (dQ l)) p rfl q (.tup _ _ #[.int (m:Int) tk,y] 0 (l6 G (bu _)) (λhm=>absurd (htab _ hm) (bD.mpr G.size)) (V.extBut _ _ (iB (bk he)) hT') (of_decide_eq_true rfl) (.cons _ _ _ _ (.nat m tk) (.cons _ _ _ _ (YH.mono k) .nil))) ⟨own,.enum ev it (m+1) y t items ep l I B ?_ K htt (old t _ htS hg) ?_ (U hd' (hl.mono k))⟩ (.inr rfl) e
     .exact Vt
     .refine aL ZG.1 λo' r e'=> ?_;exact bW o' (V.extBut _ _ (rO B) e') r
theorem Bb (j:bw X) (b:10<=X.h₀.objs.size) (c:∀a∈X.tabs,a<X.h₀.objs.size) (k:St X w h s) (l:A.handled=au) (hi:Aq X s.heap w h.n S iv a) (ht:a.t=0\/iQ target=H)
 (e:vV a h ke ki=O res) {Q:Option Value->Shared->Prop}
 (hn:∀h' s',St X w h' s'->h'.n=h.n->Ext X S w h.n s w h.n s'->ke h'=O res->Q au s')
 (hv:∀h' s' v y d,St X w h' s'->h'.n=h.n->Ext X S w h.n s w h.n s'->VR X s'.heap w h.n v y->Aq X s'.heap w h.n S iv d->(d.t=0\/iQ target=H)->ki v d h'=O res->Q (O y) s'):
 wpAny (model X.prog X.w) A (pyNext iv) (λo i=>match o with|none=>Q au i|some y=>wpAny (model X.prog X.w) A (letOwnedTupleGo target iv y) (λf m=>Q (O y) m) E i) E s:=
 Oq j b c k l hi ht e hn hv (λf h=>h) λf f h=>h
end
section
variable {X:dz} {F F':Addr->Prop} {w₀ w w':Wd} {n₀ n n':Nat} {s₀ s s':Shared}
theorem Ext.nR (x:Ext X F w₀ n₀ s₀ w n s) (y:Ext X F' w n s w' n' s') (h:∀a,F' a->F a\/s₀.heap.objs.size<=a):Ext X F w₀ n₀ s₀ w' n' s':=
 ⟨aI x.size y.size,aI x.ou y.ou,λi hi=>(y.ρ i (aQ hi x.ou)).trans (x.ρ i hi),λi hi=>(y.ug i (aQ hi x.ou)).trans (x.ug i hi),
  λa b=>(y.role a (aQ b x.size)).trans (x.role a b),
  λa o h1 h2 c e=>y.old a o ((x.role a (bk e)).trans h1) h2 (λd=>(h a d).elim c λq=>absurd (bk e) (bD.mpr q)) (x.old a o h1 h2 c e),y.gens.trans x.gens,y.os.trans x.os⟩
theorem Aq.ext (i:Aq X s.heap w n S iv a) (x:Ext X F w n s w' n' s') (hF:∀a o,F a->s.heap.get? a=O o->d9 o=aj) (c:∀b,S b->¬F b):Aq X s'.heap w' n' S iv a:=
 i.keep (x.keep hF) (λb hb=>by
  exact HA (i.is.K3 b hb) λo vs e d=>(x.role b (bk e)).trans (i.own b hb).1) λb o hb e=>x.old b o (i.own b hb).1 (i.own b hb).2.2 (c b hb) e
theorem Aq.frame (i:Aq X s.heap w n S iv a) (he:eX X env ns ρ w n s):∀b,S b->¬AF env ns b:=by
 intro b hb h;refine HA (i.is.K3 b hb) λo vs e g=> ?_;rcases h with rfl|⟨x,h1,h2,j⟩
 .obtain⟨m,⟨o',l,ep,f,d,_⟩,_⟩:=he.loc;injection e.symm.trans f with hq;subst hq
  rw [g] at d;injection d
 .obtain⟨c,p,k,_,_,_,⟨o',f,d⟩⟩:=he.cell x h1 (.inl h2);injection j.symm.trans k with hq;subst hq
  injection e.symm.trans f with hq;subst hq
  rw [g] at d;injection d
end
theorem rt y p l:bg y (p::l)=if y=nm p.1 then O p.2 else bg y l:=by
 refine(?_:(ah (bg y l) (O p.2) (ak y (nm p.1)):Option aN)=_)
 induction e:ak y (nm p.1) using zB with
 |true=>exact U (if_pos (aH e)) rfl
 |false=>exact U (if_neg (fU e)) rfl
theorem j4 (hp:∀p∈l,aZ p.1=H) {x} (hx:aZ x=H) {k} (e:bg (nm x) l=O k):l.lookup x=O k:=by
 induction l with
 |nil=>exact fn e
 |cons p l a=>
  rw [rt] at e;refine U bK ?_;by_cases h:nm x=nm p.1
  .rw [if_pos h] at e;injection e with e;subst e
   refine U (gS hx (hp p aE) h) ?_;simp
  .rw [if_neg h] at e;have:(x==p.1)=false:=by simp;intro q;exact h (U q rfl)
   exact U this (a (λp hq=>hp p (aD _ hq)) e)
theorem lJ (e:bg y l=O k):∃p∈l,y=nm p.1/\p.2=k:=by
 induction l with
 |nil=>exact fn e
 |cons p l c=>
  rw [rt] at e;by_cases h:y=nm p.1
  .rw [if_pos h] at e;injection e with e;subst e;exact f7 p aE h rfl
  .rw [if_neg h] at e;exact aL (c e) λq b a=>bW q (aD _ a) b
theorem brY {a b c:Bool} (hx:c=H) (h:(ah a b c:Bool)=H):b=true:=by subst hx;exact h
theorem brN {a b c:Bool} (hx:c=aj) (h:(ah a b c:Bool)=H):a=true:=by subst hx;exact h
set_option smartUnfolding false in
theorem HY (hu:Dl l=H) {p} (hp:p∈l):bg (nm p.1) l=O p.2:=by
 induction l with
 |nil=>cases hp
 |cons q l c=>
  induction hq:sD (nm q.1) l using zB with
  |true=>exact ff (brY hq hu)
  |false=>
   replace hu:=brN hq hu;refine U (rt ..) ?_;rcases aT.mp hp with b|hp
   .exact U b (U (if_pos rfl) rfl)
   .have:=c hu hp;by_cases h:nm p.1=nm q.1
    .delta sD at hq;rw [<-h,this] at hq;exact ft hq
    .refine U (if_neg h) ?_;exact this
def xe (ns:List (Str×aN)) (l:List (Str×aN)):Prop:=∀p∈l,aZ p.1=H/\((p.2= .free/\(bg (nm p.1) ns=O .cell\/bg (nm p.1) ns=O .free))\/p.2= .local\/p.2= .globalImplicit)
set_option smartUnfolding false in
theorem DL:∀{l},m6 ns l=H->xe ns l:=by
 intro l
 induction l with
 |nil=>
  intro _;exact λp hp=>(aU hp).elim
 |cons b r c=>
  obtain⟨x,k⟩:=b;intro h
  induction hx:aZ x using zB with
  |false=>exact ff (brN hx h)
  |true=>
   replace h:=brY hx h;have a:m6 ns r=H/\((k= .free/\(bg (nm x) ns=O .cell\/bg (nm x) ns=O .free))\/k= .local\/k= .globalImplicit):=by
    induction k using dw with
    |free=>
     generalize bg (nm x) ns=o at h⊢
     induction o using zO with
     |none=>exact ff h
     |some k=>
      induction k using dw with
      |cell=>exact⟨h,.inl ⟨rfl,.inl rfl⟩⟩
      |free=>exact⟨h,.inl ⟨rfl,.inr rfl⟩⟩
      |_=>exact ff h
    |«local»=>exact⟨h,.inr (.inl rfl)⟩
    |globalImplicit=>exact⟨h,.inr (.inr rfl)⟩
    |_=>exact ff h
   intro p hp;rcases aT.mp hp with rfl|hp
   .exact⟨hx,a.2⟩
   .exact c a.1 p hp
structure DM (ns:List (Str×aN)) (sc:Scope):Prop where
 frees:xe ns sc.names
 fn:sc.kind= .function
 Gx:∀x k,bg (nm x) sc.names=O k->(x==("__debug__":Str))=aj
 cls:∀x k,bg (nm x) sc.names=O k->(x==("__classdict__":Str))=aj
 uniq:Dl sc.names=H
 loc:gD sc.names=H
theorem Fx (h:B4 l=H):(∀x k,bg (nm x) l=O k->(x==("__debug__":Str))=aj)/\(∀x k,bg (nm x) l=O k->(x==("__classdict__":Str))=aj)/\Dl l=true:=by
 have a:∀y x k,sD (nm y) l=aj->bg (nm x) l=O k->(x==y)=false:=λy x k h1 e=>beq_eq_false_iff_ne.mpr λq=>by
  rw [q] at e;delta sD at h1;rw [e] at h1;exact ft h1
 unfold B4 at h
 induction h1:sD (nm "__debug__") l using zB with
 |true=>rw [h1] at h;exact ff h
 |false=>
  induction h2:sD (nm "__classdict__") l using zB with
  |true=>rw [h1,h2] at h;exact ff h
  |false=>
   rw [h1,h2] at h;exact iX (λx k=>a _ x k h1) (λx k=>a _ x k h2) h
theorem Cm (h:yM ns sc=H):DM ns sc:=by
 unfold yM at h
 induction h1:m6 ns sc.names using zB with
 |false=>rw [h1] at h;exact ff h
 |true=>
  induction h2:isFn sc.kind using zB with
  |false=>rw [h1,h2] at h;exact ff h
  |true=>
   induction b:gD sc.names using zB with
   |false=>rw [h1,h2,b] at h;exact ff h
   |true=>
    rw [h1,h2,b] at h;refine Rx (Fx h) λa c d=>⟨DL h1, ?_,a,c,d,b⟩
    induction hk:sc.kind using mX with
    |function=>rfl
    |_=>rw [hk] at h2;exact ff h2
theorem zc {env:dD}:∀{l:List (Str×aN)} {x} {k},l.lookup x=O k->
 (l.map λ(n,k)=>if(k==lD&&env.scope.kind== .function&&env.kindOf n==O .cell) then(n,NameKind.cell) else(n,k)).lookup x=O k\/
 (k= .free/\(l.map λ(n,k)=>if(k==lD&&env.scope.kind== .function&&env.kindOf n==O .cell) then(n,NameKind.cell) else(n,k)).lookup x=O .cell):=by
 intro l
 induction l with
 |nil=>exact λh=>fn h
 |cons p r b=>
  rcases p with⟨n,c⟩
  intro x k h;refine U dH ?_;rw [bK] at h
  induction hb:x==n using zB with
  |true=>
   rw [hb] at h;injection h with h;subst h
   by_cases a:(c==lD&&env.scope.kind== .function&&env.kindOf n==O .cell)=H
   .right
    refine⟨?_, ?_⟩
    .simp only [aP,beq_iff_eq] at a;exact a.1.1
    .simp only [if_pos a,bK,hb]
   .left
    simp only [if_neg a,bK,hb]
  |false=>
   rw [hb] at h;have b:=b h;by_cases a:(c==lD&&env.scope.kind== .function&&env.kindOf n==O .cell)=H
   .simp only [if_pos a,bK,hb];exact b
   .simp only [if_neg a,bK,hb];exact b
section
variable {X:dz} {ns:List (Str×aN)} {env:dD} {ρ:Env} {w:Wd} {n:Nat} {s:Shared}
theorem mem_lookup {a:Type}:∀{l:List (Str×a)} {x} {c},(x,c)∈l->∃c',l.lookup x=O c':=by
 intro l
 induction l with
 |nil=>exact λh=>(aU h).elim
 |cons p r b=>
  rcases p with⟨k,v⟩
  intro x c h;refine U bK ?_
  induction hb:x==k using zB with
  |true=>exact⟨v,rfl⟩
  |false=>
   rcases aT.mp h with e|h
   .cases e;simp at hb
   .exact b h
theorem Cn (he:eX X env ns ρ w n s) f (o:∀x k g,f (x,k) g=if k== .free then(do let a<-cellOf env x;pure (.yield ((x,a)::g))) else pure (.yield g)):
 ∀{l} acc,xe ns l->(∀q∈acc,env.cells.lookup q.1=O q.2)->
  ∃cl,forIn l acc f=pure cl/\(∀q∈cl,env.cells.lookup q.1=O q.2)/\(∀q∈acc,q∈cl)/\∀p∈l,p.2= .free->∃c,(p.1,c)∈cl:=by
 intro l
 induction l with
 |nil=>
  intro acc _ h;exact qL acc (U jz rfl) h (λy h=>h) (λp hp=>(aU hp).elim)
 |cons z r t=>
  obtain⟨x,k⟩:=z;intro acc u h;have e:xe ns r:=λp hp=>u p (aD _ hp);refine aC (u (x,k) aE) λhk hx=> ?_;by_cases b:k= .free
  .subst b;have hk:bg (nm x) ns=O .cell\/bg (nm x) ns=O .free:=by
    rcases hk with⟨_,hk⟩|hk|hk
    .exact hk
    .injection hk
    .injection hk
   refine nH (he.cell x hx hk) λc A y v=> ?_;refine SI (t ((x,c)::acc) e λq hq=>by
    rcases aT.mp hq with rfl|hq
    .exact v
    .exact h q hq) λcl i j a3 m=> ?_
   refine qL cl ?_ j (λq hq=>a3 q (aD _ hq)) (λp hp d=> ?_)
   .refine U (dO ..) (U (o ..) ?_);unfold cellOf;exact U v i
   .rcases aT.mp hp with rfl|hp
    .exact⟨c,a3 _ aE⟩
    .exact m p hp d
  .refine SI (t acc e h) λcl i j a3 m=>qL cl ?_ j a3 (λp hp d=> ?_)
   .refine U (dO ..) (U (o ..) ?_);have:(k==lD)=false:=beq_false_of_ne b;exact U this i
   .rcases aT.mp hp with rfl|hp
    .exact absurd d b
    .exact m p hp d
theorem zd (he:eX X env ns ρ w n s) (f:xe ns sc.names):∃cl,closureFor sc env=pure cl/\(∀q∈cl,env.cells.lookup q.1=O q.2)/\∀p∈sc.names,p.2= .free->∃c,(p.1,c)∈cl:=by
 refine SI (Cn he (λ(x,k) b=>if k== .free then(do let a<-cellOf env x;pure (.yield ((x,a)::b))) else pure (.yield b)) (λd d d=>rfl) (l:=sc.names) [] f (λq hq=>(aU hq).elim)) λcl g h d i=>f7 cl ?_ h i;have e:closureFor sc env=(forIn sc.names ([]:List (Str×Addr)) (λ(x,k) b=>if k== .free then(do let a<-cellOf env x;pure (dJ ((x,a)::b))) else pure (dJ b))>>=λb=>pure b):=rfl;refine U e (U g ?_);rfl
theorem eX.comp (he:eX X env ns ρ w n s) (d:DM ns sc) {cl} (f:∀q∈cl,env.cells.lookup q.1=O q.2) (r:∀p∈sc.names,p.2= .free->∃c,(p.1,c)∈cl) (z:s.heap.Ns C m) (A:w.role C=au) (hb:X.h₀.objs.size<=C) (ht:C∉X.tabs):
 eX X (compEnvC sc cl C env) sc.names (compEnv ρ) w n s:=by
 have g:∀p∈sc.names,aZ p.1=true:=λp hp=>(d.frees p hp).1;have free:∀x,aZ x=H->bg (nm x) sc.names=O .free->∃c,cl.lookup x=O c/\env.cells.lookup x=O c/\(bg (nm x) ns=O .cell\/bg (nm x) ns=O .free):=by
  intro x hx hk;refine jB (lJ hk) λp hp B i=> ?_;have j:=gS hx (g p hp) B;refine fE (r p hp i) λc hm=>fE (mem_lookup hm) λc' hl=> ?_;rw [<-j] at hl;refine f7 c' hl (f _ (mem_of_lookup hl)) ?_;rcases(d.frees p hp).2 with⟨_,q⟩|q|q
  .refine U j ?_;exact q
  .rw [i] at q;injection q
  .rw [i] at q;injection q
 have a:∀y,bg y sc.names≠O .cell:=λy e=>by
  refine jB (lJ e) λp hp l i=> ?_;rcases(d.frees p hp).2 with⟨q,_⟩|q|q<;>rw [i] at q<;>injection q
 refine⟨d.fn,he.glob,he.blt,λx k hx hk=> ?_,d.cls,d.Gx,(bW m z (λx v l l h=>nomatch h)),(iX A hb ht),λx hx hk=> ?_,λx v c l hk=>absurd hk (a _),λx v c hx hk b hl=> ?_,λx y c h1 h2=> ?_,λy v h=>(nomatch h),λy v l=>a y,λq=>absurd d.loc (U q bZ)⟩
 .have hl:=j4 g hx hk;have:=zc (env:=env) hl
  induction k using dw with
  |«local»=>exact this.resolve_right λq=>(by injection q.1)
  |cell=>exact absurd hk (a _)
  |free=>exact this.elim .inr λq=> .inl q.2
  |globalImplicit=>exact this.resolve_right λq=>(by injection q.1)
  |_=>trivial
 .have hk:=hk.resolve_left (a _);refine cI (free x hx hk) λc a3 t o=>HB (he.cell x hx a3) λc' D E G I J K=> ?_;injection o.symm.trans E with hq;subst hq
  exact lT c D t G I J K
 .refine cI (free x hx hk) λc' a3 t o=> ?_;injection hl.symm.trans t with hq;subst hq
  have b:find (nm x) (app ρ.loc ρ.out)=O v:=b;rw [Dq] at b;rcases a3 with a3|a3
  .induction hq:find (nm x) ρ.loc using zO with
   |none=>rw [hq] at b;exact absurd a3 (he.outs _ v b)
   |some u=>rw [hq] at b;injection b with b;subst b;exact he.wX x _ c hx a3 hq o
  .induction hq:find (nm x) ρ.loc using zO with
   |none=>rw [hq] at b;exact he.wY x v c hx a3 b o
   |some u=>
    rcases he.locs _ u hq with q|q<;>rw [a3] at q<;>cases q
 .exact he.apart x y c (f _ (mem_of_lookup h1)) (f _ (mem_of_lookup h2))
end
def wo (M:Model) (A:Around) (use:Option (Value->Sem Unit)) (Q:Value->Shared->Prop) (acc:Value) (C:Addr) (r:Result) (s':Shared):Prop:=
 match r,use with
 | .ok _,au=>∃m,s'.heap.Ns C m/\∀h',gj C s'.heap h'->Q acc {s' with heap:=h'}
 | .ok _,O u=>cG M A (u acc) (λu_ s''=>∃m,s''.heap.Ns C m/\∀h',gj C s''.heap h'->Q .none {s'' with heap:=h'}) (λu_ u_=>False) s'
 | .error _,_=>False
section
variable {M:Model} {A:Around} {env:dD} {s:Shared}
theorem DN {c} [Decidable c] {pos} {k:PUnit->Sem α} {Q} {E} (h:cG M A (k ()) Q E s):cG M A (if c then(standAt pos>>=k) else k ()) Q E s:=by
 split
 .exact ay (bG h)
 .exact h
theorem ze {cl}
 (z:clausesOf e=g::gs) (E:∀x,foldedSetIterable g.iter env x=pure x) (l:closureFor scope env=pure cl)
 (b:scope.kind= .function) (c:∀x∈scope.names,x.2= .local->scope.names.lookup x.1=O .local)
 (h:cG M A first (λx d=>cG M A (pyIter x) (λD i=>cG M A newAcc (λacc j=>
  cG M A (newFunctionEnv scope env.globals cl [] env.qual au .none (O env)) (λcenv k=>
   codeN M A (.compStart e 0 D acc {cenv with scope:=relabel scope env}) (wo M A use Q acc cenv.locals) k) (λa a=>False) j) (λa a=>False) i) (λa a=>False) d) (λa a=>False) s):
 cG M A (comprehension e scope env pos newAcc aj first use) Q (λa a=>False) s:=by
 unfold comprehension;refine U l (U z ?_);refine ay (aW h (λx d p=>ay (bG (ay (nj (E x) (ay (bh (aW p (λD i q=>
  DN (ay (aW q (λacc j t=>ay (aO (ay (aW t (λcenv k v=> ?_) λa a h'=>h')))) λa a h'=>h')))
   λa a h'=>h'))))))) λa a h'=>h')
 dsimp only;have hv:∀x∈(scope.names.filter λx=>(x.2== .local||x.2== .cell)&&x.1 !=(".0":Str)).reverse,x.2= .local->
  Env.kindOf {cenv with scope:=relabel scope env} x.1=O .local:=λx hx hl=>lookup_relabel_local (c x (gy.mp (mq.mp hx)).1 hl)
 have B:∀x∈(scope.names.filter λx=>(x.2== .local||x.2== .cell)&&x.1 !=(".0":Str)).reverse.drop 1++(scope.names.filter λx=>(x.2== .local||x.2== .cell)&&x.1 !=(".0":Str)).reverse.take 1,
  x.2= .local->Env.kindOf {cenv with scope:=relabel scope env} x.1=O .local:=λx hx hl=>by
  rcases nc.mp hx with h1|h1
  .exact hv x (List.mem_of_mem_drop h1) hl
  .exact hv x (List.mem_of_mem_take h1) hl
 refine bh (ay (qY (bh (Gv (h:=au) (iR v λr s' y=> ?_) Zz))))
 induction r using Except.casesOn with
 |ok f=>
  induction use using zO with
  |none=>
   exact aL y λm y hn=>ay (bh (eU (wpAny_comp_letGo (cenv:={cenv with scope:=relabel scope env}) b _ s' m hv hn λh' F a n=>aO (y h' n))))
  |some u=>
   refine ay (pJ (ay (bh (aW y (λa C o=> ?_) λa a h'=>h'))));exact aL o λm o hn=>ay (eU (wpAny_comp_letGo (cenv:={cenv with scope:=relabel scope env}) b _ C m B hn λh' F a n=>aO (o h' n)))
 |error x=>rcases use<;>exact y.elim
end
section
variable {prog:Program} {w:World} {A:Around} {s:Shared} {R:Result->Shared->Prop}
theorem xg {Q:α->Shared->Prop} {M} (h:cG M A m Q (λa a=>False) s):cG M A (m.onRaise λx=>do wM x env;standAt theWindowsPlace) Q E s:=
 jZ (aW h (λa a q=>q) λa a f=>f.elim)
theorem zf {elt target iter ifs rest scope pos it acc env}
 (c:codeN (model prog w) A (.compLoop (.ListComp elt (⟨target,iter,ifs,0⟩::rest) scope pos) 0 it acc env) R s)
 (h:cG (model prog w) A (pyIter it) (λa s'=>codeN (model prog w) A (.compLoop (.ListComp elt (⟨target,iter,ifs,0⟩::rest) scope pos) 0 a acc env) R s') (λb b=>False) s):
 codeN (model prog w) A (.compStart (.ListComp elt (⟨target,iter,ifs,0⟩::rest) scope pos) 0 it acc env) R s:=by
 refine dP rfl (xg ((?_:cG _ _ (ask>>=_) _ _ s)));refine ay (eU (BK (iZ (λb=> ?_) λb=> ?_)))
 .first
   |exact ay (aO (aO (jc rfl c)))
   |exact aO (jc rfl c)
 .first
   |exact ay (pJ (ay (bG (ay (aW h (λa s' h'=>aO (jc rfl h')) λb b x=>x)))))
   |(refine ay (pJ ?_);show cG _ _ (standAt iter.pos>>=_) _ _ s;exact ay (bG (ay (aW h (λa s' h'=>aO (jc rfl h')) λb b x=>x))))
theorem zg {kx vx target iter ifs rest scope pos it acc env}
 (c:codeN (model prog w) A (.compLoop (.DictComp kx vx (⟨target,iter,ifs,0⟩::rest) scope pos) 0 it acc env) R s)
 (h:cG (model prog w) A (pyIter it) (λa s'=>codeN (model prog w) A (.compLoop (.DictComp kx vx (⟨target,iter,ifs,0⟩::rest) scope pos) 0 a acc env) R s') (λb b=>False) s):
 codeN (model prog w) A (.compStart (.DictComp kx vx (⟨target,iter,ifs,0⟩::rest) scope pos) 0 it acc env) R s:=by
 refine dP rfl (xg ((?_:cG _ A (ask>>=_) _ _ s)));refine ay (eU (BK (iZ (λb=> ?_) λb=> ?_)))
 .first
   |exact ay (aO (aO (jc rfl c)))
   |exact aO (jc rfl c)
 .first
   |exact ay (pJ (ay (bG (ay (aW h (λa s' h'=>aO (jc rfl h')) λb b x=>x)))))
   |(refine ay (pJ ?_);show cG _ _ (standAt iter.pos>>=_) _ _ s;exact ay (bG (ay (aW h (λa s' h'=>aO (jc rfl h')) λb b x=>x))))
end
noncomputable abbrev x8 (ifs:List Expr) (env:dD):Sem Bool:=forIn ifs H λc r=>if r=H then do let ok<-isTrue c env (eval c env);pure (dJ ok) else pure (dJ r)
def nT (X:dz) (r:Ap) (n b:Nat) (ns:List (Str×aN)) (t:XT) (xs:List Expr):Prop:=
 ∀A,fO n b A->∀env ρ w h s,St X w h s->eX X env ns ρ w h.n s->∀k res,t.f r ρ h k=O res->∀Q:Bool->Shared->Prop,sV X w h.n s k res Q->cG (model X.prog X.w) A (x8 xs env) Q (λu_ u_=>False) s
def AH (X:dz) (r:Ap) (n b:Nat) (ns:List (Str×aN)) (tp:Bool) (xi:XI) (x:Expr):Prop:=
 ∀A,fO n b A->∀env ρ w h s,St X w h s->eX X env ns ρ w h.n s->∀k res,xi.f r ρ h k=O res->∀Q:Value->Shared->Prop,
  (∀w' h' s' (S:Addr->Prop) iv it,St X w' h' s'->Ext X cV w h.n s w' h'.n s'->Aq X s'.heap w' h'.n S iv it->(∀b,S b->s.heap.objs.size<=b)->(it.t=0\/tp=H)->(it.t=1->∃o,h'.l.get it.n=O o/\o.t=5)->k it h'=O res->Q iv s')->
  cG (model X.prog X.w) A (eval x env) (λxv s1=>cG (model X.prog X.w) A (pyIter xv) Q (λu_ u_=>False) s1) (λu_ u_=>False) s
def sX (X:dz) (r:Ap) (n b:Nat) (ns:List (Str×aN)) (T:ae6->Prop) (use:V->Env->M V) (emit:Value->dD->Sem Unit):Prop:=
 ∀A,fO n b A->∀env ρ w h s,St X w h s->eX X env ns ρ w h.n s->∀ai,ai<h.n->∀k res,use (bP ai) ρ h k=O res->∀Q:Unit->Shared->Prop,
  (∀w' h' s' v,St X w' h' s'->Ext X cV w h.n s w' h'.n s'->k v h'=O res->Q () s')->cG (model X.prog X.w) A (emit (.ref (w.ρ ai)) env) Q (λu_ u_=>False) s
section
variable {X:dz} {K:Frag} {r:Ap} {n b:Nat} {ns:List (Str×aN)} {w:Wd} {h:ae7} {s:Shared} {env:dD} {ρ:Env}
theorem nT.nil:nT X r n b ns ji []:=λA d env ρ w h s a he k res e Q c=>aO (c w h s H a .refl e)
theorem DO {M} {env}:∀{xs:List Expr} {s},Q aj s->cG M A (forIn xs aj λc r=>if r=H then do let ok<-isTrue c env (eval c env);pure (dJ ok) else pure (dJ r)) Q E s:=by
 intro xs
 induction xs with
 |nil=>
  intro s q;exact aO q
 |cons x xs a=>
  intro s q;exact U (dO ..) (ay (aO (a q)))
theorem nT.cons (hx:j0 X r n b ns t x) (d:nT X r n b ns u xs):nT X r n b ns (RO t u) (x::xs):=by
 intro A g env ρ w h s o he k res e Q i;unfold x8;refine U (dO ..) (U (if_pos rfl) (ay (ay (hx A g env ρ w h s o he _ res e _ λj h1 l c a f m=>aO ?_))))
 induction c using zB with
 |true=>exact d A g env ρ j h1 l a (he.ext f) k res m Q (i.ext f)
 |false=>exact DO (i j h1 l aj a f m)
theorem sX.list (B:bw X) (hx:cQ X r n b ns elt x):sX X r n b ns (λm=>True) (pI elt r) (λacc env=>do let _<-call (.builtin "list.append") [acc,<-eval x env]):=by
 intro A C env ρ w h s D he g i k res e Q E;refine ay (hx A C env ρ w h s D he _ res e _ λp h1 j u y c q hu a=>(dF (dj a) λo a m t=>aC (dM a) λa F=>aC (dM a) λa hz=> ?_));have hz:=nQ hz
 induction ((c.rep _ o t).2) using Mine.Rep.casesOn with
 |list xs items ep G l hn d=>
  have hl:j.heap.IsList (p.ρ g) items:=gc _ l rfl _ rfl;have hz:(app xs [u]).length<=1000000:=hz;rw [mH] at a hz;refine cL (q.ρ g i) (eU (aq (bH slot_list_append hl.typeIs entry_list_append ?_ (args_list_append _ _))));refine(?_:wpAny _ _ (updateSeq (p.ρ g) (·.push y)>>=λm=>ret .none) _ _ j);refine aq (lg l rfl (av (bW .none rfl (av ?_))));have f:=d.length;simp only [aM] at f;have v:=c.turn B t (eH (·.push y)) j.toks (o':=bL (xs++[u])) (λz I=> .list _ (items.push y) _ I (bE _ l rfl) (by simp at hz⊢;lia) (U pq ((d.mono z).append (.cons _ _ _ _ (hu.mono z) .nil)))) (aY rfl);exact E _ _ _ _ v.1 (q.trans v.2) a
 |_=>exact nn (aH F) rfl
theorem sX.dict (F:bw X) (p:Pos) (hx:cQ X r n b ns a x) (hy:cQ X r n b ns c y):sX X r n b ns (λG=>True) (V2 a c r) (λacc env=>match acc with
 | .ref D=>do
  let i<-eval x env;let B<-holding [i] (eval y env)
  standAt {x.pos with endLine:=y.pos.endLine,endCol:=y.pos.endCol}
  holding [i,B] (dictSet D i B)
 |_=>pure ()):=by
 intro A j env ρ w h s I he J l k res e Q L;refine ay (hx A j env ρ w h s I he _ res e _ λM h1 P u z m q hu R=>(ay (bh (hy A j env ρ M h1 P m (he.ext q) _ res R _ λw2 h2 s2 v z2 g t hv f=>(ay (bG (bh (eU (dF (dj f) λo f G C=>aC (dM f) λf S=> ?_)))))))))
 induction ((g.rep _ o C).2) using Mine.Rep.casesOn with
 |dict V es ep hr hg hn hd cc E=>
  exact aL (bC f) λd f e3=>aC (dM f) λf hz=>cL ((q.trans t).ρ J l) (Fi F g C (hu.mono t.dW) hv e3 (rm hz) (j.c (k:=0) rfl) λs' a c=>L _ _ _ _ a ((q.trans t).trans c) f)
 |_=>exact nn (aH S) rfl
noncomputable def turnT (iter:Expr) (iv:Value) (target:Expr) (ifs:List Expr) (emit:Sem Unit) (next:Sem Fin) (env:dD):Sem Fin:=do
 standAt iter.pos
 match<-pyNext iv with
 |none=>pure (.done .next)
 |some v=>
  letOwnedTupleGo target iv v
  assign target env v
  let mut ok:=H
  for c in ifs do
   if ok then ok<-isTrue c env (eval c env)
  if ok then emit
  next
theorem K5 {M} {next}
 (h:cG M A (pyNext iv) (λo c=>match o with
  |none=>Q (.done .next) c
  |some v=>cG M A (letOwnedTupleGo target iv v) (λa e=>cG M A (assign target env v) (λa f=>cG M A (x8 ifs env) (λok d=>
   if ok=H then cG M A emit (λa i=>cG M A next Q E i) E d else cG M A next Q E d) E f) E e) E c) E s):cG M A (turnT iter iv target ifs emit next env) Q E s:=by
 refine ay (bG (ay (aW h (λo c h1=> ?_) λa a x=>x)))
 induction o using zO with
 |none=>exact aO h1
 |some v=>
  refine ay (aW h1 (λa e h2=>ay (aW h2 (λa f j=>ay (aW j (λok d g=> ?_) λa a x=>x)) λa a x=>x)) λa a x=>x)
  induction ok using zB with
  |false=>exact g
  |true=>exact ay (aW g (λa a q=>q) λa a x=>x)
theorem ru {M} {E} {Q:α->Shared->Prop} (h:cG M A t Q (λa a=>False) s):cG M A t Q E s:=aW h (λa a q=>q) λa a f=>f.elim
theorem eX.WA (e:eX X env ns ρ w n s) (x:Ext X F w n s w' n' s') (hF:∀a o,F a->s.heap.get? a=O o->d9 o=aj) (hl:¬F env.locals) (A:∀c l,s.heap.IsCell c l->¬F c):eX X env ns ρ w' n' s':=by
 have k:=x.keep hF;have d:∀a,¬F a->w.role a=au->a∉X.tabs->∀o,s.heap.get? a=O o->s'.heap.get? a=O o:=λa B h1 h2 o f=>x.old a o h1 h2 B f;refine aL e.loc λm hv hm=> ?_;have u:=e.Dz;refine⟨e.fn,e.glob,e.blt,e.kind,e.cls,e.Gx,(bW m (uK hm (d _ hl u.1 u.2.2)) (λy v h1 h2 f=> ?_)),⟨(x.role _ hm.lt).trans u.1,u.2⟩,λy h1 h2=> ?_,λy v c h1 h2 f p=> ?_,λy v c h1 h2 f p=> ?_,e.apart,e.locs,e.outs,e.N2⟩
 .refine dN (hv y v h1 h2 f) λz hz q=> ?_;exact bW z hz (q.mono k)
 .exact HB (e.cell y h1 h2) λc l t i a3 j g=>lT c l t ((x.role _ g.lt).trans i) a3 j (ig g (d _ (A _ _ g) i j))
 .refine aL (e.wX y v c h1 h2 f p) λz q hz=>HB (e.cell y h1 (.inl h2)) λc' l t i a3 j g=> ?_;injection p.symm.trans t with hq;subst hq
  exact bW z (ig hz (d _ (A _ _ g) i j)) (q.mono k)
 .refine aL (e.wY y v c h1 h2 f p) λz q hz=>HB (e.cell y h1 (.inr h2)) λc' l t i a3 j g=> ?_;injection p.symm.trans t with hq;subst hq
  exact bW z (ig hz (d _ (A _ _ g) i j)) (q.mono k)
theorem eX.iter (e:eX X env ns ρ w n s) (i:Aq X s.heap w n S iv a) (x:Ext X S w n s w' n' s'):eX X env ns ρ w' n' s':=by
 refine e.WA x i.is.fixed (λd=> ?_) λc k g d=> ?_
 .exact i.frame e _ d (.inl rfl)
 .refine HA (i.is.K3 c d) λo vs h1 h2=>dN g λo' j f=> ?_;injection h1.symm.trans j with hq;subst hq
  rw [h2] at f;injection f
theorem DP (ax:bw X) (M:10<=X.h₀.objs.size) (htab:∀a∈X.tabs,a<X.h₀.objs.size) (hA:fO n b A) (ht:ri X r n b ns tgt target) (hif:nT X r n b ns HZ ifs) (hu:sX X r n b ns T use emit)
 (P:∀g,compTurn ex 0 g (.ref D) cenv=turnT iter g target ifs (emit (.ref D) cenv) (again (.compLoop ex 0 g (.ref D) cenv)) cenv)
 (ZH:∀g,(model X.prog X.w).den (.compLoop ex 0 g (.ref D) cenv)=(compTurn ex 0 g (.ref D) cenv).onRaise (λx=>do wM x cenv;oS x)) (p:∀g,A.under (.compLoop ex 0 g (.ref D) cenv)=A) (u:∀g,(Code.compLoop ex 0 g (.ref D) cenv).quiet=H) (z:∀y,bg y ns≠O .cell) {s₀:Shared} (hC:s₀.heap.objs.size<=cenv.locals)
 (i:∀l h' B s',St X l h' s'->eX X cenv ns B l h'.n s'->Ext X cV w₀ n₀ s₀ l h'.n s'->ai<h'.n->l.ρ ai=D->kk h'=O res->R (.ok .next) s'):
 ∀m J ρ w h s S g,St X w h s->eX X cenv ns ρ w h.n s->Aq X s.heap w h.n S g J->(∀b,S b->s₀.heap.objs.size<=b)->(J.t=0\/iQ target=H)->Ext X cV w₀ n₀ s₀ w h.n s->ai<h.n->w.ρ ai=D->
  turns r tgt HZ (use (bP ai)) kk m J ρ h=O res->codeN (model X.prog X.w) A (.compLoop ex 0 g (.ref D) cenv) R s:=by
 intro m
 induction m with
 |zero=>intro _ _ _ _ _ _ _ _ _ _ _ _ _ _ _ e;exact fn e
 |succ m ih=>
  intro J ρ w h s S g hs he hi hS hp x C hD e;refine dP rfl (U (p g) (U (ZH g) (rW (U (P g) (ru (K5 ?_))))));have e:vV J h kk (λv J h=>tgt.f r ρ v h λρ h=>HZ.f r ρ h λb h=>ah (turns r tgt HZ (use (bP ai)) kk m J ρ h) (use (bP ai) ρ h λd h=>turns r tgt HZ (use (bP ai)) kk m J ρ h) b)=O res:=e;have hSx:∀a,S a->cV a\/s₀.heap.objs.size<=a:=λa ha=> .inr (hS a ha);have hFx:∀a,AF cenv ns a->cV a\/s₀.heap.objs.size<=a:=λa ha=>by
   rcases ha with rfl|⟨y,_,h2,_⟩
   .exact .inr hC
   .exact absurd h2 (z _)
  have go:∀{F B l h' s'},St X l h' s'->eX X cenv ns B l h'.n s'->Aq X s'.heap l h'.n S g F->(F.t=0\/iQ target=H)->Ext X cV w₀ n₀ s₀ l h'.n s'->ai<h'.n->l.ρ ai=D->turns r tgt HZ (use (bP ai)) kk m F B h'=O res->
   cG (model X.prog X.w) A (again (.compLoop ex 0 g (.ref D) cenv)) (λi s'=>match i with| .done f=>R (.ok f) s'| .again c'=>c'.quiet=H/\codeN (model X.prog X.w) A c' R s') (λd d=>False) s':=
   λa1 a2 a3 a4 a5 a6 a7 a8=>aO ⟨u g,ih _ _ _ _ _ S g a1 a2 a3 hS a4 a5 a6 a7 a8⟩
  refine aW (eU<|Bb ax M htab hs hA.handled hi hp e (E:=λd d=>False) (Q:=λo s1=>match o with
   |none=>R (.ok .next) s1
   |some v=>cG (model X.prog X.w) A (assign target cenv v) (λd s3=>cG (model X.prog X.w) A (x8 ifs cenv) (λok s4=>
    if ok=H then cG (model X.prog X.w) A (emit (.ref D) cenv) (λd s5=>cG (model X.prog X.w) A (again (.compLoop ex 0 g (.ref D) cenv)) (λi s'=>match i with| .done f=>R (.ok f) s'| .again c'=>c'.quiet=H/\codeN (model X.prog X.w) A c' R s') (λd d=>False) s5) (λd d=>False) s4
    else cG (model X.prog X.w) A (again (.compLoop ex 0 g (.ref D) cenv)) (λi s'=>match i with| .done f=>R (.ok f) s'| .again c'=>c'.quiet=H/\codeN (model X.prog X.w) A c' R s') (λd d=>False) s4) (λd d=>False) s3) (λd d=>False) s1)
   (λh' s' V k x' ek=> ?_) (λh' s' v y F V k x' hv hi' R6 ek=> ?_)) (λo s1 q=> ?_) λd d f=>f
  .exact i w h' ρ s' V (k▸he.iter hi x') (k▸x.nR x' hSx) (k▸C) hD ek
  .have G:=he.iter hi x';have x1:=x.nR x' hSx;rw [<-k] at G x1 hv hi' C;refine ht A hA cenv ρ w h' s' V G v y hv _ res ek _ λVu w2 h2 s2 hs2 Vt x2 e2=> ?_;have x3:=x1.nR x2 hFx;have L:=aQ C x2.ou;refine hif A hA cenv Vu w2 h2 s2 hs2 Vt _ res e2 _ λw3 h3 s3 c Jx x4 e3=> ?_;have WB:=Vt.ext x4;have WC:=(hi'.ext x2 (AF.fixed G) (λb hb=>hi'.frame G b hb)).ext x4 (λd d f=>f.elim) (λd d f=>f);have j:=aQ L x4.ou;have I:=(x4.ρ ai L).trans ((x2.ρ ai C).trans hD)
   induction c using zB with
   |false=>exact go Jx WB WC R6 (x3.trans x4) j I e3
   |true=>
    exact U (if_pos rfl) (cL I (hu A hA cenv Vu w3 h3 s3 Jx WB ai j _ res e3 _ λw4 h4 s4 v4 Vs x5 e4=>U I (go Vs (WB.ext x5) (WC.ext x5 (λd d f=>f.elim) (λd d f=>f)) R6 ((x3.trans x4).trans x5) (aQ j x5.ou) ((x5.ρ ai j).trans I) e4)))
  .induction o using zO with
   |none=>exact q
   |some v=>exact eU q
end
section
variable {X:dz} {K:Frag} {r:Ap} {n b:Nat} {ns:List (Str×aN)} {w:Wd} {h:ae7} {s:Shared} {env:dD} {ρ:Env}
theorem Aq.self {m:Nat} (v:St X w h s) (i:Aq X s.heap w h.n S iv a) (hl:a.t=1->∃o,h.l.get a.n=O o/\o.t=5) (q:Q iv s):wpAny (model prog ww) A (pyIter iv) Q E s:=by
 have y:=i.is;clear i
 induction y using Mine.GJ.casesOn with
 |one z a g B=>
  induction B using Mine.SrcR.casesOn with
  |tup t items ep i p ht C d xs f=>exact wpAny_pyIter_tupleiter d q
  |range x c xs hv d=>exact wpAny_pyIter_rangeiter d q
  |Cj x t i d=>exact wpAny_pyIter_striter_ascii d q
  |Ck x t i d=>exact wpAny_pyIter_striter_wide d q
  |bytes b t i d=>exact KBw.pyIter_self d q
  |list j k u d=>exact wpAny_pyIter_listiter d q
  |keys j m k c u d=>exact wpAny_pyIter_keyiter d q
 |zip i hi g=>
  refine dN (hl rfl) λo F G=> ?_
  induction ((v.rep i o F).2) using Mine.Rep.casesOn with
  |zip J L M P R V i1 i2 a b p r1 r2 r3 r4 D u hz h1 h2 h3 h4=>exact wpAny_pyIter_zip hz q
  |_=>exact nn G rfl
 |enum e z m old t items ep xs g I he p ht C d f=>exact wpAny_pyIter_enum he q
structure uS (X:dz) (ex target iter:Expr) (ifs:List Expr) (emit:Value->dD->Sem Unit):Prop where
 cl:clausesOf ex=[⟨target,iter,ifs,0⟩]
 under:∀(A:Around) iv D cenv,A.under (.compLoop ex 0 iv (.ref D) cenv)=A
 den:∀iv D cenv,(model X.prog X.w).den (.compLoop ex 0 iv (.ref D) cenv)=(compTurn ex 0 iv (.ref D) cenv).onRaise (λx=>do wM x cenv;oS x)
 quiet:∀iv D cenv,(Code.compLoop ex 0 iv (.ref D) cenv).quiet=H
 turn:∀iv D cenv,compTurn ex 0 iv (.ref D) cenv=turnT iter iv target ifs (emit (.ref D) cenv) (again (.compLoop ex 0 iv (.ref D) cenv)) cenv
 start:∀{A:Around} {iv:Value} {D:Addr} {cenv:dD} {R:Result->Shared->Prop} {s:Shared},codeN (model X.prog X.w) A (.compLoop ex 0 iv (.ref D) cenv) R s->
  cG (model X.prog X.w) A (pyIter iv) (λit' s'=>codeN (model X.prog X.w) A (.compLoop ex 0 it' (.ref D) cenv) R s') (λu_ u_=>False) s->codeN (model X.prog X.w) A (.compStart ex 0 iv (.ref D) cenv) R s
theorem uS.list (elt target iter) ifs sc pos:uS X (.ListComp elt [⟨target,iter,ifs,0⟩] sc pos) target iter ifs (λacc env=>do let _<-call (.builtin "list.append") [acc,<-eval elt env]) where
 cl:=rfl
 under:=λA a a a=>Around.under_of_weight (A:=A) rfl
 den:=λa a a=>rfl
 quiet:=λa a a=>rfl
 turn:=λa a a=>rfl
 start:=zf
theorem uS.dict (x y target iter) ifs sc pos:uS X (.DictComp x y [⟨target,iter,ifs,0⟩] sc pos) target iter ifs (λacc env=>match acc with
 | .ref D=>do
  let d<-eval x env;let e<-holding [d] (eval y env)
  standAt {x.pos with endLine:=y.pos.endLine,endCol:=y.pos.endCol}
  holding [d,e] (dictSet D d e)
 |_=>pure ()) where
 cl:=rfl
 under:=λA c c c=>Around.under_of_weight (A:=A) rfl
 den:=λc c c=>rfl
 quiet:=λc c c=>rfl
 turn:=λc c c=>rfl
 start:=zg
def uT (X:dz) (o:ae6) (t:Sem Value):Prop:=∀{A:Around} {w:Wd} {h:ae7} {s:Shared} {Q:Value->Shared->Prop} {E:Value->Shared->Prop},St X w h s->
 (∀w' s',St X w' ⟨HT.ins o h.l h.n,h.n+1⟩ s'->Ext X cV w h.n s w' (h.n+1) s'->w'.ρ h.n=s.heap.objs.size->s'.heap.objs.size=s.heap.objs.size+1->Q (.ref s.heap.objs.size) s')->wpAny (model X.prog X.w) A t Q E s
theorem uT.list (e:bw X):uT X (bL []) (newList []):=by
 intro A w h s Q E f g;refine dY ?_ (by show(0:Nat)<=jr;exact iC _);exact jB (f.newList e (xs:=[]) (ys:=[]) .nil (by simp) s.toks) λi a c d=>g i _ a c d (bJ ..)
theorem uT.dict (f:bw X):uT X (dZ [] 0) newDict:=by
 intro A w h s Q E g i;exact aq (wpAny_alloc (av (jB (g.push f (cJ #[] 0) (dZ [] 0) s.toks rfl 0 λe k h1 h2 j=> .dict [] #[] 0 h1 h2 (of_decide_eq_true rfl) ⟨.nil,⟨0,λp hp=>(aU hp).elim⟩,iJ⟩ 0 (U j rfl)) λe a c d=>i e _ a c d (bJ ..))))
theorem x9 (ax:bw X) (hbase:10<=X.h₀.objs.size) (htab:∀a∈X.tabs,a<X.h₀.objs.size) (hc:DM ns sc) (ZI:kM iter=aj) (hI:AH X r n b ns tp xi iter) (ht:ri X r n b sc.names tgt target) (htp:tp=H->iQ target=H)
 (hif:nT X r n b sc.names HZ ifs) (hu:sX X r n b sc.names T use emit) (cx:uS X ex target iter ifs emit) (hn:uT X o newAcc)
 (hA:fO n b A) (hs:St X w h s) (he:eX X env ns ρ w h.n s) {k:V->ae7->Option Res}
 (e:xi.f r ρ h (λit h=>new o h λacc h=>turns r tgt HZ (use acc) (k acc) 2000 it (compEnv ρ) h)=O res) pos
 (fin:∀C w' h' s' ai,St X w' h' s'->Ext X cV w h.n s w' h'.n s'->ai<h'.n->s.heap.objs.size<=C->w'.role C=au->X.h₀.objs.size<=C->C∉X.tabs->(∃m,s'.heap.Ns C m)->k (bP ai) h'=O res->wo (model X.prog X.w) A Bc Q (.ref (w'.ρ ai)) C (.ok .next) s'):
 cG (model X.prog X.w) A (comprehension ex sc env pos newAcc aj (eval iter env) Bc) Q (λu_ u_=>False) s:=by
 refine cI (zd he hc.frees) λcl c3 c1 c2=> ?_;have hcell:∀x∈sc.names,x.2≠.cell:=λp hp q=>by
  rcases(hc.frees p hp).2 with⟨h,_⟩|h|h<;>rw [q] at h<;>injection h
 have Tz:∀y,bg y sc.names≠O .cell:=λy e=>by
  exact jB (lJ e) λp hp u_ e2=>hcell p hp e2
 refine ze cx.cl (λx=> ?_) c1 hc.fn (λx hx hl=> ?_) (hI A hA env ρ w h s hs he _ res e _ λw1 h1 s1 S iv it hs1 x1 hi1 hS1 hp1 hz1 e1=> ?_)
 .rcases iter<;>first|rfl|exact ft ZI
 .have:=j4 (λp hp=>(hc.frees p hp).1) (hc.frees x hx).1 (HY hc.uniq hx);exact U this (U hl rfl)
 refine aC (dM e1) λe1 hle=>eU<|hn hs1 λw2 s2 hs2 x2 ZJ hsz=>eU<|wpAny_newFunctionEnv hcell (by intro y hy;simp at hy) (λh' hns hsb=> ?_) hc.fn
 refine aC (hs2.ja ax (h':=h') (tk:=s2.toks+([]:List (Str×Value)).length) (U hsb.1 (U (bJ ..) (gV _))) λa ob e=>hsb.extBut a ob (cj (bk e)) (az _ e)) λx3 Jx=> ?_;have hCt:s2.heap.objs.size∉X.tabs:=λhm=>absurd (htab _ hm) (bD.mpr hs2.size);have WC:=(hi1.ext x2 (λu_ u_ f=>f.elim) (λu_ u_ f=>f)).ext x3 (λu_ u_ f=>f.elim) (λu_ u_ f=>f);have hlt:=aI x1.size x2.size;have loop:∀R,(∀w' h'' s',St X w' h'' s'->Ext X cV w h.n s w' h''.n s'->h1.n<h''.n->w'.ρ h1.n=s1.heap.objs.size->(w'.role s2.heap.objs.size=au/\∃m,s'.heap.Ns s2.heap.objs.size m)->k (bP h1.n) h''=O res->R (.ok .next) s')->
  codeN (model X.prog X.w) A (.compLoop ex 0 iv (.ref s1.heap.objs.size) (compEnvC sc cl s2.heap.objs.size env)) R {s2 with heap:=h',toks:=s2.toks+([]:List (Str×Value)).length}:=λR hR=>by
  refine DP ax hbase htab hA ht hif hu (λiv=>cx.turn iv _ _) (λiv=>cx.den iv _ _) (λiv=>cx.under A iv _ _) (λiv=>cx.quiet iv _ _) Tz (w₀:=w) (n₀:=h.n) (s₀:=s) (cenv:=compEnvC sc cl s2.heap.objs.size env) hlt (λw' h'' ρ' s' a1 a2 a3 a4 a5 a6=> ?_) 2000 it (compEnv ρ) w2 _ _ S iv Jx ((eX.ext (he.ext (x1.trans x2)) x3).comp hc c2 c3 hns (l6 hs2 (bu _)) hs2.size hCt) WC hS1 (hp1.imp id htp) ((x1.trans x2).trans x3) (bN _) ZJ e1;exact aL a2.loc λm' u_ hm'=>hR w' h'' s' a1 a3 a4 a5 ⟨a2.Dz.1,m',hm'⟩ a6
 have key:=loop (wo (model X.prog X.w) A Bc Q (.ref s1.heap.objs.size) s2.heap.objs.size) λw' h'' s' a1 a2 a3 a4 a5 a6=>by
  have:=fin s2.heap.objs.size w' h'' s' h1.n a1 a2 a3 hlt a5.1 hs2.size hCt a5.2 a6;rw [a4] at this;exact this
 refine cx.start key (eU<|WC.self (m:=0) Jx (λZK=> ?_) key);exact dN (hz1 ZK) λoz g1 g2=>bW oz (HT.vZ _ (cj (hs1.rep _ oz g1).1) g1) g2
end
section
variable {X:dz} {K:Frag} {r:Ap} {n b:Nat} {ns:List (Str×aN)} {w:Wd} {h:ae7} {s:Shared} {env:dD} {ρ:Env}
theorem St.gone (d:bw X) (f:St X w h s) (g:w.role C=au) (hb:X.h₀.objs.size<=C) (hm:s.heap.Ns C m) (c:gj C s.heap h'):St X w h {s with heap:=h'}/\Ext X (λa=>a=C) w h.n s w h.n {s with heap:=h'}/\oZ X s.heap w h.n h' w h.n:=
 f.iter d g hb (λo e=>uR hm e) (tk:=s.toks) (cX c.1.symm) c.extBut
def Ot (X:dz) (r:Ap) (n b:Nat) (ns:List (Str×aN)) (e:XE) (x:Expr):Prop:=
 ∀A,fO n b A->∀env ρ w h s,St X w h s->eX X env ns ρ w h.n s->∀k res,e.f r ρ h k=O res->∀(Q:Unit->Shared->Prop) (use:Value->Sem Unit),
  (∀C w' h' s' v y,St X w' h' s'->Ext X cV w h.n s w' h'.n s'->VR X s'.heap w' h'.n v y->s.heap.objs.size<=C->w'.role C=au->X.h₀.objs.size<=C->C∉X.tabs->(∃m,s'.heap.Ns C m)->k v h'=O res->
   cG (model X.prog X.w) A (use y) (λu_ s''=>∃m,s''.heap.Ns C m/\∀h',gj C s''.heap h'->Q () {s'' with heap:=h'}) (λu_ u_=>False) s')->cG (model X.prog X.w) A (evalThenUse x env use) Q (λu_ u_=>False) s
theorem cQ.comp (i:bw X) (c:10<=X.h₀.objs.size) (d:∀a∈X.tabs,a<X.h₀.objs.size) (P:DM ns sc) (g:kM iter=aj) (R:AH X r n b ns tp xi iter) (ht:ri X r n b sc.names tgt target) (l:tp=H->iQ target=H)
 (o:nT X r n b sc.names HZ ifs) (he:cQ X r n b sc.names elt el) pos:
 cQ X r n b ns (yK elt tgt xi HZ) (.ListComp el [⟨target,iter,ifs,0⟩] sc pos)/\Ot X r n b ns (yK elt tgt xi HZ) (.ListComp el [⟨target,iter,ifs,0⟩] sc pos):=by
 refine⟨λA t env ρ w h s u j k res e Q V=> ?_,λA t env ρ w h s u j k res e Q p hU=> ?_⟩
 .refine(?_:cG _ _ (comprehension (.ListComp el [⟨target,iter,ifs,0⟩] sc pos) sc env (firstIterPos [⟨target,iter,ifs,0⟩] pos) (newList []) aj (eval iter env)) _ _ s);exact x9 i c d P g R ht l o (sX.list i he) (uS.list _ _ _ _ _ _) (uT.list i) t u j e _ (Bc:=au) λC v h' s' x y z a3 B D E S F G=>fE F λm hm=>bW m hm (λh'' I=>(eZ (y.gone i D E hm I) λJ L q3=>V v h' _ _ _ L (z.nR J λa ha=> .inr (ha▸B)) ((VR.ref x a3).mono q3) G))
 .refine(?_:cG _ _ (comprehension (.ListComp el [⟨target,iter,ifs,0⟩] sc pos) sc env (firstIterPos [⟨target,iter,ifs,0⟩] pos) (newList []) aj (eval iter env) (O p)>>=λM=>pure ()) _ _ s);refine ay (x9 i c d P g R ht l o (sX.list i he) (uS.list _ _ _ _ _ _) (uT.list i) t u j e _ (Bc:=O p) λC v h' s' x y z a3 B D E S F G=>(aW (hU C v h' s' _ _ y z (VR.ref x a3) B D E S F G) (λM s'' q=> ?_) λM M f=>f));exact aL q λm J L=>bW m L (λh' I=>aO (J h' I))
theorem cQ.WD (i:bw X) (c:10<=X.h₀.objs.size) (d:∀a∈X.tabs,a<X.h₀.objs.size) (P:DM ns sc) (g:kM iter=aj) (R:AH X r n b ns tp xi iter) (ht:ri X r n b sc.names tgt target) (l:tp=H->iQ target=H)
 (o:nT X r n b sc.names HZ ifs) (hk:cQ X r n b sc.names ka kx) (hv:cQ X r n b sc.names va vx) pos:
 cQ X r n b ns (EV ka va tgt xi HZ) (.DictComp kx vx [⟨target,iter,ifs,0⟩] sc pos)/\Ot X r n b ns (EV ka va tgt xi HZ) (.DictComp kx vx [⟨target,iter,ifs,0⟩] sc pos):=by
 refine⟨λA t env ρ w h s u j k res e Q V=> ?_,λA t env ρ w h s u j k res e Q p hU=> ?_⟩
 .refine(?_:cG _ _ (comprehension (.DictComp kx vx [⟨target,iter,ifs,0⟩] sc pos) sc env (firstIterPos [⟨target,iter,ifs,0⟩] pos) newDict aj (eval iter env)) _ _ s);exact x9 i c d P g R ht l o (sX.dict i pos hk hv) (uS.dict _ _ _ _ _ _ _) (uT.dict i) t u j e _ (Bc:=au) λC v h' s' x y z a3 B D E S F G=>fE F λm hm=>bW m hm (λh'' I=>(eZ (y.gone i D E hm I) λJ L q3=>V v h' _ _ _ L (z.nR J λa ha=> .inr (ha▸B)) ((VR.ref x a3).mono q3) G))
 .refine(?_:cG _ _ (comprehension (.DictComp kx vx [⟨target,iter,ifs,0⟩] sc pos) sc env (firstIterPos [⟨target,iter,ifs,0⟩] pos) newDict aj (eval iter env) (O p)>>=λM=>pure ()) _ _ s);refine ay (x9 i c d P g R ht l o (sX.dict i pos hk hv) (uS.dict _ _ _ _ _ _ _) (uT.dict i) t u j e _ (Bc:=O p) λC v h' s' x y z a3 B D E S F G=>(aW (hU C v h' s' _ _ y z (VR.ref x a3) B D E S F G) (λM s'' q=> ?_) λM M f=>f));exact aL q λm J L=>bW m L (λh' I=>aO (J h' I))
structure zh (X:dz) (env:dD) (ns:List (Str×aN)) (w:Wd) (m:Nat) (s:Shared) (kn:Env->ae7->Option Res) (kr:V->ae7->Option Res) (res:Res) (Q:Flow->Shared->Prop):Prop where
 next:∀ρ' w' h' s',St X w' h' s'->eX X env ns ρ' w' h'.n s'->Ext X (AF env ns) w m s w' h'.n s'->kn ρ' h'=O res->Q .next s'
 ret:∀w' h' s' v y,St X w' h' s'->Ext X (AF env ns) w m s w' h'.n s'->VR X s'.heap w' h'.n v y->kr v h'=O res->Q (.ret y) s'
def jU (X:dz) (r:Ap) (n b:Nat) (ns:List (Str×aN)) (st:XS) (x:Stmt):Prop:=
 ∀A,fO n b A->∀env ρ w h s,St X w h s->eX X env ns ρ w h.n s->∀kn kr res,st.f r ρ h kn kr=O res->∀Q:Flow->Shared->Prop,zh X env ns w h.n s kn kr res Q->cG (model X.prog X.w) A (exec x env) Q (λu_ u_=>False) s
def jb (X:dz) (r:Ap) (n b:Nat) (ns:List (Str×aN)) (st:XS) (xs:List Stmt):Prop:=
 ∀A,fO n b A->∀env ρ w h s,St X w h s->eX X env ns ρ w h.n s->∀kn kr res,st.f r ρ h kn kr=O res->∀Q:Flow->Shared->Prop,zh X env ns w h.n s kn kr res Q->cG (model X.prog X.w) A (execs xs env) Q (λu_ u_=>False) s
theorem zh.ext (g:zh X env ns w m s kn kr res Q) (x:Ext X (AF env ns) w m s w' m' s'):zh X env ns w' m' s' kn kr res Q:=
 ⟨λk f i j a c d e=>g.next k f i j a c (x.trans d) e,λf i j v y a c d e=>g.ret f i j v y a (x.trans c) d e⟩
theorem Ext.none (x:Ext X cV w m s w' m' s'):Ext X F w m s w' m' s':=x.weaken λa h=>h.elim
theorem jU.bad x:jU X r n b ns k7 x:=λa a a a a a a a a a a a e=>fn e
theorem jb.nil:jb X r n b ns vY []:=λA d env ρ w h s a he f g res e Q c=>eU (wpAny_execs_nil (c.next ρ w h s a he .refl e))
theorem jb.cons (hx:jU X r n b ns a x) (f:jb X r n b ns c xs):jb X r n b ns (fz a c) (x::xs):=by
 intro A o env ρ w h s t he u p res e Q q;refine kQ (hx A o env ρ w h s t he _ p res e _ ⟨λg i h1 j d k l m=> ?_,λi h1 j v y d l hv m=> ?_⟩)
 .exact f A o env g i h1 j d k u p res m Q (q.ext l)
 .exact q.ret i h1 j v y d l hv m
theorem eX.K6 (he:eX X env ns ρ w h.n s):interactive env=false:=by
 unfold interactive;refine U he.fn ?_;rfl
theorem jU.expr pos (g:jx x=aj) (hx:cQ X r n b ns a x):jU X r n b ns (RS a) (.Expr x pos):=by
 intro A i env ρ w h s j he p q res e Q k;have c:swapsWith x au pos.line env=pure false:=by rcases x<;>first|rfl|exact ft g
 refine Km (hx A i env ρ w h s j he _ res e _ λl h1 m u y d f hu o=> ?_) he.K6 c;exact k.next ρ l h1 m d (he.ext f) f.none o
theorem jU.ret pos (hx:cQ X r n b ns a x):jU X r n b ns (yL a) (.Return (O x) pos):=by
 intro A d env ρ w h s f he o g res e Q i;exact mK (hx A d env ρ w h s f he g res e _ λj h1 k u y c l hu m=>i.ret j h1 k u y c l.none hu m)
theorem jU.ZL pos:jU X r n b ns (yL (xC di)) (.Return au pos):=by
 intro A d env ρ w h s a he f g res e Q c;exact eU<|wpAny_Return_none (c.ret w h s _ _ a .refl .none e)
theorem jU.ite pos (ht:j0 X r n b ns t te) (p:jb X r n b ns a xs) (q:jb X r n b ns c ys):jU X r n b ns (Dk t a c) (.If te xs ys pos):=by
 intro A g env ρ w h s u he i j res e Q k;refine S2 (ht A g env ρ w h s u he _ res e _ λl h1 m c' d f o=> ?_)
 induction c' using zB with
 |true=>exact p A g env ρ l h1 m d (he.ext f) i j res o Q (k.ext f.none)
 |false=>exact q A g env ρ l h1 m d (he.ext f) i j res o Q (k.ext f.none)
abbrev RQ (Q:Flow->Shared->Prop):Result->Shared->Prop:=λr s'=>match r with| .ok f=>Q f s'| .error _=>False
theorem RQ.to {M} (x:codeN M A c (RQ Q) s):codeN M A c (λr s'=>match r with| .ok f=>Q f s'| .error _=>False) s:=
 iR x λr s' q=>by induction r using Except.casesOn with|ok f=>exact q|error e=>exact q.elim
theorem K7 (u:fO n b A) (ht:j0 X r n b ns t te) (hb:jb X r n b ns body xs):
 ∀m ρ w h s,St X w h s->eX X env ns ρ w h.n s->EY r t body kn kr m ρ h=O res->zh X env ns w h.n s kn kr res Q->codeN (model X.prog X.w) A (.whileLoop te xs [] env) (RQ Q) s:=by
 intro m
 induction m with
 |zero=>intro _ _ _ _ _ _ e;exact fn e
 |succ m D=>
  intro ρ w h s E he e i;refine dP rfl ?_;show cG _ A ((whileTurn te xs [] env).onRaise (λx=>do wM x env;oS x)) _ _ s;refine rW (ru ?_);have e:t.f r ρ h (λx h=>ah (kn ρ h) (body.f r ρ h (λρ h=>EY r t body kn kr m ρ h) kr) x)=O res:=e;refine ay (ht A u env ρ w h s E he _ res e _ λz h1 B c d g C=> ?_)
  induction c using zB with
  |false=>
   exact ay (eU<|wpAny_execs_nil (aO (i.next ρ z h1 B d (he.ext g) g.none C)))
  |true=>
   refine ay (hb A u env ρ z h1 B d (he.ext g) _ kr res C _ ⟨λj k h2 l a o p q=> ?_,λk h2 l v y a p hv q=> ?_⟩)
   .exact aO ⟨rfl,D j k h2 l a o q (i.ext (g.none.trans p))⟩
   .exact aO (i.ret k h2 l v y a (g.none.trans p) hv q)
theorem jU.while pos (ht:j0 X r n b ns t te) (hb:jb X r n b ns body xs):jU X r n b ns (JS t body) (.While te xs [] pos):=by
 intro A a env ρ w h s c he f g res e Q d;exact HO (RQ.to (K7 a ht hb 100 ρ w h s c he e d))
theorem TF (ax:bw X) (i:10<=X.h₀.objs.size) (C:∀a∈X.tabs,a<X.h₀.objs.size) (L:fO n b A) (ht:ri X r n b ns tgt target) (hb:jb X r n b ns body xs)
 (hQ:zh X env ns w₀ n₀ s₀ kn kr res Q):
 ∀m j ρ w h s S z,St X w h s->eX X env ns ρ w h.n s->Aq X s.heap w h.n S z j->(∀b,S b->s₀.heap.objs.size<=b)->(j.t=0\/iQ target=H)->Ext X (AF env ns) w₀ n₀ s₀ w h.n s->
  forL r tgt body kn kr m j ρ h=O res->codeN (model X.prog X.w) A (.forLoop target z xs [] env) (RQ Q) s:=by
 intro m
 induction m with
 |zero=>intro _ _ _ _ _ _ _ _ _ _ _ _ _ e;exact fn e
 |succ m ih=>
  intro j ρ w h s S z hs he hi hS hp x e;refine dP rfl ?_;show cG _ A ((forTurn target z xs [] env).onRaise (λx=>do wM x env;oS x)) _ _ s;refine rW (ru ?_);have e:vV j h (kn ρ) (λv j h=>tgt.f r ρ v h λρ h=>body.f r ρ h (λρ h=>forL r tgt body kn kr m j ρ h) kr)=O res:=e;have D:∀a,S a->AF env ns a\/s₀.heap.objs.size<=a:=λa ha=> .inr (hS a ha);refine ay (bG (ay (jZ (Gw (aW (eU<|Bb ax i C hs L.handled hi hp e (E:=λc c=>False) (Q:=λo M=>match o with
   |none=>Q .next M
   |some v=>cG (model X.prog X.w) A (assign target env v) (λc B=>cG (model X.prog X.w) A (execs xs env) (λf P=>match f with
    | .next| .cont=>cG (model X.prog X.w) A (again (.forLoop target z xs [] env)) (λR s'=>match R with| .done f=>RQ Q (.ok f) s'| .again c'=>c'.quiet=H/\codeN (model X.prog X.w) A c' (RQ Q) s') (λc c=>False) P
    | .brk=>False
    | .ret v=>Q (.ret v) P) (λc c=>False) B) (λc c=>False) M)
   (λh' s' k d F V=> ?_) (λh' s' v y it' k d F hv l R6 V=> ?_)) (λo M q=> ?_) λc c f=>f)))))
  .exact hQ.next ρ w h' s' k (d▸he.iter hi F) (d▸x.nR F D) V
  .have g:=he.iter hi F;have x1:=x.nR F D;rw [<-d] at g x1 hv l;refine ht A L env ρ w h' s' k g v y hv _ res V _ λVu w2 h2 s2 hs2 p x2 e2=> ?_;have G:=l.ext x2 (AF.fixed g) (λb hb=>l.frame g b hb);refine hb A L env Vu w2 h2 s2 hs2 p _ kr res e2 _ ⟨λρ3 w3 h3 B u WB I e3=> ?_,λw3 h3 B v3 y3 u I hv3 e3=> ?_⟩
   .exact aO ⟨rfl,ih it' ρ3 w3 h3 B S z u WB (G.ext I (AF.fixed p) λb hb=>G.frame p b hb) hS R6 ((x1.trans x2).trans I) e3⟩
   .exact hQ.ret w3 h3 B v3 y3 u ((x1.trans x2).trans I) hv3 e3
  .induction o using zO with
   |none=>exact aO ⟨rfl,Dy (eU<|wpAny_execs_nil q)⟩
   |some v=>
    refine ay (aW (eU q) (λc s2 q2=>ay (aW q2 (λc B q3=>ay (aW q3 (λf P J=> ?_) λc c f=>f)) λc c f=>f)) λc c f=>f)
    induction f using PySem.Flow.casesOn with
    |next=>exact J
    |cont=>exact J
    |brk=>exact J.elim
    |ret v=>exact aO J
theorem jU.for (p:bw X) (c:10<=X.h₀.objs.size) (d:∀a∈X.tabs,a<X.h₀.objs.size) (f:kM iter=aj) (q:AH X r n b ns tp xi iter) (ht:ri X r n b ns tgt target) (g:tp=H->iQ target=H) pos (hb:jb X r n b ns body xs):
 jU X r n b ns (V6 tgt xi body) (.For target iter xs [] pos):=by
 intro A m env ρ w h s t he D E res e Q u;refine N1 (q A m env ρ w h s t he _ res e _ λv h1 y S z B i o j k l F C=>RQ.to ?_) (λx=>by rcases iter<;>first|rfl|exact ft f);exact TF p c d m ht hb u 2000 B ρ v h1 y S z i (he.ext o) j k (l.imp id g) o.none C
end
section
variable {X:dz} {K:Frag} {r:Ap} {n b:Nat} {ns:List (Str×aN)} {w:Wd} {h:ae7} {s:Shared} {env:dD} {ρ:Env}
theorem eX.congr (he:eX X env ns ρ w n s) {ρ'} (h1:∀y,find y ρ'.loc=find y ρ.loc) (h2:∀y,find y ρ'.out=find y ρ.out):eX X env ns ρ' w n s:=by
 refine aL he.loc λm hv hm=> ?_;refine⟨he.fn,he.glob,he.blt,he.kind,he.cls,he.Gx,(bW m hm (λx v a b c=>hv x v a b ((h1 _).symm.trans c))),he.Dz,he.cell,λx v c a b d e=>he.wX x v c a b ((h1 _).symm.trans d) e,λx v c a b d e=>he.wY x v c a b ((h2 _).symm.trans d) e,he.apart,
  λy v e=>he.locs y v ((h1 _).symm.trans e),λy v e=>he.outs y v ((h2 _).symm.trans e),he.N2⟩
theorem DQ (l:bw X):∀{xs:List Str} {vs} {ys} {ρ} {s} {Q},(∀x∈xs,aZ x=H/\(bg (nm x) ns=O .local\/bg (nm x) ns=O .cell))->xs.length=vs.length->ef X s.heap w h.n vs ys->St X w h s->eX X env ns ρ w h.n s->
 (∀e s',St X w h s'->eX X env ns e w h.n s'->storeAll (xs.map nm) vs ρ=O e->Ext X (AF env ns) w h.n s w h.n s'->Q () s')->wpAny (model X.prog X.w) A (assignInOrder (xs.map λx=>bindName env x) ys) Q (λk k=>False) s:=by
 intro xs
 induction xs with
 |nil=>
  intro vs ys ρ s Q _ hl hv f he g
  induction vs using zL with
  |nil=>cases hv;exact av (g ρ s f he rfl .refl)
  |cons _ _=>cases hl
 |cons x xs m=>
  intro vs ys ρ s Q hx hl hv f he g;cases hv with
  |nil=>cases hl
  |cons v y vs ys hv i=>
   refine aC (hx x aE) λh2 h1=>(?_:wpAny _ _ (holding ys (bindName env x y)>>=λk=>assignInOrder (xs.map λx=>bindName env x) ys) _ _ s);exact aq (bO (wpAny_bindName (za l f he h1 h2 hv λs' a c d=>(m (λx hm=>hx x (aD _ hm)) (Nat.succ.inj hl) (i.mono (d.keep (AF.fixed he))) a c λe j o c' p q=>g e j o c' p (d.trans q)))))
theorem uU (e:storeAll l vs ρ=O ρ'):ρ'.out=ρ.out:=by
 induction l generalizing vs ρ with
 |nil=>
  induction vs using zL with
  |nil=>exact cL (aF e) rfl
  |cons _ _=>exact fn e
 |cons x l d=>
  refine HA (lZ e) λv us c=> ?_;subst c;intro f;exact d (ρ:=gf ρ x v) f
theorem o8 {l:List Nat} {vs:List V} {ρ a:Env} (e:storeAll l vs ρ=O a) (d:l.Nodup) (z:Nat):(z∉l/\find z a.loc=find z ρ.loc)\/∃(i:Nat) (v:V),l[i]? =O z/\vs[i]? =O v/\find z a.loc=O v:=by
 induction l generalizing vs ρ with
 |nil=>
  induction vs using zL with
  |nil=>refine cL (aF e) ?_;exact .inl ⟨by exact aU,rfl⟩
  |cons _ _=>exact fn e
 |cons x l f=>
  refine HA (lZ e) λv us c=> ?_;subst c;intro g;rw [gw] at d;rcases f (ρ:=gf ρ x v) g d.2 with⟨h1,h2⟩|⟨i,u,h1,h2,j⟩
  .have h2:find z a.loc=find z (setIn x v ρ.loc):=h2;rw [jS] at h2;by_cases hz:z=x
   .rw [if_pos hz] at h2;exact .inr (jY 0 v (U hz rfl) rfl h2)
   .rw [if_neg hz] at h2;exact .inl ⟨by exact List.not_mem_cons_of_ne_of_not_mem hz h1,h2⟩
  .exact .inr (jY (i+1) u h1 h2 j)
theorem Co (d:l.Nodup) (e:storeAll l vs ρ=O ρ1) (f:storeAll l.reverse vs.reverse ρ=O Vu) z:find z ρ1.loc=find z Vu.loc:=by
 have hl:=mL e;rcases o8 e d z with⟨h1,h2⟩|⟨i,v,h1,h2,m⟩
 .rcases o8 f (List.pairwise_reverse.mpr (d.imp λh=>h.symm)) z with⟨c,a⟩|⟨j,u,c,a,g⟩
  .exact U h2 (U a rfl)
  .exact absurd (mq.mp (cY c)) h1
 .rcases o8 f (List.pairwise_reverse.mpr (d.imp λh=>h.symm)) z with⟨c,a⟩|⟨j,u,c,a,g⟩
  .exact absurd (mq.mpr (cY h1)) c
  .have k:j<l.length:=by have:=(cg.mp c).1;simpa using this
   rw [List.getElem?_reverse k] at c;rw [List.getElem?_reverse (cL hl k)] at a;rw [<-hl,<-((List.getElem?_inj ((cg.mp h1).1) d).mp (h1.trans c.symm)),h2] at a;injection a with a;subst a
   exact U m (U g rfl)
theorem ef.reverse (hv:ef X g w m vs ys):ef X g w m vs.reverse ys.reverse:=by
 induction vs generalizing ys with
 |nil=>cases hv;exact .nil
 |cons v vs a=>
  cases hv with
  |cons _ y _ ys hv c=>refine U List.reverse_cons (U List.reverse_cons ?_);exact(a c).append (.cons _ _ _ _ hv .nil)
theorem Fy (c:nJ (.Tuple ts z p) (.Tuple vs z' p')=H) env:
 swappedStores [.Tuple ts z p] (.Tuple vs z' p') env=pure au\/∃xs,swappedStores [.Tuple ts z p] (.Tuple vs z' p') env=pure (O xs)/\xs.length=ts.length/\xs.eraseDups.length=xs.length/\
  xs=ts.filterMap (λ| .Name id pos=>if env.kindOf id==O .local&&pos.line==(ts.head?.map (·.pos.line)).getD 0 then O id else au|_=>au):=by
 have c:(ah H (vs.all (foldedForSure 8)) (vs.all (constantsAlone 8)):Bool)=true:=c;show ite _ _ _=_\/∃xs,ite _ _ _=_/\_;dsimp only;refine Hz (λa=> .inl rfl) λa=>Hz (λa=> .inl rfl) λa=>Hz (λa=> .inl rfl) λd=>Hz (λa=> .inl rfl) λe=>Hz (λf=>absurd (by rw [f] at c;exact c) e) λa=> ?_;have d:=iz.mp (Bool.eq_false_iff.mpr d);exact .inr (qL _ rfl (bne_eq_false_iff_eq.mp d.1) (bne_eq_false_iff_eq.mp d.2) rfl)
theorem Ou x l:NU x l=H↔x∈l:=by
 induction l with
 |nil=>exact⟨λh=>(ff h),λh=>((aU h).elim)⟩
 |cons y l a=>
  have e:NU x (y::l)=(ah (NU x l) H (ak x y):Bool):=rfl;rw [e,aT]
  induction hb:ak x y using zB with
  |true=>exact⟨λc=> .inl (aH hb),λc=>rfl⟩
  |false=>exact⟨λh=> .inr (a.mp h),λh=>a.mpr (h.resolve_left (fU hb))⟩
theorem uV:∀{l},ie l=H->l.Nodup:=by
 intro l
 induction l with
 |nil=>
  intro _;exact iJ
 |cons x r a=>
  intro h;unfold ie at h;split at h
  .exact ff h
  .rename_i hm;exact gw.mpr ⟨λq=>(by rw [(Ou x r).mpr q] at hm;exact ft hm),a h⟩
theorem Cp (m:∀e x,f e=O x->∃p,e= .Name x p):∀{ts} {l},fX ns ts=O l->(ts.filterMap f).length=ts.length->(ts.filterMap f).map nm=l/\∀x∈ts.filterMap f,aZ x=H/\(bg (nm x) ns=O .local\/bg (nm x) ns=O .cell):=by
 intro ts
 induction ts with
 |nil=>
  intro l h _;injection h with hq;subst hq;exact⟨rfl,λx hx=>(aU hx).elim⟩
 |cons t ts o=>
  intro l h hl;refine kJ (o6 h) λy u d=> ?_;subst d;intro hy j;refine yC (m7 hy) λz p d k=> ?_;subst d;subst k;intro hz hk;rw [ny] at hl⊢
  induction g:f (.Name z p) using zO with
  |none=>
   rw [g] at hl;have:=List.length_filterMap_le f ts;simp at hl;lia
  |some x=>
   rw [g] at hl;refine fE (m _ _ g) λv e=> ?_;cases e;simp only [iK,Nat.add_right_cancel_iff] at hl;refine aC (o j hl) λc a=>⟨by simp [a],λq i=> ?_⟩;rcases aT.mp i with rfl|i
   .exact⟨hz,hk⟩
   .exact c q i
theorem Fz (u:bw X) (C:A.handled=au) (ht:fX ns ts=O l) (D:ie l=H) (hx:∀x∈xs,aZ x=H/\(bg (nm x) ns=O .local\/bg (nm x) ns=O .cell)) (i:xs.map nm=l)
 (E:St X w h s) (he:eX X env ns ρ w h.n s) (hv:VR X s.heap w h.n v y) (e:(B0 l).f r ρ v h kn=O res)
 (F:∀g s',St X w h s'->eX X env ns g w h.n s'->Ext X (AF env ns) w h.n s w h.n s'->kn g h=O res->Q .next s'):wpAny (model X.prog X.w) A (assignStores env y (O xs) stores) Q (λG G=>False) s:=by
 refine aL (w9 u E C hv e) λvs hu e=>dN (bC e) λg k I=> ?_;have j:xs.length=vs.length:=cL (mL k) (cL i (gC (eG nm)));refine aq (fj (aq (U j (hu λys s' m B o=>aq (DQ u (xs:=xs.reverse) (vs:=vs.reverse) (λx p=>hx x (mq.mp p)) (by simp [j]) (ef.reverse o) m (he.ext B) λJ q a c t d=> ?_)))));rw [List.map_reverse,i] at t;refine av (F g q a (c.congr (λz=>Co (uV D) k t z) λz=>U (uU k) (U (uU t) rfl)) (B.none.trans d) I)
theorem Ov (a:jx x=aj):swapsWithSole [t] x l env=pure false:=by rcases x<;>first|rfl|exact ft a
theorem Ow (a:jx x=H):∃c,swapsWithSole [t] x l env=pure c:=by rcases x<;>first|exact ff a|exact⟨_,rfl⟩|(rcases t<;>exact⟨_,rfl⟩)
theorem zj (a:br t=aj):assignAll y ((assignEach [t] env).map (·.2))=PySem.assign t env y:=by rcases t<;>first|rfl|exact ft a
theorem DR (h:iQ x=aj):swappedStores [t] x env=pure none:=by
 induction t using aR with
 |Tuple|List=>rcases x<;>first|rfl|exact ft h
 |_=>rfl
theorem K8 (g:nJ t x=H)
 (d:∀ts z p,t= .Tuple ts z p->∃l,fX ns ts=O l/\ie l=H/\tgt=B0 l\/∀ρ v h k,tgt.f r ρ v h k=au) (c:∀ts p,t= .List ts p->∀ρ v h k,tgt.f r ρ v h k=au) env:
 (∀ρ v h k,tgt.f r ρ v h k=au)\/swappedStores [t] x env=pure au\/∃xs ts l,swappedStores [t] x env=pure (O xs)/\fX ns ts=O l/\ie l=H/\tgt=B0 l/\xs.map nm=l/\∀x∈xs,aZ x=H/\(bg (nm x) ns=O .local\/bg (nm x) ns=O .cell):=by
 induction hx:iQ x using zB with
 |false=>exact .inr (.inl (DR hx))
 |true=>
  refine VE (g9 hx) λvs B C j=> ?_;subst j;clear hx
  induction t using aR with
  |Tuple ts z p=>
   obtain⟨l,⟨m,u,y⟩|hbad⟩:=d ts z p rfl
   .rcases Fy g env with a|⟨xs,a,h2,A,o⟩
    .exact .inr (.inl a)
    .have i:=Cp (f:=λe:Expr=>match e with| .Name id pos=>if env.kindOf id==O .local&&pos.line==(ts.head?.map (·.pos.line)).getD 0 then O id else au|_=>au) (λe x h=>by
      clear a h2 A o m g d c
      induction e using aR with
      |Name id pos=>
       replace h:ite _ _ _=_:=h;by_cases q:(env.kindOf id==O .local&&pos.line==(ts.head?.map (·.pos.line)).getD 0)=H
       .rw [if_pos q] at h;exact⟨pos,by exact U (aF h) rfl⟩
       .rw [if_neg q] at h;exact fn h
      |_=>exact fn h) m (cL o h2)
     rw [<-o] at i;exact .inr (.inr ⟨xs,ts,l,a,m,u,y,i⟩)
   .exact .inl hbad
  |List ts p=>exact .inl (c ts p rfl)
  |_=>exact .inr (.inl rfl)
theorem jU.assign (R:bw X) pos (hx:cQ X r n b ns a x) (ht:ri X r n b ns tgt t) (S:jx x=aj) (B:nJ t x=H)
 (j:∀ts z p,t= .Tuple ts z p->∃l,fX ns ts=O l/\ie l=H/\tgt=B0 l\/∀ρ v h k,tgt.f r ρ v h k=au) (g:∀ts p,t= .List ts p->∀ρ v h k,tgt.f r ρ v h k=au) (C:br t=aj):jU X r n b ns (jv tgt a) (.Assign [t] x pos):=by
 intro A D env ρ w h s V he J kr res e Q L;refine ay (bG (U (Ov S) (NF (ay (hx A D env ρ w h s V he _ res e _ λM h1 P u y m o hu E=> ?_)))));rcases K8 B j g env with q|q|⟨xs,ts,l,q,q1,q2,q3,q4,q5⟩
 .exact fn ((q ρ u h1 J).symm.trans E)
 .refine U q (NF ((?_:cG _ _ (assignAll y ((assignEach [t] env).map (·.2))>>=λu_=>pure tw) _ _ P)));exact U (zj C) (ay (ht A D env ρ M h1 P m (he.ext o) u y hu J res E _ λi w2 h2 s2 F G x2 I=>aO (L.next i w2 h2 s2 F G (o.none.trans x2) I)))
 .exact U q (NF (eU<|Fz R D.handled q1 q2 q5 q4 m (he.ext o) hu (q3▸E) λi s' a c d I=>L.next i M h1 s' a c (o.none.trans d) I))
theorem jU.GK (ax:bw X) pos (hx:cQ X r n b ns a x) (hu:Ot X r n b ns a x) (ht:ri X r n b ns tgt t) (G:jx x=H) (p:br t=aj):jU X r n b ns (jv tgt a) (.Assign [t] x pos):=by
 intro A I env ρ w h s hs he kn kr res e Q hQ;refine fE (Ow (t:=t) (l:=pos.line) (env:=env) G) λc P=>ay (bG (U P (NF ?_)));by_cases v:c=H
 .refine U (if_pos v) (ay (hu A I env ρ w h s hs he _ res e _ _ λC R h1 J u y f B S g D V hC4 hC5 e1=>(U (zj p) (ht A I env ρ R h1 J f (he.ext B) u y S kn res e1 _ λi w2 h2 s2 j k E e2=> ?_))));have F:¬AF env ns C:=λq=>by
   rcases q with q|⟨z,q1,L,q3⟩
   .refine aL he.loc λm0 M h0=> ?_;exact absurd (q▸h0.lt) (bD.mpr g)
   .exact HB (he.cell z q1 (.inl L)) λc' ov a1 M M M a5=>absurd (aF (q3.symm.trans a1)▸a5.lt) (bD.mpr g)
  refine fE hC5 λm hm=> ?_;have d:=uK hm λo e=>E.old C o D hC4 F e;exact bW m d (λh' hh=>aO (eZ (j.gone ax ((E.role C hm.lt).trans D) V d hh) λL q1 q3=>hQ.next i w2 h2 _ q1 (k.WA L (λa o ha e=>uR (ha▸d) e) (λq=>F (.inl q.symm)) λc ov G q=>rj d (q▸G)) ((B.none.trans E).nR L λa ha=> .inr (ha▸g)) e2))
 .refine U (if_neg v) (ay (hx A I env ρ w h s hs he _ res e _ λR h1 J u y f B hu e1=>(U (DR (by rcases x<;>first|rfl|exact ff G)) (NF ((?_:cG _ _ (assignAll y ((assignEach [t] env).map (·.2))>>=λM=>pure tw) _ _ J))))));exact U (zj p) (ay (ht A I env ρ R h1 J f (he.ext B) u y hu kn res e1 _ λi w2 h2 s2 j k E e2=>aO (hQ.next i w2 h2 s2 j k (B.none.trans E) e2)))
end
theorem sY {d:Type}:∀{ns:List Str} {vs:List d} {i} {x},ns.Nodup->ns[i]? =O x->i<vs.length->∃v,vs[i]? =O v/\(ns.zip vs).lookup x=O v:=by
 intro ns
 induction ns with
 |nil=>exact λ_ h _=>fn h
 |cons n ns e=>
  intro vs i x c h hl;rcases vs with _|⟨v,vs⟩
  .exact absurd hl (kq _)
  .have c:=gw.mp c
   induction i using zN with
   |zero=>injection h with h;subst h;exact bW v rfl (U bK (U (beq_self_eq_true n) rfl))
   |succ i=>
    exact dN (e (vs:=vs) c.2 h (lu hl)) λu a b=>bW u a (U bK (U (beq_eq_false_iff_ne.mpr λ(q:x=n)=>c.1 (q▸cY h)) b))
theorem sZ {b:Type}:∀{ns:List Str} {vs:List b} {i} {x},ns.Nodup->ns[i]? =O x->vs.length<=i->(ns.zip vs).lookup x=none:=by
 intro ns
 induction ns with
 |nil=>exact λ_ h _=>fn h
 |cons n ns c=>
  intro vs i x a h hl;rcases vs with _|⟨v,vs⟩
  .rfl
  .have a:=gw.mp a
   induction i using zN with
   |zero=>exact absurd hl (Nat.not_succ_le_zero _)
   |succ i=>exact U bK (U (beq_eq_false_iff_ne.mpr λ(q:x=n)=>a.1 (q▸cY h)) (c a.2 h (qH hl)))
theorem zk {l m:List (Str×α)}:(l++m).lookup x=(l.lookup x).or (m.lookup x):=by
 induction l with
 |nil=>rfl
 |cons p l a=>
  obtain⟨k,v⟩:=p;refine U qm (U bK (U bK ?_))
  induction x==k using zB with
  |true=>rfl
  |false=>exact a
theorem K9 {b c:Type} {f g:b->Option c}:∀{l:List b},(∀x∈l,f x=g x)->l.filterMap f=l.filterMap g:=by
 intro l
 induction l with
 |nil=>
  intro _;exact rfl
 |cons a l d=>
  intro h;exact U ny (U ny (U (h a aE) (U (d λx hx=>h x (aD _ hx)) rfl)))
theorem La {e f:Type}:∀{P} {c} {L} {x:e} {d:f},P.length=c.length->(P++x::L).zip c++[(x,d)]=(P++x::L).zip (c++[d]):=by
 intro P
 induction P with
 |nil=>
  intro c L x d h;rcases c with _|⟨_,_⟩
  .exact congrArg ((x,d):: ·) vA.symm
  .injection h
 |cons a P g=>
  intro c L x d h;rcases c with _|⟨b,c⟩
  .injection h
  .exact congrArg ((a,b):: ·) (g (Nat.succ.inj h))
theorem AI {ns:List Str} {vs:List Value} (a:ns.Nodup) (hl:ns.length=vs.length):(ns.filterMap λn=>((ns.zip vs).lookup n).map (n, ·))=ns.zip vs:=by
 induction ns generalizing vs with
 |nil=>rfl
 |cons n ns b=>
  induction vs using zL with
  |nil=>cases hl
  |cons v vs=>
   rw [gw] at a;have h1:((n::ns).zip (v::vs)).lookup n=O v:=by simp [fB]
   refine U ny (U h1 ?_);have h2:(ns.filterMap λm=>(((n::ns).zip (v::vs)).lookup m).map (m, ·))=ns.filterMap λm=>((ns.zip vs).lookup m).map (m, ·):=by
    refine K9 λm hm=> ?_;have:(m==n)=false:=by simp;intro q;subst q;exact a.1 hm
    exact U fB (U bK (U this rfl))
   refine(?_:_::_=_);refine U h2 (U (b a.2 (Nat.succ.inj hl)) ?_);rfl
theorem H6 {a b:Type}:∀{ns:List a} {vs ds:List b},vs.length<=ns.length->ns.zip vs++(ns.drop vs.length).zip ds=ns.zip (vs++ds):=by
 intro ns vs
 induction vs generalizing ns with
 |nil=>
  intro ds h;exact U vA rfl
 |cons v vs c=>
  intro ds h;rcases ns with _|⟨n,ns⟩
  .exact absurd h (Nat.not_succ_le_zero _)
  .exact congrArg (_:: ·) (c (ds:=ds) (qH h))
section
variable {M:Model} {A:Around} {E:Value->Shared->Prop} {s:Shared}
theorem AJ {names:List Str} (l:names.Nodup) (hl:vals.length<=names.length) (f:Str×Value->List (Str×Value)->Sem (ForInStep (List (Str×Value))))
 (r:∀x d k,f (x,d) k=if(k.lookup x).isNone then pure (.yield (k++[(x,d)])) else pure (.yield k)):
 ∀ds i j,i+ds.length=names.length->(j=0/\i<=vals.length\/i=vals.length+j)->∀c,c.length=j->
  forIn ((names.drop i).zip ds) (names.zip vals++(names.drop vals.length).zip c) f=pure (names.zip vals++(names.drop vals.length).zip (c++ds.drop (vals.length+j-i))):=by
 intro ds
 induction ds with
 |nil=>
  intro i j hi m c hx;simp
 |cons d ds o=>
  intro i j hi m c hx;have e:=hi▸Nat.lt_add_of_pos_right (jJ _);have p:=iw e;have h:=(pZ i ds.length).trans hi;have g:=bB e;refine U p (U fB (U (dO ..) (U (r ..) ?_)));by_cases a:i<vals.length
  .have n:=m.elim (λq=>q.1) λq=>absurd a (bD.mpr (q▸d8 _ _));subst n;have:c=[]:=iL.mp hx;refine U this (aL (sY l g a) λv h2 y=>U zk (U h2 ((?_:(forIn ((names.drop (i+1)).zip ds) _ f)=_))));exact U (o (i+1) 0 h (.inl ⟨rfl,a⟩) [] rfl) (U ((i7 (xE a)).symm) rfl)
  .have b:=m.elim (λq=>q.1▸Nat.le_antisymm q.2 (mz a)) λq=>q;have h1:=sZ l g (mz a);have h2:((names.drop vals.length).zip c).lookup names[i]=none:=by
    refine sZ (i:=j) (l.sublist (List.drop_sublist _ _)) ?_ (cX hx);refine U (List.getElem?_drop) (cL b ?_);exact g
   refine U zk (U h1 (U h2 ((?_:(forIn ((names.drop (i+1)).zip ds) _ f)=_))));have t:names.zip vals++(names.drop vals.length).zip c++[(names[i],d)]=names.zip vals++(names.drop vals.length).zip (c++[d]):=by
    refine U (List.append_assoc ..) (congrArg _ ?_);have hz:names.drop vals.length=(names.drop vals.length).take j++names[i]::names.drop (i+1):=by
     exact cL p (U b (cL sR ((l0 j _).symm)))
    exact U hz (La (U (List.length_take_of_le ((jE ..).symm▸Nat.le_sub_of_add_le' (b▸gO e))) (U hx rfl)))
   refine U t (U (o (i+1) (j+1) h (.inr (congrArg (·+1) b)) (c++[d]) (by simp [hx])) ?_);have u:=mu (cX (congrArg (·+1) b).symm);have w:vals.length+j-i=0:=gC (Nat.eq_sub_of_add_eq' b);refine U u (U w ?_);simp
theorem Lb {names:List Str} {vals:List Value} (c:names.Nodup) (hm:k<=vals.length):((names.take k).filter λn=>((names.zip vals).lookup n).isNone)=[]:=by
 rw [qA];intro x hx;obtain⟨i,hi,a⟩:=nv hx;rw [List.length_take] at hi;have b:names[i]? =O x:=by
  rw [List.getElem_take] at a;refine cL a ?_;exact bB (aQ hi (Nat.min_le_right _ _))
 refine dN (sY (vs:=vals) c b (aQ hi (aI (Nat.min_le_left _ _) hm))) λv d h=>U h ?_;exact bZ
theorem TG {p:Arguments} (h1:p.posonlyargs=[]) (h2:p.kwonlyargs=[]) (h:p.vararg=au) (i:p.kwarg=au):p=⟨[],p.args,au,[],p.kw_defaults,au,p.defaults⟩:=by
 rcases p with⟨a,b,c,d,e,f,g⟩
 obtain rfl:a=[]:=h1;obtain rfl:d=[]:=h2;obtain rfl:c=none:=h;obtain rfl:f=none:=i;rfl
theorem xh (h1:fd.params.posonlyargs=[]) (h2:fd.params.args.map (·.arg)=names) (o:fd.params.kwonlyargs=[]) (p:fd.params.vararg=au) (q:fd.params.kwarg=au) (g:names.Nodup)
 (r:∀{Q},Q od s->wpAny M A (sr fd.defaults) Q E s) (i:(od.getD #[]).toList=ds) (hl:vals.length<=names.length) (a:ds.length<=names.length) (hm:names.length-ds.length<=vals.length)
 (u:Q (names.zip (vals++ds.drop (ds.length-(names.length-vals.length)))) s):wpAny M A (bindArgs fd ⟨vals,[]⟩) Q E s:=by
 unfold bindArgs;refine U (TG h1 o p q) ?_;dsimp only;refine U h2 (bp (aq (r (U i (ua (λh=> ?_) λf=> ?_)))))
 .exfalso;exact absurd hl (Nat.not_le_of_lt (of_decide_eq_true (mG h).1))
 have l:ds.drop (ds.length-names.length)=ds:=by refine U (mu a) ?_;rfl
 refine ua (λh=> ?_) λf=> ?_
 .have e:=Lb (vals:=vals) g (k:=names.length-(ds.drop (ds.length-names.length)).length) (by refine U l ?_;exact hm);have h:(!(List.filter (λn=>((names.zip vals).lookup n).isNone) (names.take (names.length-(ds.drop (ds.length-names.length)).length))).isEmpty)=true:=h;rw [e] at h;exfalso;exact ff h
 have m:=AJ (vals:=vals) g hl (λx b=>if(b.lookup x.fst).isNone=H then pure (.yield (b++[(x.fst,x.snd)])) else pure (.yield b)) (λf f f=>rfl) ds (names.length-ds.length) 0 (i7 a) (.inl ⟨rfl,hm⟩) [] rfl;rw [vA,qI,List.nil_append,Nat.add_zero,sw1 hl a,H6 hl] at m;have j:∀d,d=ds->forIn ((names.drop (names.length-d.length)).zip d) (names.zip vals) (λx b=>if(b.lookup x.fst).isNone=H then(pure (.yield (b++[(x.fst,x.snd)])):Sem _) else pure (.yield b))=pure (names.zip (vals++ds.drop (ds.length-(names.length-vals.length)))):=λd e=>by refine U e ?_;exact m
 refine aq (Eq.mpr (congrArg (λt=>wpAny M A t _ E s) (j _ l)) (av (U jz (U (pure_bind ..) (U (if_neg (show ¬(!([]:List Str).isEmpty)=H from bZ)) (av (U (qI ..) ?_)))))));have c:names.length=(vals++ds.drop (ds.length-(names.length-vals.length))).length:=by refine U dc (U jE ?_);exact sw2 hl hm
 exact(AI g c).symm▸u
end
section
variable {prog:Program} {w:World} {A:Around} {s:Shared} {R:Result->Shared->Prop}
theorem jC (j:A.depth<mF) (z:s.heap.get? a=O o)
 (q:o.data= .func fd) (r:fd.scope.isCoroutine=aj) (n:fd.scope.isGenerator=aj) (k:fd.body= .stmts body) (u:s.heap.CodeRec fd.code fd.qualname)
 (h:cG (model prog w) A.in1 (bindArgs fd args) (λb f=>
  cG (model prog w) A.in1 (newFunctionEnv fd.scope fd.globals fd.closure b (fd.qualname++".<locals>.") (O a) fd.code au fd.builtins)
   (λenv e=>e.heap.NoLimit/\codeN (model prog w) A (.func body env) R e) (λl l=>False) f) (λl l=>False) s):
 codeN (model prog w) A (.call (.ref a) args) R s:=by
 refine dP rfl ((?_:cG _ A.in1 (callAny (.ref a) args) _ _ s));refine ay (eU (jd z (pG u λc B vs D hq y v x=> ?_)));simp only [q,callFunction,r,n,k,y];rw [y] at h;exact ay (m:=field (.ref c) 1) (eU (fN v x hq (ay (aO (ay (aW h (λb f p=>ay (aW p (λenv e i=>ay (eU (wpAny_enterFrame i.1 j (aO (jc rfl i.2))))) λl l h'=>h'.elim)) λl l h'=>h'.elim))))))
theorem oO (j:A.depth<mF) (z:s.heap.get? a=O o)
 (q:o.data= .func fd) (r:fd.scope.isCoroutine=aj) (n:fd.scope.isGenerator=aj) (k:fd.body= .expr body) (u:s.heap.CodeRec fd.code fd.qualname)
 (h:cG (model prog w) A.in1 (bindArgs fd args) (λb f=>
  cG (model prog w) A.in1 (newFunctionEnv fd.scope fd.globals fd.closure b (fd.qualname++".<locals>.") (O a) fd.code au fd.builtins)
   (λenv e=>e.heap.NoLimit/\codeN (model prog w) A (.expr body env) R e) (λl l=>False) f) (λl l=>False) s):
 codeN (model prog w) A (.call (.ref a) args) R s:=by
 refine dP rfl ((?_:cG _ A.in1 (callAny (.ref a) args) _ _ s));refine ay (eU (jd z (pG u λc B vs D hq y v x=> ?_)));simp only [q,callFunction,r,n,k,y];rw [y] at h;exact ay (m:=field (.ref c) 1) (eU (fN v x hq (ay (aO (ay (aW h (λb f p=>ay (aW p (λenv e i=>ay (eU (wpAny_enterFrame i.1 j (aO (jc rfl i.2))))) λl l h'=>h'.elim)) λl l h'=>h'.elim))))))
theorem s8 {id} (a:oM.contains id=aj) (hb:entryFor table id=O b)
 (h:cG (model prog w) (A.under (.builtin id args)) (b args) (λc s'=>match c with| .done f=>R (.ok f) s'| .again c'=>c'.quiet=H/\codeN (model prog w) A c' R s') (λe s'=>R (.error e) s') s):codeN (model prog w) A (.builtin id args) R s:=by
 refine dP (by show(!(oM.contains id))=H;refine U a ?_;rfl) ?_;refine(?_:cG _ _ (match entryFor table id with|some b=>b args|none=>unsupported ((withoutEnding? id "#data").getD id)) _ _ s);refine U hb ?_;exact h
theorem jV {id} (hq:(Code.builtin id args).quiet=H) (i:oM.contains id=aj) (hb:entryFor table id=O b)
 (h:wpAny (model prog w) A.in1 (checkBuiltinCall id args) (λj a=>cG (model prog w) (A.under (.builtin id args)) (b args)
  (λk s'=>match k with| .done f=>R (.ok f) s'| .again c'=>c'.quiet=H/\codeN (model prog w) A c' R s') (λe s'=>R (.error e) s') a) (λe s'=>R (.error e) s') s):codeN (model prog w) A (.call (.builtin id) args) R s:=dP rfl (ay (eU (fZ h (λj a c=>aO (jc hq (s8 i hb c))) λj j h'=>h')))
end
section
variable {prog:Program} {w:World} {A:Around} {C:Addr} {R:Result->Shared->Prop} {h:Heap} {g:Array GenState} {d:Drawn} {t:Nat} {os:OsState}
theorem WE (Y:Makes (model prog w) h C) (hi:Looks (model prog w) h (typeLookup (.ref C) "__init__") (O init))
 (hb:∀c,Looks (model prog w) h (bindSpecial init c) (init,[c])) (i:(O init !=O (uc "object.__init__"))=H\/(rest=[]/\kw=[]))
 (hq:codeN (model prog w) (A.under (.builtin "type.__call__" ⟨.ref C::rest,kw⟩)) (.call init ⟨.ref (h.objs.size+1)::rest,kw⟩) (InitBack (h.objs.size+1) R) ⟨(h.push eL).push (fG C h.objs.size),g,d,t,os⟩):
 codeN (model prog w) A (.call (.ref C) ⟨rest,kw⟩) R ⟨h,g,d,t,os⟩:=by
 have p:=Y;obtain⟨⟨G,od,q,I,m,J,K,u⟩,f,base,c,x,call,j⟩:=Y;refine dP rfl ?_;refine(?_:cG _ _ (load C>>=_) _ _ _);refine ay (eU (jd m ?_));refine(?_:cG _ _ (callAny.viaDunder (.ref C) _) _ _ _);refine ay (eU (call.at ?_));dsimp only;refine ay (aO (ay (aO ?_)));refine aO (a:=Fin.again (.call (.builtin "type.__call__") ⟨.ref C::rest,kw⟩)) (jc rfl ?_);refine jV (vC _ (by decide+kernel)) (by exact rfl) entry_typeCall (check_slot tc_kind tc_split j (tc_args _ _ _) ?_);have hm:Looks (model prog w) h (mroOf (.ref C)) q.mro:=((Looks.ld (part:=au) m).andThen .now).andThen .now;refine(?_:cG _ _ (mroOf (.ref C)>>=_) _ _ _);refine ay (eU (hm.at ?_));refine U u ?_;refine ay (eU (f.at ?_));dsimp only;refine ay (aO ?_);refine ay (bh (eU (wpAny_call (new_K p hi i ?_))));have k:∀b o,h.get? b=O o->((h.push eL).push (fG C h.objs.size)).get? b=O o:=λb o e=>az _ (az _ e);have hx:((h.push eL).push (fG C h.objs.size)).get? (h.objs.size+1)=O (fG C h.objs.size):=by
  have:=aJ (h.push eL) (o:=fG C h.objs.size) rfl
  rwa [bJ] at this
 have n:Looks (model prog w) ((h.push eL).push (fG C h.objs.size)) (typeOf (.ref (h.objs.size+1))) (.ref C):=(Looks.ld hx).andThen .now;have y:=c.keeps k;have B:=hi.keeps k;have D:=(hb (.ref (h.objs.size+1))).keeps k;have E:Looks (model prog w) ((h.push eL).push (fG C h.objs.size)) (isInstance (.ref (h.objs.size+1)) (.ref C)) true:=by unfold isInstance;exact n.andThen y
 have F:Looks (model prog w) ((h.push eL).push (fG C h.objs.size)) (specialOf (.ref (h.objs.size+1)) "__init__") (O init):=by unfold specialOf;exact n.andThen B
 refine ay (eU (E.at ?_));refine ay (bh ?_);refine ay (eU (F.at ?_));refine bh (ay (eU (D.at ?_)));refine ay (nN (iR hq λr s' z=> ?_));rcases r with e|(v|_|_|_)<;>first|exact z|exact z.elim|skip
 refine gb z λl=> ?_;subst l;intro z;exact aO (aO z)
end
theorem DS d x r v vs:nM d (x::r) (v::vs)=(aB au (λl=>O ((x,v)::l)) (nM d r vs):Option (List (Nat×V))):=rfl
theorem Cq d x r:nM d (x::r) []=(ah au (aB au (λv=>aB au (λl=>O ((x,v)::l)) (nM d r [])) (sU d (fq (len d) (aG (len r) 1)))) (bQ (aG (len r) 1) (len d)):Option (List (Nat×V))):=rfl
theorem H7:∀{xs} {vs} {l},nM d xs vs=O l->vs.length<=xs.length/\xs.length<=vs.length+d.length/\l=xs.zip (vs++d.drop (d.length-(xs.length-vs.length))):=by
 intro xs
 induction xs with
 |nil=>
  intro vs l e;rcases vs with _|⟨v,vs⟩
  .injection e with e;subst e;simp
  .exact fn e
 |cons x r b=>
  intro vs l e;rcases vs with _|⟨v,vs⟩
  .rw [Cq] at e;refine aC (dM e) λe h1=>aL (pX e) λv e hv=>aL (pX e) λf e hl=> ?_;injection e with e;subst e
   refine iP (b hl) λa3 m c=> ?_;have h1:r.length+1<=d.length:=by have:=aA h1;rw [len_eq,len_eq] at this;exact this
   rw [mJ,len_eq,len_eq] at hv;have hv:d[d.length-(r.length+1)]? =O v:=hv;refine iX (iC _) (aI h1 (rU _ _)) ?_;have a:d.length-(r.length+1)<d.length:=Nat.sub_lt (aQ (jJ _) h1) (jJ _);have i:d.drop (d.length-(r.length+1))=v::d.drop (d.length-r.length):=by
    refine U (iw a) ?_;have j:d[d.length-(r.length+1)]=v:=by rw [bB a] at hv;exact aF hv
    exact U j (U (i7 (xE h1)) rfl)
   exact U a3 (U i (U fB rfl))
  .rw [DS] at e;refine aL (pX e) λf e hl=> ?_;injection e with e;subst e
   refine iP (b hl) λa3 k c=>iX (Nat.succ_le_succ k) (aI (Nat.succ_le_succ c) (cX (Nat.succ_add ..).symm)) (U a3 ?_);simp only [iK,Nat.add_sub_add_right,qm,fB]
section
variable {X:dz} {w:Wd} {n:Nat} {g:Heap}
theorem DU {names:List Str}:∀{vs} {ys},(∀x∈names,aZ x=H)->ef X g w n vs ys->∀{x} {v},aZ x=H->find (nm x) ((names.map nm).zip vs)=O v->
 ∃y,(names.zip ys).lookup x=O y/\VR X g w n v y:=by
 induction names with
 |nil=>intro vs ys _ _ x v _ e;exact fn e
 |cons a names c=>
  intro vs ys hp hv x v hx e;cases hv with
  |nil=>exact fn e
  |cons u z us i hu b=>
   rw [dH,fB,eV] at e;by_cases h:nm x=nm a
   .have h':=gS hx (hp a aE) h;subst h';rw [if_pos rfl] at e;injection e with e;subst e
    exact bW z (by simp [fB]) hu
   .rw [if_neg h] at e;refine dN (c (λy hy=>hp y (aD _ hy)) b hx e) λy d f=>bW y ?_ f;have:(x==a)=false:=beq_eq_false_iff_ne.mpr λq=>h (U q rfl);refine U fB (U bK (U this ?_));exact d
theorem H8 {names:List Str} {v:V} (e:find y ((names.map nm).zip vs)=O v):∃x∈names,nm x=y:=by
 induction names generalizing vs with
 |nil=>exact fn e
 |cons a names b=>
  induction vs using zL with
  |nil=>exact fn e
  |cons u us=>
   rw [dH,fB,eV] at e;by_cases h:y=nm a
   .exact bW a aE h.symm
   .rw [if_neg h] at e;exact dN (b e) λx c d=>bW x (aD _ c) d
end
theorem H9 {kindOf}:∀{l} {m},l.lookup x=au->bindL kindOf l m x=m x:=by
 intro l
 induction l with
 |nil=>
  intro _ _;exact rfl
 |cons b l c=>
  obtain⟨a,v⟩:=b;intro m h;rw [bK] at h
  induction hb:x==a using zB with
  |true=>rw [hb] at h;exact sn h
  |false=>
   rw [hb] at h;refine U (c h) ?_;split
   .exact if_neg (by simpa using hb)
   .rfl
theorem Ia {kindOf}:∀{l} {m},l.lookup x=au->bindC kindOf l m x=m x:=by
 intro l
 induction l with
 |nil=>
  intro _ _;exact rfl
 |cons b l c=>
  obtain⟨a,v⟩:=b;intro m h;rw [bK] at h
  induction hb:x==a using zB with
  |true=>rw [hb] at h;exact sn h
  |false=>
   rw [hb] at h;refine U (c h) ?_;split
   .rfl
   .exact if_neg (by simpa using hb)
theorem zl {l:List (Str×Value)} (h:x∉l.map eE):l.lookup x=none:=by
 induction l with
 |nil=>rfl
 |cons p l b=>
  obtain⟨a,v⟩:=p;rw [dH,aT,not_or] at h;exact U bK (U (beq_eq_false_iff_ne.mpr h.1) (b h.2))
theorem Lc {kindOf} (hk:kindOf x=O .local):∀{l} {m} {y},(l.map eE).Nodup->l.lookup x=O y->bindL kindOf l m x=O y:=by
 intro l
 induction l with
 |nil=>
  intro _ _ _ h;exact fn h
 |cons d l e=>
  obtain⟨a,v⟩:=d;intro m y b h;rw [dH,gw] at b;rw [bK] at h
  induction hb:x==a using zB with
  |true=>
   rw [hb] at h;injection h with h;subst h
   have c:x=a:=by simpa using hb
   subst c;exact U (H9 (zl b.1)) (U (if_pos hk) (if_pos rfl))
  |false=>
   rw [hb] at h;exact e b.2 h
theorem Ld {kindOf} (hk:kindOf x≠O .local):∀{l} {m} {y},(l.map eE).Nodup->l.lookup x=O y->bindC kindOf l m x=O y:=by
 intro l
 induction l with
 |nil=>
  intro _ _ _ h;exact fn h
 |cons d l e=>
  obtain⟨a,v⟩:=d;intro m y b h;rw [dH,gw] at b;rw [bK] at h
  induction hb:x==a using zB with
  |true=>
   rw [hb] at h;injection h with h;subst h
   have c:x=a:=by simpa using hb
   subst c;exact U (Ia (zl b.1)) (U (if_neg hk) (if_pos rfl))
  |false=>
   rw [hb] at h;exact e b.2 h
theorem cellsFrom_some:∀{l} {k} {acc} {x},((∃c,acc.lookup x=O c)\/(x,NameKind.cell)∈l)->∃c,(cellsFrom k l acc).lookup x=O c:=by
 intro l
 induction l with
 |nil=>
  intro _ _ _ h;exact h.resolve_right λq=>(aU q).elim
 |cons d r b=>
  obtain⟨a,kd⟩:=d;intro k acc x h;unfold cellsFrom;split
  .rename_i hk;refine b ?_;rcases h with⟨c,h⟩|h
   .left
    refine U bK ?_;split
    .exact⟨_,rfl⟩
    .exact⟨c,h⟩
   .rcases aT.mp h with h|h
    .cases h;exact .inl ⟨k,by exact List.lookup_cons_self⟩
    .exact .inr h
  .rename_i hk;refine b ?_;rcases h with h|h
   .exact .inl h
   .rcases aT.mp h with h|h
    .cases h;exact absurd rfl hk
    .exact .inr h
structure Ox (sc:Scope) (names:List Str):Prop where
 fn:sc.kind= .function
 co:sc.isCoroutine=aj
 gen:sc.isGenerator=aj
 plain:∀p∈sc.names,aZ p.1=H
 TH:∀p∈sc.names,p.2≠.free
 Gx:∀x k,bg (nm x) sc.names=O k->(x==("__debug__":Str))=aj
 cls:∀x k,bg (nm x) sc.names=O k->(x==("__classdict__":Str))=aj
 params:∀x∈names,aZ x=H/\(bg (nm x) sc.names=O .local\/bg (nm x) sc.names=O .cell)
 nodup:names.Nodup
section
variable {X:dz} {w:Wd} {h:ae7} {s s₁:Shared}
theorem eX.call (r:∀a∈X.tabs,a<X.h₀.objs.size) (D:St X w h s) (G:St X w h s₁) (b:Ox fd.scope names) (I:fd.globals=mainNs) (hb:fd.builtins=builtinsNs) (t:gD fd.scope.names=aj->∀c q,X.jO fd.scope.names=O (c,q)->fd.code= .ref c/\fd.qualname++".<locals>."=q) (hv:ef X s₁.heap w h.n vs ys) (hl:names.length=ys.length)
 (x:InCallC s (callEnvC fd s.heap.objs.size a).locals (bindL (callEnvC fd s.heap.objs.size a).kindOf (names.zip ys) λE=>au) (callEnvC fd s.heap.objs.size a).cells (bindC (callEnvC fd s.heap.objs.size a).kindOf (names.zip ys) λE=>au) s₁):
 eX X (callEnvC fd s.heap.objs.size a) fd.scope.names ⟨(names.map nm).zip vs,[]⟩ w h.n s₁:=by
 have d:∀y,bg y fd.scope.names≠O .free:=λy e=>by
  exact jB (lJ e) λp hp E J=>b.TH p hp J
 have F:=D.size;have f:∀c,s.heap.objs.size<=c->w.role c=au/\X.h₀.objs.size<=c/\c∉X.tabs:=λc j=>iX (by
  induction K:w.role c using zO with
  |none=>rfl
  |some i=>exact absurd (D.lim c i K).2.2 (bD.mpr j)) (aI F j) (λht=>absurd (r c ht) (bD.mpr (aI F j)))
 have l:∀y k,aZ y=H->bg (nm y) fd.scope.names=O k->(callEnvC fd s.heap.objs.size a).kindOf y=O k:=λy k hy hk=>j4 b.plain hy hk;have u:∀y∈names,aZ y=true:=λy hy=>(b.params y hy).1;have A:((names.zip ys).map eE).Nodup:=U (List.map_fst_zip (cX hl)) b.nodup;have m:∀y,aZ y=H->bg (nm y) fd.scope.names=O .cell->∃c,(callEnvC fd s.heap.objs.size a).cells.lookup y=O c:=λy hy hk=>by
  exact cellsFrom_some (.inr (mem_of_lookup (j4 b.plain hy hk)))
 refine⟨b.fn,I,hb,λy k hy hk=> ?_,b.cls,b.Gx,(bW _ x.toInCall.ns (λy v hy hk o=> ?_)),f _ x.toInCall.fresh,λy hy hk=> ?_,λy v c hy hk o j=> ?_,λy v c hy hk=>absurd hk (d _),λy z c h1 h2=>name_of_addr x.apart (mem_of_lookup h1) (mem_of_lookup h2),λy v o=> ?_,λy v o=>(nomatch o),t⟩
 .have:=l y k hy hk
  induction k using dw with
  |«local»=>exact this
  |cell=>exact this
  |free=>exact absurd hk (d _)
  |globalImplicit=>exact this
  |_=>trivial
 .exact dN (DU u hv hy o) λz h1 h2=>bW z (Lc (l y _ hy hk) A h1) h2
 .exact fE (m y hy (hk.resolve_right (d _))) λc j=>iP (f c (gO ((x.above y c (mem_of_lookup j))))) λL M P=>lT c _ j M P L (x.cell y c j)
 .refine dN (DU u hv hy o) λz h1 h2=>bW z ?_ h2;have:=x.cell y c j;rw [Ld (by refine U (l y _ hy hk) ?_;decide) A h1] at this;exact this
 .refine aL (H8 o) λQ B=> ?_;subst B;intro C;exact(b.params Q C).2
structure Vv (X:dz) (fd:mC) (names:List Str) (dv:List V):Prop where
 sc:Ox fd.scope names
 clo:fd.closure=[]
 glob:fd.globals=mainNs
 blt:fd.builtins=builtinsNs
 N2:gD fd.scope.names=aj->∀c q,X.jO fd.scope.names=O (c,q)->fd.code= .ref c/\fd.qualname++".<locals>."=q
 pos:fd.params.posonlyargs=[]
 args:fd.params.args.map (·.arg)=names
 kwo:fd.params.kwonlyargs=[]
 va:fd.params.vararg=au
 kwa:fd.params.kwarg=au
 few:dv.length<=names.length
 Dp:∀w h s,St X w h s->∃od,(∀{M:Model} {A:Around} {E:Value->Shared->Prop} {Q:Option (Array Value)->Shared->Prop},Q od s->wpAny M A (sr fd.defaults) Q E s)/\ef X s.heap w h.n dv (od.getD #[]).toList
theorem uW (ax:bw X) (z:∀a∈X.tabs,a<X.h₀.objs.size) (B:X.h₀.NoLimit) (J:cStatics∉X.tabs) (R:Vv X fd names dv)
 (I:St X w h s) (hv:ef X s.heap w h.n vs ys) (hl:nM dv (names.map nm) vs=O l) {P:dD->Shared->Prop}
 (hP:∀env s₁,St X w h s₁->eX X env fd.scope.names ⟨l,[]⟩ w h.n s₁->Ext X cV w h.n s w h.n s₁->(∀c,AF env fd.scope.names c->cV c\/s.heap.objs.size<=c)->P env s₁):
 wpAny (model X.prog X.w) A (bindArgs fd ⟨ys,[]⟩) (λb s₁=>wpAny (model X.prog X.w) A (newFunctionEnv fd.scope fd.globals fd.closure b (fd.qualname++".<locals>.") (O a) fd.code au fd.builtins) (λenv u=>u.heap.NoLimit/\P env u) E' s₁) E s:=by
 refine dN (R.Dp w h s I) λod K C=>iP (H7 hl) λm=> ?_;subst m;intro L Q;simp only [eG] at L Q hP;have j:=hv.length;have d:=C.length;have D:=hv.append (C.drop (dv.length-(names.length-vs.length)));have i:wpAny (model X.prog X.w) A (bindArgs fd ⟨ys,[]⟩) (λb s'=>s'=s/\b=names.zip (ys++((od.getD #[]).toList).drop ((od.getD #[]).toList.length-(names.length-ys.length)))) E s:=xh (M:=model X.prog X.w) (A:=A) (E:=E) (s:=s) (fd:=fd) (names:=names) R.pos R.args R.kwo R.va R.kwa R.sc.nodup (vals:=ys) (ds:=(od.getD #[]).toList) (od:=od) (λq=>K q) rfl (le_of_eq_of_le (id (gC j)) L) (by have:=R.few;exact le_of_eq_of_le (id (gC d)) this) (sf.mpr (j▸d▸Q)) ⟨rfl,rfl⟩;have S:ys++((od.getD #[]).toList).drop ((od.getD #[]).toList.length-(names.length-ys.length))=ys++((od.getD #[]).toList).drop (dv.length-(names.length-vs.length)):=cL d (cL j rfl);rw [S] at i;generalize F:ys++((od.getD #[]).toList).drop (dv.length-(names.length-vs.length))=zs at i D;have V:names.length=zs.length:=by
  refine cL F (U dc (U jE (cL d (cL j ?_))));exact sw2 L (sf.mpr Q)
 have hnl:s.heap.NoLimit:=by
  exact aL B λmc h2 h1=>bW mc (uK h1 λo e=>I.base _ o e J) h2
 refine fZ i (λb s' q=> ?_) λu_ u_ f=>f;refine gb q λm hq1=> ?_;subst m;subst hq1;refine U R.clo ?_;have v:∀y k,aZ y=H->bg (nm y) fd.scope.names=O k->fd.scope.names.lookup y=O k:=λy k hy hk=>j4 R.sc.plain hy hk;refine wpAny_newFunctionEnv_cells R.sc.fn (λp hp=> ?_) λenv r s1 x=> ?_
 .have hm:=(List.of_mem_zip hp).1;refine aC (R.sc.params p.1 hm) λh2 h1=> ?_;rcases h2 with h2|h2
  .exact .inl (v _ _ h1 h2)
  .refine .inr ⟨v _ _ h1 h2, ?_⟩;refine fE (cellsFrom_some (k:=s'.heap.objs.size+1) (acc:=[]) (.inr (mem_of_lookup (v _ _ h1 h2)))) λc hc=>U hc ?_;rfl
 .have r:env=callEnvC fd s'.heap.objs.size a:=r;subst r;refine HA x.done λh' tk m=> ?_;subst m;intro t;refine aC (I.ja ax (h':=h') (tk:=tk) (gO x.toInCall.ns.lt) t) λx1 G=>⟨hnl.keeps t,hP _ _ G (eX.call z I G R.sc R.glob R.blt R.N2 (D.mono x1.dW) V x) x1 λc hc=> ?_⟩
  right
  rcases hc with rfl|⟨y,_,_,q⟩
  .exact x.toInCall.fresh
  .exact gO (x.above y c (mem_of_lookup q))
theorem ry (a:fO (n+1) 0 A) (hb:b<=190) env:fO n b (A.deeper env):=
 a.next rfl (Around.deeper_units ..) (aI (jP hb 3) (aA rfl)) rfl (d:=1) rfl
theorem zm (b:fO n 0 A):A.depth<mF:=i0 (i6 b.depth) (aA rfl)
structure ZM (X:dz) (r:Ap) (n b:Nat) (a:Addr) (F:Fn) (names:List Str) (fd:mC) (body:List Stmt):Prop where
 obj:∃o,X.h₀.get? a=O o/\o.data= .func fd
 nt:a∉X.tabs
 data:Vv X fd names F.Dp
 text:fd.body= .stmts body
 code:∀w h s,St X w h s->s.heap.CodeRec fd.code fd.qualname
 names:F.params=names.map nm
 ok:jb X r n b fd.scope.names F.body body
theorem WG (M:bw X) (j:∀a∈X.tabs,a<X.h₀.objs.size) (m:X.h₀.NoLimit) (t:cStatics∉X.tabs) (R:ZM X r n b a F names fd body) (hb:b<=190)
 (G:fO (n+1) 0 A) (u:St X w h s) (hv:ef X s.heap w h.n vs ys) (hl:nM F.Dp F.params vs=O l) (e:F.body.f r ⟨l,[]⟩ h (λd h=>k di h) k=O res)
 (I:Goes (PV X) X w h.n s k res Q):codeN (model X.prog X.w) A (.call (.ref a) ⟨ys,[]⟩) (RV Q) s:=by
 refine dN R.obj λo S V=> ?_;rw [R.names] at hl;refine jC (zm G) (u.base a o S R.nt) V R.data.sc.co R.data.sc.gen R.text (R.code w h s u) (aW (eU (uW M j m t R.data u hv hl (E:=λd d=>False) (E':=λd d=>False) (P:=λenv J=>codeN (model X.prog X.w) A (.func body env) (RV Q) J) λenv J x z K p=>tM ?_)) (λd d q=>eU q) λd d f=>f);refine aW (R.ok _ (ry G hb env) _ _ w h _ x z _ k res e (λf c=>match f with| .ret v=>Q v c|_=>Q .none c) ⟨λρ' B i c C L a3 D=> ?_,λB i c v y C L a3 D=> ?_⟩) (λf c q=> ?_) λd d f=>f.elim
 .exact I B i c di .none C (K.nR a3 p) .none D
 .exact I B i c v y C (K.nR L p) a3 D
 .rcases f<;>exact q
end
section
variable {X:dz} {K:Frag} {w:Wd} {h:ae7} {s:Shared} {r:Ap} {n:Nat}
theorem RV.call {M} {Q} (x:codeN M A (.call f ⟨ys,[]⟩) (RV Q) s):cG M A (call f ys) Q (λb b=>False) s:=
 nN (iR x λr s' z=>by rcases r with e|(v|_|_|_)<;>first|exact z.elim|exact z)
structure TJ (K:Frag) (C f:Addr):Prop where
 makes:makesIn K C=H
 init:findIn K (.ref C) "__init__"=O (O (.ref f))
 fn:typeIn K (.ref f)=O (.type "function")
theorem Ib C ys:(Code.builtin "type.__call__" ⟨.ref C::ys,[]⟩).weight=1:=by kernel_rfl
theorem Le C ys:(Code.builtin "type.__call__" ⟨.ref C::ys,[]⟩).cUnits=1:=by kernel_rfl
theorem Oz (a:fO (n+1) 0 A) C ys:fO n 0 (A.under (.builtin "type.__call__" ⟨.ref C::ys,[]⟩)):=
 a.next rfl (congrArg (A.units+ ·) (Le C ys)) (aA rfl) (congrArg (A.depth+ ·) (Ib C ys)) rfl
theorem St.OA (g:bw X) (i:St X w h s) (C:Addr):∃d,St X d ⟨HT.ins (uB C []) h.l h.n,h.n+1⟩ {s with heap:=(s.heap.push eL).push (fG C s.heap.objs.size)}/\
 Ext X cV w h.n s d (h.n+1) {s with heap:=(s.heap.push eL).push (fG C s.heap.objs.size)}/\d.ρ h.n=s.heap.objs.size+1:=by
 have h1:((s.heap.push eL).push (fG C s.heap.objs.size)).objs.size=s.heap.objs.size+2:=U (bJ ..) (U (bJ ..) rfl);have j:((s.heap.push eL).push (fG C s.heap.objs.size)).get? (s.heap.objs.size+1)=O (fG C s.heap.objs.size):=by
  have:=aJ (s.heap.push eL) (o:=fG C s.heap.objs.size) rfl
  rwa [bJ] at this
 refine gb (i.new g (o:=uB C []) (b:=s.heap.objs.size+1) (own:=λa=>decide (s.heap.objs.size<=a)&&decide (a<s.heap.objs.size+2)) (by simp) (s':={s with heap:=(s.heap.push eL).push (fG C s.heap.objs.size)})
  (by show _<=((s.heap.push eL).push (fG C s.heap.objs.size)).objs.size;refine U h1 ?_;exact d8 (fJ (jF (fT s))) 2)
  (λa f=>by
   simp only [aP,decide_eq_true_eq] at f;exact⟨f.1,by show _<((s.heap.push eL).push (fG C s.heap.objs.size)).objs.size;refine U h1 ?_;exact f.2⟩)
  (λa m e=>az _ (az _ e)) rfl rfl 0 _ rfl
  (λk h1 h2 p=> .inst C [] s.heap.objs.size #[] 0 (U h2 h1) (by simp) (U h2 (cj (bN _))) (U h2 j) (az _ (aJ _ rfl)) .nil (of_decide_eq_true rfl) (λx t q=>absurd rfl q))) λa c=> ?_
 exact f7 _ a c (if_pos rfl)
theorem TL (q:bw X) (R:Jw X K) (u:Cg X r n) {T:B5} {C:Addr} (x:∀f,T.init C=O f->∃F,Fl X F/\TJ F C f) (B:fO (n+1) 0 A) (m:St X w h s) (hv:ef X s.heap w h.n vs ys)
 (e:SY T r C vs h k=O res) (D:Goes (PV X) X w h.n s k res Q):codeN (model X.prog X.w) A (.call (.ref C) ⟨ys,[]⟩) (RV Q) s:=by
 refine aL (bC e) λf e E=>aL (x f E) λS c hF=> ?_;have i:=hF.In m;refine jB (m.OA q C) λj G o a3=> ?_;obtain⟨a,g,d,t,os⟩:=s;refine WE (makes_of i c.makes) (looks_findIn i c.init) (λb=>bind_fn i b c.fn) (.inl rfl) ?_;have hx:VR X ((a.push eL).push (fG C a.objs.size)) j (h.n+1) (bP h.n) (.ref (a.objs.size+1)):=by
  have:=VR.ref (X:=X) (g:=(a.push eL).push (fG C a.objs.size)) (w:=j) (n:=h.n+1) h.n (bN _)
  rwa [a3] at this
 refine iR (u.fn _ (Oz B _ _) j _ _ G f (bP h.n::vs) (.ref (a.objs.size+1)::ys) (.cons _ _ _ _ hx (hv.mono o.dW)) _ res e (λv s'=>v= .none/\Q (.ref (a.objs.size+1)) s') λI h2 J v y L p M l=> ?_) λP s' z=> ?_
 .refine gb (dM l) λht l=> ?_;have hy:y= .none:=by
   induction M using Mine.VR.casesOn<;>first|rfl|exact nn (aH ht) rfl
  exact⟨hy,D I h2 J _ _ L (o.trans p) (hx.mono p.dW) l⟩
 .rcases P with e|(v|_|_|_)<;>first|exact z.elim|exact z
theorem Lf (a:Fl X K) (b:St X w h s) (c:TJ K C f) {M}:rq M (.ref C) s.heap:=by
 have Y:=makes_of (M:=M) (a.In b) c.makes;obtain⟨e,od,g,i,d,_⟩:=Y.obj;exact bW .machine (.inr (.inl rfl)) ((Looks.ld d).andThen ((Y.call.andThen (Looks.of_pure rfl))))
theorem yb (b:g.get? a=O o) (c:o.data= .func fd) {M}:rq M (.ref a) g:=bW .frame (.inl rfl) ((Looks.ld b).andThen (U c .now))
end
structure TM (X:dz) (r:Ap) (n b:Nat) (L:Lm) (fd:mC) (names:List Str) (body:Expr):Prop where
 data:Vv X fd names []
 text:fd.body= .expr body
 names:L.params=names.map nm
 ok:cQ X r n b fd.scope.names L.body body
section
variable {X:dz} {w:Wd} {h:ae7} {s:Shared} {r:Ap} {n b:Nat}
theorem TN (C:bw X) (g:∀a∈X.tabs,a<X.h₀.objs.size) (i:X.h₀.NoLimit) (p:cStatics∉X.tabs) (R:TM X r n b L fd names body) (hb:b<=190)
 (D:s.heap.get? a=O o) (F:o.data= .func fd) (G:fd.code= .ref c) (j:s.heap.CodeRec (.ref c) fd.qualname)
 (z:fO (n+1) 0 A) (I:St X w h s) (hv:ef X s.heap w h.n vs ys) (hl:nM [] L.params vs=O l) (e:L.body.f r ⟨l,[]⟩ h k=O res)
 (J:Goes (PV X) X w h.n s k res Q):codeN (model X.prog X.w) A (.call (.ref a) ⟨ys,[]⟩) (RV Q) s:=by
 rw [R.names] at hl;refine oO (zm z) D F R.data.sc.co R.data.sc.gen R.text (G.symm▸j) (aW (eU (uW C g i p R.data I hv hl (E:=λd d=>False) (E':=λd d=>False) (P:=λenv B=>codeN (model X.prog X.w) A (.expr body env) (RV Q) B) λenv B t u K M=>yS ?_)) (λd d q=>eU q) λd d f=>f);refine aW (R.ok _ (ry z hb env) _ _ w h _ t u k res e Q λS x m v y V a2 a3 a4=> ?_) (λf m q=>q) λd d f=>f.elim;exact J S x m v y V (K.trans a2) a3 a4
theorem zo {pos:Pos} l (h:nu l):nu (l++[rawInt pos.line,rawInt pos.col,c]):=by
 fun_induction nu l with
 |case1=>exact h
 |case2 a t b u x d e=>exact e h
 |case3 l h1 h2=>exact h.elim
theorem AK (l m) (h:nu l) (e:codeAmong pos l=O c):codeAmong pos (l++m)=O c:=by
 fun_induction nu l with
 |case1=>exact fn e
 |case2 a t b u x d f=>
  simp only [qm,codeAmong] at e⊢;split at e
  .rename_i q;refine U (if_pos q) ?_;exact e
  .rename_i q;refine U (if_neg q) ?_;exact f h e
 |case3 l h1 h2=>exact h.elim
theorem AL {pos d:Pos} l (h:nu l) (hn:codeAmong d l=au) (e:codeAmong d (l++[rawInt pos.line,rawInt pos.col,c])=O cv):d.line=pos.line/\d.col=pos.col/\cv=c:=by
 fun_induction nu l with
 |case1=>
  simp only [List.nil_append,rawInt,codeAmong] at e;split at e
  .rename_i q;simp only [aP,beq_iff_eq,Int.natCast_inj] at q;exact iX q.1.symm q.2.symm ((aF e).symm)
  .exact fn e
 |case2 a t b u x f g=>
  simp only [qm,codeAmong] at e hn;split at e
  .rename_i q;rw [if_pos q] at hn;exact sn hn
  .rename_i q;rw [if_neg q] at hn;exact g h hn e
 |case3 l h1 h2=>exact h.elim
theorem St.code (ax:bw X) (d:St X w h s) {P c:Addr} (C:P∈X.tabs) (hp:s.heap.get? P=O ⟨.none,au,.fields ps,#[]⟩) (ht:nu ps.toList) (hn:codeAmong pos ps.toList=au) (hq:∀j,X.qt P pos.line pos.col=O j->j=q)
 (hx:mQ P s.heap h') (l:s.heap.objs.size<=c) (D:c<h'.objs.size) (p:h'.CodeRec (.ref c) q) (E:h'.get? P=O ⟨.none,au,.fields (ps++ #[rawInt pos.line,rawInt pos.col,.ref c]),#[]⟩):
 St X w h {s with heap:=h',toks:=tk}/\Ext X cV w h.n s w h.n {s with heap:=h',toks:=tk}/\w.role c=au/\c∉X.tabs:=by
 have u:=(d.tab P C).low;have F:=gO (i0 l D);have x:Ext X cV w h.n s w h.n {s with heap:=h',toks:=tk}:=⟨F,bu _,λg g=>rfl,λg g=>rfl,λg g=>rfl,λa o g h2 g e=>hx a o (λq=>h2 (q▸C)) e,rfl,rfl⟩;have k:=x.dW;have m:∀a i,w.role a=O i->a≠P:=λa i G q=>absurd u (bD.mpr (q▸(d.lim a i G).2.1));have v:w.role c=none:=by
  induction G:w.role c using zO with
  |none=>rfl
  |some i=>exact absurd (d.lim c i G).2.2 (bD.mpr l)
 have y:c∉X.tabs:=λq=>absurd (d.tab c q).low (bD.mpr (aI d.size l));refine qK ⟨λi o e=> ?_,λa i e=> ?_,λa o e ht=>hx a o (λq=>ht (q▸C)) (d.base a o e ht),aI d.size F,λB z=> ?_⟩ x v y
 .exact aC (d.rep i o e) λrr hi=>⟨hi,rr.keep ax k hi (λg h=>h) λa o h1 e=>hx a o (m a i h1) e⟩
 .refine eZ (d.lim a i e) λa2 a1 a3=> ?_;exact iX a1 a2 (aQ a3 F)
 .by_cases A:B=P
  .subst A;obtain⟨_,ps',e1,e2,e3⟩:=d.tab B z;cases hp.symm.trans e1;refine⟨u,_,E,by simpa using (zo (c:= .ref c) (pos:=pos) ps.toList ht),λf j cv h1 h2=> ?_⟩;have h2:codeAmong f (ps.toList++[rawInt pos.line,rawInt pos.col,.ref c])=O cv:=by simpa using h2
   induction I:codeAmong f ps.toList using zO with
   |some J=>
    refine SI (e3 f j J h1 I) λc' K=> ?_;subst K;intro r1 R r3;have L:cv= .ref c':=by
     have:=AK ps.toList [rawInt pos.line,rawInt pos.col,.ref c] ht I;rw [this] at h2;exact(aF h2).symm
    refine pG r3 λS V vs t g3 e g1 g2=> ?_;cases e;exact aC (k.fix c' V r1 R (v7 g2 g3) g1) λj p'=>⟨c',L,p',R,c',V,vs,t,rfl,j,g2,g3⟩
   |none=>
    have:=AL ps.toList ht I h2;refine Rx this λhl M Q=> ?_;rw [hl,M] at h1;exact U (hq j h1) (qL c Q v y p)
  .exact(d.tab B z).keep k λo g e=>hx B o A e
theorem cQ.lam (G:bw X) pos (v:gD ns=aj) (hc:X.jO ns=O (c,q')) (I:q'++"<lambda>"=q) (hP:P∈X.tabs)
 (x:∀w h s,St X w h s->CodeHd s.heap c P) (y:X.qt P pos.line pos.col=O q) (J:∀w h s,St X w h s->∃z,s.heap.Ns ic z/\s.heap.BuiltinsAt z P) (K:ic≠P)
 (B:∀env,defaultsOf params env=([],[])) (m:∀env,closureFor scope env=pure []) (hl:∀pm L f,X.lam (aG (cM pos.line 4096) pos.col) (kla_fn "<lambda>" q params body scope [] pm L f)):
 cQ X r n b ns (xC (NL (aG (cM pos.line 4096) pos.col))) (.Lambda params body scope pos):=by
 intro A hA env ρ w h s u he k res e Q hQ;refine gb (he.N2 v c q' hc) λg p=> ?_;obtain⟨low,ps,hp,ht,M⟩:=u.tab P hP;refine dN (J w h s u) λz C D=>eU (kla_eval (B env) (U p (U I ?_)));have j:∀s' a,St X w h s'->s'.heap.objs.size<=a->w.role a=au/\a∉X.tabs:=λs' a h1 h2=>⟨by
  induction E:w.role a using zO with
  |none=>rfl
  |some i=>exact absurd (h1.lim a i E).2.2 (bD.mpr h2),λq=>absurd (h1.tab a q).low (bD.mpr (aI h1.size h2))⟩
 induction l:codeAmong pos ps.toList using zO with
 |some L=>
  refine SI (M pos q L y l) λc' R=> ?_;subst R;intro E t d;refine kla_makeFunctionHit (m env) he.glob C g (x w h s u) hp ht l D λf h' tk hk S=>aC (u.ja G (h':=h') (tk:=tk) S hk) λV F=>aC (F.ja G (h':=h'.push {cls:= .type "function",data:= .func (kla_fn "<lambda>" q params body scope [] ((z "__name__").getD .none) (.ref c') f)}) (tk:=tk) (by show h'.objs.size<=_;refine U (bJ ..) ?_;exact gV _) (λa o e=>az _ e)) λx2 s2=> ?_;exact aC (j _ h'.objs.size F (bu _)) λn2 n1=>hQ w h _ _ _ s2 (V.trans x2) (.lam _ h'.objs.size _ _ c' n1 n2 (aJ _ rfl) rfl rfl E t (d.keeps λb o e=>az _ (hk b o e)) (hl _ _ _)) e
 |none=>
  refine kla_makeFunction (m env) he.glob C g (x w h s u) hp ht l K D λc' f h' tk hx hge hlt d R6=>ux (u.code G hP hp ht l (λq'' e=>aF (e.symm.trans y)) (tk:=tk) hx hge hlt d R6) λV F E t=>aC (F.ja G (h':=h'.push (kla_obj "<lambda>" q params body scope [] ((z "__name__").getD .none) c' f)) (tk:=tk) (by show h'.objs.size<=_;refine U (bJ ..) ?_;exact gV _) (λa o e=>az _ e)) λx2 s2=> ?_;exact aC (j _ h'.objs.size F (bu _)) λn2 n1=>hQ w h _ _ _ s2 (V.trans x2) (.lam _ h'.objs.size _ _ c' n1 n2 (aJ _ rfl) rfl rfl E t (d.push _) (hl _ _ _)) e
end
def qf (X:dz) (m:Nat):Prop:=∀n A,fO n 0 A->∀w h s,St X w h s->∀vs ys,ef X s.heap w h.n vs ys->∀k res,BS m vs h k=O res->∀Q:Value->Shared->Prop,
 Goes (PV X) X w h.n s k res Q->cG (model X.prog X.w) A (call (oK m) ys) Q (λu_ u_=>False) s
structure Lg (X:dz) (K:Frag) (T:B5):Prop where
 cls:∀C f,T.init C=O f->∃F,Fl X F/\TJ F C f
 bi:∀m,qf X m
 fnk:∀a F,T.fn a=O F->∃o fd,X.h₀.get? a=O o/\o.data= .func fd/\a∉X.tabs
 fn:∀a F,T.fn a=O F->ak F.prim 0=H->∃b names fd body,b<=190/\∀r n,Cg X r n->ZM X r n b a F names fd body
 prim:∀a F,T.fn a=O F->ak F.prim 0=aj->∀r n,Cg X r n->∀A,fO (n+1) 0 A->∀w h s,St X w h s->∀vs ys,ef X s.heap w h.n vs ys->∀k res,with2 vs (λa w=>r w [a,bM F.prim,aX 0] h k)=O res->
  ∀Q:Value->Shared->Prop,Goes (PV X) X w h.n s k res Q->codeN (model X.prog X.w) A (.call (.ref a) ⟨ys,[]⟩) (RV Q) s
 lam:∀j L,T.lam j=O L->∃b names body,b<=190/\∀fd,X.lam j fd->∀r n,Cg X r n->TM X r n b L fd names body
theorem tT M {f} (h:∀a,f≠.ref a) g:rq M f g:=by
 refine bW .machine (.inr (.inl rfl)) ?_;have:keeperOf f=pure .machine:=by
  rcases f<;>first|rfl|exact absurd rfl (h _)
 refine U this ?_;exact .now
def Lh (y:Value):Bool:=Value.rec aj aj aj (λu_=>aj) (λu_ u_=>aj) (λu_ u_=>aj) (λu_ u_=>aj) (λu_ u_=>aj) (λu_=>aj) (λu_=>aj) (λu_=>H) y
theorem wu k a (e:oK k= .ref a):False:=by
 have q:=if h:k<18 then(by decide+kernel:∀k,k<18->Lh (oK k)=aj) k h else i7 (mz h)▸(rfl:Lh (oK (k-18+18))=aj);rw [e] at q;exact ft q
section
variable {X:dz} {K:Frag} {T:B5} {r:Ap} {n:Nat} {w:Wd} {h:ae7} {s:Shared}
theorem Li (q:bw X) (c:∀a∈X.tabs,a<X.h₀.objs.size) (d:X.h₀.NoLimit) (f:cStatics∉X.tabs) (g:Lg X K T) (i:Cg X r n) (j:fO (n+1) 0 A) (m:St X w h s) (hv:ef X s.heap w h.n vs ys)
 (e:Zy T r a vs h k=O res) (o:Goes (PV X) X w h.n s k res Q):codeN (model X.prog X.w) A (.call (.ref a) ⟨ys,[]⟩) (RV Q) s:=by
 refine aL (pX e) λF e hF=> ?_
 induction hp:ak F.prim 0 using zB with
 |false=>
  rw [hp] at e;exact g.prim a F hF hp r n i A j w h s m vs ys hv k res e Q o
 |true=>
  rw [hp] at e;refine aL (pX e) λl e hl=> ?_;obtain⟨b,names,fd,p,hb,R⟩:=g.fn a F hF hp;exact WG q c d f (R r n i) hb j m hv hl e o
theorem Lj (b:St X w h s) (c:Lg X K T) (e:Zy T r a vs h k=O res) {M}:rq M (.ref a) s.heap:=aL (pX e) λF e hF=>vP (c.fnk a F hF) λo fd h1 h2 d=>yb (b.base a o h1 d) h2
theorem Lk m:Cg X (run T 0) m:=⟨λa a a a a a a a a a a a a a e=>(fn e),λa a a a a a a a a a e=>(fn e),λa a a a a a a a a a a a e=>fn e⟩
theorem Ll (z:bw X) (M:Jw X K) (d:∀a∈X.tabs,a<X.h₀.objs.size) (g:X.h₀.NoLimit) (q:cStatics∉X.tabs) (t:Lg X K T) (B:Cg X r n):Cg X (apply T r) (n+1):=by
 refine⟨λA v w h s i f P u vs ys hv k res e Q x=> ?_,λw h s i f P u vs k res e=> ?_,λA v w h s i a vs ys hv k res e Q x=>Li z d g q t B v i hv e x⟩
 .induction u using Mine.VR.casesOn with
  |fn a=>exact RV.call (Li z d g q t B v i hv e x)
  |cls C=>exact RV.call (TL z M B (λf u=>t.cls C f u) v i hv e x)
  |bi m=>exact t.bi m _ A v w h s i vs ys hv k res e Q x
  |lam j a o fd c S ht D E y F G p hl=>
   have e:V8 T r j vs h k=O res:=e;refine aL (bC e) λL e V=>dN (bC e) λl I e=> ?_;obtain⟨b,names,J,hb,R⟩:=t.lam j L V;exact RV.call (TN z d g q (R fd hl r n B) hb D E y p v i hv I e x)
  |_=>exact fn e
 .induction u using Mine.VR.casesOn with
  |fn a=>exact Lj i t e
  |cls C=>
   have e:SY T r C vs h k=O res:=e;exact aL (bC e) λf e u=>aL (t.cls C f u) λu_ c hF=>Lf hF i c
  |bi m=>exact tT _ (wu m) _
  |lam j a o fd c S ht D E y F G p hl=>exact yb D E
  |_=>exact fn e
theorem OB (e:bw X) (f:Jw X K) (b:∀a∈X.tabs,a<X.h₀.objs.size) (c:X.h₀.NoLimit) (d:cStatics∉X.tabs) (g:Lg X K T):∀n,Cg X (run T n) n:=by
 intro n
 induction n with
 |zero=>
  exact Lk _
 |succ n i=>
  exact Ll e f b c d g i
end
structure Vw (X:dz) (g:Heap) (w:Wd) (n:Nat) (p:V×V) (q:Value×Value):Prop where
 key:VR X g w n p.1 q.1
 val:VR X g w n p.2 q.2
def WH (X:dz) (w:Wd) (m:Nat) (s:Shared) (k:List (V×V)->ae7->Option Res) (res:Res) (Q:List (Value×Value)->Shared->Prop):Prop:=
 ∀w' h' s' vs ys,St X w' h' s'->Ext X cV w m s w' h'.n s'->iV (Vw X s'.heap w' h'.n) vs ys->k vs h'=O res->Q ys s'
def R7 (X:dz) (r:Ap) (n b:Nat) (ns:List (Str×aN)) (l:XP) (ks:List (Option Expr)) (es:List Expr):Prop:=
 ∀A,fO n b A->∀env ρ w h s,St X w h s->eX X env ns ρ w h.n s->∀k res,l.f r ρ h k=O res->∀pos (Q:List (Value×Value)->Shared->Prop),WH X w h.n s k res Q->cG (model X.prog X.w) A (evalPairs (pairTrees ks es env pos)) Q (λu_ u_=>False) s
section
variable {X:dz} {r:Ap} {n b:Nat} {ns:List (Str×aN)} {w:Wd} {h:ae7} {s:Shared}
theorem Vw.mono (k:oZ X g w n g' w' n') (x:Vw X g w n p q):Vw X g' w' n' p q:=⟨x.key.mono k,x.val.mono k⟩
theorem R7.nil:R7 X r n b ns V0 [] []:=λA d env ρ w h s a he k res e pos Q c=>eU (evalPairs_nil (c w h s [] [] a .refl .nil e))
theorem TP
 (h:cG (model prog ww) A (eval k env) (λl c=>cG (model prog ww) A (eval v env) (λm d=>cG (model prog ww) A (evalPairs (pairTrees ks vs env pos)) (λr f=>Q ((l,m)::r) f) E d) E c) E s):
 cG (model prog ww) A (evalPairs (pairTrees (some k::ks) (v::vs) env pos)) Q E s:=ay (aW h (λa a g=>ay (bh (ay (aW g (λa a i=>ay (bG (aO (ay (bh (aW i (λa a j=>aO j) λa a e=>e)))))) λa a e=>e)))) λa a e=>e)
theorem WI
 (a:keys.all (·.isSome)=H) (hl:keys.length=values.length) (l:keys≠[]) (f:keys.length<=15)
 (h:cG (model prog ww) A (evalPairs (pairTrees keys values env pos)) (λvs c=>cG (model prog ww) A (sy s.heap.objs.size vs) (λg d=>Q (.ref s.heap.objs.size) d) E c) E
  {s with heap:=s.heap.push {cls:= .type "dict",data:= .dict #[]}}):
 cG (model prog ww) A (eval (.Dict keys values pos) env) Q E s:=by
 have hn:=pairTrees_length keys values env pos a hl;have k:pairTrees keys values env pos≠[]:=by
  intro he;rw [he] at hn;exact l (iL.mp hn.symm)
 rw [arm_eval_Dict,zip_pairTrees keys values env pos a hl,dictDisplay_pairs _ k (by refine U hn ?_;lia)];refine ay (bG (ay (ND wpAny_alloc (ay (bh ?_)))));rw [if_pos (U hn f)];refine ay (aW h (λvs c i=> ?_) λg g e=>e);exact bh (ay (aW i (λg d j=>aO (aO (aO j))) λg g e=>e))
theorem R7.cons (t:cQ X r n b ns a k) (z:cQ X r n b ns c v) (hl:R7 X r n b ns l ks es):R7 X r n b ns (RL a c l) (some k::ks) (v::es):=by
 intro A d env ρ w h s B he R res e pos Q C;exact TP (t A d env ρ w h s B he _ res e _ λD h1 E u x f g hu F=>z A d env ρ D h1 E f (he.ext g) _ res F _ λG h2 I S y i j m J=>hl A d env ρ G h2 I i ((he.ext g).ext j) _ res J pos _ λK L M vs ys o p q P=>C K L M _ _ o ((g.trans j).trans p) (.cons ⟨(hu.mono j.dW).mono p.dW,m.mono p.dW⟩ q) P)
theorem GL (m:bw X) (f:St X w h s) (hu:VR X s.heap w h.n u x) (hv:VR X s.heap w h.n v y) (e:Df (bP i) u v h k=O res) (p:A.units<cLine)
 (q:∀h' s',St X w h' s'->h'.n=h.n->Ext X cV w h.n s w h.n s'->k di h'=O res->Q () s'):wpAny (model X.prog X.w) A (dictSet (w.ρ i) x y) Q (λg g=>False) s:=by
 refine dF (dj e) λo e g j=>aC (dM e) λe t=> ?_
 induction (f.rep _ o j).2 using Mine.Rep.casesOn with
 |dict z C ep D E hn F G l=>
  exact aL (bC e) λd e B=>aC (dM e) λe hz=>Fi m f j hu hv B (rm hz) p λs' a c=>q _ s' a rfl c e
 |_=>exact nn (aH t) rfl
theorem DV (g:bw X) (j:A.units<cLine):∀{vs} {ys} {h} {s},St X w h s->iV (Vw X s.heap w h.n) vs ys->vW (bP i) vs h k=O res->∀{Q},
 (∀h' s',St X w h' s'->h'.n=h.n->Ext X cV w h.n s w h.n s'->k (bP i) h'=O res->Q ⟨⟩ s')->wpAny (model X.prog X.w) A (sy (w.ρ i) ys) Q (λa a=>False) s:=by
 intro vs
 induction vs with
 |nil=>
  intro _ h s c hv e Q d;cases hv;exact av (d h s c rfl .refl e)
 |cons p vs l=>
  intro _ h s c hv e Q d;cases hv with
  | @cons _ q _ ys hp hvs=>
   unfold sy;exact U (dO ..) (aq (aq (GL g c hp.key hp.val e j λh1 z m f a3 o=>av (l m (f▸hvs.mono λa a=>Vw.mono a3.dW) o λh2 t u v x y=>d h2 t u (v.trans f) (a3.trans (f▸x)) y))))
theorem zp:∀{ks:List (Option Expr)} {d:List Expr},lW ks d=H->ks.all (·.isSome)=H/\ks.length=d.length
 |[],[],_=>⟨rfl,rfl⟩
 |[],_::_,h=>ff h
 |_::_,[],h=>by
  rename_i k ks;rcases k<;>exact ff h
 |k::ks,e::d,h=>by
  induction k using zO with
  |none=>exact ff h
  |some k=>
   exact gb (zp (show lW ks d=H from h)) λa c=>⟨by exact a,by exact(λ{a b}=>Iff.mpr Nat.succ_inj) c⟩
theorem cQ.dict (ax:bw X) pos (hall:lW ks es=H) (hlen:ks.length<=15) (hl:R7 X r n b ns l ks es):cQ X r n b ns (JR l) (.Dict ks es pos):=by
 intro A hA env ρ w h s hs he k res e Q hQ;refine gb (zp hall) λh1 h2=> ?_;have hc:=hA.c (k:=0) rfl;refine jB (hs.push ax (cJ #[] 0) (dZ [] 0) s.toks rfl 0 λw' k h1 h2 h3=> .dict [] #[] 0 h1 h2 (of_decide_eq_true rfl) ⟨.nil,⟨0,λp hp=>(aU hp).elim⟩,iJ⟩ 0 (U h3 rfl)) λw' a1 a2 a3=> ?_;have go:=hl A hA env ρ w' _ _ a1 (he.ext a2) _ res e pos (λys s'=>cG (model X.prog X.w) A (sy s.heap.objs.size ys) (λu_ s''=>Q (.ref s.heap.objs.size) s'') (λu_ u_=>False) s') λw2 h2 s2 vs ys b1 b2 b3 e2=> ?_
 .induction hk:ks using zL with
  |nil=>
   subst hk;exact U (iL.mp h2.symm) (λΓ p hΓ hc=>wpAny_Dict_empty (go Γ p hΓ hc Γ p hΓ hc) Γ p hΓ)
  |cons a ks'=>
   exact cL hk (WI h1 h2 (U hk (λq=>(by injection q))) hlen go)
 .have ZJ:=(b2.ρ h.n (bN _)).trans a3;exact cL ZJ (eU<|DV ax hc b1 b3 e2 λh3 s3 c1 c2 c3 e3=>hQ w2 h3 s3 _ _ c1 (c2.symm▸((a2.trans b2).trans c3)) (U c2 (.ref h.n (aQ (bN _) b2.ou))) e3)
end
section
variable {X:dz} {w:Wd} {h:ae7} {s:Shared} {A:Around}
theorem DW (c:(d==ly)=aj) (a:s.heap.get? d=O (cJ es ep))
 (e:Q (.ref s.heap.objs.size) {s with heap:=s.heap.push {cls:= .type "dict_keyiterator",data:= .fields #[.ref d,.int 0 0,.int es.size 0,.int ep 0]}}):wpAny (model X.prog X.w) A (pyIter (.ref d)) Q E s:=by
 have b:s.TypeIs (.ref d) "dict":=bW _ a rfl;have f:kc d=pure ():=by unfold kc;refine U c ?_;rfl
 refine wpAny_pyIter_slot b Av (bH Av b F.entry_dict_iter ?_ (F.args_dict_iter_1 _));refine(?_:wpAny _ _ ((Builtin.Dict.notOrdered "__iter__" ⟨[.ref d],[]⟩>>=λg=>pure (iu d))>>=_) _ _ s);refine aq (aq (ng b (av ((?_:wpAny _ _ (kc d>>=_) _ _ s)))));exact U f (bp (aq (gJ a rfl (aq (ud a rfl (aq (dY (av ⟨_,rfl,"dict_keyiterator",_,(bW _ (aJ _ rfl) rfl),oi.lookup,e⟩))))))))
theorem St.one (f:bw X) (d:St X w h s) (c:∀a∈X.tabs,a<X.h₀.objs.size) ob t (g:oZ X s.heap w h.n (s.heap.push ob) w h.n->SrcR X (s.heap.push ob) w h.n s.heap.objs.size a):
 ∃S,St X w h {s with heap:=s.heap.push ob,toks:=t}/\Ext X cV w h.n s w h.n {s with heap:=s.heap.push ob,toks:=t}/\Aq X (s.heap.push ob) w h.n S (.ref s.heap.objs.size) (gg a)/\∀b,S b->s.heap.objs.size<=b:=by
 refine aC (d.junk f ob t) λe i=>qL (λb=>b=s.heap.objs.size) i e ⟨λb hb=> ?_,.one _ _ (λb=>Iff.rfl) (g e.dW)⟩ (λb hb=>cX hb.symm);subst hb;exact iX (l6 d (bu _)) d.size (λhm=>absurd (c _ hm) (bD.mpr d.size))
theorem Ic (r:bw X) (m:10<=X.h₀.objs.size) (d:∀a∈X.tabs,a<X.h₀.objs.size) (j:St X w h s) (hv:VR X s.heap w h.n v y) (e:JJ v h k=O res)
 (u:∀s' S I F,St X w h s'->Ext X cV w h.n s w h.n s'->Aq X s'.heap w h.n S I F->(∀b,S b->s.heap.objs.size<=b)->F.t=0->k F h=O res->Q I s'):wpAny (model X.prog X.w) A (pyIter y) Q (λp p=>False) s:=by
 have e:(ah (ah (ah
  (look v h λo h=>ah (ah au (k (gg (rV v.n (len o.kvs) 0 o.c)) h) (ak o.t 2)) (k (gg (gn v.n 0)) h) (ak o.t 1))
  (k (gg (dQ (l5 (λc=>vStr [c]) v.l))) h) (ak v.t 3)) (k (gg (dQ (l5 aX v.l))) h) (ak v.t 4)) (k (gg (dQ v.xs)) h) (ak v.t 5):Option Res)=O res:=e
 refine sE e (λK e=> ?_) λp e=>sE e (λL e=> ?_) λp e=>sE e (λM e=> ?_) λp e=> ?_
 .refine fH (hv.g9 (aH K)) λt items ep x q D ht hn z=>U q (lF (items:=items) (gc _ x rfl _ rfl) (qN (j.one r d {cls:= .type "tuple_iterator",data:= .fields #[.ref t,.int 0 0]} s.toks (a:=dQ v.xs) λE=> .tup t items ep 0 D ht (az _ x) (f7 _ (aJ _ rfl) rfl rfl) v.xs (z.mono E)) λS f g a3 i=> ?_));exact u _ S _ _ g f a3 i rfl e
 .refine oE (hv.jL (aH L)) λb t l q hn=> ?_;rw [l,p9,jG] at e;refine U q (KBw.pyIter_bytes (pH (j.one r d {cls:= .type "bytes_iterator",data:= .fields #[.bytes b t,.int 0 0]} s.toks (a:=dQ ((b.toList.drop 0).map λc=>aX c.toNat)) λE=> .bytes b t 0 (f7 _ (aJ _ rfl) rfl rfl)) λS a3 g f i=> ?_));exact u _ S _ _ g f a3 i rfl e
 .refine aL (hv.qa (aH M)) λt hn q=> ?_;rw [p9] at e;refine U q ?_
  induction J:(⟨v.l.toArray⟩:Str).cps.all (·<128) using zB with
  |true=>
   refine wpAny_pyIter_ascii J (pH (j.one r d {cls:= .type "str_ascii_iterator",data:= .fields #[.str ⟨v.l.toArray⟩ t,.int 0 0]} s.toks (a:=dQ (((⟨v.l.toArray⟩:Str).cps.toList.drop 0).map λc=>vStr [c])) λE=> .Cj _ t 0 (f7 _ (aJ _ rfl) rfl rfl)) λS a3 g f i=> ?_);exact u _ S _ _ g f a3 i rfl e
  |false=>
   refine wpAny_pyIter_wide J (pH (j.one r d {cls:= .type "str_iterator",data:= .fields #[.str ⟨v.l.toArray⟩ t,.int 0 0]} s.toks (a:=dQ (((⟨v.l.toArray⟩:Str).cps.toList.drop 0).map λc=>vStr [c])) λE=> .Ck _ t 0 (f7 _ (aJ _ rfl) rfl rfl)) λS a3 g f i=> ?_);exact u _ S _ _ g f a3 i rfl e
 refine dF (dj e) λo e P R=> ?_;have B:=(j.rep _ o R).2;refine gb (hv.eu P) λhy hi=>U hy (sE e (λh1 e=> ?_) λp e=> ?_)
 .refine jK (B.lY (aH h1)) λitems ep x D hn z=>iI (items:=items) (gc _ x rfl _ rfl) (pH (j.one r d {cls:= .type "list_iterator",data:= .fields #[.ref (w.ρ v.n),.int 0 0]} s.toks (a:=gn v.n 0) λp=> .list v.n 0 hi (f7 _ (aJ _ rfl) rfl rfl)) λS a3 g f i=> ?_);exact u _ S _ _ g f a3 i rfl e
 .refine aC (dM e) λe h2=>iY (B.kP (aH h2)) λG ep C D x hn V=> ?_;rw [len_eq,V.all.length,aM] at e;refine DW (jM j m D) x (pH (j.one r d {cls:= .type "dict_keyiterator",data:= .fields #[.ref (w.ρ v.n),.int 0 0,.int G.size 0,.int ep 0]} s.toks (a:=rV v.n G.size 0 o.c) λp=> .keys v.n G.size 0 o.c hi (f7 _ (aJ _ rfl) rfl (U C rfl))) λS a3 g f i=> ?_);exact u _ S _ _ g f a3 i rfl e
theorem AH.e (ax:bw X) (hbase:10<=X.h₀.objs.size) (htab:∀a∈X.tabs,a<X.h₀.objs.size) (ha:cQ X r n b ns a x) tp:AH X r n b ns tp (iE a) x:=by
 intro A hA env ρ w h s hs he k res e Q hQ;exact ha A hA env ρ w h s hs he _ res e _ λw1 h1 s1 v y hs1 x1 hv e1=>eU<|Ic ax hbase htab hs1 hv e1 λs2 S iv it a1 a2 a3 a4 a5 e2=>hQ w1 h1 s2 S iv it a1 (x1.trans a2) a3 (λb hb=>aI x1.size (a4 b hb)) (.inl a5) (λq=>by rw [a5] at q;exact nn q rfl) e2
end
theorem DX n (a c):vR (n+1) a c=mw a::vR n (a+c) c:=rfl
theorem Ln (n a):NO (n+1) a=aX a::NO n (a+1):=rfl
theorem Bd X:∀n a c,o7 X c (vR n a c) a/\(vR n a c).length=n:=by
 intro n
 induction n with
 |zero=>
  intro a c;exact⟨.nil a,rfl⟩
 |succ n b=>
  intro a c;exact gb (b (a+c) c) λh1 h2=>U (DX ..) (⟨.cons _ _ _ (λg w n t=> .mw a t) h1,by simp [h2]⟩)
theorem TQ X:∀n a,o7 X 1 (NO n a) (a:Int)/\(NO n a).length=n:=by
 intro n
 induction n with
 |zero=>
  intro a;exact⟨.nil _,rfl⟩
 |succ n b=>
  intro a;exact gb (b (a+1)) λh1 h2=>U (Ln ..) (⟨.cons _ _ _ (λg w n t=> .nat a t) (by simpa using h1),by simp [h2]⟩)
theorem DY (a:0<c):((x+c).fdiv c).toNat=(if 0<=x then x/c+1 else 0:Int).toNat:=by
 refine U (oV _ (Int.le_of_lt a)) (U (congrArg (x+ ·) (Int.one_mul c).symm) (U (Int.add_mul_ediv_right _ _ (Int.ne_of_gt a)) ?_));split
 .rfl
 .rename_i h;have:x/c<0:=Int.ediv_neg_of_neg_of_pos (Int.lt_of_not_ge h) a;refine U (Int.toNat_of_nonpos this) ?_;rfl
theorem pN:0<=cN a b c:=by
 refine(?_:0<=(if 0<c then(if a<b then(b-a-1)/c+1 else 0) else(if b<a then(a-b-1)/(-c)+1 else 0)));by_cases d:0<c
 .refine U (if_pos d) ?_;by_cases q:a<b
  .exact U (if_pos q) (Int.le_add_one (Int.ediv_nonneg (JA q) (Int.le_of_lt d)))
  .exact U (if_neg q) (Int.le_refl 0)
 .refine U (if_neg d) ?_;by_cases q:b<a
  .exact U (if_pos q) (Int.le_add_one (Int.ediv_nonneg (JA q) (Int.neg_nonneg_of_nonpos (kH.mp d))))
  .exact U (if_neg q) (Int.le_refl 0)
theorem Be (hc:c≠0):(vS a b c:Int)=cN a b c:=by
 refine cL (Int.toNat_of_nonneg (pN (a:=a) (b:=b) (c:=c))) (congrArg (λn:Nat=>(n:Int)) ?_);unfold vS cN;by_cases h:0<c
 .have e:=decide_eq_true h;refine U e ((?_:((b-a+c-1).fdiv c).toNat=_));have e2:b-a+c-1=(b-a-1)+c:=Int.add_right_comm (b-a) c (-1);refine U e2 (U (DY h) (U (if_pos h) ?_));by_cases hab:a<b
  .exact U (if_pos hab) (U (if_pos (JA hab)) rfl)
  .exact U (if_neg hab) (U (if_neg λq=>hab (Rw q)) rfl)
 .have e:=decide_eq_false h;have hlt:=Int.lt_iff_le_and_ne.mpr ⟨kH.mp h,hc⟩;refine U e (U (decide_eq_true hlt) ((?_:((a-b-c-1).fdiv (-c)).toNat=_)));have e2:a-b-c-1=(a-b-1)+ -c:=Int.add_right_comm (a-b) (-c) (-1);refine U e2 (U (DY (Int.neg_pos_of_neg hlt)) (U (if_neg (show ¬c>0 by exact h)) ?_));by_cases hab:a>b
  .exact U (if_pos hab) (U (if_pos (JA hab)) rfl)
  .exact U (if_neg hab) (U (if_neg λq=>hab (Rw q)) rfl)
theorem Cr (e:a.natAbs<=1000000000000) (hb:b.natAbs<=1000000000000):cN a b c<=2000000000000:=by
 have d:∀x y z:Int,z.natAbs<=1000000000000->x.natAbs<=1000000000000->x<z->(z-x-1)/y+1<=2000000000000:=λx y z hz hx h=>tB (eg (Int.ediv_le_self y (JA h)) (tC (Int.sub_le_sub (nab hz).2 (nab hx).1) 1)) 1;refine(?_:(if 0<c then(if a<b then(b-a-1)/c+1 else 0) else(if b<a then(a-b-1)/(-c)+1 else 0))<=_);by_cases f:0<c
 .refine U (if_pos f) ?_;by_cases q:a<b
  .exact U (if_pos q) (d _ _ _ hb e q)
  .exact U (if_neg q) (by decide)
 .refine U (if_neg f) ?_;by_cases q:b<a
  .exact U (if_pos q) (d _ _ _ e hb q)
  .exact U (if_neg q) (by decide)
theorem fits (h: -9000000000000<=x) (h':x<=9000000000000):uf x=true:=cO.mpr ⟨decide_eq_true (eg (by decide) h),decide_eq_true (vL h' (by decide))⟩
theorem Lo (h:x.natAbs<=1000000000000):uf x=true:=fits (eg (by decide) (nab h).1) (eg (nab h).2 (by decide))
theorem xj (e:a.natAbs<=1000000000000) (hb:b.natAbs<=1000000000000) (d:c.natAbs<=1000000000000):p5 a b c=true:=by
 unfold p5;refine U (Lo e) (U (Lo hb) (U (Lo d) (U (fits (eg (by decide) pN) (eg (Cr e hb) (by decide))) (cD.mpr (.inr (Hz (λf=> ?_) λf=> ?_))))))
 .exact fits (eg (by decide) (tD (nab hb).1 (tC (nab d).1 1))) (eg (tD (nab hb).2 (tC (nab d).2 1)) (by decide))
 .exact fits (eg (by decide) (tD (nab hb).1 (tB (nab d).1 1))) (eg (tD (nab hb).2 (tB (nab d).2 1)) (by decide))
section
variable {X:dz} {w:Wd} {n:Nat} {g:Heap}
theorem Ct v:(dS v).natAbs=v.n:=by
 unfold dS
 induction ak v.s 0 using zB with
 |true=>exact Int.natAbs_natCast v.n
 |false=>show(Int.negOfNat v.n).natAbs=v.n;rcases v.n<;>rfl
theorem nk (h:small v=H):(dS v).natAbs<=1000000000000:=U (Ct ..) (aA h)
structure wz (X:dz) (ys:List Value) (l:List V) (a b c:Int):Prop where
 ha:a.natAbs<=1000000000000
 hb:b.natAbs<=1000000000000
 hc:c.natAbs<=1000000000000
 ne:c≠0
 val:o7 X c l a
 len:(l.length:Int)=cN a b c
 args:(∃u,ys=[.int b u]/\a=0/\c=1)\/(∃t u,ys=[.int a t,.int b u]/\c=1)\/∃t u v,ys=[.int a t,.int b u,.int c v]
theorem zq (e:xQ u v=O l):ak u.t 2=H/\ak v.t 2=H/\small u=H/\small v=H/\o7 X 1 l (dS u)/\(l.length:Int)=cN (dS u) (dS v) 1:=by
 refine aC (dM e) λe h1=>aC (dM e) λe h2=>aC (dM e) λe f=>aC (dM e) λe i=>A1 h1 h2 f i ?_
 induction a:ak (aG u.s v.s) 0 using zB with
 |true=>
  rw [a] at e;have e:=e;injection e with e;subst e
  have d:=aH a;have hu:dS u=(u.n:Int):=by unfold dS;refine U (show u.s=0 by exact Nat.eq_zero_of_add_eq_zero_right d) ?_;rfl
  have hv:dS v=(v.n:Int):=by unfold dS;refine U (show v.s=0 by exact Nat.eq_zero_of_add_eq_zero_left d) ?_;rfl
  refine gb (TQ X (fq v.n u.n) u.n) λb c=>U hu (U hv (⟨b,(U c ?_)⟩));unfold cN;refine U (if_pos (Int.one_pos)) ((?_:((v.n-u.n:Nat):Int)=_));by_cases q:(u.n:Int)<v.n
  .exact(U (if_pos q) (U (Int.ediv_one _) (U (Int.sub_add_cancel _ _) (Int.ofNat_sub (gO (Int.ofNat_lt.mp q))))))
  .exact(U (if_neg q) (congrArg bf (mu (qE.mp (kH.mp q)))))
 |false=>
  rw [a] at e;have e:=e;injection e with e;subst e
  exact aC (Bd X (vS (dS u) (dS v) 1) (dS u) 1) λc b=>⟨b,by refine U c ?_;exact Be (rO Int.zero_ne_one)⟩
theorem Ie (hu:VR X g w n u y) (hz:VR X g w n v z) (hx:VR X g w n x z') (e:JG u v x=O l):∃a b c,wz X [y,z,z'] l a b c:=by
 refine aC (dM e) λe h1=>aC (dM e) λe h2=>aC (dM e) λe m=>aC (dM e) λe o=>aC (dM e) λe p=>aC (dM e) λe r=>fE (hu.cS h1) λt B=>fE (hz.cS h2) λC D=>fE (hx.cS m) λf E=> ?_
 induction i:ak x.n 0 using zB with
 |true=>rw [i] at e;exact fn e
 |false=>
  rw [i] at e;have d:dS x≠0:=λq=>fU i (cL (Ct ..) (U q rfl));refine aC (Bd X (vS (dS u) (dS v) (dS x)) (dS u) (dS x)) λj k=> ?_;rw [(aF e)] at k j;exact⟨dS u,dS v,dS x,nk o,nk p,nk r,d,k,by refine U j ?_;exact Be d,.inr (.inr ⟨t,C,f,by exact U B (U D (U E rfl))⟩)⟩
theorem zu (hv:ef X g w n vs ys) (e:xR vs=O l):∃a b c,wz X ys l a b c:=by
 induction vs using zL with
 |nil=>exact fn e
 |cons u j=>
  induction j using zL with
  |nil=>
   exact dN hv.tL λy q hu=>yx (zq (X:=X) (show xQ (aX 0) u=O l from e)) λd k h2 k f i=>fE (hu.cS h2) λt e=>⟨0,dS u,1,by decide,nk f,by decide,by exact rO Int.zero_ne_one,i,d,.inl (f7 t (e▸q) rfl rfl)⟩
  |cons v m=>
   induction m using zL with
   |nil=>
    exact vP hv.v9 λy z q hu hz=>yx (zq (X:=X) e) λd h1 h2 o f i=>fE (hu.cS h1) λt e=>fE (hz.cS h2) λp r=>⟨dS u,dS v,1,nk o,nk f,by exact aA rfl,by exact rO Int.zero_ne_one,i,d,.inr (.inl (mZ t p (e▸r▸q) rfl))⟩
   |cons x B=>
    induction B using zL with
    |nil=>
     exact kJ hv.cons_of λy E C q hu=>vP C.v9 λz F D hz hx=>U q (U D (Ie hu hz hx e))
    |cons=>exact fn e
end
section
variable {X:dz} {w:Wd} {h:ae7} {s:Shared} {A:Around}
theorem Lp (j:bw X) (i:∀a∈X.tabs,a<X.h₀.objs.size) (o:St X w h s) (hv:ef X s.heap w h.n vs ys) (e:xR vs=O l)
 (p:∀s' S k,St X w h s'->Ext X cV w h.n s w h.n s'->Aq X s'.heap w h.n S k (gg (dQ l))->(∀b,S b->s.heap.objs.size<=b)->Q k s'):
 wpAny (model X.prog X.w) A (call (.type "range") ys) (λq r=>wpAny (model X.prog X.w) A (pyIter q) Q (λf f=>False) r) (λf f=>False) s:=by
 refine VE (zu hv e) λa b c R=> ?_;have d:∀t u v tk,wpAny (model X.prog X.w) A (pyIter (.ref s.heap.objs.size)) Q (λf f=>False) {s with heap:=s.heap.push {cls:= .type "range",data:= .fields #[.int a t,.int b u,.int c v]},toks:=tk}:=by
  intro t u v tk;refine aC (o.junk j {cls:= .type "range",data:= .fields #[.int a t,.int b u,.int c v]} tk) λx y=>wpAny_pyIter_range (IsRange.new s.heap a b c t u v) (xj R.ha R.hb R.hc) ?_;refine qN (y.one j i {cls:= .type "range_iterator",data:= .fields #[rawInt a,rawInt (cN a b c),rawInt c]} tk (a:=dQ l) λf=> .range a c l R.val (by
   refine U R.len ?_;exact aJ _ rfl)) λS z B C D=> ?_
  exact p _ S _ B (x.trans z) C λb hb=>aI (by show s.heap.objs.size<=(s.heap.push _).objs.size;refine U (bJ ..) ?_;exact gV _) (D b hb)
 rcases R.args with⟨u,rfl,rfl,rfl⟩|⟨t,u,rfl,rfl⟩|⟨t,u,v,rfl⟩
 .exact call_range_1 (d _ _ _ _)
 .exact call_range_2 (d _ _ _ _)
 .refine call_range_3 R.ne (d _ _ _ _) (.inl (oU ?_));by_cases m:c.natAbs=0
  .refine U m ?_;decide+kernel
  .have:c.natAbs.log2<64:=(Nat.log2_lt m).mpr (i0 R.hc (of_decide_eq_true rfl));lia
end
section
variable {X:dz} {r:Ap} {n b:Nat} {ns:List (Str×aN)} {G:Str->Option V}
theorem Bf (e:jR G ns m fe=H):∃x p v,fe= .Name x p/\aZ x=H/\bg (nm x) ns=O .globalImplicit/\G x=O v/\v.t=9/\v.n=m:=by
 unfold jR at e
 induction hb:SW G ns fe using zO with
 |none=>rw [hb] at e;exact ff e
 |some j=>
  rw [hb] at e;refine cL (aH e) ?_;unfold SW at hb;refine nH (RX hb) λx p hb he=> ?_
  induction hx:aZ x using zB with
  |false=>rw [hx] at hb;exact fn hb
  |true=>
   induction hk:bg (nm x) ns using zO with
   |none=>rw [hx,hk] at hb;exact fn hb
   |some k=>
    rw [hx,hk] at hb
    induction k using dw with
    |globalImplicit=>
     induction hv:G x using zO with
     |none=>rw [hv] at hb;exact fn hb
     |some v=>
      rw [hv] at hb;exact gb (dM hb) λa hb=>⟨x,p,v,he,hx,hk,hv,aH a,aF hb⟩
    |_=>exact fn hb
theorem Lq (d:jT X G) (e:jR G ns m fe=H) (f:fO n b A) (g:St X w h s) (he:eX X env ns ρ w h.n s)
 (i:∀c s',St X c h s'->Ext X cV w h.n s c h.n s'->Q (oK m) s'):cG (model X.prog X.w) A (eval fe env) Q (λa a=>False) s:=by
 obtain⟨x,p,v,rfl,hx,hk,j,k,hm⟩:=Bf e;refine cQ.glob (r:=λa a a a=>au) (n:=n) (b:=b) d x p hx hk v j A f env ρ w h s g he (λu h'=>O ⟨ρ,u,h'⟩) ⟨ρ,v,h⟩ rfl Q λc h' s' u y l o a3 q=> ?_;cases q;have hy:y=oK m:=by
  refine cL hm ?_
  induction a3 using Mine.VR.casesOn<;>first|rfl|exact nn k rfl
 exact U hy (i c s' l o)
theorem DZ (a:∀o m p,fe≠.Attribute o m p):eval (.Call fe args [] pos) env=(do callWith pos (<-eval fe env) [] (backTo pos (starEach args env)) []):=by
 rcases fe<;>first|rfl|exact absurd rfl (a _ _ _)
theorem GN (e:jR G ns m fe=H):∀o a p,fe≠.Attribute o a p:=by
 obtain⟨x,p,v,rfl,_⟩:=Bf e;exact λc c c q=>(by injection q)
theorem qg (i:jT X G) (e:jR G ns m fe=H) (hl:AE X r n b ns l args) (a:args.any br=aj) (d:fO n b A) (j:St X w h s) (he:eX X env ns ρ w h.n s) pos
 (o:l.f r ρ h k=O res) (p:KA X w h.n s k res (λys s'=>cG (model X.prog X.w) A (call (oK m) ys) Q (λc c=>False) s')):
 cG (model X.prog X.w) A (eval (.Call fe args [] pos) env) Q (λc c=>False) s:=U (DZ (GN e)) (ay (Lq i e d j he λB C q g=>(DK (first:=[]) hl a d q (he.ext g) pos o λt h2 u vs ys v x y z=>⟨tT _ (wu m) _,(p t h2 u vs ys v (g.trans x) y z)⟩)))
theorem AH.range (j:bw X) (c:∀a∈X.tabs,a<X.h₀.objs.size) (m:jT X G) (o:jR G ns 1 fe=H) (hl:AE X r n b ns l args) (d:args.any br=aj) tp pos:AH X r n b ns tp (EW l) (.Call fe args [] pos):=by
 intro A p env ρ w h s t he k res e Q u;refine qg m o hl d p t he pos e λv h2 M vs ys y i z B=>aL (bC B) λP C D=>aW (eU (Lp j c y z D (Q:=Q) λE S F I J K L=> ?_)) (λg g q=>eU q) λg g f=>f;exact u v h2 E S F _ I (i.trans J) K (λx hx=>aI i.size (L x hx)) (.inl rfl) (λq=>nn q rfl) C
theorem AH.zip (ax:bw X) (gx:jT X G) (eb:jR G ns 9 fe=H) (C:cQ X r n b ns a x) (hc:cQ X r n b ns c y) (p:[x,y].any br=aj) pos:AH X r n b ns H (V3 a c) (.Call fe [x,y] [] pos):=by
 intro A hA env ρ w h s hs he k res e Q hQ;have D:br x=aj/\br y=false:=by
  simp only [gi,List.any_nil,pT,iz] at p;exact p
 have e:(dR a (dR c kh)).f r ρ h (λvs h=>match vs with
  |[x,y]=>gR x h λm h=>gR y h λm h=>new (EO x.n 0 y.n 0) h λz h=>look z h λo h=>ah au (k (yH z.n) h) (ak o.t 5)
  |_=>au)=O res:=e
 refine qg gx eb (.cons D.1 C (.cons D.2 hc .nil)) p hA hs he pos e λF h2 d vs ys I b2 b3 j=>HA (v9 j) λu v B=> ?_;subst B;intro j;refine vP b3.v9 λyu yv B=> ?_;subst B;intro hu hv;refine gQ (fR j) λo1 j u6 J t1=>gQ (fR j) λo2 j v6 K t2=>gb (hu.eu u6) λL M=>gb (hv.eu v6) λP R=>U L (U P (sS (I.listAt J t1) λi1 p1 g1 n1 m m=>sS (I.listAt K t2) λi2 p2 g2 n2 m m=> ?_));have j:look (bP h2.n) ⟨HT.ins (EO u.n 0 v.n 0) h2.l h2.n,h2.n+1⟩ (λo h=>ah au (k (yH h2.n) h) (ak o.t 5))=O res:=j;refine dF (dj j) λo j m ho=>aC (dM j) λj h5=>(?_:cG _ _ (call (.type "zip") _) _ _ _);refine eU<|call_zip_2 (xs:=i1) (ys:=i2) (gc _ g1 rfl _ rfl) (gc _ g2 rfl _ rfl) λh' z1 z2 z3 z4 z5 z6 z7=> ?_
 refine gb (I.new ax (o:=EO u.n 0 v.n 0) (b:=d.heap.objs.size+4) (own:=λa=>decide (d.heap.objs.size<=a)&&decide (a<d.heap.objs.size+5)) (by simp) (s':={d with heap:=h'}) (U z6 (d8 (fJ (jF (fT d))) 5))
  (λa C=>by
   simp only [aP,decide_eq_true_eq] at C;exact⟨C.1,by show _<h'.objs.size;refine U z6 ?_;exact C.2⟩) (λa ob e=>z7 a ob e) rfl rfl 0 _ rfl
  (λkk q1 E q3=>by
   refine .zip u.n 0 v.n 0 (d.heap.objs.size+2) (d.heap.objs.size+3) d.heap.objs.size (d.heap.objs.size+1) .none .none (U E q1) (by simp) (by simp) (by simp) (by simp) (qK (Z.off_ne (fJ (jF (fT d))) 2 3 rfl) (U E (Z.off_ne (fJ (jF (fT d))) 2 4 rfl)) (U E (Z.off_ne (fJ (jF (fT d))) 3 4 rfl)) (Nat.ne_add_one (fJ (jF (fT d)))))
    (qK (cK M) (cK R) (cj M) (cj R)) (U E z1) z2 z3 (U (kk.ρ u.n M) z4) (U (kk.ρ v.n R) z5))) λc1 c2=> ?_
 refine eU<|wpAny_pyIter_zip (s:={d with heap:=h'}) z1 (hQ _ _ _ (λm=>False) _ (yH h2.n) c1 (b2.trans c2) ⟨λb hb=>hb.elim, ?_⟩ (λb hb=>hb.elim) (.inr rfl) (λm=>bW o ho (aH h5)) j)
 have:=GJ.zip (X:=X) (g:=h') (w:=⟨λi=>if i=h2.n then d.heap.objs.size+4 else F.ρ i,λa=>if(decide (d.heap.objs.size<=a)&&decide (a<d.heap.objs.size+5))=H then O h2.n else F.role a,λi=>if i=h2.n then 0 else F.ug i⟩) (n:=h2.n+1) (S:=λm=>False) h2.n (bN _) (λm q=>q);simpa using this
end
noncomputable abbrev xm (t:Addr):Obj:={cls:= .type "tuple_iterator",data:= .fields #[.ref t,.int 0 0]}
noncomputable abbrev rz (a:Addr):Obj:={cls:= .type "enumerate",data:= .fields #[.none,.bool aj,.ref a,rawInt 0,.none,.none]}
theorem Lr t items ep:
 Meets (Builtin.«enumerate.__new__» ⟨[.type "enumerate",.ref t],[]⟩) (λf R s=>s.heap.get? t=O (gh items ep)/\R (.ok (.ret (.ref (s.heap.push (xm t)).objs.size))) {s with heap:=(s.heap.push (xm t)).push (rz s.heap.objs.size)}):=
 .of_wp λprog w A R s h=>by
  obtain⟨hp,g,d,tk,os⟩:=s;refine aC h λh hl=> ?_;have a:=sub_enumerate;have c:Heap.IsTuple (fT ⟨hp,g,d,tk,os⟩) t items:=gc _ hl rfl ep rfl;wp_walk using wpAny_loadPart' hl;refine wpAny_stack_any λi=>Kh λe=> ?_;rcases e<;>(wp_walk using wpAny_loadPart' hl,lF c;exact bW _ rfl h)
section
variable {X:dz} {r:Ap} {n b:Nat} {ns:List (Str×aN)} {G:Str->Option V} {w:Wd} {h:ae7} {s:Shared} {A:Around}
theorem AN {items} (hl:s.heap.get? t=O (gh items ep))
 (q:Q (.ref (s.heap.objs.size+1)) {s with heap:=(s.heap.push (xm t)).push (rz s.heap.objs.size)}):wpAny (model prog ww) A (call (.type "enumerate") [.ref t]) Q E s:=by
 refine callType_new F.called_enumerate rfl (F.typeCall_enumerate_1 _) (F.newCall_enumerate_1 _) (λobj=>uh obj _) F.entry_enumerate_new (Lr t items ep) ⟨hl, ?_⟩;have hz:(s.heap.push (xm t)).objs.size=s.heap.objs.size+1:=bJ ..;refine(?_:_/\_);refine U hz (⟨(bW (rz s.heap.objs.size) ?_ rfl),q⟩);have:=aJ (s.heap.push (xm t)) (o:=rz s.heap.objs.size) rfl;rw [hz] at this;exact this
theorem AH.enum (C:bw X) (m:∀a∈X.tabs,a<X.h₀.objs.size) (L:jT X G) (M:jR G ns 10 fe=H) (P:cQ X r n b ns a x) (g:[x].any br=aj) pos:AH X r n b ns H (RM a) (.Call fe [x] [] pos):=by
 intro A R env ρ w h s S he k res e Q hQ;have y:br x=false:=by
  simp only [gi,List.any_nil,pT] at g;exact g
 have e:(dR a kh).f r ρ h (λvs h=>match vs with
  |[x]=>ah au (k (vU 0 (dQ x.xs)) h) (ak x.t 5)
  |_=>au)=O res:=e
 refine qg L M (.cons y P .nil) g R S he pos e λD h2 d vs ys v E b3 p=>dN (tL p) λu j=> ?_;subst j;intro p;refine dN b3.tL λyu j=> ?_;subst j;intro hu;refine aC (dM p) λp h5=>fH (hu.g9 (aH h5)) λt items ep F hy hr ht hn z=>U hy ((?_:cG _ _ (call (.type "enumerate") _) _ _ _));refine eU<|AN F (aC (v.junk C (xm t) d.toks) λI c1=>aC (c1.junk C (rz d.heap.objs.size) d.toks) λJ d1=> ?_)
 have K:((d.heap.push (xm t)).push (rz d.heap.objs.size)).get? (d.heap.objs.size+1)=O (rz d.heap.objs.size):=by
  have:=aJ (d.heap.push (xm t)) (o:=rz d.heap.objs.size) rfl;rw [(bJ ..)] at this;exact this
 refine eU<|wpAny_pyIter_enum (i:=0) (old:= .none) K ?_
 have own:∀c,(c=d.heap.objs.size+1\/c=d.heap.objs.size)->D.role c=au/\X.h₀.objs.size<=c/\c∉X.tabs:=λc B=>by
  have l:d.heap.objs.size<=c:=by rcases B with rfl|rfl<;>omega
  exact iX (l6 v l) (aI v.size l) (λhm=>absurd (m _ hm) (bD.mpr (aI v.size l)))
 refine hQ D h2 _ (λc=>c=d.heap.objs.size+1\/c=d.heap.objs.size) _ (vU 0 (dQ u.xs)) d1 (E.trans (I.trans J)) ⟨own, ?_⟩ (λc B=> ?_) (.inr rfl) (λq=>nn q rfl) p
 .exact .enum (d.heap.objs.size+1) d.heap.objs.size 0 .none t items ep u.xs (λc=>Iff.rfl) (Nat.succ_ne_self _) K hr ht (az _ (az _ F)) (f7 _ (az _ (aJ _ rfl)) rfl rfl) (by simpa using z.mono (I.trans J).dW)
 .have:=E.size;rcases B with rfl|rfl<;>omega
end
section
variable {X:dz} {r:Ap} {n b:Nat} {ns:List (Str×aN)} {G:Str->Option V} {w:Wd} {h:ae7} {s:Shared} {A:Around}
theorem rA {e} (h:kM e=aj):qF op e=false:=by
 rcases e<;>first|rfl|exact ft h
theorem TS {M} {l op₁ op₂ ops r₁ r₂ rs pos whole}
 (h:cG M A (eval l env) (λa s₁=>cG M A (testChain pos a (op₁::op₂::ops) (eval r₁ env::eval r₂ env::evalEach rs env)) Q E s₁) E s) (hm:lastMarks (op₁::op₂::ops) (r₁::r₂::rs)=aj):
 cG M A (isTrue (.Compare l (op₁::op₂::ops) (r₁::r₂::rs) pos) env whole) Q E s:=by
 refine(?_:cG M A (do testChain pos (<-eval l env) (op₁::op₂::ops) (markedEach (op₁::op₂::ops) (r₁::r₂::rs) (evalEach (r₁::r₂::rs) env))) Q E s);exact U (markedEach_of_false _ _ _ hm) (ay h)
theorem WJ {M} {r o}
 (h:cG M A r (λb e=>cG M A (compareOp op a b) (λc f=>cG M A (truthy c) (λt d=>if t then cG M A (testChain pos b (i::ops) (o::rs)) Q E d else Q aj d) E f) E e) E s):
 cG M A (testChain pos a (op::i::ops) (r::o::rs)) Q E s:=by
 show cG M A (do
  let j<-holding [a] r
  standAt pos
  let c<-holding [a,j] (compareOp op a j)
  release [a,j] [c]
  if<-holding [c,j] (truthy c) then testChain pos j (i::ops) (o::rs) else pure aj) Q E s
 refine ay (bh (aW h (λb e k=>ay (bG (ay (bh (aW k (λc f l=>
  ay (eU (wpAny_release (ay (bh (aW l (λt d g=> ?_) λm m x=>x)))))) λm m x=>x))))) λm m x=>x))
 induction t using zB with
 |false=>exact aO g
 |true=>exact g
theorem WK {M} {a} {r}
 (h:cG M A r (λb d=>cG M A (compareOp op a b) (λc e=>cG M A (truthy c) Q E e) E d) E s):cG M A (testChain pos a [op] [r]) Q E s:=by
 show cG M A (do
  let j<-holding [a] r
  standAt pos
  let c<-operate [a,j] (compareOp op a j)
  holding [c] (truthy c)) Q E s
 exact ay (bh (aW h (λb d f=>ay (bG (ay (oN (aW f (λc e g=>bh g) λi i x=>x))))) λi i x=>x))
theorem j0.ZN (hf:nO X b f op) (hg:nO X b g Zx) pos (h1:kM r1=aj) (h2:kM r2=aj) (hx:cQ X r n b ns x l) (hy:cQ X r n b ns y r1) (hz:cQ X r n b ns z r2):
 j0 X r n b ns (RN f g x y z) (.Compare l [op,Zx] [r1,r2] pos):=by
 intro A hA env ρ w h s hs he k res e Q hQ;refine TS (hx A hA env ρ w h s hs he _ res e _ λw1 h1 s1 u u' hs1 x1 hu e1=> ?_) (rA h2);refine WJ (hy A hA env ρ w1 h1 s1 hs1 (he.ext x1) _ res e1 _ λw2 h2 s2 v v' hs2 x2 hv e2=>(eU (hf A n hA w2 h2 s2 hs2 u v u' v' (hu.mono x2.dW) hv _ res e2 _ λw3 h3 s3 c Jx x3 e3=>(eU (gI ?_)))))
 induction c using zB with
 |false=>
  exact hQ w3 h3 s3 aj Jx ((x1.trans x2).trans x3) e3
 |true=>
  exact WK (hz A hA env ρ w3 h3 s3 Jx (((he.ext x1).ext x2).ext x3) _ res e3 _ λw4 h4 s4 t t' Vs x4 ht e4=>(eU (hg A n hA w4 h4 s4 Vs v t v' t' ((hv.mono x3.dW).mono x4.dW) ht _ res e4 _ λw5 h5 s5 c ZO x5 e5=>(eU<|gI (hQ w5 h5 s5 c ZO ((((x1.trans x2).trans x3).trans x4).trans x5) e5)))))
theorem cQ.ZP i z (p pos):cQ X r n b ns (xC (mw (-i))) (.UnaryOp .USub (.Constant (.int i) z p) pos):=by
 intro A f env ρ w h s c he k res e Q d;have go:wpAny (model X.prog X.w) A (unaryOp .USub (.int i s.toks)) Q (λa a=>False) {s with toks:=s.toks+1}:=PyProof.Rows.neg_int ((d.ext rX).tok c.tok (VR.mw (-i) _) e);exact eU (wpAny_UnaryOp (λa a a=>go))
end
set_option backward.match.sparseCases false
structure l9 (X:dz) (K:Frag) (G:Str->Option V) (Ms:Nat->List (Nat×Nat)) (r:Ap) (n b:Nat):Prop where
 ax:bw X
 kx:Jw X K
 gx:jT X G
 hbase:10<=X.h₀.objs.size
 htab:∀a∈X.tabs,a<X.h₀.objs.size
 rk:Cg X r n
 mo:∀x,aZ x=H->Ci X K (Ms (nm x)) x
 om:∀x,aZ x=H->qu X b x (SS (nm x))
 vm:∀x,aZ x=H->xd X b x (SV (nm x))
 fl:∀x,aZ x=H->∀c,find c (Ms (aG (cM (nm x) 128) 1))≠au->X.fld c x
 Cu:∀ns a x g g' p p',jR G ns 0 g=H->jR G ns 7 g'=H->br x=aj->cQ X r n b ns a x->cQ X r n b ns (BX a) (.Call g [.Call g' [x] [] p'] [] p)
 yd:∀ns a c x y g g' p p',jR G ns 6 g=H->jR G ns 9 g'=H->br x=aj->br y=aj->cQ X r n b ns a x->cQ X r n b ns c y->cQ X r n b ns (yJ a c) (.Call g [.Call g' [x,y] [] p'] [] p)
 uX:∀ns o v l args m ap g p p',aZ m=H->nm m=nm "extend"->lV v=H->ak ap.endLine p.line=H->jR G ns 1 g=H->args.any br=aj->cQ X r n b ns o v->AE X r n b ns l args->
  cQ X r n b ns (vX o l) (.Call (.Attribute v m ap) [.Call g args [] p'] [] p)
section
variable {X:dz} {K:Frag} {G:Str->Option V} {Ms:Nat->List (Nat×Nat)} {r:Ap} {n b:Nat}
theorem Ot.bad x:Ot X r n b ns fm x:=λa a a a a a a a a a a e=>fn e
theorem j0.bad x:j0 X r n b ns qT x:=λa a a a a a a a a a a e=>fn e
theorem tR.bad op x:tR X r n b ns op qT x:=λa a a a a a a a a a a e=>fn e
theorem nT.bad x:nT X r n b ns qT x:=λa a a a a a a a a a a e=>fn e
theorem AH.bad tp x:AH X r n b ns tp HF x:=λa a a a a a a a a a a e=>fn e
theorem qh (a:∀e,cQ X r n b ns (f e) e):∀{es},es.any br=aj->AE X r n b ns (Gp f es) es:=by
 intro es
 induction es with
 |nil=>
  intro _;exact .nil
 |cons e es c=>
  intro h;rw [gi,iz] at h;exact .cons h.1 (a e) (c h.2)
theorem xo:∀{ks} {es},(∀e,O e∈ks->cQ X r n b ns (f e) e)->(∀e∈es,cQ X r n b ns (f e) e)->lW ks es=H->R7 X r n b ns (mkPairs f ks es) ks es:=by
 intro ks
 induction ks with
 |nil=>
  intro es h1 h2 h
  induction es using zL with
  |nil=>exact .nil
  |cons=>exact ff h
 |cons k ks a=>
  intro es h1 h2 h
  induction es using zL with
  |nil=>induction k using zO<;>exact ff h
  |cons e es=>
   induction k using zO with
   |none=>exact ff h
   |some k=>exact .cons (h1 _ aE) (h2 _ aE) (a (λe he=>h1 e (aD _ he)) (λe he=>h2 e (aD _ he)) h)
theorem FA (a:∀e,cQ X r n b ns (f e) e) (h:lW ks es=H):R7 X r n b ns (mkPairs f ks es) ks es:=xo (λe c=>a e) (λe c=>a e) h
theorem D0 {ns:List (Str×aN)} {f:Expr->XE} (a:∀e,cQ X r n b ns (f e) e):∀(o:Option Expr),Tq X r n b ns (Gq f o) o
 |none=> .none
 |some e=> .some (a e)
theorem tU:∀{e},inner G ns m e=O args->∃g p,e= .Call g args [] p/\jR G ns m g=H/\args.any br=false:=by
 intro e h
 induction e using aR with
 |Call g as ks p=>
  induction ks using zL with
  |cons=>exact fn h
  |nil=>
   induction q:as.any br using zB with
   |true=>
    have e:inner G ns m (.Call g as [] p)=none:=by unfold inner;dsimp only;exact U q rfl
    exact fn (e.symm.trans h)
   |false=>
    induction a:jR G ns m g using zB with
    |true=>
     have e:inner G ns m (.Call g as [] p)=O as:=by unfold inner;dsimp only;exact U q (U a rfl)
     have e:=aF (e.symm.trans h);exact jY g p (U e rfl) a (e▸q)
    |false=>
     have e:inner G ns m (.Call g as [] p)=none:=by unfold inner;dsimp only;exact U q (U a rfl)
     exact fn (e.symm.trans h)
 |_=>exact fn h
theorem WL (h:[x,y].any br=aj):br x=aj/\br y=false:=by
 simp only [gi,List.any_nil,pT,iz] at h;exact h
theorem ZQ (h:[x].any br=aj):br x=false:=by
 simp only [gi,List.any_nil,pT] at h;exact h
theorem zv {P:α->Prop} (h:c=H->P x) (h':c=aj->P y):P (lq c y x):=by
 induction c using zB with
 |true=>exact h rfl
 |false=>exact h' rfl
theorem in1 {P:α->Prop} {f:Expr->α} (h:∀a,o=O [a]->P (f a)) (h':P y):P (match (generalizing:=false) o with|some [a]=>f a|_=>y):=by
 induction o using zO with
 |none=>exact h'
 |some l=>match l with
  |[a]=>exact h a rfl
  |[]|_::_::_=>exact h'
theorem inO {P:α->Prop} {f:List Expr->α} (h:∀a,o=O a->P (f a)) (h':P y):P (match (generalizing:=false) o with|some a=>f a|none=>y):=by
 induction o using zO with
 |none=>exact h'
 |some l=>exact h l rfl
theorem in2 {P:α->Prop} {f:Expr->Expr->α} (h:∀a b,o=O [a,b]->P (f a b)) (h':P y):P (match (generalizing:=false) o with|some [a,b]=>f a b|_=>y):=by
 induction o using zO with
 |none=>exact h'
 |some l=>match l with
  |[a,b]=>exact h a b rfl
  |[]|[_]|_::_::_::_=>exact h'
set_option smartUnfolding false in
theorem Ls (c:l9 X K G Ms r n b) (i:∀e,cQ X r n b ns (f e) e) pos (k:∀o m p,g≠.Attribute o m p) (j:args.any br=aj):cQ X r n b ns (RT G ns f g args) (.Call g args [] pos):=by
 have d:=cQ.call c.rk pos k j (i g) (qh i j)
 induction args using BN with
 |one a=>
  refine zv (P:=λx=>cQ X r n b ns x (.Call g [a] [] pos)) (λu=> ?_) λv=>zv (P:=λx=>cQ X r n b ns x (.Call g [a] [] pos)) (λw=> ?_) λv=>d
  .refine in1 (P:=λx=>cQ X r n b ns x (.Call g [a] [] pos)) (λx l=> ?_) d;refine vP (tU l) λq s e l h=>U e ?_;exact c.Cu ns _ x g q pos s u l (ZQ h) (i x)
  .refine in2 (P:=λx=>cQ X r n b ns x (.Call g [a] [] pos)) (λx y t=> ?_) d;refine vP (tU t) λq s e t h=>U e ?_;exact c.yd ns _ _ x y g q pos s w t (WL h).1 (WL h).2 (i x) (i y)
 |zero=>exact d
 |more=>exact d
set_option smartUnfolding false in
theorem Lu (c:l9 X K G Ms r n b) (k:∀e,cQ X r n b ns (f e) e) (ap pos) (hx:aZ m=H) (hn:lV o=H) (d:ak ap.endLine pos.line=H) (h:bI (len args) 30=H) (i:args.any br=aj):
 cQ X r n b ns (RU G Ms ns f o m args) (.Call (.Attribute o m ap) args [] pos):=by
 have g:cQ X r n b ns (HG Ms f o (nm m) args) (.Call (.Attribute o m ap) args [] pos):=cQ.HG c.kx c.rk ap pos hx hn d (cL (len_eq ..) (cH.mp h)) i (k o) (qh k i) (c.mo m hx) (c.om m hx) (c.vm m hx);refine zv (P:=λx=>cQ X r n b ns x (.Call (.Attribute o m ap) args [] pos)) (λhe=> ?_) λs=>g
 induction args using BN with
 |one a=>
  refine inO (P:=λx=>cQ X r n b ns x (.Call (.Attribute o m ap) [a] [] pos)) (λl h1=> ?_) g;refine oE (tU h1) λp q h1 e j=>U e ?_;exact c.uX ns _ o _ l m ap p pos q hx (aH he) hn d h1 j (k o) (qh k j)
 |zero=>exact g
 |more=>exact g
def IP (X:dz) (r:Ap) (n b:Nat) (ns:List (Str×aN)) (t e:Expr) (x:XI):Prop:=∃tp,AH X r n b ns tp x e/\(tp=H->iQ t=H)
theorem IP.bad:IP X r n b ns t e HF:=bW aj (AH.bad _ _) ff
set_option smartUnfolding false in
theorem Ig (c:l9 X K G Ms r n b) (d:∀e,cQ X r n b ns (f e) e) (hp:pairsOk G ns t (.Call g args kws p)=H):IP X r n b ns t (.Call g args kws p) (A3 G ns f (.Call g args kws p)):=by
 induction kws using zL with
 |cons=>exact IP.bad
 |nil=>
  refine zv (P:=IP X r n b ns t (.Call g args [] p)) (λi=>IP.bad) λa=>zv (P:=IP X r n b ns t (.Call g args [] p)) (λh1=>bW aj (AH.range c.ax c.htab c.gx h1 (qh d a) a aj _) ff) λi=> ?_;have hq:(lq (jR G ns 9 g) (lq (jR G ns 10 g) H (iQ t)) (iQ t):Bool)=true:=hp;clear hp;refine zv (P:=IP X r n b ns t (.Call g args [] p)) (λj=> ?_) λj=>zv (P:=IP X r n b ns t (.Call g args [] p)) (λh=> ?_) λi=>bW aj (AH.e c.ax c.hbase c.htab (d _) aj) ff
  .rw [j] at hq
   induction args using VD with
   |two x y=>
    exact bW H (AH.zip c.ax c.gx j (d x) (d y) a _) (λi=>hq)
   |zero=>exact IP.bad
   |one=>exact IP.bad
   |more=>exact IP.bad
  .rw [j,h] at hq
   induction args using BN with
   |one x=>
    exact bW H (AH.enum c.ax c.htab c.gx h (d x) a _) (λi=>hq)
   |zero=>exact IP.bad
   |more=>exact IP.bad
theorem uY (c:l9 X K G Ms r n b) (d:∀e,cQ X r n b ns (f e) e) (hp:pairsOk G ns t e=H):kM e=aj/\IP X r n b ns t e (A3 G ns f e):=by
 have a:IP X r n b ns t e (iE (f e)):=bW aj (AH.e c.ax c.hbase c.htab (d e) aj) ff
 induction e using aR with
 |Call g args h p=>exact⟨rfl,Ig c d hp⟩
 |Set=>exact ff hp
 |_=>exact⟨rfl,a⟩
theorem OC (a:bw X) t:ri X r n b ns (match tgtName ns t with|some x=>kj x|none=>B3) t:=by
 induction hx:tgtName ns t using zO with
 |some x=>
  refine uw (m7 hx) λy p hk e hy hz=>U e (U hz ?_);exact ri.loc a y p hy hk
 |none=>exact ri.bad _
set_option smartUnfolding false in
theorem zx (d:bw X) t:ri X r n b ns (lU ns t) t:=by
 have a:=OC (r:=r) (n:=n) (b:=b) d (ns:=ns) t
 induction t using aR with
 |Tuple c z p=>
  refine(?_:ri X r n b ns (match fX ns c with|some l=>(match ie l with|true=>B0 l|false=>B3)|none=>B3) _)
  induction hl:fX ns c using zO with
  |none=>exact ri.bad _
  |some l=>exact zv (P:=λx=>ri X r n b ns x (.Tuple c z p)) (λe=>ri.tup d hl _ _) λe=>ri.bad _
 |_=>exact a
end
section
variable {X:dz} {K:Frag} {G:Str->Option V} {Ms:Nat->List (Nat×Nat)} {r:Ap} {n b:Nat}
theorem Lv (c:l9 X K G Ms r n b) op pos (hx:cQ X r n b ns x l) (hy:cQ X r n b ns y r'):cQ X r n b ns (mkBin op x y) (.BinOp l op r' pos):=by
 induction op using PySem.Operator.casesOn with
 |Add=>exact cQ.bin (Oe c.ax c.htab) pos hx hy
 |Sub=>exact cQ.bin N3 pos hx hy
 |Mult=>exact cQ.bin N4 pos hx hy
 |FloorDiv=>exact cQ.bin N5 pos hx hy
 |Mod=>exact cQ.bin N6 pos hx hy
 |Pow=>exact cQ.bin N7 pos hx hy
 |LShift=>exact cQ.bin N8 pos hx hy
 |RShift=>exact cQ.bin N9 pos hx hy
 |BitAnd=>exact cQ.bin Oa pos hx hy
 |BitOr=>exact cQ.bin S4 pos hx hy
 |_=>exact cQ.bad _
theorem r8 (c:l9 X K G Ms r n b) op:nO X b (EZ op).f op:=by
 induction op using PySem.CmpOp.casesOn with
 |Eq=>exact S8 c.hbase
 |NotEq=>exact S9 c.hbase
 |Lt=>exact Tc
 |Gt=>exact Te
 |LtE=>exact Td
 |GtE=>exact Tf
 |Is=>exact Tg
 |IsNot=>exact HS
 |In=>exact Tn c.hbase
 |NotIn=>exact HW c.hbase
structure Lw (X:dz) (G:Str->Option V) (Ms:Nat->List (Nat×Nat)) (r:Ap) (n b k:Nat):Prop where
 e:∀ns e,cQ X r n b ns (cU G Ms k ns e) e
 u:∀ns e,jx e=H->Ot X r n b ns (cU G Ms k ns e) e
 t:∀ns e,j0 X r n b ns (oJ G Ms k ns e) e
 bs:∀ns op es,tR X r n b ns op (E0 G Ms k ns (KO op) es) es
 ifs:∀ns es,nT X r n b ns (uG G Ms k ns es) es
theorem ZR {P:α->Prop} (h:c=aj->d=aj->P x) (h':P y):P (match (generalizing:=false) c,d with|false,aj=>x|_,_=>y):=by
 induction c using zB with
 |true=>exact h'
 |false=>induction d using zB with
  |true=>exact h'
  |false=>exact h rfl rfl
def CP (X:dz) (r:Ap) (n b:Nat) (ns:List (Str×aN)) (e:Expr) (x:XE):Prop:=cQ X r n b ns x e/\(jx e=H->Ot X r n b ns x e)
section
variable {ns:List (Str×aN)}
theorem CP.bad:CP X r n b ns e fm:=⟨cQ.bad _,λa=>Ot.bad _⟩
theorem CP.no (h:jx e=aj) (k:cQ X r n b ns x e):CP X r n b ns e x:=⟨k,λq=>ft (q.symm.trans h)⟩
theorem CP.if(h:c=H->CP X r n b ns e x):CP X r n b ns e (lq c fm x):=zv h λa=>CP.bad
theorem CP.unless (h:c=aj->CP X r n b ns e x):CP X r n b ns e (lq c x fm):=zv (λa=>CP.bad) h
theorem CP.dec {d:Decidable p} (h:p->CP X r n b ns e x):CP X r n b ns e (Decidable.casesOn d (λa=>fm) (λa=>x)):=by
 induction d using Decidable.casesOn with
 |isTrue q=>exact h q
 |isFalse _=>exact CP.bad
variable (c:l9 X K G Ms r n b) {k:Nat} (ih:Lw X G Ms r n b k)
include c ih
set_option smartUnfolding false in
theorem OD op a p:CP X r n b ns (.UnaryOp op a p) (cU G Ms (k+1) ns (.UnaryOp op a p)):=by
 induction op using PySem.UnaryOp.casesOn with
 |USub=>
  induction a using aR with
  |Constant q z d=>
   induction q using lS with
   |int i=>exact CP.no rfl (cQ.ZP i z d p)
   |_=>exact CP.bad
  |_=>exact CP.bad
 |_=>exact CP.bad
set_option smartUnfolding false in
theorem Ih op es p:CP X r n b ns (.BoolOp op es p) (cU G Ms (k+1) ns (.BoolOp op es p)):=by
 induction es using VD with
 |two x y=>
  induction op using PySem.BoolOp.casesOn with
  |And=>exact CP.no rfl (cQ.bool (Fc c.hbase) .And p (ih.e ns x) (ih.e ns y))
  |Or=>exact CP.no rfl (cQ.bool (Fc c.hbase) .Or p (ih.e ns x) (ih.e ns y))
 |zero=>exact CP.bad
 |one=>exact CP.bad
 |more=>exact CP.bad
set_option smartUnfolding false in
theorem Lx l ops es p:CP X r n b ns (.Compare l ops es p) (cU G Ms (k+1) ns (.Compare l ops es p)):=by
 induction ops using BN with
 |one op=>
  induction es using BN with
  |one y=>exact CP.unless λa=>CP.no rfl (cQ.cmp (r8 c op) p (rA a) (ih.e ns l) (ih.e ns y))
  |zero=>exact CP.bad
  |more=>exact CP.bad
 |zero=>exact CP.bad
 |more=>exact CP.bad
set_option smartUnfolding false in
theorem Ii f args kws p:CP X r n b ns (.Call f args kws p) (cU G Ms (k+1) ns (.Call f args kws p)):=by
 induction kws using zL with
 |cons=>exact CP.bad
 |nil=>
  refine CP.unless λa=> ?_
  induction f using aR with
  |Attribute o m d=>exact CP.if λhm=>CP.if λhn=>CP.if λhl=>CP.if λg=>CP.no rfl (Lu c (ih.e ns) d p hm hn hl g a)
  |_=>exact CP.no rfl (Ls c (ih.e ns) p (λo m p q=>Expr.noConfusion q) a)
set_option smartUnfolding false in
theorem Ly (o i) p:CP X r n b ns (.Subscript o i p) (cU G Ms (k+1) ns (.Subscript o i p)):=by
 induction i using aR with
 |Slice a hi d f=>
  induction d using zO with
  |none=>exact CP.no rfl (cQ.cut c.ax f p (ih.e ns o) (D0 (ih.e ns) a) (D0 (ih.e ns) hi))
  |some _=>exact CP.bad
 |_=>exact CP.no rfl (cQ.sub p rfl (ih.e ns o) (ih.e ns _))
set_option smartUnfolding false in
theorem Ij ks es p:CP X r n b ns (.Dict ks es p) (cU G Ms (k+1) ns (.Dict ks es p)):=
 CP.if λh=>CP.if λh2=>CP.no rfl (cQ.dict c.ax p h2 (by
  have h:=cH.mp h;rw [len_eq] at h;exact pU h) (FA (ih.e ns) h2))
set_option smartUnfolding false in
theorem OE elt gens sc p:CP X r n b ns (.ListComp elt gens sc p) (cU G Ms (k+1) ns (.ListComp elt gens sc p)):=by
 induction gens using BN with
 |one g=>
  rcases g with⟨f,q,i,a⟩
  refine CP.dec λl=>CP.if λm=>CP.if λhp=>uv (uY c (ih.e ns) hp) λs o d j=> ?_;have h:=cQ.comp c.ax c.hbase c.htab (Cm m) d o (zx c.ax f) j (ih.ifs sc.names i) (ih.e sc.names elt) p;rw [<-l] at h;exact⟨h.1,λt=>h.2⟩
 |zero=>exact CP.bad
 |more g=>rcases g with⟨_,_,_,_⟩;exact CP.bad
set_option smartUnfolding false in
theorem OG (x y) gens sc p:CP X r n b ns (.DictComp x y gens sc p) (cU G Ms (k+1) ns (.DictComp x y gens sc p)):=by
 induction gens using BN with
 |one g=>
  rcases g with⟨f,q,i,a⟩
  refine CP.dec λl=>CP.if λm=>CP.if λhp=>uv (uY c (ih.e ns) hp) λs o d j=> ?_;have h:=cQ.WD c.ax c.hbase c.htab (Cm m) d o (zx c.ax f) j (ih.ifs sc.names i) (ih.e sc.names x) (ih.e sc.names y) p;rw [<-l] at h;exact⟨h.1,λt=>h.2⟩
 |zero=>exact CP.bad
 |more g=>rcases g with⟨_,_,_,_⟩;exact CP.bad
set_option smartUnfolding false in
theorem Lz ns e:CP X r n b ns e (cU G Ms (k+1) ns e):=by
 induction e using aR with
 |Name x p=>exact CP.no rfl (cQ.name c.gx x p)
 |Constant q z p=>exact CP.no rfl (cQ.const q z p)
 |BinOp l op u p=>exact CP.no rfl (Lv c op p (ih.e ns l) (ih.e ns u))
 |UnaryOp op a p=>exact OD c ih op a p
 |BoolOp op g p=>exact Ih c ih op g p
 |IfExp t x y p=>exact CP.no rfl (cQ.ite p (ih.t ns t) (ih.e ns x) (ih.e ns y))
 |Compare l j g p=>exact Lx c ih l j g p
 |Call f args m p=>exact Ii c ih f args m p
 |Attribute o a p=>exact CP.if λv=>CP.if λhn=>CP.no rfl (cQ.attr c.kx p v hn (ih.e ns o))
 |Subscript o i p=>exact Ly c ih o i p
 |List g p=>exact CP.unless λh=>CP.no rfl (cQ.list c.ax p (qh (ih.e ns) h))
 |Tuple g z p=>exact CP.unless λh=>CP.no rfl (cQ.tuple c.ax c.htab z p (qh (ih.e ns) h))
 |Dict ks g p=>exact Ij c ih ks g p
 |ListComp s d sc p=>exact OE c ih s d sc p
 |DictComp x y d sc p=>exact OG c ih x y d sc p
 |_=>exact CP.bad
set_option smartUnfolding false in
theorem OH l ops es p:j0 X r n b ns (oJ G Ms (k+1) ns (.Compare l ops es p)) (.Compare l ops es p):=by
 induction ops using VD with
 |one op=>
  induction es using BN with
  |one y=>exact zv (P:=λx=>j0 X r n b ns x (.Compare l [op] [y] p)) (λf=>j0.bad _) λd=>j0.cmp (r8 c op) p (rA d) (ih.e ns l) (ih.e ns y)
  |zero=>exact j0.bad _
  |more=>exact j0.bad _
 |two op a=>
  induction es using VD with
  |two y z=>
   exact ZR (P:=λx=>j0 X r n b ns x (.Compare l [op,a] [y,z] p)) (λh1 h2=>j0.ZN (r8 c op) (r8 c a) p h1 h2 (ih.e ns l) (ih.e ns y) (ih.e ns z)) (j0.bad _)
  |zero=>exact j0.bad _
  |one=>exact j0.bad _
  |more=>exact j0.bad _
 |zero=>exact j0.bad _
 |more=>exact j0.bad _
theorem TU ns e:j0 X r n b ns (oJ G Ms (k+1) ns e) e:=by
 have g:=Fc (b:=b) c.hbase
 induction e using aR with
 |UnaryOp op a p=>
  induction op using PySem.UnaryOp.casesOn with
  |Not=>exact j0.not p (ih.t ns a)
  |_=>exact j0.ofE g (ih.e ns _) λenv=>rfl
 |BoolOp op d p=>
  induction op using PySem.BoolOp.casesOn with
  |And=>exact j0.bools p (ih.bs ns .And d)
  |Or=>exact j0.bools p (ih.bs ns .Or d)
 |IfExp t x y p=>exact j0.ite p (ih.t ns t) (ih.t ns x) (ih.t ns y)
 |Compare l f d p=>exact OH c ih l f d p
 |_=>exact j0.ofE g (ih.e ns _) λenv=>rfl
end
theorem iF (c:l9 X K G Ms r n b):∀k,Lw X G Ms r n b k:=by
 intro k
 induction k with
 |zero=>
  exact⟨λa a=>cQ.bad _,λa a a=>Ot.bad _,λa a=>j0.bad _,λa a a=>tR.bad _ _,λa a=>nT.bad _⟩
 |succ k ih=>
  refine⟨λns e=>(Lz c ih ns e).1,λns e=>(Lz c ih ns e).2,TU c ih,λns op d=> ?_,λns d=> ?_⟩
  .induction d using zL with
   |nil=>exact tR.bad _ _
   |cons x d=>
    induction d using zL with
    |nil=>exact tR.one (ih.t ns x)
    |cons y d=>exact tR.more (ih.t ns x) (ih.bs ns op (y::d))
  .induction d using zL with
   |nil=>exact nT.nil
   |cons x d=>exact nT.cons (ih.t ns x) (ih.ifs ns d)
end
set_option backward.match.sparseCases true
section
variable {X:dz} {K:Frag} {G:Str->Option V} {Ms:Nat->List (Nat×Nat)} {r:Ap} {n b:Nat}
theorem jb.bad x:jb X r n b ns k7 x:=λa a a a a a a a a a a a e=>fn e
set_option smartUnfolding false in
theorem yf (c:l9 X K G Ms r n b) ns t:ri X r n b ns (Dm G Ms ns t) t:=by
 have f:=iF c 30;have h:ri X r n b ns (lU ns t) t:=zx c.ax t
 induction t using aR with
 |Attribute o a p=>exact zv (P:=λx=>ri X r n b ns x (.Attribute o a p)) (λg=>ri.attr c.ax c.kx p g (λd k=>c.fl a g d k) (f.e ns o)) λj=>ri.bad _
 |Subscript o i p=>exact zv (P:=λx=>ri X r n b ns x (.Subscript o i p)) (λj=>ri.bad _) λj=>ri.sub c.ax _ (f.e ns _) (f.e ns _)
 |_=>exact h
set_option tactic.hygienic true in
theorem D3:∃l,fX ns ts=O l/\ie l=H/\Dm G Ms ns (.Tuple ts z p)=B0 l\/∀ρ v h k,(Dm G Ms ns (.Tuple ts z p)).f r ρ v h k=none:=by
 refine(?_:∃l,fX ns ts=O l/\ie l=H/\lU ns (.Tuple ts z p)=B0 l\/∀ρ v h k,(lU ns (.Tuple ts z p)).f r ρ v h k=au);unfold lU;dsimp only;split
 .rename_i l hl;split
  .rename_i c;exact⟨l,.inl (iX hl c rfl)⟩
  .exact⟨l,.inr λa a a a=>rfl⟩
 .exact⟨[],.inr λa a a a=>rfl⟩
set_option smartUnfolding false in
theorem OI (c:l9 X K G Ms r n b) ns (t e) p k:jU X r n b ns (Dn G Ms (k+1) ns (.Assign [t] e p)) (.Assign [t] e p):=by
 have g:=iF c 30;refine zv (P:=λx=>jU X r n b ns x (.Assign [t] e p)) (λa=> ?_) λf=>jU.bad _;have d:br t=false:=by rcases t<;>first|rfl|exact ff a
 induction h:jx e using zB with
 |true=>exact jU.GK c.ax p (g.e ns e) (g.u ns e h) (yf c ns t) h d
 |false=>exact jU.assign c.ax p (g.e ns e) (yf c ns t) h a (λts z p q=>U q D3) (λts p q=>U q (λf f f f=>rfl)) d
set_option smartUnfolding false in
theorem FD (c:l9 X K G Ms r n b):∀k,(∀ns s,jU X r n b ns (Dn G Ms k ns s) s)/\∀ns ss,jb X r n b ns (qU G Ms k ns ss) ss:=by
 intro k
 induction k with
 |zero=>
  exact⟨λj j=>jU.bad _,λj j=>jb.bad _⟩
 |succ k g=>
  have q:=(g).1;have l:=(g).2;have g:=iF c 30;refine⟨λns s=> ?_,λns ss=> ?_⟩
  .induction s using eY with
   |Expr e p=>exact zv (P:=λx=>jU X r n b ns x (.Expr e p)) (λj=>jU.bad _) λh=>jU.expr p h (g.e ns e)
   |Return e p=>
    induction e using zO with
    |none=>exact jU.ZL p
    |some e=>exact jU.ret p (g.e ns e)
   |Assign ts e p=>
    induction ts using BN with
    |one t=>
     exact OI c ns t e p k
    |zero=>exact jU.bad _
    |more=>exact jU.bad _
   |If t a d p=>exact jU.ite p (g.t ns t) (l ns a) (l ns d)
   |For t u f i p=>
    induction i using zL with
    |nil=>
     refine zv (P:=λx=>jU X r n b ns x (.For t u f [] p)) (λhp=> ?_) λj=>jU.bad _;exact uv (uY c (g.e ns) hp) λw v m o=>jU.for c.ax c.hbase c.htab m v (zx c.ax t) o p (l ns f)
    |cons=>exact jU.bad _
   |While t f i p=>
    induction i using zL with
    |nil=>exact jU.while p (g.t ns t) (l ns f)
    |cons=>exact jU.bad _
   |_=>exact jU.bad _
  .induction ss using zL with
   |nil=>exact jb.nil
   |cons s ss=>exact jb.cons (q ns s) (l ns ss)
end
set_option backward.match.sparseCases false
theorem ez (e:with1 vs f=O r):∃v,vs=[v]/\f v=O r:=by
 induction vs using zL with
 |nil=>exact fn e
 |cons v l=>
  refine aC (dM e) λe h=> ?_
  induction l using zL with
  |nil=>exact bW v rfl e
  |cons _ _=>exact ff h
theorem ef.one (h:ef X g w n [v] ys):∃y,ys=[y]/\VR X g w n v y:=by
 cases h with
 |cons _ y _ _ hv a=>cases a;exact bW y rfl hv
section
variable {X:dz} {w:Wd} {h:ae7} {s:Shared}
theorem St.tk (a:bw X) (b:St X w h s) t:St X w h {s with toks:=t}/\Ext X cV w h.n s w h.n {s with toks:=t}:=b.ja a (h':=s.heap) (tk:=t) (bu _) λc c e=>e
theorem TX (f:bw X):qf X 14:=by
 intro n A j w h s g vs ys hv k res d Q i;refine eU ?_;refine dN (ez d) λv b=> ?_;subst b;intro e;refine dN hv.one λy b=> ?_;subst b;intro hy;refine gb (dM e) λh2 e=>fE (hy.cS h2) λt b=> ?_;subst b;refine call_abs_int λu tk=>aC (g.tk f tk) λc a=> ?_;have:(if dS v<0 then-dS v else dS v)=bf v.n:=by
  have:=Ct v;by_cases q:dS v<0
  .exact(U (if_pos q) ((Int.ofNat_natAbs_of_nonpos (Int.le_of_lt q)).symm.trans (congrArg bf this)))
  .exact(U (if_neg q) ((Int.natAbs_of_nonneg (kH.mp q)).symm.trans (congrArg bf this)))
 exact U this (i w h _ _ _ a c (.nat v.n u) e)
theorem TY (g:bw X):qf X 15:=by
 intro n A i w h s d vs ys hv k res c Q f;refine eU ?_;refine dN (ez c) λv a=> ?_;subst a;intro e;refine dN hv.one λy a=> ?_;subst a;intro hy
 induction h2:ak v.t 2 using zB with
 |true=>
  rw [h2] at e;refine fE (hy.cS h2) λt a=> ?_;subst a;exact call_int_int (f w h _ _ _ d .refl hy e)
 |false=>
  rw [h2] at e;refine gb (dM e) λh1 e=> ?_
  induction hy using Mine.VR.casesOn with
  |bool b=>
   refine call_int_bool ?_
   induction b using zB with
   |true=>exact f w h _ _ _ d.tok rX (.nat 1 _) e
   |false=>exact f w h _ _ _ d.tok rX (.nat 0 _) e
  |_=>exact nn (aH h1) rfl
theorem tX (e:Dd l v=O m):ak v.t 2=H/\v.s=0/\v.n<l/\v.n=m:=aC (dM e) λe h1=>aC (dM e) λe h2=>aC (dM e) λe a=>qK h1 (aH h2) (cH.mp a) (aF e)
theorem Cv (h:v.s=0):dS v=(v.n:Int):=by unfold dS;refine U h ?_;rfl
theorem T4 (j:bw X):qf X 16:=by
 intro n A l w h s d vs ys hv k res b Q f;refine eU ?_;refine dN (ez b) λv a=> ?_;subst a;intro e;refine dN hv.one λy a=> ?_;subst a;intro hy;refine aL (bC e) λc e g=>qM (tX g) λa=> ?_;subst a;intro h2 i m;refine fE (hy.cS h2) λt a=> ?_;subst a;exact U (Cv i) (chr_of_range (cC (V.n v)) (by omega) (f w h _ _ _ d.tok rX (.str [v.n] _ (of_decide_eq_true rfl)) e))
theorem T5 (i:bw X):qf X 17:=by
 intro n A j w h s d vs ys hv k res b Q f;refine eU ?_;refine dN (ez b) λv a=> ?_;subst a;intro e;refine dN hv.one λy a=> ?_;subst a;intro hy;refine aC (dM e) λe g=> ?_
 induction hy using Mine.VR.casesOn with
 |str l t hn=>
  induction l using zL with
  |nil=>exact fn e
  |cons c l=>
   induction l using zL with
   |nil=>exact P.ord_of_char (f w h _ _ _ d.tok rX (.nat c _) e)
   |cons _ _=>exact fn e
 |_=>exact nn (aH g) rfl
theorem OJ m (h:find m JL=au):qf X m:=by
 intro n A a w h' s b vs ys hv k res e Q c;unfold BS at e;rw [h] at e;exact fn e
theorem collect_list {items} (a:s.heap.get? l=O (gp items ep)) (hz:items.size<=1000000)
 (c:∀h',(∀b o',s.heap.get? b=O o'->h'.get? b=O o')->s.heap.objs.size<=h'.objs.size->Q items.toList {s with heap:=h'}):wpAny (model prog ww) A (collect (.ref l)) Q E s:=
 bX (Aw l (.inl rfl) a rfl rfl (λh' hk d=>c h' hk d) (aI hz bx))
theorem Ik l items ep:Meets (Builtin.«tuple.__new__» ⟨[.type "tuple",.ref l],[]⟩)
 (λk R s=>s.heap.get? l=O (gp items ep)/\items.size<=1000000/\∀h':Heap,(∀b o',s.heap.get? b=O o'->h'.get? b=O o')->s.heap.objs.size<=h'.objs.size->R (.ok (.ret (.ref h'.objs.size))) {s with heap:=h'.push (gh items 0)}):=
 .of_wp λprog w A R s h=>by
  obtain⟨hp,g,d,tk,os⟩:=s;refine iP h λh ht hz=> ?_;have f:=sub_tuple_self;have a:=init_tuple_lookup;have i:=madeHere_tuple;have j:iA ⟨hp,g,d,tk,os⟩ (.ref l) "list":=bW _ ht rfl;wp_walk using AutoSeq1.wpAny_loadPart' ht,je j,collect_list (s:=⟨hp,g,d,tk,os⟩) ht hz;intro h' hk c;refine(?_:wpAny _ _ (Builtin.Tuple.tupleExact items.toList.toArray>>=λv=>ret v) _ _ _);have e:items.toList.toArray=items:=rfl;exact aq (dY (av (bW _ rfl (h h' hk c))) (aI hz bx))
theorem LA (m:bw X) (d:∀a∈X.tabs,a<X.h₀.objs.size):qf X 4:=by
 intro n A J w h s i vs ys hv k res f Q p;refine eU ?_;refine dN (ez f) λv b=> ?_;subst b;intro e;refine dN hv.one λy b=> ?_;subst b;intro hy
 induction j:ak v.t 5 using zB with
 |true=>
  rw [j] at e;refine gb (dM e) λz e=> ?_
  induction hy using Mine.VR.casesOn with
  |tup xs t items ep B ht g hn c=>exact call_tuple_same (gc _ g rfl _ rfl) (p w h _ _ _ i .refl (.tup xs t items ep B ht g hn c) e)
  |_=>exact nn (aH j) rfl
 |false=>
  rw [j] at e;obtain⟨C,o,D,E,e⟩:=fR e;refine gb (dM e) λhz e=>gb (hy.eu C) λb=> ?_;subst b;intro K;refine sS (i.listAt D E) λitems ep g hn c z=>(?_:wpAny _ _ (call (.type "tuple") _) _ _ _);refine callType_new F.called_tuple rfl (F.typeCall_tuple_1 _) (F.newCall_tuple_1 _) (λobj=>uh obj _) F.entry_tuple_new (Ik _ items ep) (iX g hn (λh' hk l=>(aC (i.ja m (h':=h') (tk:=s.toks) l hk) λq G=>(eZ (G.newTuple m d (c.mono q.dW) hn s.toks) λr u x=> ?_))));have I:items.toList.toArray=items:=rfl;rw [I] at u r x;exact⟨(bW _ (aJ _ rfl) rfl),p w h _ _ _ u (q.trans r) x e⟩
end
set_option backward.match.sparseCases true
theorem s9:Slot "bytearray" "__len__" "bytearray.__len__":=
 .of (owner:="bytearray") (n:="__len__") (by refine U (typeLookup_type ..) (U bA ?_);kernel_rfl) rfl rfl rfl
  (by first|exact .inl rfl|exact .inr (by decide+kernel)) (by refine U (isSubtype_type ..) ?_;kernel_rfl)
theorem zy:entryFor table "bytearray.__len__"=O Builtin.«bytearray.__len__»:=nC (by kernel_rfl)
theorem AO a:argsOk "bytearray.__len__" ⟨[a],[]⟩:=by unfold argsOk;kernel_rfl
section
variable {X:dz} {w:Wd} {h:ae7} {s:Shared} {prog:Program} {ww:World} {A:Around} {E:Value->Shared->Prop}
theorem OL {items} (a:s.heap.get? t=O (gh items ep)) (hz:items.size<=1000000) (q:Q (.int items.size (s.toks+1)) {s with toks:=s.toks+1+1}):wpAny (model prog ww) A (call (.builtin "len") [.ref t]) Q E s:=by
 have b:s.TypeIs (.ref t) "tuple":=bW _ a rfl;exact xO b F.slot_tuple_len (λd c=>call_meets F.slot_tuple_len b F.entry_tuple_len (F.args_tuple_len_1 _) (AutoSeq1.tuple___len___tuple_0 t items ep) ⟨a,c⟩) (lA (fJ items)) (by lia) q
theorem LB (c:(d==ly)=aj) (a:s.heap.get? d=O (cJ es ep)) (hz:es.size<=1000000) (q:Q (.int es.size (s.toks+1)) {s with toks:=s.toks+1+1}):wpAny (model prog ww) A (call (.builtin "len") [.ref d]) Q E s:=by
 have b:s.TypeIs (.ref d) "dict":=bW _ a rfl;refine xO b F.slot_dict_len (λf e=>bH F.slot_dict_len b F.entry_dict_len ?_ (F.args_dict_len_1 _)) (lA (fJ es)) (by lia) q;refine(?_:wpAny _ _ (dictSize d>>=_) _ _ s);refine aq (aq (gJ a rfl (av ((?_:wpAny _ _ (mT d>>=_) _ _ s)))));have hp:mT d=pure 0:=by unfold mT;refine U c ?_;rfl
 exact U hp (aq (av (aq (wpAny_mkInt (av (bW _ rfl e))))))
theorem LC (c:s.heap.get? a=O (gW b)) (hz:b.size<=1000000) (q:Q (.int b.size (s.toks+1)) {s with toks:=s.toks+1+1}):wpAny (model prog ww) A (call (.builtin "len") [.ref a]) Q E s:=by
 have d:s.TypeIs (.ref a) "bytearray":=bW _ c rfl;refine xO d s9 (λf e=>bH s9 d zy ?_ (AO _)) (lA (fJ b)) (by lia) q;refine(?_:wpAny _ _ (Builtin.Bytes.payload (.ref a)>>=λb=>retInt b.size) _ _ s);exact aq (aq (aq (jd c (av (av (aq (wpAny_mkInt (av (bW _ rfl e)))))))))
theorem T6 (ax:bw X) (hbase:10<=X.h₀.objs.size):qf X 0:=by
 intro n A hA w h s hs vs ys hv k res e₀ Q hQ;refine eU ?_;refine dN (ez (show with1 vs (λv=>ah (ah (ah
  (look v h λo h=>ah (ah (ah au (k (aX (len o.bs)) h) (ak o.t 3)) (k (aX (len o.kvs)) h) (ak o.t 2)) (k (aX (len o.xs)) h) (ak o.t 1))
  (k (aX (len v.l)) h) (ak v.t 3)) (k (aX (len v.l)) h) (ak v.t 4)) (k (aX (len v.xs)) h) (ak v.t 5))=O res from e₀)) λv ow=> ?_;subst ow;intro e
 refine dN hv.one λy ow=> ?_;subst ow;intro hy;have fin:∀m:Nat,k (aX m) h=O res->Q (.int (m:Int) (s.toks+1)) {s with toks:=s.toks+1+1}:=λm e=>by
  exact aC (hs.tk ax (s.toks+1+1)) λc a=>hQ w h _ _ _ a c (.nat m _) e
 refine sE e (λh5 e=> ?_) λu_ e=>sE e (λh4 e=> ?_) λu_ e=>sE e (λh3 e=> ?_) λu_ e=> ?_
 .refine fH (hy.g9 (aH h5)) λt items ep hg q hr ht hn hvs=> ?_;rw [len_eq,hvs.length,aM] at e;refine U q ?_;exact OL hg hn (fin _ e)
 .refine oE (hy.jL (aH h4)) λb t l q hn=> ?_;rw [len_eq,l,eG,aM] at e;refine U q ?_;exact len_bytes (by lia) (fin _ e)
 .refine aL (hy.qa (aH h3)) λt hn q=> ?_;rw [len_eq] at e;refine U q ?_;exact P.len_str (by have:(⟨v.l.toArray⟩:Str).length=v.l.length:=rfl;lia) (fin _ e)
 refine dF (dj e) λo e h6 ho=> ?_;have rep:=(hs.rep _ o ho).2;refine U ((hy.eu h6).1) (sE e (λh1 e=> ?_) λu_ e=>sE e (λh2 e=> ?_) λu_ e=> ?_)
 .refine jK (rep.lY (aH h1)) λitems ep hg hr hn hvs=> ?_;rw [len_eq,hvs.length,aM] at e;exact call_len_list (gc _ hg rfl _ rfl) (by lia) (fin _ e)
 .refine iY (rep.kP (aH h2)) λes ep u_ hr hg hn hd=> ?_;rw [len_eq,hd.all.length,aM] at e;exact LB (jM hs hbase hr) hg hn (fin _ e)
 .refine aC (dM e) λe h3=>qN (rep.Gu (aH h3)) λb hg hr hn l=> ?_;rw [len_eq,l,eG,aM] at e;exact LC hg hn (fin _ e)
end
theorem tY (e:with2 vs f=O r):∃u v,vs=[u,v]/\f u v=O r:=by
 induction vs using zL with
 |nil=>exact fn e
 |cons u l=>
  refine dN (ez e) λv a=> ?_;subst a;intro e;exact mZ u v rfl e
theorem ef.two (h:ef X g w n [u,v] ys):∃x y,ys=[x,y]/\VR X g w n u x/\VR X g w n v y:=by
 cases h with
 |cons _ x _ _ hu c=>
  refine dN (ef.one c) λy a=> ?_;subst a;intro hv;exact jY x y rfl hu hv
section
variable {X:dz} {b:Nat}
theorem Il (u:bw X):qu X b "append" ⟨BU,λt=>ak t 1⟩:=by
 intro t ht;have ht:=aH ht;subst ht;refine yw (.inl rfl) ("list.append") ⟨yq,F.slot_list_append,F.type_list_append⟩ (λA n I w h s l x y hv B o m d vs ys f k res g Q C=>(aL (ez g) λv e D=> ?_));rw [D] at f;refine dN f.one λz E hz=>aC (dM e) λe G=>aC (dM e) λe i=>U ((hv.eu B).1) (U E (jK ((l.rep _ o m).2.lY d) λitems ep j p hn c=> ?_));have a:=nQ i;rw [mH] at e a;rw [dc,c.length,aM] at a;refine eU<|bH slot_list_append (bW _ j rfl) entry_list_append ?_ (args_list_append _ _)
 refine(?_:wpAny _ _ (updateSeq (w.ρ x.n) (·.push z)>>=λG=>ret .none) _ _ s);refine aq (lg j rfl (av (bW .none rfl ?_)));have q:=l.turn u m (eH (·.push z)) s.toks (o':=bL (o.xs++[v])) (λr p=> .list _ (items.push z) _ p (bE _ j rfl) (U (qB ..) a) (U pq ((c.mono r).append (.cons _ _ _ _ (hz.mono r) .nil)))) (t8 d rfl);exact C _ _ _ _ _ q.1 q.2 .none e
theorem T7 (a:10<=X.h₀.objs.size) (G:bw X):qu X b "get" ⟨SP,λt=>ak t 2⟩:=by
 intro t ht;refine U (aH ht) (yw (.inr (.inl rfl)) ("dict.get") ⟨F.plainAttrs_dict,F.slot_dict_get,F.type_dict_get⟩ (λA n I w h s g m y hv J o K i vs ys d k res f Q p=>(nH (tY f) λu v e L=> ?_)));rw [L] at d;refine vP d.two λx z M hu hz=>aC (dM e) λe P=>aL (bC e) λr e j=>U ((hv.eu J).1) (U M (iY ((g.rep _ o K).2.kP i) λes ep P R B hn S=>eU<|bH F.slot_dict_get (bW _ B rfl) F.entry_dict_get ?_ (F.args_dict_get_3 _ _ _)));refine(?_:wpAny _ _ (dictGet (w.ρ m.n) x>>=_) _ _ s);refine aq (Fe B S hu j (I.c (k:=1) rfl) λt r' C=>(aC (g.tk G t) λD E=> ?_))
 induction r using zO with
 |some v'=>
  exact aL C λV l q=>U q (av (bW V rfl (p w h _ _ _ E D l e)))
 |none=>
  refine U C ((?_:wpAny _ _ (Builtin.Dict.missed (w.ρ m.n) x>>=_) _ _ _));exact aq (wpAny_missed_other (jM g a R) (av (bW z rfl (p w h _ _ _ E D hz e))))
end
section
variable {X:dz} {b:Nat}
theorem AP (ax:bw X) (a:10<=X.h₀.objs.size):qu X b "setdefault" ⟨qS,λt=>ak t 2⟩:=by
 intro t ht;have ht:=aH ht;subst ht;refine yw (.inr (.inl rfl)) ("dict.setdefault") ⟨F.plainAttrs_dict,F.slot_dict_setdefault,F.type_dict_setdefault⟩ (λA n hA w h s E G y hv h6 o ho l vs ys K k res m Q hQ=> ?_);refine HA (tY m) λu v f=> ?_;subst f;intro e;refine vP K.two λx z f=> ?_;subst f;intro hu hz;refine U ((hv.eu h6).1) (aC (dM e) λe u_=>aL (bC e) λr e g=> ?_);have hc:=hA.c (k:=1) rfl;refine iY ((E.rep _ o ho).2.kP l) λI ep p L q hn i=> ?_;have hT:s.TypeIs (.ref (w.ρ G.n)) "dict":=bW _ q rfl;refine fE (xY hu (l7 g hu i)) λJ hh=>eU<|bH F.slot_dict_setdefault hT F.entry_dict_setdefault ?_ (F.args_dict_setdefault_3 _ _ _)
 refine aq (bq (ng hT) ((?_:wpAny _ _ (pure (w.ρ G.n,x,O z)) _ _ s)));refine av ((?_:wpAny _ _ (if(w.ρ G.n==ly)=H then _ else(dictSetDefault (w.ρ G.n) x z>>=_)) _ _ s));rw [if_neg (by refine U (jM E a L) ?_;exact bZ)];refine aq (bO (aq (hh s.toks hc (aq (xZ q i hu g hc _ (λB C=> ?_) λj v' M hj=> ?_)))))
 .rw [B] at e;refine aL (bC e) λd e e1=>aC (dM e) λe P=> ?_;have D:=rm P;rcases wh hu i.all.S5 e1 with⟨R,C,rfl⟩|⟨j,v0,R,hj,rfl⟩
  .refine aq (fj (aq (wpAny_updateDictKeys (s:={s with toks:=s.toks+J}) (hz:=aI hn bx) q rfl (av ?_))));have S:(I.push ⟨hashOf X u,x,z⟩).size<=1000000:=by
    have:=i.all.length;rw [dc] at D;simp at D this⊢;lia
   have ab:=E.turn ax ho (Obj.mapDictKeys λI=>I.push ⟨hashOf X u,x,z⟩) (s.toks+J) (o':=dZ (o.kvs++[(u,v)]) (cnt o.c o.kvs (o.kvs++[(u,v)]))) (λk L=> .dict _ _ (ep+1) L (bE _ q rfl) S ((A7 i hu hz R C).mono k) _ (by refine U (Ff ..) (U dc (U p ?_));simp;exact rfl)) (t8 l rfl);exact av (bW z rfl (hQ _ _ _ _ _ ab.1 ab.2 (hz.mono ab.2.dW) e))
  .exact nomatch (show(O (O v0):Option (Option V))=O au from R.symm.trans (B▸g))
 .rw [M] at e;have e:=e;refine dN (i.all.get hj) λen h1 h2=> ?_;have ZK:I[j]? =O en:=by refine cL bz ?_;exact h1
  exact bq (gJ (s:={s with toks:=s.toks+J}) q rfl) (U ZK (aC (E.tk ax (s.toks+J)) λa2 a1=>aq (fj (av (av (bW en.val rfl (hQ w h _ _ _ a1 a2 h2.val e)))))))
end
section
variable {X:dz} {b:Nat} {w:Wd} {h:ae7} {s:Shared}
theorem LD (K:bw X) (u:St X w h s) (hv:VR X s.heap w h.n ov y) (L:ov.t=6) (E:h.l.get ov.n=O o) (j:o.t=1) (hz:VR X s.heap w h.n x z)
 (e:gR x h (λys h=>put ov.n (bL (app o.xs ys)) h k)=O res) (M:Goes (PV X) X w h.n s k res Q):wpAny (model X.prog X.w) A (call (.builtin "list.extend") [y,z]) Q (λv v=>False) s:=by
 refine gQ (fR e) λP e R B S=>aC (dM e) λe C=>gb (hv.eu L) λi=> ?_;subst i;intro lv;refine gb (hz.eu R) λi=> ?_;subst i;intro lx;refine sS (u.listAt E j) λitems ep r hn m G=>sS (u.listAt B S) λc V p hn2 d v=> ?_;have f:=nQ C;rw [mH] at e f;have hl:=m.length;have D:=d.length;simp only [aM] at hl D;rw [dc] at f;have g:=bx;refine bH kZ (bW _ r rfl) F.entry_list_extend ?_ (F.args_list_extend_2 _ _);refine(?_:wpAny _ _ (um (.ref (w.ρ ov.n)) (.ref (w.ρ x.n)) .none) _ _ s);refine bq (je (bW _ p rfl)) ?_;have h1:(nh (.ref (w.ρ ov.n)) (.ref (w.ρ x.n))||cW "list"==cW "list"||cW "list"==cW "tuple")=true:=by simp
 refine Zr h1 (aq (aq (dB p rfl (av (aq (aq (dB r rfl (av ?_))))))));have h2:(!items.isEmpty&&ni (items.size+c.size))=false:=by
  have:ni (items.size+c.size)=false:=by unfold ni;simp;lia
  exact U this (U (Bool.and_false ..) rfl)
 refine U h2 ((?_:wpAny _ _ (updateSeq (w.ρ ov.n) (·++c)>>=λv=>ret .none) _ _ s));have q:(items++c).size<=1000000:=by simp;lia
 refine aq (lg r rfl (av (bW .none rfl ?_)) (by first|exact aI q g|exact aI hn g));have I:=u.turn K E (eH (·++c)) s.toks (o':=bL (o.xs++P.xs)) (λJ G=> .list _ (items++c) _ G (bE _ r rfl) q (U fQ ((m.mono J).append (d.mono J)))) (t8 j rfl);exact M _ _ _ _ _ I.1 I.2 .none e
theorem D4 (m:bw X) (p:St X w h s) {items} (q:T="list"\/T="tuple") (r:s.heap.get? a=O ob) (t:ob.cls= .type T) (u:ob.data= .seq items ep) (hn:items.size<=1000000) (hv:ef X s.heap w h.n xs items.toList)
 (e:k (bP h.n) ⟨HT.ins (bL xs) h.l h.n,h.n+1⟩=O res) (v:Goes (PV X) X w h.n s k res Q):wpAny (model X.prog X.w) A (call (.type "list") [.ref a]) Q (λx x=>False) s:=by
 refine call_list_seq a q r t u (λh' c' hk c=> ?_) (aI hn bx);have d:=bk c;refine gb (p.new m (o:=bL xs) (b:=s.heap.objs.size) (own:=λa=>a==s.heap.objs.size) (ReflBEq.rfl) (s':={s with heap:=h'}) (gO d)
  (λa y=>by have:a=s.heap.objs.size:=(by simpa using y);subst this;exact⟨bu _,d⟩) (λa f e=>hk a f e) rfl rfl 0 _ rfl
  (λz B j E=> .list xs items c' (U j B) (U j c) hn (hv.mono z))) λC D=> ?_
 refine v _ _ _ _ _ C D ?_ e;have:=VR.ref (X:=X) (g:=h') (w:=⟨λi=>if i=h.n then s.heap.objs.size else w.ρ i,λa=>if(a==s.heap.objs.size)=H then O h.n else w.role a,λi=>if i=h.n then 0 else w.ug i⟩) (n:=h.n+1) h.n (bN _);simpa using this
end
section
variable {X:dz} {K:Frag} {G:Str->Option V} {Ms:Nat->List (Nat×Nat)} {r:Ap} {n b:Nat}
def pO (X:dz) (r:Ap) (n b:Nat) (ns:List (Str×aN)) (e:Expr):Prop:=∀a bd sc pos,e= .Lambda a bd sc pos->cQ X r n b ns (xC (NL (aG (cM pos.line 4096) pos.col))) e
theorem GO (c:l9 X K G Ms r n b) (h:pO X r n b ns e):cQ X r n b ns (V7 (cU G Ms 30 ns) e) e:=by
 have d:=(iF c 30).e ns e
 induction e using aR with
 |Lambda a f sc p=>exact h _ _ _ _ rfl
 |_=>exact d
theorem LG (c:l9 X K G Ms r n b) ns body (hl:∀ks vs p f,body=[.Return (O (.Dict ks vs p)) f]->(∀e,O e∈ks->pO X r n b ns e)/\∀e∈vs,pO X r n b ns e):jb X r n b ns (qV G Ms ns body) body:=by
 have base:∀l,qV G Ms ns l=qU G Ms 100 ns l->jb X r n b ns (qV G Ms ns l) l:=λl h=>h▸(FD c 100).2 ns l
 induction body using zL with
 |nil=>exact base _ (by unfold qV;rfl)
 |cons g r0=>
  induction r0 using zL with
  |cons=>induction g using eY with
   |Return o p=>induction o using zO with
    |none=>exact base _ (by unfold qV;rfl)
    |some e=>rcases e<;>exact base _ (by unfold qV;rfl)
   |_=>exact base _ (by unfold qV;rfl)
  |nil=>
   induction g using eY with
   |Return o f=>
    induction o using zO with
    |none=>exact base _ (by unfold qV;rfl)
    |some e=>
     induction e using aR with
     |Dict ks vs p=>
      refine gb (hl ks vs p f rfl) λh1 h2=>(?_:jb X r n b ns (match bI (len ks) 16 with|true=>(match lW ks vs with|true=>_|false=>k7)|false=>k7) _)
      induction d:bI (len ks) 16 using zB with
      |false=>exact jb.bad _
      |true=>
       induction a:lW ks vs using zB with
       |false=>exact jb.bad _
       |true=>
        refine jb.cons (jU.ret f (cQ.dict c.ax p a ?_ (xo (λe he=>GO c (h1 e he)) (λe he=>GO c (h2 e he)) a))) jb.nil;have h:=cH.mp d;rw [len_eq] at h;exact pU h
     |_=>exact base _ (by unfold qV;rfl)
   |_=>exact base _ (by unfold qV;rfl)
end
theorem Im v l n:NP (v::l) n=(ah au (ah au (NP l (aG n v.n)) (ak v.s 0)) (ak v.t 2):Option Nat):=rfl
theorem OM:∀{l} {a m},NP l a=O m->(∀v∈l,ak v.t 2=H/\v.s=0)/\∀j,j<=l.length->a+((l.take j).map V.n).sum<=m/\(j=l.length->a+((l.take j).map V.n).sum=m):=by
 intro l
 induction l with
 |nil=>
  intro a m e;injection e with e;subst e
  exact⟨λv hv=>((aU hv).elim),λj b=>by simp⟩
 |cons v l d=>
  intro a m e;rw [Im] at e;refine aC (dM e) λe h2=>aC (dM e) λe f=>aC (d e) λc g=>⟨λu hu=> ?_,λj b=> ?_⟩
  .rcases aT.mp hu with rfl|hu
   .exact⟨h2,aH f⟩
   .exact g u hu
  .induction j using zN with
   |zero=>
    have:=(c 0 (iC _)).1;simp at this⊢;exact i6 this
   |succ j=>
    have:=c j (qH b);simp only [List.take_succ_cons,dH,List.sum_cons,iK,Nat.add_right_cancel_iff] at this⊢;exact⟨by lia,λq=>by have:=this.2 q;lia⟩
theorem xq {xs:List V}:∀{j},j<=xs.length->preSum (λi=>(((xs.map V.n).getD i 0:Nat):Int)) j=((((xs.take j).map V.n).sum:Nat):Int):=by
 intro j
 induction j with
 |zero=>exact λ_=>rfl
 |succ j c=>
  intro b;have a:j<xs.length:=b;refine(?_:preSum _ j+_=_);have d:(xs.map V.n).getD j 0=xs[j].n:=by simp [dg,bB a]
  refine U (c (Nat.le_of_succ_le b)) (U (wO a) (U j8 (U List.sum_append ((?_:_+(((xs.map V.n).getD j 0:Nat):Int)=_)))));exact U d (Int.ofNat_add_ofNat (List.sum (sP V.n (List.take j xs))) (V.n xs[j]))
section
variable {X:dz}
theorem T8 (J:bw X):qf X 11:=by
 intro n A K w h s F vs ys hv k res l Q L;refine eU ?_;refine dN (ez l) λv d=> ?_;subst d;intro e;refine dN hv.one λy d=> ?_;subst d;intro hy;refine gQ (fR e) λo e M P R=>aL (bC e) λm e hm=>gb (dM e) λB e=>gb (hy.eu M) λd=> ?_;subst d;intro lv;refine sS (F.listAt P R) λitems ep x hn p hr=>aC (OM hm) λG S=> ?_;have c:o.xs.length=items.size:=by refine U p.length ?_;simp
 refine bX (call_sum_walk (iI (gc _ x rfl _ rfl) ?_));have C:∀i y,items[i]? =O y->∃t,y=gM ((((o.xs.map V.n).getD i 0:Nat)):Int) t:=by
  intro i y hi;have q:i<o.xs.length:=by
   exact U c ((fL.mp hi).1)
  have hu:=bB q;refine aL (p.get hu) λz D hz=> ?_;rw [bz,hi] at hz;injection hz with hz;subst hz
  refine gb (S _ (mh q)) λq1 q2=>fE (D.cS q1) λt d=> ?_;subst d;refine⟨t,(U (Cv q2) ?_)⟩;simp [dg,hu]
 have f:∀j,j<=items.size->preSum (λi=>(((o.xs.map V.n).getD i 0:Nat):Int)) j<=1000000000000/\0<=preSum (λi=>(((o.xs.map V.n).getD i 0:Nat):Int)) j:=by
  intro j r;exact U (xq (le_of_le_of_eq r (id (gC c)))) (⟨qE.mpr (aI (f6 (G j (le_of_le_of_eq r (id (gC c)))).1) (aA B)),cC _⟩)
 refine jg s.heap.objs.size [s.heap.objs.size,w.ρ v.n] [s.heap.objs.size] items.size (λi v=>items[i]? =O v) (λi I=>I.IsListIter s.heap.objs.size (w.ρ v.n) i/\I.IsList (w.ρ v.n) items) (λi=>(((o.xs.map V.n).getD i 0:Nat):Int)) rfl (Walks.list (A:=A.in1) K.handled s.heap.objs.size (w.ρ v.n) (cj (bk x)) items) ⟨(f7 _ (aJ _ rfl) rfl rfl),(gc _ (az _ x) rfl _ rfl)⟩ ?_ C ?_ ?_
 .intro b hb;have g:(s.heap.push {cls:= .type "list_iterator",data:= .fields #[.ref (w.ρ v.n),.int 0 0]}).objs.size=s.heap.objs.size+1:=bJ ..;refine U g ?_;have:=bk x;rcases aT.mp hb with rfl|hb
  .exact bN _
  .refine U (eF.mp hb) ?_;exact cK this
 .intro j r;have h1:=f j (gO r);have h2:=f (j+1) r;have h3:preSum (λi=>(((o.xs.map V.n).getD i 0:Nat):Int)) (j+1)=preSum (λi=>(((o.xs.map V.n).getD i 0:Nat):Int)) j+(((o.xs.map V.n).getD j 0:Nat):Int):=rfl;exact⟨(⟨eg (by decide) (cC _),vL (eg (Int.le_add_of_nonneg_left h1.2) (h3▸h2.1)) (by decide)⟩),eg (by decide) h2.2,vL h2.1 (by decide)⟩
 .intro h' tk t' hk E;refine aC (F.ja J (h':=h') (tk:=tk) E λa ob e=>hk a ob (by
   intro hm;have h1:=bk e;rw [eF.mp hm] at h1;exact j7 _ h1) (az _ e)) λa2 a1=> ?_
  have u:preSum (λi=>(((o.xs.map V.n).getD i 0:Nat):Int)) items.size=bf m:=by
   refine U (xq (cX (id (gC c)))) ?_;have:=(G items.size (cX (id (gC c)))).2 c.symm;simp at this⊢;lia
  exact U u (L w h _ _ _ a1 a2 (.nat m t') e)
end
section
variable {X:dz}
theorem uZ m (h:m=1\/m=7\/m=9\/m=10\/17<m):qf X m:=by
 refine OJ m ?_;rcases h with rfl|rfl|rfl|rfl|h
 .rfl
 .rfl
 .rfl
 .rfl
 .exact i7 h▸(rfl:find (m-18+18) JL=au)
end
section
variable {X:dz} {b:Nat}
theorem T9 x:qu X b x ⟨RD,λa=>aj⟩:=λt ht=>ff ht
theorem Ua x:xd X b x ⟨RE,λa=>aj⟩:=λt ht=>ff ht
theorem Ub (h1:qu X b "append" ⟨BU,λt=>ak t 1⟩) (h2:qu X b "extend" ⟨xT,λt=>ah (ak t 3) H (ak t 1)⟩) (a:qu X b "get" ⟨SP,λt=>ak t 2⟩) (c:qu X b "setdefault" ⟨qS,λt=>ak t 2⟩)
 {x} (hx:aZ x=H):qu X b x (SS (nm x)):=by
 unfold SS
 induction d:ak (nm x) (nm "append") using zB with
 |true=>have:=gS hx rfl (aH d);subst this;exact h1
 |false=>
  induction e:ak (nm x) (nm "extend") using zB with
  |true=>have:=gS hx rfl (aH e);subst this;exact h2
  |false=>
   induction f:ak (nm x) (nm "get") using zB with
   |true=>have:=gS hx rfl (aH f);subst this;exact a
   |false=>
    induction g:ak (nm x) (nm "setdefault") using zB with
    |true=>have:=gS hx rfl (aH g);subst this;exact c
    |false=>exact T9 x
theorem Uc (h1:xd X b "index" ⟨EU,λt=>ak t 5⟩) (h2:xd X b "join" ⟨Gn,λt=>ah (ak t 4) H (ak t 3)⟩) {x} (hx:aZ x=H):xd X b x (SV (nm x)):=by
 unfold SV
 induction a:ak (nm x) (nm "index") using zB with
 |true=>have:=gS hx rfl (aH a);subst this;exact h1
 |false=>
  induction c:ak (nm x) (nm "join") using zB with
  |true=>have:=gS hx rfl (aH c);subst this;exact h2
  |false=>exact Ua x
end
theorem lN (e:jump d h k=O r):∃h',h.n<=h'.n/\(∀i o,h'.l.get i=O o->h.l.get i=O o)/\k h'=O r:=aC (dM e) λe h1=>f7 _ (aA h1) (λi o e=>HT.Kc e) e
section
variable {X:dz} {r:Ap} {n b:Nat} {ns:List (Str×aN)} {w:Wd} {h h':ae7} {s:Shared} {env:dD} {ρ:Env}
theorem St.jump (f:bw X) (d:St X w h s) (hn:h.n<=h'.n) (hl:∀i o,h'.l.get i=O o->h.l.get i=O o):St X w h' s/\Ext X cV w h.n s w h'.n s:=by
 have x:Ext X cV w h.n s w h'.n s:=⟨bu _,hn,λc c=>rfl,λc c=>rfl,λc c=>rfl,λc c c c c e=>e,rfl,rfl⟩;refine⟨⟨λi o e=> ?_,λa i e=> ?_,d.base,d.size,d.tab⟩,x⟩
 .exact aC (d.rep i o (hl i o e)) λr hi=>⟨aQ hi hn,r.keep f x.dW hi (λc e=>e) λc c c e=>e⟩
 .exact eZ (d.lim a i e) λg j a3=>iX (aQ j hn) g a3
theorem jU.jump (j:bw X) (hx:jU X r n b ns a x):jU X r n b ns (sJ d a) x:=by
 intro A F env ρ w h s I he J L res e Q E;refine cI (lN (show Mine.jump aj h (λh=>a.f r ρ h (λρ h=>Mine.jump d h λh=>J ρ h) (λv h=>Mine.jump d h λh=>L v h))=O res from e)) λh1 e M P=>aC (I.jump j M P) λk l=>hx A F env ρ w h1 s l (he.ext k) _ _ res e Q ⟨λm o h2 p c q t u=> ?_,λo h2 p v y c t hv u=> ?_⟩
 .exact ju (lN u) λz B C D=>aC (c.jump j C B) λi g=>E.next m o z p g (q.ext i) ((k.none.trans t).trans i.none) D
 .exact ju (lN u) λz B C D=>aC (c.jump j C B) λi g=>E.ret o z p v y g ((k.none.trans t).trans i.none) (hv.mono i.dW) D
theorem cQ.jump (j:bw X) (hx:cQ X r n b ns a x):cQ X r n b ns (xJ d a) x:=by
 intro A o env ρ w h s p he k res e Q q;exact ju (lN (show Mine.jump aj h (λh=>a.f r ρ h λv h=>Mine.jump d h λh=>k v h)=O res from e)) λh1 t u e=>aC (p.jump j u t) λl c=>hx A o env ρ w h1 s c (he.ext l) _ res e Q λz h2 B v y g C hv D=>ju (lN D) λE F I J=>aC (g.jump j I F) λm i=>q z E B v y i ((l.trans C).trans m) (hv.mono m.dW) J
variable {K:Frag} {G:Str->Option V} {Ms:Nat->List (Nat×Nat)}
theorem YI (h:c=aj->cQ X r n b ns x e):cQ X r n b ns (lq c x fm) e:=zv (P:=λx=>cQ X r n b ns x e) (λa=>cQ.bad _) h
theorem YJ {s} (h:c=H->jU X r n b ns x s):jU X r n b ns (lq c k7 x) s:=zv (P:=λx=>jU X r n b ns x s) h λa=>jU.bad _
theorem Bg (h:xU e=H):jx e=false:=by rcases e<;>first|rfl|exact ff h
set_option smartUnfolding false in
theorem nq (c:l9 X K G Ms r n b):∀k ns e,cQ X r n b ns (nK G Ms k ns e) e:=by
 intro k
 induction k with
 |zero=>
  intro _ _;exact cQ.bad _
 |succ k a=>
  intro ns e;have i:=(iF c 30).e ns e
  induction e using aR with
  |Tuple d z p=>exact YI λh=>cQ.tuple c.ax c.htab z p (qh (a ns) h)
  |List d p=>exact YI λh=>cQ.list c.ax p (qh (a ns) h)
  |Compare l g d p=>
   induction g using BN with
   |one op=>
    induction d using BN with
    |one y=>exact YI λj=>cQ.cmp (r8 c op) p (rA j) (a ns l) (a ns y)
    |zero=>exact cQ.bad _
    |more=>exact cQ.bad _
   |zero=>exact cQ.bad _
   |more=>exact cQ.bad _
  |Call f args m p=>exact cQ.jump c.ax i
  |_=>exact i
set_option smartUnfolding false in
theorem Io (c:l9 X K G Ms r n b) ns e:CP X r n b ns e (JW G Ms ns e):=by
 have m:=iF c 30
 induction e using aR with
 |ListComp i d sc p=>
  induction d using BN with
  |one g=>
   rcases g with⟨j,u,k,a⟩
   refine CP.dec λo=>CP.if λq=>CP.if λhp=>uv (uY c (m.e ns) hp) λv t f l=> ?_;have h:=cQ.comp (ns:=ns) c.ax c.hbase c.htab (Cm q) f t (zx c.ax j) l (m.ifs _ k) (nq c 30 _ i) p;rw [<-o] at h;exact⟨h.1,λx=>h.2⟩
  |zero=>exact CP.bad
  |more g=>rcases g with⟨_,_,_,_⟩;exact CP.bad
 |_=>exact CP.bad
set_option smartUnfolding false in
theorem Cw (c:l9 X K G Ms r n b) ns e:j0 X r n b ns (NV G Ms ns e) e:=by
 induction e using aR with
 |Compare l a d p=>
  induction a using BN with
  |one op=>
   induction d using BN with
   |one y=>exact zv (P:=λx=>j0 X r n b ns x (.Compare l [op] [y] p)) (λg=>j0.bad _) λf=>j0.cmp (r8 c op) _ (rA f) (nq c 30 ns _) (nq c 30 ns _)
   |zero=>exact j0.bad _
   |more=>exact j0.bad _
  |zero=>exact j0.bad _
  |more=>exact j0.bad _
 |_=>exact j0.bad _
set_option smartUnfolding false in
theorem Ip (c:l9 X K G Ms r n b) ns e:j0 X r n b ns (E1 G Ms ns e) e:=by
 have g:=(iF c 30).t ns e
 induction e using aR with
 |BoolOp op d p=>
  induction d using VD with
  |two x y=>
   have:=j0.bools (ns:=ns) p (tR.more (op:=op) (Cw c ns x) (tR.one (Cw c ns y)));rcases op<;>exact this
  |zero=>exact j0.bad _
  |one=>exact j0.bad _
  |more=>exact j0.bad _
 |Compare a f d p=>exact Cw c ns (.Compare a f d p)
 |_=>exact g
set_option smartUnfolding false in
theorem Iq (c:l9 X K G Ms r n b) ns e:cQ X r n b ns (JX G Ms ns e) e:=zv (P:=λx=>cQ X r n b ns x e) (λa=>(iF c 30).e ns e) λa=>nq c 30 ns e
set_option smartUnfolding false in
theorem Ir (c:l9 X K G Ms r n b) ns e:cQ X r n b ns (JZ G Ms ns e) e:=by
 have i:=nq c 30 ns e
 induction e using aR with
 |Call f args d p=>
  induction d using zL with
  |cons=>exact cQ.bad _
  |nil=>exact YI λa=>zv (P:=λx=>cQ X r n b ns x (.Call f args [] p)) (λj=>(iF c 30).e ns _) λg=>cQ.call c.rk p (λo m q h=>by rw [h] at g;exact ft g) a ((iF c 30).e ns f) (qh (nq c 30 ns) a)
 |_=>exact i
set_option smartUnfolding false in
theorem Iu (c:l9 X K G Ms r n b) ns e:CP X r n b ns e (JY G Ms ns e):=
 zv (P:=CP X r n b ns e) (λa=>Io c ns e) λa=>CP.unless λh=>CP.no h (Iq c ns e)
theorem jb.pad (m:bw X):jb X r n b ns E3 []:=by
 intro A q env ρ w h s t he o u res e Q p;refine ju (lN (show Mine.jump aj h (λh=>Mine.jump aj h λh=>o ρ h)=O res from e)) λh1 z B e=>aC (t.jump m B z) λC f=>ju (lN e) λh2 D E e=>aC (f.jump m E D) λF g=> ?_;have x:=C.trans F;exact jb.nil (r:=r) A q env ρ w h2 s g (he.ext x) o u res e Q ⟨λi j k l a c d e=>p.next i j k l a c (x.none.trans d) e,λj k l v y a d hv e=>p.ret j k l v y a (x.none.trans d) hv e⟩
set_option smartUnfolding false in
theorem Iv (c:l9 X K G Ms r n b) ns (t e):CP X r n b ns e (J4 G Ms ns t e):=
 zv (P:=CP X r n b ns e) (λa=>CP.if λh=>CP.no (Bg h) (cQ.jump c.ax ((iF c 30).e ns e))) λa=>Iu c ns e
theorem LH (c:l9 X K G Ms r n b) p (d:nJ t e=H) (he:CP X r n b ns e a):jU X r n b ns (jv (Dm G Ms ns t) a) (.Assign [t] e p):=by
 have f:br t=false:=by rcases t<;>first|rfl|exact ff d
 induction g:jx e using zB with
 |true=>exact jU.GK c.ax p he.1 (he.2 g) (yf c ns t) g f
 |false=>exact jU.assign c.ax p he.1 (yf c ns t) g d (λts z p q=>U q D3) (λts p q=>U q (λi i i i=>rfl)) f
set_option smartUnfolding false in
theorem Iw (c:l9 X K G Ms r n b) ns s:jU X r n b ns (J5 G Ms ns s) s:=by
 have d:=(FD c 100).1 ns s
 induction s using eY with
 |Assign ts e p=>
  induction ts using BN with
  |one t=>
   exact YJ λf=>YJ λh=>YJ λa=>LH c p a (CP.no (Bg h) (cQ.jump c.ax ((iF c 30).e ns e)))
  |zero=>exact jU.bad _
  |more=>exact jU.bad _
 |_=>exact d
set_option smartUnfolding false in
theorem Iz (c:l9 X K G Ms r n b) ns s:jU X r n b ns (E4 G Ms ns s) s:=by
 have g:=(FD c 100).1 ns s
 induction s using eY with
 |Return e p=>
  induction e using zO with
  |none=>exact jU.bad _
  |some e=>exact jU.ret p (Ir c ns e)
 |Assign ts e p=>
  induction ts using BN with
  |one t=>
   exact YJ λf=>LH c p f (Iv c ns t e)
  |zero=>exact jU.bad _
  |more=>exact jU.bad _
 |If t a d p=>
  induction d using zL with
  |cons=>exact jU.bad _
  |nil=>
   refine jU.ite p (Ip c ns t) ?_ (jb.pad c.ax)
   induction a using BN with
   |one s=>
    exact jb.cons (Iw c ns s) jb.nil
   |zero=>exact jb.bad _
   |more=>exact jb.bad _
 |_=>exact g
theorem LI (c:l9 X K G Ms r n b) ns:∀body:List Stmt,jb X r n b ns (J8 G Ms ns body) body:=by
 intro body
 induction body with
 |nil=>
  exact jb.nil
 |cons s d a=>
  exact jb.cons (jU.jump c.ax (Iz c ns s)) a
end
section
variable {prog:Program} {ww:World} {A:Around}
theorem LJ (n:A.handled=au) (I d) (l:d≠I) es ep:Walks prog ww A I [I,d] [I] es.size (λi v=>∃j,es[i]? =O j/\v=j.key) (λi h=>h.IsKeyIter I d i es.size ep/\h.get? d=O (cJ es ep)) where
 sub:=λb hb=>by simp at hb;simp [hb]
 frame:=λg g g a hk=>⟨a.1.at λo e=>hk I aE o e,hk d (mS rfl) _ a.2⟩
 item:=λi s Q E hi a k=>by
  refine wm n a.1 a.2 rfl (λj hx h' c f=> ?_) (λhx=> ?_)
  .exact k _ h' s.toks (bW j hx rfl) ⟨c,f.extBut _ _ l a.2⟩ λb o hb e=>f.extBut b o (λh=>hb (by simp [h])) e
  .rw [eB] at hx;lia
 done:=λs Q E a k=>by
  refine wm n a.1 a.2 rfl (λj hx h' c f=> ?_) (λhx h' m=> ?_)
  .have:=(fL.mp hx).1;lia
  .exact k h' s.toks λb o hb e=>m b o (λh=>hb (by simp [h])) e
 self:=λg g g g a k=>wpAny_pyIter_keyiter a.1 k
theorem GP d (c:(d==ly)=aj) es ep (X:dz):KdlSrc X.prog X.w "dict" d d es.size (λi v=>∃b,es[i]? =O b/\v=b.key) (λh=>h.get? d=O (cJ es ep)) where
 type:=λa hm=>bW _ hm rfl
 there:=λa hm=>⟨bk hm,bk hm⟩
 keep:=λa a hm hk=>hk d (.inl rfl) _ hm
 notList:=rfl
 notTuple:=rfl
 hint:=λa a a a hm hq=>kdl_hint_dict (bW _ hm rfl) hq
 iter:=λA s e hm=>jY _ _ (λa a hq=>DW c hm hq) (LJ e _ d (cj (bk hm)) es ep) ⟨(f7 _ (aJ _ rfl) rfl rfl),az _ hm⟩
end
section
variable {X:dz} {w:Wd} {h:ae7} {s:Shared}
theorem St.tabAt (b:St X w h s) (c:h.l.get i=O o) (ht:o.t=2):∃a ep,s.heap.get? (w.ρ i)=O (cJ a ep)/\a.size<=1000000/\gU X s.heap w h.n o.kvs a.toList/\w.role (w.ρ i)=O i:=by
 obtain⟨a,ep,d,e,hn,f,_⟩:=(b.rep i o c).2.kP ht;exact lG a ep e hn f d
theorem FE (b:St X w h s) (a:10<=X.h₀.objs.size) (c:w.role (w.ρ i)=O i):(w.ρ i==ly)=false:=by
 have:=(b.lim _ i c).2.1;have h2:ly<10:=by decide
 exact beq_eq_false_iff_ne.mpr (iB (aQ h2 (aI a this)))
theorem D5 (a:iV (qX X g w n) kvs es):ef X g w n (kvs.map eE) (es.map DictEntry.key):=by
 induction a with
 |nil=>exact .nil
 |cons x _ b=>exact .cons _ _ _ _ x.key b
theorem zA {b:Array aV} (h:ItemsOf (λi v=>∃c,b[i]? =O c/\v=c.key) acc b.size):acc.toList=b.toList.map DictEntry.key:=by
 apply List.ext_getElem?;intro i;refine U k9 (U bz (U bz ?_))
 induction d:acc[i]? using zO with
 |none=>
  rw [eB] at d;have:b[i]? =none:=by rw [eB];have:=h.1;exact le_of_eq_of_le (id (gC this)) d
  refine U this ?_;rfl
 |some v=>
  refine aL (h.2 i v d) λc e=> ?_;subst e;intro f;refine U f ?_;rfl
theorem Bh (m:bw X) (p:St X w h s) {b:Addr} (hb:s.heap.objs.size<=b) (hk:∀b o,s.heap.get? b=O o->h'.get? b=O o) (c:h'.get? b=O (gp acc c')) (hv:ef X s.heap w h.n xs acc.toList) (hn:acc.size<=1000000)
 (e:k (bP h.n) ⟨HT.ins (bL xs) h.l h.n,h.n+1⟩=O res) (q:Goes (PV X) X w h.n s k res Q):Q (.ref b) {s with heap:=h',toks:=tk}:=by
 have d:=bk c;refine gb (p.new m (o:=bL xs) (b:=b) (own:=λa=>a==b) (ReflBEq.rfl) (s':={s with heap:=h',toks:=tk}) (aI hb (gO d))
  (λa r=>by have:a=b:=(by simpa using r);subst this;exact⟨hb,d⟩) (λa f e=>hk a f e) rfl rfl 0 _ rfl
  (λt u j y=> .list xs acc c' (U j u) (U j c) hn (hv.mono t))) λv x=> ?_
 refine q _ _ _ _ _ v x ?_ e;have:=VR.ref (X:=X) (g:=h') (w:=⟨λi=>if i=h.n then b else w.ρ i,λa=>if(a==b)=H then O h.n else w.role a,λi=>if i=h.n then 0 else w.ug i⟩) (n:=h.n+1) h.n (bN _);simpa using this
theorem D6 (l:List (V×V)):l5 eE l=l.map eE:=by
 induction l with
 |nil=>rfl
 |cons a l b=>show a.1::l5 eE l=_;refine U b ?_;rfl
theorem ON (l:bw X) (b:10<=X.h₀.objs.size):qf X 5:=by
 intro n A x w h s f vs ys hv k res g Q m;refine eU ?_;refine dN (ez g) λv c=> ?_;subst c;intro e;refine dN hv.one λy c=> ?_;subst c;intro hy;refine sE e (λz e=> ?_) λi e=> ?_
 .refine aC (dM e) λe i=>fH (hy.g9 (aH z)) λt items ep j q r ht hn d=>U q ?_;exact D4 l f (.inr rfl) j rfl rfl hn d e m
 refine dF (dj e) λo e B u=>U ((hy.eu B).1) (sE e (λh1 e=> ?_) λi e=> ?_)
 .exact aC (dM e) λe i=>sS (f.listAt u (aH h1)) λitems ep j hn d i=>D4 l f (.inl rfl) j rfl rfl hn d e m
 refine aC (dM e) λe h2=>aC (dM e) λe i=>sS (f.tabAt u (aH h2)) λC ep j hn D r=>kdl_call (GP _ (FE f b r) C ep X) x.handled j (aI hn bx) λh' tk acc c' hk p a=> ?_;have E:=a.1;rw [D6] at e;exact Bh l f (bu _) hk p (U (zA a) (D5 D.all)) (by lia) e m
end
theorem Bj lt (x y) l:ER lt x (y::l)=bif lt x y then x::y::l else y::ER lt x l:=by
 refine(?_:(ah (y::ER lt x l) (x::y::l) (lt x y):List V)=_);rcases lt x y<;>rfl
theorem Bk lt x:∀l:List V,(ER lt x l).Perm (x::l):=by
 intro l
 induction l with
 |nil=>
  exact List.Perm.refl _
 |cons y l a=>
  refine U (Bj ..) ?_
  induction lt x y using zB with
  |true=>exact List.Perm.refl _
  |false=>exact((a).cons y).trans (List.Perm.swap x y l)
theorem FF lt x l:oH lt (x::l)=ER lt x (oH lt l):=rfl
theorem jW lt:∀l:List V,(oH lt l).Perm l:=by
 intro l
 induction l with
 |nil=>
  exact List.Perm.refl _
 |cons x l a=>
  refine U (FF ..) ?_;exact(Bk lt x _).trans ((a).cons x)
section
variable {α:Type} (R:α->α->Prop) (f:V->α) (lt:V->V->Bool)
theorem D7 (d:∀a b c,R a b->R b c->R a c) {x:V}:∀{l},(∀y∈l,(lt x y=H->R (f x) (f y))/\(lt x y=aj->R (f y) (f x)))->l.Pairwise (λa b=>R (f a) (f b))->(ER lt x l).Pairwise (λa b=>R (f a) (f b)):=by
 intro l
 induction l with
 |nil=>
  intro _ _;show([x]:List V).Pairwise _;exact List.pairwise_singleton _ _
 |cons y l i=>
  intro h p;refine U (Bj ..) ?_;have hy:=h y aE;rw [iW] at p
  induction e:lt x y using zB with
  |true=>
   refine iW.mpr ⟨λz hz=> ?_,iW.mpr p⟩;rcases aT.mp hz with rfl|hz
   .exact hy.1 e
   .exact d _ _ _ (hy.1 e) (p.1 z hz)
  |false=>
   refine iW.mpr ⟨λz hz=> ?_,i (λz hz=>h z (aD _ hz)) p.2⟩;rcases aT.mp ((Bk lt x l).mem_iff.mp hz) with rfl|hz
   .exact hy.2 e
   .exact p.1 z hz
theorem u0 (d:∀a b c,R a b->R b c->R a c):∀{l},(∀x∈l,∀y∈l,(lt x y=H->R (f x) (f y))/\(lt x y=aj->R (f y) (f x)))->(oH lt l).Pairwise (λa b=>R (f a) (f b)):=by
 intro l
 induction l with
 |nil=>
  intro _;exact List.Pairwise.nil
 |cons x l e=>
  intro h;refine D7 R f lt d (λy hy=>h x aE y (aD _ ((jW lt l).mem_iff.mp hy))) (e λa i b hb=>h a (aD _ i) b (aD _ hb))
end
section
variable {X:dz} {g:Heap} {w:Wd} {n:Nat}
theorem ef.mem (h:ef X g w n vs ys) (hv:v∈vs):∃y,y∈ys/\VR X g w n v y:=by
 obtain⟨i,hi,rfl⟩:=nv hv;refine aL (h.get (bB hi)) λy r hy=> ?_;exact bW y (cY hy) r
theorem VR.int_at (h:VR X g w n v y) (h2:v.t=2) t:VR X g w n v (.int (dS v) t):=by
 induction h using Mine.VR.casesOn with
 |nat k a=>exact .nat k t
 |neg k a=>exact .neg k t
 |_=>exact nn h2 rfl
theorem VR.Ud (h:VR X g w n v y) (a:v.t=3) t:VR X g w n v (.str ⟨v.l.toArray⟩ t):=by
 induction h using Mine.VR.casesOn with
 |str l b hn=>exact .str l t hn
 |_=>exact nn a rfl
theorem ef.ints (h:ef X g w n vs ys) (h2:∀v∈vs,v.t=2):IntsAre ys (vs.map dS):=by
 induction vs generalizing ys with
 |nil=>cases h;exact .nil
 |cons v vs b=>
  cases h with
  |cons _ y _ ys hv c=>
   refine fE (hv.cS (U (h2 v aE) rfl)) λt a=> ?_;subst a;exact .cons _ _ (b c λu hu=>h2 u (aD _ hu))
theorem ef.strs (h:ef X g w n vs ys) (b:∀v∈vs,v.t=3):StrsAre ys (vs.map λv=>⟨v.l.toArray⟩):=by
 induction vs generalizing ys with
 |nil=>cases h;exact .nil
 |cons v vs c=>
  cases h with
  |cons _ y _ ys hv d=>
   have a:=b v aE
   induction hv using Mine.VR.casesOn with
   |str l t hn=>exact .cons _ _ (c d λu hu=>b u (aD _ hu))
   |_=>exact nn a rfl
theorem LK:∀{vs} {ys},(∀v∈vs,v.t=2/\∃y,VR X g w n v y)->IntsAre ys (vs.map dS)->ef X g w n vs ys:=by
 intro vs
 induction vs with
 |nil=>
  intro ys _ h;cases h;exact .nil
 |cons v vs a=>
  intro ys hv h;cases h with
  |cons i t b=>
   obtain⟨h2,y,r⟩:=hv v aE;exact .cons _ _ _ _ (r.int_at h2 t) (a (λu hu=>hv u (aD _ hu)) b)
theorem LL:∀{vs} {ys},(∀v∈vs,v.t=3/\∃y,VR X g w n v y)->StrsAre ys (vs.map λv=>⟨v.l.toArray⟩)->ef X g w n vs ys:=by
 intro vs
 induction vs with
 |nil=>
  intro ys _ h;cases h;exact .nil
 |cons v vs a=>
  intro ys hv h;cases h with
  |cons i t b=>
   obtain⟨c,y,r⟩:=hv v aE;exact .cons _ _ _ _ (r.Ud c t) (a (λu hu=>hv u (aD _ hu)) b)
theorem zC:∀{l},qx t l=H->∀v∈l,v.t=t:=by
 intro l
 induction l with
 |nil=>
  intro _ v hv;exact(aU hv).elim
 |cons u l c=>
  intro e v hv;refine aC (wg e) λb a=> ?_;rcases aT.mp hv with rfl|hv
  .exact a
  .exact c b v hv
theorem zD (h:ef X g w n l ys) (h2:∀v∈l,v.t=2) (ho:IntsAre out ns') (hp:ns'.Perm (l.map dS)) (hs:ns'.Pairwise (·<= ·)):ef X g w n (oH wV l) out:=by
 have mem:∀v∈oH wV l,v∈l:=λv hv=>(jW wV l).mem_iff.mp hv;have e:(oH wV l).map dS=ns':=by
  refine yr (le:=λa b:Int=>a<=b) (λa b u_ u_ h1 h2=>Int.le_antisymm h1 h2) ?_ hs (((jW wV l).map dS).trans hp.symm);rw [wQ];refine u0 (λa b:Int=>a<=b) dS wV (λa b c=>eg) λx hx y hy=>dN (h.mem hx) λa u_ ra=>dN (h.mem hy) λb u_ rb=> ?_;rw [tQ ra rb (U (h2 x hx) rfl) (U (h2 y hy) rfl)];simp only [decide_eq_true_eq,decide_eq_false_iff_not];lia
 refine LK (λv hv=>⟨h2 v (mem v hv), ?_⟩) (U e ho);exact dN (h.mem (mem v hv)) λy u_ r=>⟨y,r⟩
theorem zE (h:ef X g w n l ys) (h3:∀v∈l,v.t=3) (ho:StrsAre out ss') (hp:ss'.Perm (l.map λv=>⟨v.l.toArray⟩)) (hs:ss'.Pairwise (λa b=>¬b.cps.toList<a.cps.toList)):ef X g w n (oH RB l) out:=by
 have mem:∀v∈oH RB l,v∈l:=λv hv=>(jW RB l).mem_iff.mp hv;have e:(oH RB l).map (λv=>(⟨v.l.toArray⟩:Str))=ss':=by
  refine yr (le:=λa b:Str=>¬b.cps.toList<a.cps.toList) (λa b u_ u_ h1 h2=> ?_) ?_ hs (((jW RB l).map _).trans hp.symm)
  .obtain⟨a⟩:=a;obtain⟨b⟩:=b;have:a.toList=b.toList:=List.le_antisymm (jA.mp h1) (jA.mp h2);exact U (Array.toList_inj.mp this) rfl
  .rw [wQ];refine u0 (λa b:Str=>¬b.cps.toList<a.cps.toList) (λv=>⟨v.l.toArray⟩) RB (λa b c h1 h2=>jA.mpr (List.le_trans (jA.mp h1) (jA.mp h2))) λx hx y hy=>(?_:(NN x.l y.l=H->_)/\(NN x.l y.l=aj->_));refine U (KH ..) ?_;simp only [decide_eq_true_eq,decide_eq_false_iff_not];exact⟨λq=>jA.mpr (List.le_of_lt q),λq=>q⟩
 refine LL (λv hv=>⟨h3 v (mem v hv), ?_⟩) (U e ho);exact dN (h.mem (mem v hv)) λy u_ r=>⟨y,r⟩
end
section
variable {prog:Program} {ww:World} {A:Around} {E:Value->Shared->Prop} {s:Shared}
theorem LM (f:s.heap.get? a=O (seqObj "list" vs.toArray n)) (h2:vs.length<2) (h:P (.done (.ret .none)) {s with heap:=sortedHeap s.heap a vs vs.toArray}):
 wpAny (model prog ww) A (Builtin.«list.sort» ⟨[.ref a],[]⟩) P E s:=by
 refine U (list_sort_plain ..) ?_;have l:=bk f;refine aq (listItems_at f rfl (aq (listUpdate_at f rfl ?_ (aI (by simp;lia) bx) (of_decide_eq_true rfl))));obtain⟨j,c⟩:∃j,(s.heap.update a (eH λk=> #[])).get? a=O (seqObj "list" #[] j):=⟨_,get?_update_seq f (λk=> #[])⟩;have d:(((s.heap.update a (eH λk=> #[])).push (seqObj "tuple" vs.toArray 0)).push (seqObj "list" #[] 0)).get? a=O (seqObj "list" #[] j):=by
  refine U (pD _ _ _ (cj (U (size_push' ..) (U (jD ..) (cK l))))) (U (pD _ _ _ (cj (U (jD ..) l))) ?_);exact c
 refine aq (seqEpoch_at c rfl (aq (vM (aq (wpAny_newList (bO ((?_:wpAny (model prog ww) A _ P E {s with heap:=((s.heap.update a (eH λk=> #[])).push (seqObj "tuple" vs.toArray 0)).push (seqObj "list" #[] 0)}))))))));have e:=h2;refine U (if_pos e) (U (if_pos e) (bp (bp ?_)));dsimp only;have b:(arrOf (SortSt.mk' general' (vs.toArray.zip vs.toArray) #[] 7 au)).map (·.2)=vs.toArray:=by
  refine(?_:(vs.toArray.zip vs.toArray).map (·.2)=_);apply Array.ext (by simp);intro i h1 h2;simp
 refine aq (seqEpoch_at d rfl (aq (listUpdate_at d rfl ?_ (of_decide_eq_true rfl) (by refine U b ?_;exact aI (by simp;lia) (xB bx)))));simp only [bne_self_eq_false,ku,if_false];exact U b (av h)
end
theorem zF {c:Nat->Nat->(Bool->Shared->Prop)->Shared->Prop} {d:Nat->Nat->Option Bool} {s:Shared} (f:∀i j b C,d i j=O b->C b s->c i j C s):∀(t:PySem.W.KasT (Array Nat)) {p:Array Nat} {G:Array Nat->Shared->Prop},uE d t=O p->G p s->t.kasWp c G s
 | .ret a,p,G,e,hG=>by
  injection e with e;subst e;exact hG
 | .ask i j k,p,G,e,hG=>by
  exact aL (pX (show(aB au (λb=>uE d (k b)) (d i j):Option (Array Nat))=O p from e)) λb e hb=>f i j b _ hb (zF f (k b) e hG)
section
variable {prog:Program} {ww:World} {A:Around} {E:Value->Shared->Prop} {s:Shared}
theorem LN (y:s.heap.get? a=O (seqObj "list" vs.toArray n)) (h2:2<=vs.length) (z:vs.length<64)
 (f:∀h' Q,(∀b o,b≠a->s.heap.get? b=O o->h'.get? b=O o)->Q κ {s with heap:=h'}->wpAny (model prog ww) A (keyKind' vs.toArray) Q (λc c=>False) {s with heap:=h'})
 (m:∀h' i j b C,(∀b o,b≠a->s.heap.get? b=O o->h'.get? b=O o)->lt i j=O b->C b {s with heap:=h'}->wpAny (model prog ww) A (keyLt' κ (vs.getD i dX) (vs.getD j dX)) C (λc c=>False) {s with heap:=h'})
 (hp:uE lt (vF vs.length)=O p) (h:p.size=vs.length->P (.done (.ret .none)) {s with heap:=sortedHeap s.heap a vs (List.toArray (p.toList.map λi=>vs.getD i dX))}):
 wpAny (model prog ww) A (Builtin.«list.sort» ⟨[.ref a],[]⟩) P E s:=by
 refine U (list_sort_plain ..) ?_;have F:=bk y;refine aq (listItems_at y rfl (aq (listUpdate_at y rfl ?_ (aI (by simp;lia) bx) (of_decide_eq_true rfl))));obtain⟨B,q⟩:∃B,(s.heap.update a (eH λc=> #[])).get? a=O (seqObj "list" #[] B):=⟨_,get?_update_seq y (λc=> #[])⟩;have r:(((s.heap.update a (eH λc=> #[])).push (seqObj "tuple" vs.toArray 0)).push (seqObj "list" #[] 0)).get? a=O (seqObj "list" #[] B):=by
  refine U (pD _ _ _ (cj (U (size_push' ..) (U (jD ..) (cK F))))) (U (pD _ _ _ (cj (U (jD ..) F))) ?_);exact q
 have I:∀b o,b≠a->s.heap.get? b=O o->(((s.heap.update a (eH λc=> #[])).push (seqObj "tuple" vs.toArray 0)).push (seqObj "list" #[] 0)).get? b=O o:=λb o hb e=>
  az _ (az _ ((Heap.get?_update_ne _ _ _ _ hb).trans e))
 refine aq (seqEpoch_at q rfl (aq (vM (aq (wpAny_newList (bO ?_))) (by show vs.length<=_;exact aI (by lia) bx))));refine(?_:wpAny (model prog ww) A _ P E {s with heap:=((s.heap.update a (eH λc=> #[])).push (seqObj "tuple" vs.toArray 0)).push (seqObj "list" #[] 0)});have t:¬vs.toArray.size<2:=U pC ((λ{a b}=>Iff.mpr bD) h2);refine U (if_neg t) (U (if_neg t) (aq (fZ (f _ (λu s'=>u=κ/\s'={s with heap:=((s.heap.update a (eH λc=> #[])).push (seqObj "tuple" vs.toArray 0)).push (seqObj "list" #[] 0)}) I ⟨rfl,rfl⟩) (λu V hk=> ?_) λc c x=>x.elim)));refine gb hk λk l=> ?_;subst k;subst l;refine aq (fZ (PySem.W.kat_run (Q:=λd s'=>p.size=vs.length/\arrOf d=p.map (PySem.W.kas_item (vs.toArray.zip vs.toArray))/\failedOf d=au/\s'={s with heap:=((s.heap.update a (eH λc=> #[])).push (seqObj "tuple" vs.toArray 0)).push (seqObj "list" #[] 0)})
  (G:=λJ s'=>J=p/\s'={s with heap:=((s.heap.update a (eH λc=> #[])).push (seqObj "tuple" vs.toArray 0)).push (seqObj "list" #[] 0)}) rfl h2 z (λJ d s' K L a3 M=> ?_) (zF (λi j b C hb R=>m _ i j b C I hb R) _ hp ⟨rfl,rfl⟩)) ?_ λc c e=>e)
 .refine gb M λk l=> ?_;subst k;subst l;exact qK K L a3 rfl
 rintro⟨⟨⟩,d⟩ s' ⟨v,D,S,rfl⟩;dsimp only;refine U (PySem.W.kat_snds (ks:=vs) rfl D) (aq (seqEpoch_at r rfl (aq (listUpdate_at r rfl ?_ (iC _) (aI (cX (U pC (U (eG ..) (U aM (U v rfl))))) (aI (by lia) (xB bx)))))));refine U S ?_;simp only [bne_self_eq_false,ku,if_false];exact av (h v)
end
theorem sH:∀{l} {p},risingS p l=H->(p::l).Pairwise (λa b=>¬b.cps.toList<a.cps.toList):=by
 intro l
 induction l with
 |nil=>
  intro p _;exact List.pairwise_singleton _ _
 |cons x l c=>
  intro p h;have h:(!Spec.ltCps x.cps.toList p.cps.toList&&risingS x l)=true:=h;rw [aP] at h;have h1:¬x.cps.toList<p.cps.toList:=by
   have:=h.1;rw [ltCps_eq] at this;simpa using this
  have c:=c h.2;refine iW.mpr ⟨λy hy=> ?_,c⟩;rcases aT.mp hy with rfl|hy
  .exact h1
  .exact jA.mpr (List.le_trans (jA.mp h1) (jA.mp ((iW.mp c).1 y hy)))
theorem mW (h:sortedS l=H):l.Pairwise (λa b=>¬b.cps.toList<a.cps.toList):=by
 induction l using zL with
 |nil=>exact .nil
 |cons x l=>exact sH h
section
variable {X:dz} {w:Wd} {h:ae7} {s:Shared}
theorem LO (p:St X w h s) (c:10<=X.h₀.objs.size) (hy:VR X s.heap w h.n v y) (e:items v h k=O res):
 ∃l r,ef X s.heap w h.n l r/\r.length<=1000000/\k l h=O res/\∀A E Q,A.handled=au->
  (∀h' tk,(∀b o,s.heap.get? b=O o->h'.get? b=O o)->s.heap.objs.size<=h'.objs.size->Q r {s with heap:=h',toks:=tk})->wpAny (model X.prog X.w) A (collect y) Q E s:=by
 refine sE e (λz e=> ?_) λm e=> ?_
 .exact fH (hy.g9 (aH z)) λt items ep f q m m hn d=>lG v.xs _ d (U aM hn) e (λA E Q u i=>q▸bX (Aw t (.inr rfl) f rfl rfl (λh' hk a=>i h' s.toks hk a) (aI hn bx)))
 refine dF (dj e) λo e B x=> ?_;have hy:=(hy.eu B).1;refine sE e (λh1 e=> ?_) λm e=> ?_
 .exact sS (p.listAt x (aH h1)) λitems ep f hn d m=>lG o.xs _ d (U aM hn) e (λA E Q u i=>hy▸bX (Aw _ (.inl rfl) f rfl rfl (λh' hk a=>i h' s.toks hk a) (aI hn bx)))
 refine aC (dM e) λe h2=>sS (p.tabAt x (aH h2)) λC ep f hn D F=> ?_;rw [D6] at e;exact lG _ _ (D5 D.all) (U (eG ..) (U aM hn)) e (λA E Q u i=>hy▸bX (kdu_collect (GP _ (FE p c F) C ep X) u f (aI hn bx) λh' tk acc hk j a=>U (zA j) (i h' tk hk a)))
end
theorem D8 v l:p8 (v::l)=ah aj (ah (ah aj (p8 l) (allInts v.xs)) aj (isNil v.xs)) (ak v.t 5):=rfl
theorem wA (h:p8 (u::l)=H):(u.t=5/\u.xs≠[]/\allInts u.xs=H)/\p8 l=true:=by
 rw [D8] at h;exact aC (bT h) λh a=>aC (bF h) λh hn=>gb (bT (x:=p8 l) (b:=allInts u.xs) h) λhi h=>⟨(iX (aH a) (λq=>by rw [q] at hn;exact ft hn) hi),h⟩
theorem zG:∀{l},p8 l=H->∀v∈l,v.t=5/\v.xs≠[]/\allInts v.xs=true:=by
 intro l
 induction l with
 |nil=>
  intro _ v hv;exact(aU hv).elim
 |cons u l a=>
  intro h v hv;exact(aT.mp hv).elim (λq=>q▸(wA h).1) (a (wA h).2 v)
section
variable {X:dz} {g:Heap} {w:Wd} {n:Nat} {A:Around}
theorem LP:∀{xs ys} {d f},ef X g w n xs d->ef X g w n ys f->xG xs ys=O t->xs.length=ys.length->Q t s->∀i,PySem.W.KatLex prog ww A H aj Q (d.zip f) i s:=by
 intro xs
 induction xs with
 |nil=>
  intro ys d f hx _ e _ q i;exact U hx.nil_of (PySem.W.kat_nil ((uN e).2▸q))
 |cons a xs r=>
  intro ys d f hx hy e hl q i;refine jK (r6 e) λc F l hb m h=> ?_;subst hb;refine vP hx.cons_of λx d u o hx=>vP hy.cons_of λy f z p hy=>fE (o.cS l) λB h1=>fE (p.cS m) λC h2=> ?_;have j:=tO o p l m;refine U u (U z (U h1 (U h2 (PySem.W.kat_cons ((intKind prog ww).eqBool (a:=dS a) (b:=dS c) (intKind_is _ _ _ _) (intKind_is _ _ _ _) ?_)))));rcases h with⟨h1,h2⟩|⟨h1,D⟩
  .exact cL j (U h1 (PySem.W.kat_yes (r hx hy h2 (Nat.succ.inj hl) q (i+1))))
  .refine cL j (U h1 (PySem.W.kat_no ?_));rw [D,(tQ o p l m)] at q
   induction i using zN with
   |zero=>exact oneLt_int q
   |succ i=>
    refine(?_:wpAny _ _ (oneLt' aj _ _) _ _ _);exact U (oneLt'_eq ..) (NC (aq (CmpOf.ints_lt (P:=λk v=>(k=0/\v= .int (dS a) B)\/(k=1/\v= .int (dS c) C)) (λk=>if k=0 then dS a else dS c) (λk v h=>by rcases h with⟨rfl,rfl⟩|⟨rfl,rfl⟩<;>exact⟨_,rfl⟩) 0 1 _ _ s _ _ (.inl ⟨rfl,rfl⟩) (.inr ⟨rfl,rfl⟩) (gI q))))
end
theorem OO (c:a.t=5) (e:SK a b=O t):xG a.xs b.xs=O t/\a.xs.length=b.xs.length:=by
 have e:(ah au
  (ah (ah (ah au (ah au (xG a.xs b.xs) (ak (len a.xs) (len b.xs))) (ak a.t 5)) (O (NN a.l b.l)) (ak a.t 3)) (O (wV a b)) (ak a.t 2)) (ak a.t b.t):Option Bool)=O t:=e
 refine aC (dM e) λe d=> ?_;rw [c] at e;refine gb (dM e) λhl e=> ?_;rw [len_eq,len_eq] at hl;exact⟨e,aH hl⟩
section
variable {X:dz} {w:Wd} {h:ae7} {s:Shared} {A:Around}
theorem OP:∀{l} {ys},ef X g w n l ys->p8 l=H->∃b:List Value,PySem.W.KatTups g ys b/\b.length=l.length/\∀v∈b,∃i t,v=gM i t:=by
 intro l
 induction l with
 |nil=>
  intro _ h _;exact f7 [] (U h.nil_of trivial) rfl (λv hv=>(aU hv).elim)
 |cons v l e=>
  intro _ hl h;refine vP hl.cons_of λy ys j hv hl=> ?_;obtain⟨⟨k,m,o⟩,a⟩:=wA h;exact cI (e hl a) λb p r x=>fH (hv.g9 k) λt items ep z B C C hn d=>SH (List.exists_cons_of_ne_nil m) λu us c=>dN (d.get (i:=0) (v:=u) (U c rfl)) λf D F=>fE (F.cS (by rw [j3 o u (U c (aE ..))];rfl)) λtk G=>U j (U B (f7 (f::b) (PySem.W.KatTups.cons z rfl rfl (by refine cL D ?_;simp) r) (congrArg (·+1) x) (λv hv=>(aT.mp hv).elim (λq=>Vp _ _ (q.trans G)) (p v))))
theorem OQ {x y} (p:VR X g w n a x) (r:VR X g w n c y) (m:a.t=5) (u:c.t=5) (hb:SK a c=O b) (v:s.heap=g) (q:C b s):
 wpAny (model prog ww) A (keyLt' (tuples' (cW "int" !=cW "tuple")) x y) C (λf f=>False) s:=by
 refine gb (OO m hb) λz k=>fH (p.g9 m) λt items ep o h1 f f hn i=>fH (r.g9 u) λF d B j h2 f f D e=> ?_;rw [<-v] at o j;have l:decide (items.size<d.size)=false:=by
  rw [i.length,e.length,aM,aM] at k;refine U k ?_;exact decide_eq_false (j7 _)
 exact U h1 (U h2 (PySem.W.kat_lt o rfl j rfl (U l (LP i e z k q 0))))
theorem IA (hl:ef X g w n l ys):∀p:List Nat,ef X g w n (l5 (λi=>aB di (λv=>v) (sU l i)) p) (p.map λi=>ys.getD i dX):=by
 intro p
 induction p with
 |nil=>
  exact .nil
 |cons i p a=>
  refine .cons _ _ _ _ ?_ a;refine(?_:VR X g w n (aB di (λv=>v) (sU l i)) (ys.getD i dX));refine U (mJ ..) ?_
  induction hi:l[i]? using zO with
  |none=>
   have:=hl.get_none hi;refine U dg (U this ?_);exact .none
  |some v=>
   refine dN (hl.get hi) λy hy hv=>U dg (U hy ?_);exact hv
end
section
variable {X:dz} {w:Wd} {h:ae7} {s:Shared}
theorem FG (e:RC l=O r):l.length<64/\((qx 2 l=H/\r=oH wV l)\/(qx 3 l=H/\r=oH RB l)\/(l.length<=1/\r=l)\/(2<=l.length/\JH l=O r)):=by
 refine aC (dM e) λe a=> ?_;have a:=cH.mp a;rw [len_eq] at a;refine⟨a, ?_⟩
 induction h2:qx 2 l using zB with
 |true=>rw [h2] at e;exact .inl ⟨rfl,(aF e).symm⟩
 |false=>
  rw [h2] at e
  induction b:qx 3 l using zB with
  |true=>rw [b] at e;exact .inr (.inl ⟨rfl,(aF e).symm⟩)
  |false=>
   rw [b] at e
   induction h1:bQ (len l) 1 using zB with
   |true=>
    rw [h1] at e;have h1:=aA h1;rw [len_eq] at h1;exact .inr (.inr (.inl ⟨h1,(aF e).symm⟩))
   |false=>
    rw [h1] at e;refine .inr (.inr (.inr ⟨?_,e⟩));rcases Nat.lt_or_ge l.length 2 with q|q
    .have:bQ (len l) 1=true:=U (len_eq ..) (mj (pU q));rw [this] at h1;exact ft h1
    .exact q
theorem IB (ax:bw X) (B:10<=X.h₀.objs.size):qf X 8:=by
 intro n A hA w h s hs vs ys hv k res K Q hQ;refine eU ?_;refine dN (ez K) λv d=> ?_;subst d;intro e;refine dN hv.one λy d=> ?_;subst d;intro hy;refine uw (LO hs B hy e) λl zs L hl hz e=>aL (bC e) λr e hr=>aC (dM e) λe J=>aC (FG hr) λD F=> ?_;have u:=hl.length;have hT:∀{p:Array Nat},2<=l.length->JH l=O r->p8 l=H/\∃p,uE (λi j=>aB au (λa=>aB au (λb=>SK a b) (sU l j)) (sU l i)) (vF l.length)=O p/\r=l5 (λi=>aB di (λv=>v) (sU l i)) p.toList:=by
  intro _ _ e;refine aC (dM e) λe S=>dN (pX e) λp hp e=> ?_;rw [len_eq] at hp;exact yw S p hp ((aF e).symm)
 refine Calls.call_function_entry kind_sorted plain_sorted entry_sorted (args_sorted1 _) (aq (m:=checkCount "sorted" 1 1 _) (av (aq (L _ _ _ hA.handled λh1 tk hk M=>(aq (wpAny_newList ?_ (aI hz bx)))))));have f:(h1.push (seqObj "list" zs.toArray 0)).get? h1.objs.size=O (seqObj "list" zs.toArray 0):=aJ _ rfl;have z:∀out:Array Value,ef X s.heap w h.n r out.toList->out.size<=1000000->Q (.ref h1.objs.size) {s with heap:=sortedHeap (h1.push (seqObj "list" zs.toArray 0)) h1.objs.size zs out,toks:=tk}:=by
  intro out V P;refine fE (sortedHeap_at (out:=out) f) λc' hc'=>Bh ax hs M (λb o eb=> ?_) hc' V ?_ e hQ
  .have hb:=bk (hk b o eb);exact U (sortedHeap_old (cj hb) (U (size_push' ..) (cK hb))) (az _ (hk b o eb))
  .exact P
 refine aq (bO (bH slot_list_sort (bW _ f rfl) entry_list_sort ?_ (args_list_sort _)));have G:∀{r'} {out:Array Value},ef X s.heap w h.n r' out.toList->r'.length=l.length->out.size<=1000000:=λV q=>by
  have q1:=V.length;simp only [aM] at q1;lia
 rcases D with⟨h2,rfl⟩|⟨h3,rfl⟩|⟨hfew,rfl⟩|⟨h2,hsT⟩
 .have hm:=zC h2;exact list_sort_tree f (hl.ints hm) (lt_of_eq_of_lt (id (gC u)) F) λout ns' S a2 a3=>bW _ rfl (av (bW _ rfl (z out (zD hl hm S a2 a3) (G (zD hl hm S a2 a3) (jW _ _).length_eq))))
 .have hm:=zC h3;have hS:=hl.strs hm;exact list_sort_treeK strKind_oneLt f hS.keysOf (λv₁ v₂ rest q=>keyKind_strs (cL q hS)) (lt_of_eq_of_lt (id (gC u)) F) λst' hp hs'=>bW _ rfl (av (bW _ rfl (jB (sorted_out_str hS hp hs') λss' b1 b2 b3=>z _ (zE hl hm b1 b2 (mW b3)) (G (zE hl hm b1 b2 (mW b3)) (jW _ _).length_eq))))
 .exact LM f (by lia) (bW _ rfl (av (bW _ rfl (z _ hl (G hl rfl)))))
 .refine dF (hT (p:= #[]) h2 hsT) λp d=> ?_;subst d;intro I hp;have R:=u.symm;rw [<-R] at hp h2;have up:∀h',(∀b o,b≠h1.objs.size->(h1.push (seqObj "list" zs.toArray 0)).get? b=O o->h'.get? b=O o)->ef X h' w h.n l zs:=λh' x=>by
   exact hl.mono (⟨bu _,λJ J=>rfl,λJ J=>rfl,λa o c1 J J c2=>⟨c1,x a o (cj (bk (hk a o c2))) (az _ (hk a o c2))⟩⟩)
  refine LN (κ:=tuples' (cW "int" !=cW "tuple")) f h2 (lt_of_eq_of_lt R F) (λh' Q' x q=> ?_) (λh' i j b C x hb q=> ?_) hp λhps=>bW _ rfl (av (bW _ rfl (z _ ((IA hl p.toList)) (by simp;lia))))
  .refine cI (OP (up h' x) I) λfs f3 f1 f2=>PySem.W.kat_kind (s:={s with heap:=h',toks:=tk}) f1 (by lia) (λv hv=> ?_) rfl q;refine SH (f3 v hv) λi t d=> ?_;subst d;exact .now
  .have hv:=up h' x;rw [mJ,mJ] at hb;refine aL (pX hb) λa hb ha=>dN (pX hb) λc hc hb=>dN (hv.get ha) λya hya va=>dN (hv.get hc) λyc hyc vc=>U dg (U dg (U hya (U hyc ?_)));exact OQ va vc (zG I a (cY ha)).1 (zG I c (cY hc)).1 hb rfl q
end
namespace B
theorem LQ:mroOf (.type "bytearray")=pure [.type "bytearray",.type "object"]:=by refine U (mroOf_type ..) ?_;kernel_rfl
theorem AQ:typeLookup (.type "bytearray") "__new__"=pure (O (.builtin "bytearray.__new__")):=by refine U (typeLookup_type ..) (U bA ?_);kernel_rfl
theorem Cx:Slot "bytearray" "__init__" "bytearray.__init__":=
 .of (owner:="bytearray") (n:="__init__") (by refine U (typeLookup_type ..) (U bA ?_);kernel_rfl) rfl rfl rfl
  (by first|exact .inl rfl|exact .inr (by decide+kernel)) (by refine U (isSubtype_type ..) ?_;kernel_rfl)
theorem Cy:isSubtype (.type "bytearray") (.type "bytearray")=pure true:=by refine U (isSubtype_type ..) ?_;kernel_rfl
theorem IC:TypeCalled "bytearray" "bytearray.__new__" "bytearray.__init__":=
 ⟨by exact rfl,by decide+kernel,(Vp _ _ LQ),madeBy_type LQ AQ (by decide+kernel),by decide+kernel,Cy,Cx⟩
theorem D9:checkTypeCall "bytearray" ⟨[],[]⟩=pure ():=by kernel_rfl
theorem FH:checkBuiltinCall "bytearray.__new__" ⟨[.type "bytearray"],[]⟩=pure ():=by kernel_rfl
theorem Cz:plainId "bytearray.__new__"=true:=by decide+kernel
theorem CA:entryFor table "bytearray.__new__"=O Builtin.«list.__new__»:=entryFor_alias (id':="list.__new__") (by rw [qC];kernel_rfl) (by decide+kernel) (by decide+kernel) (by rw [qC];kernel_rfl)
theorem AR:entryFor table "bytearray.__init__"=O Builtin.«bytearray.__init__»:=nC (by kernel_rfl)
theorem CB a:argsOk "bytearray.__init__" ⟨[a],[]⟩:=by unfold argsOk;kernel_rfl
theorem LR:("bytearray.__new__".splitOn ".__new__").headD ""="bytearray":=U split_bytearray rfl
theorem FI:typeLookup (.type "bytearray") "__release_buffer__"=pure (O (.builtin "bytearray.__release_buffer__")):=by refine U (typeLookup_type ..) (U bA ?_);kernel_rfl
theorem wB:typeLookup (.type "bytearray") "__buffer__"=pure (O (.builtin "bytearray.__buffer__")):=by refine U (typeLookup_type ..) (U bA ?_);kernel_rfl
theorem j5:typeLookup (.type "bytes") "__buffer__"=pure (O (.builtin "bytes.__buffer__")):=by refine U (typeLookup_type ..) (U bA ?_);kernel_rfl
theorem FJ:typeLookup (.type "bytes") "__release_buffer__"=pure none:=by refine U (typeLookup_type ..) (U bA ?_);kernel_rfl
theorem Ue:isSubtype (.type "bytes") (.type "bytes")=pure true:=by refine U (isSubtype_type ..) ?_;kernel_rfl
theorem Ea:typeLookup (.type "bytearray") "__bytes__"=pure none:=by refine U (typeLookup_type ..) (U bA ?_);kernel_rfl
theorem Eb:typeLookup (.type "bytearray") "__index__"=pure none:=by refine U (typeLookup_type ..) (U bA ?_);kernel_rfl
theorem CC:typeLookup (.type "int") "__bytes__"=pure none:=by refine U (typeLookup_type ..) (U bA ?_);kernel_rfl
theorem int_index:typeLookup (.type "int") "__index__"=pure (O (.builtin "int.__index__")):=by refine U (typeLookup_type ..) (U bA ?_);kernel_rfl
theorem kR:Slot "bytearray" "extend" "bytearray.extend":=
 .of (owner:="bytearray") (n:="extend") (by refine U (typeLookup_type ..) (U bA ?_);kernel_rfl) rfl rfl rfl
  (by first|exact .inl (by decide+kernel)|exact .inr rfl) (by refine U (isSubtype_type ..) ?_;kernel_rfl)
theorem xH:entryFor table "bytearray.extend"=O Builtin.«bytearray.extend»:=nC (by kernel_rfl)
theorem zH (a c):argsOk "bytearray.extend" ⟨[a,c],[]⟩:=by unfold argsOk;kernel_rfl
theorem e1:("bytearray.__buffer__".endsWith ("."++"__buffer__"))=true:=by decide+kernel
theorem e2:("bytes.__buffer__".endsWith ("."++"__buffer__"))=true:=by decide+kernel
theorem e3:("bytearray.__release_buffer__".endsWith ("."++"__release_buffer__"))=true:=by decide+kernel
set_option linter.deprecated false in
theorem d1:("bytearray.__buffer__".dropRight ("__buffer__".length+1))="bytearray":=by decide+kernel
set_option linter.deprecated false in
theorem d2:("bytes.__buffer__".dropRight ("__buffer__".length+1))="bytes":=by decide+kernel
set_option linter.deprecated false in
theorem d3:("bytearray.__release_buffer__".dropRight ("__release_buffer__".length+1))="bytearray":=by decide+kernel
end B
section
variable {prog:Program} {ww:World} {A:Around} {E:Value->Shared->Prop} {s:Shared}
theorem rB (b:s.TypeIs a "bytearray") (q:Q aj s):wpAny (model prog ww) A (vN a) Q E s:=by
 refine aq (aq (bV b B.FI ?_));dsimp only;exact U B.e3 (NC (U B.d3 (fK b B.Cy (av q))))
theorem AS (b:s.TypeIs a "bytearray") (q:Q H s):wpAny (model prog ww) A (wR a "__buffer__") Q E s:=by
 refine bq (bV b B.wB) ?_;dsimp only;exact U B.e1 (NC (U B.d1 (fK b B.Cy q)))
theorem o9 (b:s.TypeIs a "bytes") (q:Q H s):wpAny (model prog ww) A (wR a "__buffer__") Q E s:=by
 refine bq (bV b B.j5) ?_;dsimp only;exact U B.e2 (NC (U B.d2 (fK b B.Ue q)))
theorem zI (b:s.TypeIs a "bytes") (q:Q aj s):wpAny (model prog ww) A (vN a) Q E s:=aq (aq (bV b B.FJ (av (av q))))
theorem Bl {a:Addr} {Q:Bool->Shared->Prop} (q:Q aj s):cG (model prog ww) A (Builtin.Bytes.exported (.ref a)) Q E s:=by
 intro Γ p hΓ hcl;refine(?_:Q (List.any ((Γ.code,p)::Γ.below) _) s);have key:∀f:Code×Pos->Bool,(∀x,yP x.1=H->f x=aj)->((Γ.code,p)::Γ.below).any f=false:=λf hf=>by
  rw [List.any_eq_false];intro x hx;have:yP x.1=true:=by
   rcases aT.mp hx with rfl|hx
   .exact hcl.1
   .exact hcl.2 x hx
  exact U (hf x this) bZ
 rw [key]
 .exact q
 .intro x hx;rcases x with⟨c,pp⟩
  induction c using PySem.Code.casesOn with
  |builtin id as=>
   have hx:(!(oM.contains id))=true:=hx;have n:∀k,oM.contains k=H->¬id=k:=λk hk q=>by rw [q,hk] at hx;exact ff hx
   have dh:Builtin.Bytes.decodersThatHold.contains id=false:=by
    unfold oM at hx;simp only [gu,List.contains_eq_mem,nc,decide_eq_false_iff_not,not_or] at hx⊢;exact hx.2
   delta Builtin.Bytes.exported.match_1;show(dite _ _ _:Bool)=aj;refine U (dif_neg (n _ rfl)) (U (dif_neg (n _ rfl)) (U (dif_neg (n _ rfl)) (U (dif_neg (n _ rfl)) (U (dif_neg (n _ rfl)) ?_))));obtain⟨pos,kw⟩:=as
   induction pos using zL with
   |nil=>rfl
   |cons v r=>
    refine(?_:(Builtin.Bytes.sameRef v (iu a)&&Builtin.Bytes.decodersThatHold.contains id)=aj);exact U dh (Bool.and_false _)
  |_=>rfl
end
section
variable {prog:Program} {ww:World} {A:Around} {E:Value->Shared->Prop} {s:Shared}
theorem zJ {M} (c:s.heap.get? a=O (gW b)) (q:Q b s):wpAny M A (Builtin.Bytes.payload (.ref a)) Q E s:=aq (aq (jd c (av (av q))))
theorem OR (c:s.heap.get? a=O (gW b)) (q:Q () s):cG (model prog ww) A (Builtin.Bytes.checkResize (.ref a)) Q E s:=by
 refine ay (ay (Bl ((?_:cG _ _ (wU (.ref a)>>=λn=>pure (decide (n>0))) _ _ s))));exact ay (ay (eU (jd c (aO (aO (Wg (ne_true_of_eq_false rfl) (aO q)))))))
theorem Bm {id} (q:Q (O b) s):wpAny (model prog ww) A (gA id (.bytes b t) full) Q E s:=by
 have a:=j9 s b t;exact bq (bV a B.j5) (bq (o9 a) (NC (bq (bV a B.j5) (bq (zI a) (aq (av (av q)))))))
theorem IE {id} (d:s.heap.get? a=O (gW b)) (q:Q (O b) s):wpAny (model prog ww) A (gA id (.ref a) full) Q E s:=by
 have c:s.TypeIs (.ref a) "bytearray":=bW _ d rfl;exact bq (bV c B.wB) (bq (AS c) (NC (bq (bV c B.wB) (bq (rB c) (aq (zJ d (av q)))))))
theorem FL (i:s.heap.get? a=O (gW b)) (hz:(b++c).size<=1000000)
 (q:Q .none {s with heap:=s.heap.update a (gZ (·++c))}):cG (model prog ww) A (call (.builtin "bytearray.extend") [.ref a,.bytes c t]) Q E s:=by
 have d:=j9 s c t;refine nN (jV (plainId_quiet B.kR.plain _) rfl B.xH (B.kR.check _ _ _ _ _ _ _ _ (bW _ i rfl) (B.zH _ _) (U (jq B.kR.plain ..) (ay (nj (a:=((.ref a:Value),(.bytes c t:Value))) rfl (ND (bV d B.j5) (iZ (λj=> ?_) λh=>absurd rfl h)))))));refine ay (pJ (ay (eU (zJ i (ay (ay (qY (ay (eU (bV d B.j5 (ay (eU (o9 d (Wh (ay (eU (bV d B.j5 (ay (eU (Bm (aO (aO (iZ (λj=> ?_) λh=>absurd rfl h)))))))))))))))))))))));have g:cG (model prog ww) A.in1 (Builtin.Bytes.write (.ref a) (·++c)>>=λj=>ret .none) (λk s'=>match k with| .done f=>(match (Except.ok f:Result) with| .ok (.ret v)=>Q v s'| .ok _=>False| .error e=>E e s')| .again c'=>c'.quiet=H/\codeN (model prog ww) A c' (λr s'=>match r with| .ok (.ret v)=>Q v s'| .ok _=>False| .error e=>E e s') s') (λe s'=>(match (Except.error e:Result) with| .ok (.ret v)=>Q v s'| .ok _=>False| .error e=>E e s')) s:=by
  refine ay ((?_:cG _ _ (updateBytearray a (·++c)) _ _ s));refine ND (jd i) (ND (wpAny_update i) (eU (BL (bE (gZ (·++c)) i rfl) ?_ ?_)))
  .refine(?_:(if(b++c).size>jr then O "bytearray:memory" else au)=au);exact U (if_neg (bD.mpr (aI hz bx))) rfl
  .exact aO q
 exact iZ (λj=>ay (OR i g)) λj=>g
end
theorem AU:PlainAttrs "bytearray":=
 ⟨(bW ("bytearray.__getattribute__") (by refine U (typeLookup_type ..) (U bA ?_);kernel_rfl) rfl),by refine U (typeLookup_type ..) (U bA ?_);kernel_rfl⟩
theorem zK:typeOf (.builtin "bytearray.extend")=pure (.type "method_descriptor"):=by show builtinType _=_;refine U builtinType_eq_fast ?_;kernel_rfl
section
variable {X:dz} {b:Nat}
theorem IG (r:bw X) (g:St X w h s) (j:h.l.get i=O o) (d:o.t=3) (hz:VR X s.heap w h.n v z) (e:(ah au (put i (yE (app o.bs v.l)) h k) (ak v.t 4):Option Res)=O res) (u:Goes (PV X) X w h.n s k res Q):cG (model X.prog X.w) A (call (.builtin "bytearray.extend") [.ref (w.ρ i),z]) Q (λx x=>False) s:=by
 refine aC (dM e) λe y=>aC (dM e) λe a=>oE (hz.jL (aH y)) λc tk B hz hn=>qN ((g.rep _ o j).2.Gu d) λf m p C D=> ?_;have hl:app o.bs v.l=(f++c).toList.map bU:=U D (U B (U (mH ..) (U fQ (U j8 rfl))));rw [hl] at e a;have a:0+(0+(len ((f++c).toList.map bU)+0))<=1000000:=aA a;rw [len_eq,eG,aM,oq,oq] at a;refine U hz (FL m a ?_);have q:=g.turn r j (gZ (·++c)) s.toks (o':=yE ((f++c).toList.map bU)) (λF p=> .E5 (f++c) p (bE _ m rfl) a) (t8 d rfl);exact u _ _ _ _ _ q.1 q.2 .none e
theorem Ec (a:ef X g w n vs ys) (e:xT ov o vs h k=O res):∃v z,ys=[z]/\VR X g w n v z/\
 (ah (ah au (ah au (put ov.n (yE (app o.bs v.l)) h k) (ak v.t 4)) (ak o.t 3)) (gR v h λys h=>put ov.n (bL (app o.xs ys)) h k) (ak o.t 1):Option Res)=O res:=by
 refine aL (ez e) λv e q=> ?_;rw [q] at a;exact dN a.one λz c hz=>jY v z c hz e
theorem II (m:bw X):qu X b "extend" ⟨xT,λt=>ah (ak t 3) H (ak t 1)⟩:=by
 intro t ht;have f:t=1\/t=3:=by
  have ht:(ah (ak t 3) H (ak t 1):Bool)=true:=ht
  induction h1:ak t 1 using zB with
  |true=>exact .inl (aH h1)
  |false=>rw [h1] at ht;exact .inr (aH ht)
 rcases f with q|q
 .subst q;refine yw (.inl rfl) ("list.extend") ⟨yq,kZ,F.type_list_extend⟩ (λA n p w h s g r y hv i o j a vs ys d k res c Q l=>(kJ (Ec d c) λv z e q hz=> ?_));rw [a] at e;refine U q ?_;exact eU (LD m g hv i j a hz e l)
 .subst q;refine yw (.inr (.inr rfl)) ("bytearray.extend") ⟨AU,B.kR,zK⟩ (λA n p w h s g r y hv i o j a vs ys d k res c Q l=>(kJ (Ec d c) λv z e q hz=> ?_));rw [a] at e;refine U q (U ((hv.eu i).1) ?_);exact IG m g j a hz e l
end
section
variable {prog:Program} {ww:World} {A:Around} {E:Value->Shared->Prop} {s:Shared}
theorem IJ (h:TypeCalled T newId initId)
 (n:checkTypeCall T ⟨args,[]⟩=pure ()) (i:entryFor table initId=O Bi) (o:oM.contains initId=aj)
 (k:codeAny (model prog ww) A.in1 (.call (.builtin newId) ⟨.type T::args,[]⟩) (wants Q₁ (λb b=>False)) s)
 (j:∀obj d,Q₁ obj d->d.TypeIs obj T/\argsOk initId ⟨obj::args,[]⟩/\
  cG (model prog ww) A.in1.in1 (Bi ⟨obj::args,[]⟩) (λp s'=>match p with| .done f=>wants (λr a=>r= .none/\Q obj a) (λb b=>False) (.ok f) s'| .again c'=>c'.quiet=H/\codeN (model prog ww) A.in1 c' (wants (λr a=>r= .none/\Q obj a) (λb b=>False)) s') (λb b=>False) d):
 cG (model prog ww) A (call (.type T) args) Q (λb b=>False) s:=by
 refine SH h.mro λc z l=>nN (dP rfl ((?_:cG _ _ (callAny (.type T) _) _ _ _)));refine aO ⟨vC _ (by decide+kernel),s8 rfl PySem.F.entry_type_call (U (Around.under_plain (weight_type_call_type T args []) rfl) ?_)⟩;unfold Builtin.«type.__call__»;dsimp only;refine U (h.notType) (U (h.canCreate) (U n (NF (U l (NF (U h.made (NF (NF (ay (bh (eU (wpAny_call (codeAny_mono k λr d y=> ?_)))))))))))));rcases r with e|(_|_|_|obj)<;>first|exact y.elim|skip
 refine iP (j _ _ y) λt u w=>ND (fK u h.sub) (ay (bh (ND (bV u h.init.lookup) ?_)));dsimp only;refine U (h.init.bind obj) (bh (ay (aO (ay (nN (iR (jV (R:=wants (λr a=>r= .none/\Q obj a) (λb b=>False)) (plainId_quiet h.init.plain _) o i (h.init.check _ _ _ _ _ _ _ _ u w ?_)) λm a g=> ?_))))))
 .exact U (jq h.init.plain ..) (aW t (λb b q=>q) λb b f=>f.elim)
 .rcases m with e|(_|_|_|v)<;>first|exact g.elim|skip
  refine gb g λx=> ?_;subst x;intro hq;exact aO (aO hq)
theorem Ed (h:Q₁ (.ref s.heap.objs.size) {s with heap:=s.heap.push (gW #[])}):codeAny (model prog ww) A (.call (.builtin "bytearray.__new__") ⟨[.type "bytearray"],[]⟩) (wants Q₁ E) s:=by
 refine codeAny_of_tree (aq (f9 B.FH (av ⟨plainId_quiet B.Cz _,codeAny_builtin_stack B.CA rfl λp b=> ?_⟩)));have a:=B.Cy;obtain⟨hp,g,d,tk,os⟩:=s;simp only [(B.LR)];wp_walk;exact h
theorem LS (h:Q (.ref s.heap.objs.size) {s with heap:=(s.heap.push (gW #[])).update s.heap.objs.size (gZ λc=> #[])}):cG (model prog ww) A (call (.type "bytearray") []) Q (λc c=>False) s:=by
 refine IJ (Q₁:=λobj b=>obj= .ref s.heap.objs.size/\b={s with heap:=s.heap.push (gW #[])}) B.IC B.D9 B.AR rfl (Ed ⟨rfl,rfl⟩) λobj b d=>gb d λf g=> ?_;subst f;subst g;have e:(s.heap.push (gW #[])).get? s.heap.objs.size=O (gW #[]):=aJ _ rfl;have i:iA {s with heap:=s.heap.push (gW #[])} (.ref s.heap.objs.size) "bytearray":=bW _ e rfl;refine iX i (B.CB _) (ND (rB i) (Wh (ay (nj (a:=([au,au,au]:List (Option Value))) (by kernel_rfl) (ay (nj (a:=()) rfl (ay (nj (a:=()) rfl (ay (ay (Bl ((?_:cG _ _ (wU (.ref s.heap.objs.size)>>=λn=>pure (decide (n>0))) _ _ _)))))))))))));refine ay (ay (eU (jd e (aO (aO (iZ (λh=>absurd h (ne_true_of_eq_false rfl)) λc=>ay ((?_:cG _ _ (updateBytearray s.heap.objs.size (λc=> #[])) _ _ _))))))));refine ND (jd e) (ND (wpAny_update e) (eU (BL (bE (gZ λc=> #[]) e rfl) rfl ((?_:cG _ _ ((pure ():Sem Unit)>>=λc=>ret dX) _ _ _)))));exact ay (aO (aO ⟨rfl,h⟩))
theorem Ug (j:s.TypeIs y T) (h1:typeLookup (.type T) "__bytes__"=pure au) (hz:b.size<=jr)
 (c:∀{l} {E'} {d},d au s->wpAny (model prog ww) l (asStr? y) d E' s)
 (e:(typeLookup (.type T) "__index__"=pure au/\∀{l} {E'} {d},d (O b) s->wpAny (model prog ww) l (gA "bytes.__new__" y H) d E' s)\/
  (∃i n t,typeLookup (.type T) "__index__"=pure (O i)/\y= .int (bf n) t/\n<1000000/\b=mY n 0))
 (h:∀t k,Q (.bytes b t) {s with toks:=k}):codeAny (model prog ww) A (.call (.builtin "bytes.__new__") ⟨[.type "bytes",y],[]⟩) (wants Q E) s:=by
 refine codeAny_of_tree (aq (f9 (F.bm_newCall _) (av ⟨plainId_quiet F.bm_plain _,iH F.bm_entry (U (jq F.bm_plain _) (bq (f9 (a:=H) rfl) (bm_if_false rfl (bq (f9 F.bm_sub) (bm_if_false rfl (bq (f9 (F.bm_bind _)) (bq (f9 (a:=()) rfl) (bq (f9 (a:=()) rfl) (bm_if_false rfl (bq (bV j h1) (aq (aq (c (av (bm_if_false rfl ?_)))))))))))))))⟩)));rcases e with⟨h2,f⟩|⟨i,n,t,h2,hy,hn,hb⟩
 .refine bq (bV j h2) (tF rfl ?_)
  first
   |show wpAny _ _ (gA "bytes.__new__" y H>>=_) _ _ _
   |(refine aq ?_;show wpAny _ _ (gA "bytes.__new__" y H>>=_) _ _ _)
  refine bq f (aq (fj (aq (wpAny_mkBytes ?_ hz))));refine tF rfl ?_
  first
   |exact av (h _ _)
   |exact aq (av (av (h _ _)))
 .refine bq (bV j h2) (NC (aq (qG (f9 (U hy rfl) ?_))));dsimp only;have o:(bf n).toNat=n:=rfl;have m:(bf n:Int)=(n:Int):=rfl;have g:Builtin.Bytes.fitsIndex (bf n)=true:=cO.mpr ⟨decide_eq_true (show-(2^63:Int)<=(n:Int) by exact Int.neg_ofNat_le_natCast (2^63) n),decide_eq_true (show(n:Int)<2^63 by lia)⟩;have p:¬(bf n<0):=U m (lA n);have q:¬(bf n>2^63-34):=by refine U m ?_;lia
  have r:Builtin.Bytes.tooLong n=false:=decide_eq_false (bD.mpr (aI (gO hn) bx));simp only [g,Bool.not_true,ku,if_false,p,q,o,r];refine cL hb (aq (fj (aq (wpAny_mkBytes ?_ hz))));refine tF rfl ?_
  first
   |exact av (h _ _)
   |exact aq (av (av (h _ _)))
theorem GQ (h:s.TypeIs y T) (h1:typeLookup (.type T) "__bytes__"=pure au) (hz:b.size<=jr)
 (d:∀{g} {E'} {e},e au s->wpAny (model prog ww) g (asStr? y) e E' s)
 (f:(typeLookup (.type T) "__index__"=pure au/\∀{g} {E'} {e},e (O b) s->wpAny (model prog ww) g (gA "bytes.__new__" y H) e E' s)\/
  (∃i n t,typeLookup (.type T) "__index__"=pure (O i)/\y= .int (bf n) t/\n<1000000/\b=mY n 0))
 (j:∀t k,Q (.bytes b t) {s with toks:=k}):wpAny (model prog ww) A (call (.type "bytes") [y]) Q E s:=callType_codes (Q₁:=λobj a=>a.TypeIs obj "bytes"/\Q obj a) F.bm_called (F.bm_typeCall _) F.entry_object_init (Ug h h1 hz d f λt k=>⟨PySem.W.typeIs_bytes _ _ _,j t k⟩) λobj a c=>iX c.1 (uh obj _) (object_init_meets F.bm_called.init.lookup F.bm_called.made rfl prog ww A.in1 _ a (iX c.1 rfl c.2))
end
section
variable {X:dz}
theorem OS (m:bw X):qf X 3:=by
 intro n A B w h s p vs ys hv k res c Q r;refine aC (dM c) λe h1=> ?_
 induction vs using zL with
 |cons=>exact ff h1
 |nil=>
  cases hv;refine LS ?_;have t:(s.heap.push (gW #[])).get? s.heap.objs.size=O (gW #[]):=aJ _ rfl;have d:=bE (gZ λj=> #[]) t rfl;have f:=bk d;refine gb (p.new m (o:=yE []) (b:=s.heap.objs.size) (own:=λa=>a==s.heap.objs.size) (ReflBEq.rfl) (s':={s with heap:=(s.heap.push (gW #[])).update s.heap.objs.size (gZ λj=> #[])}) (gO f)
   (λa u=>by have:a=s.heap.objs.size:=(by simpa using u);subst this;exact⟨bu _,f⟩) (λa v e=>(dG _ _ (λq=>absurd (bk e) (by refine cL q ?_;exact j7 _))).trans (az _ e)) rfl rfl 0 _ rfl
   (λC x l D=> .E5 #[] (U l x) (U l d) (of_decide_eq_true rfl))) λy z=> ?_
  refine r _ _ _ _ _ y z ?_ e;have:=VR.ref (X:=X) (g:=(s.heap.push (gW #[])).update s.heap.objs.size (gZ λj=> #[])) (w:=⟨λi=>if i=h.n then s.heap.objs.size else w.ρ i,λa=>if(a==s.heap.objs.size)=H then O h.n else w.role a,λi=>if i=h.n then 0 else w.ug i⟩) (n:=h.n+1) h.n (bN _);simpa using this
end
theorem OT n:repl n=List.replicate n 0:=by
 induction n with
 |zero=>rfl
 |succ n a=>show 0::repl n=_;refine U a ?_;rfl
theorem Ef v l:BQ (v::l)=(aB au (λn=>aB au (λl=>O (n::l)) (BQ l)) (Dd 256 v):Option (List Nat)):=rfl
theorem Eg:∀{l} {m},BQ l=O m->(∀v∈l,v.t=2)/\(∀i∈l.map dS,0<=i/\i<256)/\(byteArr (l.map dS)).toList.map bU=m:=by
 intro l
 induction l with
 |nil=>
  intro m e;injection e with e;subst e
  exact iX (λv hv=>((aU hv).elim)) (λv hv=>((aU hv).elim)) rfl
 |cons v l ih=>
  intro m e;rw [Ef] at e;refine aL (pX e) λn e hn=>aL (pX e) λr e hr=> ?_;injection e with e;subst e
  refine eZ (ih hr) λa2 a1 a3=>qM (tX hn) λow=> ?_;subst ow;intro h2 h3 h4;have ht:=Cv h3;refine iX (λu hu=> ?_) (λi hi=> ?_) ?_
  .rcases aT.mp hu with rfl|hu
   .exact aH h2
   .exact a1 u hu
  .rw [dH] at hi;rcases aT.mp hi with rfl|hi
   .refine U ht ?_;lia
   .exact a2 i hi
  .skip
   simp only [dH,jG] at a3⊢;refine U ht ?_;have:((v.n:Int).toNat.toUInt8).toNat=v.n:=by
    refine(?_:v.n %256=v.n);exact yo h4
   exact cons_eq_cons' this a3
section
variable {X:dz}
theorem LU (ax:bw X):qf X 2:=by
 intro n A hA w h s hs vs ys hv k res e₀ Q hQ;refine eU ?_;refine dN (ez e₀) λv ow=> ?_;subst ow;intro e;refine dN hv.one λy ow=> ?_;subst ow;intro hy;have fin:∀b t h' kk,(∀c o,s.heap.get? c=O o->h'.get? c=O o)->s.heap.objs.size<=h'.objs.size->b.size<=1000000->k (fk (b.toList.map bU)) h=O res->Q (.bytes b t) {s with heap:=h',toks:=kk}:=λb t h' kk hk hsz hz e=>by
  exact aC (hs.ja ax (h':=h') (tk:=kk) hsz hk) λa2 a1=>hQ w h _ _ _ a1 a2 (.bytes b t hz) e
 induction h2:ak v.t 2 using zB with
 |true=>
  rw [h2] at e;refine dN (bC e) λm hm e=>gb (uQ e) λhz e=>qM (tX hm) λow=> ?_;subst ow;intro _ h3 h4;refine fE (hy.cS h2) λt ow=> ?_;subst ow;rw [OT] at e hz;have hl:(mY v.n (0:UInt8)).toList.map bU=List.replicate v.n 0:=by simp
  rw [<-hl] at e;have YK:(mY v.n (0:UInt8)).size<=1000000:=by simpa using hz
  refine GQ (typeIs_int _ _ _) B.CC (b:=mY v.n 0) (aI YK bx) (λq=>av q) (.inr (uq _ v.n t B.int_index (U (Cv h3) rfl) (by lia) rfl)) λt' kk=>fin _ t' _ kk (λu_ u_ e=>e) (bu _) YK e
 |false=>
  rw [h2] at e;refine dF (dj e) λo e h6 ho=>gb (hy.eu h6) λow=> ?_;subst ow;intro lv
  induction h1:ak o.t 1 using zB with
  |true=>
   rw [h1] at e;refine dN (bC e) λl hl e=>gb (uQ e) λhz e=>eZ (Eg hl) λb2 b1 b3=>sS (hs.listAt ho (aH h1)) λitems ep hg hn hvs u_=> ?_;have YK:(byteArr (o.xs.map dS)).size<=1000000:=by
    have:((byteArr (o.xs.map dS)).toList.map bU).length=(byteArr (o.xs.map dS)).size:=by simp
    rw [b3] at this;lia
   rw [<-b3] at e;exact bX (call_bytes_ints (gc _ (by simpa using hg) rfl _ rfl) (hvs.ints b1) b2 (by simp;exact aI hn bx) hA.handled λh' t kk hk hsz=>fin _ t h' kk hk hsz YK e)
  |false=>
   rw [h1] at e;refine gb (dM e) λh3 e=>gb (uQ e) λhz e=> ?_
   induction ((hs.rep _ o ho).2) using Mine.Rep.casesOn with
   |E5 b hr hg hn=>
    refine GQ (bW _ hg rfl) B.Ea (aI hn bx) (λq=> ?_) (.inl ⟨B.Eb,λq=>IE hg q⟩) λt' kk=>fin _ t' _ kk (λu_ u_ e=>e) (bu _) hn e;exact aq (jd hg (av q))
   |_=>exact nn (aH h3) rfl
end
end
section
open PyProof.Rows PySem.Calls PySem.SeqAt
section
variable {prog:Program} {ww:World} {A:Around} {E:Value->Shared->Prop} {s:Shared}
theorem IK:typeLookup (.type "list") (bY "keys")=pure none:=by rw [typeLookup_type,bA];kernel_rfl
theorem LV:typeLookup (.type "zip") (bY "keys")=pure none:=by rw [typeLookup_type,bA];kernel_rfl
theorem zM:typeLookup (.type "zip") "__getattr__"=pure none:=by rw [typeLookup_type,bA];kernel_rfl
theorem CD:entryFor table "zip.__getattribute__"=O Builtin.«object.__getattribute__»:=
 entryFor_alias (id':="object.__getattribute__") (by rw [qC];kernel_rfl) (by decide+kernel) (by decide+kernel) (by rw [qC];kernel_rfl)
theorem IL:(["__module__","__name__","__qualname__","__doc__","__annotations__"]:List Str).contains (bY "keys")=false:=by decide+kernel
theorem IQ {a:Addr} {xs:Array Value} {k:Nat} {Q:Option Value->Shared->Prop} (hx:s.heap.get? a=O {cls:= .type "list",data:= .seq xs k}) (l:A.handled=au)
 (h:∀h' tk,(∀b i,s.heap.get? b=O i->h'.get? b=O i)->Q au {s with heap:=h',toks:=tk}):
 wpAny (model prog ww) A (getAttr? (.ref a) (bY "keys")) Q E s:=by
 obtain⟨hp,g,d,tk,os⟩:=s;have j:∀c,(⟨hp,g,d,c,os⟩:Shared).TypeIs (.ref a) "list":=λm=>bW _ hx rfl;have n:=sub_AttributeError;have o:=qw.lookup;have p:=qw.bind (.ref a);have q:=am_list_getattr_none
 repeat (any_goals (first|assumption|exact j _|((with_reducible show wpAny _ _ (call (uc "list.__getattribute__") _ _) _ _ _);refine call_meets qw (j _) am_entry_list_getattribute (F.args_list_getattribute_2 _ _) (meets_getattribute_miss_list a xs k #[] (bY "keys") _ IK IL) (iX hx l (λh' c e f=> ?_)))|wp_step))
 obtain⟨r,t,he⟩:=f.there;refine(?_:wpAny _ _ (getattributeRaised _ _ _ _ _ _ _) _ _ _);unfold getattributeRaised
 repeat (any_goals (first|assumption|wp_step))
 exact h _ _ f.keeps
theorem zP a vs u:
 Meets (Builtin.«object.__getattribute__» ⟨[.ref a,.str (bY "keys") u],[]⟩) (λA R s=>s.heap.get? a=O {cls:= .type "zip",dict:=au,data:= .fields vs,slots:= #[]}/\raisesAttr (.ref a) (bY "keys") A R s):=
 Meets.of_wp λprog w A R s b=>by
  obtain⟨hp,g,d,tk,os⟩:=s;obtain⟨hx,b⟩:=b;have e:(⟨hp,g,d,tk,os⟩:Shared).TypeIs (.ref a) "zip":=bW _ hx rfl;have c:=LV;unfold Builtin.«object.__getattribute__»
  repeat (any_goals (first|assumption|wp_step))
  exact wpAny_raiseAttrError b.1 b.2 (attrMsg_fits (of_decide_eq_true rfl) (by size_fits))
theorem LW {a:Addr} {vs:Array Value} {Q:Option Value->Shared->Prop} (hx:s.heap.get? a=O {cls:= .type "zip",data:= .fields vs}) (k:A.handled=au)
 (h:∀h' tk,(∀b i,s.heap.get? b=O i->h'.get? b=O i)->Q au {s with heap:=h',toks:=tk}):
 wpAny (model prog ww) A (getAttr? (.ref a) (bY "keys")) Q E s:=by
 obtain⟨hp,g,d,tk,os⟩:=s;have j:∀c,(⟨hp,g,d,c,os⟩:Shared).TypeIs (.ref a) "zip":=λl=>bW _ hx rfl;have m:=sub_AttributeError;have n:=qJ.lookup;have o:=qJ.bind (.ref a);have p:=zM
 repeat (any_goals (first|assumption|exact j _|((with_reducible show wpAny _ _ (call (uc "zip.__getattribute__") _ _) _ _ _);refine call_meets qJ (j _) CD (F.args_zip_getattribute_2 _ _) (zP a vs _) (iX hx k (λh' c e f=> ?_)))|wp_step))
 obtain⟨q,r,he⟩:=f.there;refine(?_:wpAny _ _ (getattributeRaised _ _ _ _ _ _ _) _ _ _);unfold getattributeRaised
 repeat (any_goals (first|assumption|wp_step))
 exact h _ _ f.keeps
theorem rE:entryFor table "dict.update.loop"=O Builtin.«dict.update.loop»:=nC (by kernel_rfl)
theorem kU:plainId "dict.update.loop"=true:=by decide+kernel
end
structure OU (prog:Program) (ww:World) (A:Around) (I L:Addr) (D:Heap->Prop) (v:Option Value) (D':Heap->Prop):Prop where
 frame:∀h h',D h->(∀o,h.get? I=O o->h'.get? I=O o)->(∀o,h.get? L=O o->h'.get? L=O o)->D h'
 frame':∀h h',D' h->(∀o,h.get? I=O o->h'.get? I=O o)->(∀o,h.get? L=O o->h'.get? L=O o)->D' h'
 step:∀{s:Shared} {E:Value->Shared->Prop} {Q:Value->Shared->Prop},D s.heap->(∀x h',v=O x->D' h'->gj I s.heap h'->Q x {s with heap:=h'})->
  (∀h' e,v=au->mQ I s.heap h'->(∃o,h'.get? e=O o/\o.cls= .type "StopIteration")->E (.ref e) {s with heap:=h'})->wpAny (model prog ww) A (dI (.ref I)) Q E s
theorem LX {prog:Program} {ww:World} {A:Around} (f:A.handled=au) {I L:Addr} (d:L≠I) (m:Nat) (items:Array Value):
 OU prog ww A I L (λh=>h.IsListIter I L m/\h.IsList L items) items[m]? (λh=>h.IsListIter I L (m+1)/\h.IsList L items) where
 frame:=λh h' a c b=>⟨a.1.at c,a.2.at b⟩
 frame':=λh h' a c b=>⟨a.1.at c,a.2.at b⟩
 step:=λ{s E Q} a hq he=>by
  cases hx:items[m]? with
  |none=>exact wpAny_nextOf_list_end f a.1 a.2 hx λh' e k o=>he h' e hx k o
  |some x=>exact wpAny_nextOf_list_item a.1 a.2 hx λh' c b=>hq x h' hx ⟨c,a.2.extBut b.extBut d⟩ b
section
variable {prog:Program} {ww:World} {A:Around} {E:Value->Shared->Prop} {s:Shared}
theorem u7 {b l:Addr} {i:Nat} {items:Array Value} {x:Value} {Q:Value->Shared->Prop} (a:s.heap.IsTupleIter b l i) (hl:s.heap.IsTuple l items) (hx:items[i]? =O x)
 (g:∀h',h'.IsTupleIter b l (i+1)->gj b s.heap h'->Q x {s with heap:=h'}):wpAny (model prog ww) A (dI (.ref b)) Q E s:=by
 obtain⟨o,d,h,c⟩:=id a;obtain⟨j,e,_,k,f⟩:=hl;refine aq (dU (name:=bY "__next__") a.typeIs fW
  (bH fW a.typeIs oX ?_ (oj _)))
 refine(?_:wpAny _ _ (field (.ref b) 0>>=_) _ _ s);refine bq (fN d c (x:= .ref l) rfl) ((?_:wpAny _ _ (if(iu l==dX)=H then _ else _) _ _ s));refine NJ bZ ((?_:wpAny _ _ (field (.ref b) 1>>=_) _ _ s));refine bq (fN d c (x:= .int i 0) rfl) ((?_:wpAny _ _ (sr (.ref l)>>=_) _ _ s));refine bq (dB e f) ?_;simp only [lC,hx];refine aq (mE d c (fF (fV [])) (av (bW x rfl (av (g _ ?_ (gk ..))))));exact f7 _ (bE _ d (su (i8 c _))) ((xD ..).trans h) (by
  rw [i8 c];exact rfl)
theorem wC {c l:Addr} {i:Nat} {items:Array Value} {Q:Value->Shared->Prop} (j:A.handled=au) (b:s.heap.IsTupleIter c l i) (hl:s.heap.IsTuple l items) (hx:items[i]? =au)
 (k:∀h' e,mQ c s.heap h'->(∃o,h'.get? e=O o/\o.cls= .type "StopIteration")->E (.ref e) {s with heap:=h'}):wpAny (model prog ww) A (dI (.ref c)) Q E s:=by
 obtain⟨o,d,n,f⟩:=id b;obtain⟨p,g,_,q,h⟩:=hl;refine aq (dU (name:=bY "__next__") b.typeIs fW
  (bH fW b.typeIs oX ?_ (oj _)))
 refine(?_:wpAny _ _ (field (.ref c) 0>>=_) _ _ s);refine bq (fN d f (x:= .ref l) rfl) ((?_:wpAny _ _ (if(iu l==dX)=H then _ else _) _ _ s));refine NJ bZ ((?_:wpAny _ _ (field (.ref c) 1>>=_) _ _ s));refine bq (fN d f (x:= .int i 0) rfl) ((?_:wpAny _ _ (sr (.ref l)>>=_) _ _ s));refine bq (dB g h) ?_;simp only [lC,hx];refine aq (fj (aq (mE d f (gm rfl) ((?_:wpAny _ _ (newExc (.type "StopIteration") []>>=_) _ _ _)))));refine aq (aq (dY ?_ (by size_fits)));refine aq (m:=firstArgMember _ _) (f9 (a:=dX) (by first|rfl|(simp only [firstArgMember];rfl)) (dY ?_ (by size_fits)));refine bq wpAny_handled ?_
 first|refine U j ?_|rw [j]
 exact bp (wpAny_throw (k _ _ (((gk ..).extBut.push _).push _) (bW _ (aJ _ rfl) rfl)))
end
theorem OV {prog:Program} {ww:World} {A:Around} (g:A.handled=au) {I L:Addr} (f:L≠I) (m:Nat) (items:Array Value):
 OU prog ww A I L (λh=>h.IsTupleIter I L m/\h.IsTuple L items) items[m]? (λh=>h.IsTupleIter I L (m+1)/\h.IsTuple L items) where
 frame:=λh h' b d c=>⟨b.1.at d,b.2.at c⟩
 frame':=λh h' b d c=>⟨b.1.at d,b.2.at c⟩
 step:=λ{s E Q} b hq he=>by
  cases hx:items[m]? with
  |none=>exact wC g b.1 b.2 hx λh' e k o=>he h' e hx k o
  |some x=>exact u7 b.1 b.2 hx λh' d c=>hq x h' hx ⟨d,b.2.at λo e=>c.extBut L o f e⟩ c
abbrev lO (h:Heap) (z TI TO:Addr) (v f:Value):Prop:=h.get? z=O {cls:= .type "zip",data:= .fields #[v,f,.bool aj,.ref TI,.ref TO]}
inductive LY (h:Heap):Value->Value->Prop where
 |free:LY h .none (.bool aj)
 |kept (T:Addr) (f:Bool) (o:Obj) (e:h.get? T=O o):LY h (rawInt T) (.bool f)
section
variable {prog:Program} {ww:World} {A:Around} {E:Value->Shared->Prop} {s:Shared}
theorem LZ {z I q i1 i2 l1 l2:Addr} {v f a b:Value} {D1 D1' D2 D2':Heap->Prop} {v1 v2:Option Value} {Q:Fin->Shared->Prop} (D:ZipApart z I q i1 i2 l1 l2) (d1:OU prog ww A i1 l1 D1 v1 D1') (d2:OU prog ww A i2 l2 D2 v2 D2')
 (hz:lO s.heap z I q v f) (hf:LY s.heap v f) (hTI:IsPair s.heap I (.ref i1) (.ref i2)) (hTO:IsPair s.heap q a b) (h1:D1 s.heap) (h2:D2 s.heap)
 (hQ:∀h' x y w g a' b',v1=O x->v2=O y->lO h' z I q w g->(w=rawInt s.heap.objs.size/\g= .bool aj\/∃(T:Addr) (o:Obj),v=rawInt (T:Int)/\w=v/\g= .bool H/\s.heap.get? T=O o)->IsPair h' q a' b'->D1' h'->D2' h'->IsPair h' s.heap.objs.size x y->h'.objs.size=s.heap.objs.size+1->
  (∀c o,c≠z->c≠q->c≠i1->c≠i2->s.heap.get? c=O o->h'.get? c=O o)->Q (.done (.ret (.ref s.heap.objs.size))) {s with heap:=h'})
 (hE:∀h' e,(∀c o,c≠z->c≠q->c≠i1->c≠i2->s.heap.get? c=O o->h'.get? c=O o)->(∃o,h'.get? e=O o/\o.cls= .type "StopIteration")->(v1=au\/v2=au)->E (.ref e) {s with heap:=h'}):
 wpAny (model prog ww) A (Builtin.«zip.__next__» ⟨[.ref z],[]⟩) Q E s:=by
 refine(?_:wpAny _ _ (field (.ref z) 2>>=_) _ _ _);refine bq (fN hz rfl (x:= .bool aj) rfl) ((?_:wpAny _ _ (field (.ref z) 3>>=_) _ _ _));refine bq (fN hz rfl (x:= .ref I) rfl) (aq (dB hTI rfl ((?_:wpAny _ _ (Builtin.SmallTypes.ownedTupleIsFree (.ref z)>>=_) _ _ _))));refine aq ?_
 induction hf using Mine.LY.casesOn with
 |free=>
  refine aq (fN hz rfl (x:= .none) rfl (av (bq fj (aq (fN hz rfl (x:= .ref q) rfl (aq (jf hz (gm rfl) λt m i=> ?_)))))));replace m:lO t z I q .ellipsis (.bool aj):=m;refine aq ?_;simp only [List.zipIdx_cons,List.zipIdx_nil,dO,jz];refine aq (aq (wpAny_onRaise ((?_:wpAny _ _ (dI (.ref i1)>>=_) _ _ _))));refine aq (d1.step (d1.frame _ _ h1 (λo e=>i.extBut _ o D.i1z e) (λo e=>i.extBut _ o D.l1z e)) (λx u ex J h=>av ?_) λu e ex h he=> ?_);rotate_left
  .obtain⟨oe,p,hce⟩:=he;have R8:lO u z I q .ellipsis (.bool aj):=h _ _ D.i1z.symm m;have ZS:e≠z:=λx=>by subst x;rw [R8] at p;injection p with p;subst p;simp at hce
   exact jf R8 (gm rfl) λh₃ u_ d=>hE h₃ e (λc o B u_ V u_ x=>d.extBut _ _ B (h _ _ V (i.extBut _ _ B x))) (bW oe (d.extBut _ _ ZS p) hce) (.inl ex)
  have R:IsPair u q a b:=h.extBut _ _ D.TOi1 (i.extBut _ _ D.TOz hTO);refine aq (dB R rfl (aq (wpAny_updateSeq_pair R λh₃ C d=> ?_)));replace C:IsPair h₃ q x b:=C;refine aq (wpAny_letGo (av (aq (aq (wpAny_onRaise ((?_:wpAny _ _ (dI (.ref i2)>>=_) _ _ _)))))));have K:D2 h₃:=d2.frame _ _ h2 (λo e=>d.extBut _ o D.TOi2.symm (h.extBut _ o D.i12.symm (i.extBut _ o D.i2z e))) λo e=>d.extBut _ o D.l2TO (h.extBut _ o D.l2i1 (i.extBut _ o D.l2z e));refine aq (d2.step K (λy h₄ ey WM l=>av ?_) λh₄ e ey l he=> ?_);rotate_left
  .obtain⟨oe,p,hce⟩:=he;have R9:lO h₄ z I q .ellipsis (.bool aj):=l _ _ D.i2z.symm (d.extBut _ _ D.TOz.symm (h.extBut _ _ D.i1z.symm m));have ZS:e≠z:=λx=>by subst x;rw [R9] at p;injection p with p;subst p;simp at hce
   exact jf R9 (gm rfl) λk u_ j=>hE k e (λc o B c2 V c4 x=>j.extBut _ _ B (l _ _ c4 (d.extBut _ _ c2 (h.extBut _ _ V (i.extBut _ _ B x))))) (bW oe (j.extBut _ _ ZS p) hce) (.inr ey)
  have S:IsPair h₄ q x b:=l.extBut _ _ D.TOi2 C;refine aq (dB S rfl (aq (wpAny_updateSeq_pair S λk n j=> ?_)));replace n:IsPair k q x y:=n;refine aq (wpAny_letGo (av (av (aq (dB n rfl (aq (vM ?_)))))));have hsz:k.objs.size=s.heap.objs.size:=by rw [j.1,l.1,d.1,h.1,i.1]
  have Sb:lO k z I q .ellipsis (.bool aj):=j.extBut _ _ D.TOz.symm (l.extBut _ _ D.i2z.symm (d.extBut _ _ D.TOz.symm (h.extBut _ _ D.i1z.symm m)));refine aq ?_;have WN:z<k.objs.size:=bk Sb;have WO:lO (k.push {cls:= .type "tuple",data:= .seq #[x,y]}) z I q .ellipsis (.bool aj):=az _ Sb;refine aq (jf WO (gm rfl) λZT L M=> ?_);replace L:lO ZT z I q (rawInt k.objs.size) (.bool aj):=L;refine jf L (fF (fV [Value.bool aj,iu I,iu q])) λG F P=> ?_;replace F:lO G z I q (rawInt k.objs.size) (.bool aj):=F;have up:∀c o,c≠z->k.get? c=O o->G.get? c=O o:=λc o B e=>P.extBut _ _ B (M.extBut _ _ B (az _ e));have Sd:IsPair G k.objs.size x y:=P.extBut _ _ (iB WN) (M.extBut _ _ (iB WN) (aJ _ rfl));have hz8:G.objs.size=k.objs.size+1:=by rw [P.1,M.1,bJ]
  rw [hsz] at F Sd hz8;refine av ((?_:Q (.done (.ret (.ref k.objs.size))) _));refine U hsz ?_;refine hQ G x y _ _ x y ex ey F (.inl ⟨rfl,rfl⟩) (up _ _ D.TOz n) (d1.frame' _ _ J (λo e=>up _ o D.i1z (j.extBut _ o D.TOi1.symm (l.extBut _ o D.i12 (d.extBut _ o D.TOi1.symm e)))) (λo e=>up _ o D.l1z (j.extBut _ o D.l1TO (l.extBut _ o D.l1i2 (d.extBut _ o D.l1TO e)))))
   (d2.frame' _ _ WM (λo e=>up _ o D.i2z (j.extBut _ o D.TOi2.symm e)) λo e=>up _ o D.l2z (j.extBut _ o D.l2TO e)) Sd hz8 λc o B c2 V c4 e=>up c o B ((λc o B c2 V c4 e=>j.extBut _ _ c2 (l.extBut _ _ c4 (d.extBut _ _ c2 (h.extBut _ _ V (i.extBut _ _ B e))))) c o B c2 V c4 e)
 |kept T f oT hoT=>
  refine aq (fN hz rfl (x:=rawInt T) rfl ((?_:wpAny _ _ (loadIfAlive ((T:Int).toNat)>>=_) _ _ _)));refine U (lC ..) (bq (PySem.W.kdx_alive hoT) (aq (fN hz rfl (x:= .bool f) rfl (fZ (Q:=λr s'=>r=aj/\∃t,s'={s with heap:=t}/\lO t z I q (rawInt T) (.bool H)/\gj z s.heap t) ?_ ?_ (λu_ u_ e=>e)))))
  .cases f with
   |true=>
    exact NJ bZ (av (C7 rfl _ rfl hz (Heap.SameBut.refl _ _)))
   |false=>
    exact Zr rfl (aq (jf hz (fF (fV [Value.bool aj,iu I,iu q])) λh₃ WQ d=>av (C7 rfl _ rfl WQ d)))
  rintro _ _ ⟨rfl,t,rfl,m,i⟩;simp only [ku,if_false];refine cL Array.forIn_toList ?_;simp only [dO,jz];refine aq (aq (aq (bO ((?_:wpAny _ _ (dI (.ref i1)>>=_) _ _ _)))));refine aq (d1.step (d1.frame _ _ h1 (λo e=>i.extBut _ o D.i1z e) (λo e=>i.extBut _ o D.l1z e)) (λx u ex J h=>av ?_) λu e ex h he=> ?_);rotate_left
  .exact hE u e (λc o B u_ V u_ x=>h _ _ V (i.extBut _ _ B x)) he (.inl ex)
  refine av (aq (aq (bO ((?_:wpAny _ _ (dI (.ref i2)>>=_) _ _ _)))));refine aq (d2.step (d2.frame _ _ h2 (λo e=>h.extBut _ o D.i12.symm (i.extBut _ o D.i2z e)) λo e=>h.extBut _ o D.l2i1 (i.extBut _ o D.l2z e)) (λy h₃ ey K d=>av ?_) λh₃ e ey d he=> ?_);rotate_left
  .exact hE h₃ e (λc o B u_ V c4 x=>d _ _ c4 (h.extBut _ _ V (i.extBut _ _ B x))) he (.inr ey)
  refine av (av (aq (vM ?_ (by show(2:Nat)<=jr;exact fit_le rfl))));have hsz:h₃.objs.size=s.heap.objs.size:=by rw [d.1,h.1,i.1]
  refine av ((?_:Q (.done (.ret (.ref h₃.objs.size))) _));refine U hsz ((hQ _ x y _ _ a b ex ey (az _ (d.extBut _ _ D.i2z.symm (h.extBut _ _ D.i1z.symm m))) (.inr (lG T oT rfl rfl rfl hoT)) (az _ (d.extBut _ _ D.TOi2 (h.extBut _ _ D.TOi1 (i.extBut _ _ D.TOz hTO)))) ?_ ?_ ?_ ?_ λc o B u_ V c4 e=>az _ (d.extBut _ _ c4 (h.extBut _ _ V (i.extBut _ _ B e)))))
  .exact d1.frame' _ _ J (λo e=>az _ (d.extBut _ o D.i12 e)) λo e=>az _ (d.extBut _ o D.l1i2 e)
  .exact d2.frame' _ _ K (λo e=>az _ e) λo e=>az _ e
  .exact hsz▸aJ _ rfl
  .rw [bJ,hsz]
end
end
section
open PyProof.Rows PySem.Calls PySem.SeqAt PySem.W
section
variable {X:dz} {w:Wd} {h:ae7} {s:Shared} {A:Around}
set_option backward.match.sparseCases false in
theorem Eh (e:pairOf v=O p):v.t=5/\v.xs=[p.1,p.2]:=by
 refine aC (dM e) λe d=>⟨aH d, ?_⟩;revert e;generalize v.xs=l;intro e;rcases l with _|⟨a,_|⟨b,_|⟨c,l⟩⟩⟩
 .exact fn e
 .exact fn e
 .injection e with e;subst e;rfl
 .exact fn e
theorem Ei {v:V} {y:Value} (g:bw X) (m:St X w h s) {i:Nat} (hv:VR X s.heap w h.n v y) {p:V×V} (ep:pairOf v=O p) {k:V->ae7->Option Res} {res:Res} (e:Df (bP i) p.1 p.2 h k=O res) (o:A.units<cLine) {Q:Unit->Shared->Prop} (j:Nat)
 (r:∀h' s',St X w h' s'->h'.n=h.n->Ext X cV w h.n s w h.n s'->k di h'=O res->Q () s'):
 wpAny (model X.prog X.w) A (do
  let d<-(Builtin.Dict.pairItems y).tryCatch λe=>do
   if !(<-isInstance e (.type "TypeError")) then throw e
   rule "dict.update.element-no-sequence"
   raiseError "TypeError" s!"cannot convert dictionary update sequence element #{(j : Int)} to a sequence"
  match d with
  |[k,v]=>holding [k,v] (dictSet (w.ρ i) k v)
  |l=>
   rule "dict.update.element-length"
   raiseError "ValueError" s!"dictionary update sequence element #{(j : Int)} has length {l.length}; 2 is required") Q (λu u=>False) s:=by
 refine aC (Eh ep) λhx x=> ?_
 induction hv using Mine.VR.casesOn with
 |tup xs t items z D ht f hn c=>
  subst hx;have B:s.TypeIs (.ref t) "tuple":=bW _ f rfl;refine aq (wpAny_tryCatch (aq (je B (tF rfl (aq (dB f rfl (av ((?_:wpAny _ _ (match items.toList with|[k,v]=>_|l=>_) _ _ _)))))))))
  induction hi:items.toList using zL with
  |nil=>rw [hi] at c;cases c
  |cons a l=>
   rw [hi] at c;cases c with
   |cons _ _ _ _ C hl=>
    cases hl with
    |cons _ b _ _ hb hl=>
     cases hl;exact bO (GL g m C hb e o r)
 |_=>exact absurd x (by first|exact aY rfl|(intro q;exact nn q rfl))
end
section
variable {prog:Program} {ww:World} {A:Around} {E:Value->Shared->Prop} {s:Shared}
theorem zQ
 (h:wpAny (model prog ww) A.in1.in1 (Builtin.Dict.updateFrom "dict.__init__" s.heap.objs.size arg [] .none)
  (λc s'=>match c with| .done f=>wants (λr a=>r= .none/\Q (.ref s.heap.objs.size) a) E (.ok f) s'| .again c'=>c'.quiet=H/\codeAny (model prog ww) A.in1 c' (wants (λr a=>r= .none/\Q (.ref s.heap.objs.size) a) E) s')
  (λe s'=>wants (λr a=>r= .none/\Q (.ref s.heap.objs.size) a) E (.error e) s') {s with heap:=s.heap.push (cJ #[] 0)}):
 wpAny (model prog ww) A (call (.type "dict") [arg]) Q E s:=by
 refine callType_codes (Q₁:=λobj b=>obj= .ref s.heap.objs.size/\b={s with heap:=s.heap.push (cJ #[] 0)}) F.kt_called_dict (F.kt_typeCall_dict_1 _) F.entry_dict_init (kt_code_dict_new _ ⟨rfl,rfl⟩) ?_;rintro obj b ⟨rfl,rfl⟩;have d:iA {s with heap:=s.heap.push (cJ #[] 0)} (.ref s.heap.objs.size) "dict":=bW _ (aJ _ rfl) rfl;refine iX d (F.args_dict_init_2 _ _) (aq (bq (ng d) ((?_:wpAny _ _ (pure (s.heap.objs.size,[arg])) _ _ _))));exact av h
end
section
variable {X:dz} {w:Wd} {h:ae7} {s:Shared} {A:Around}
theorem L0 (m:bw X) (b:St X w h s) (hu:VR X s.heap w h.n u x) (hv:VR X s.heap w h.n v y) (e:Df (bP i) u v h k=O res) (p:A.units<cLine)
 (q:∀o s',St X w ⟨HT.ins o h.l i,h.n⟩ s'->Ext X cV w h.n s w h.n s'->k di ⟨HT.ins o h.l i,h.n⟩=O res->Q () s'):wpAny (model X.prog X.w) A (dictSetHashed (w.ρ i) x (hashOf X u) y) Q (λf f=>False) s:=by
 refine dF (dj e) λo e f g=>aC (dM e) λe r=> ?_
 induction (b.rep _ o g).2 using Mine.Rep.casesOn with
 |dict t B ep C D hn F G j=>
  exact aL (bC e) λd e z=>aC (dM e) λe hz=>GF m b g hu hv z (rm hz) p s.toks λs' a c=>q _ s' a c e
 |_=>exact nn (aH r) rfl
theorem L1 (ax:bw X) (hs:St X w h s) (hj:h.l.get j=O (dZ d c)) (R:j≠i) (h8:d.length<=8) (h3:∀p∈d,p.1.t=3) (S:(w.ρ j==ly)=aj) (V:w.ρ i≠w.ρ j)
 (e:vW (bP i) d h k=O res) (hA:A.units<cLine)
 (hQ:∀h' s',St X w h' s'->h'.n=h.n->Ext X cV w h.n s w h.n s'->k (bP i) h'=O res->Q () s'):
 wpAny (model X.prog X.w) A (Builtin.Dict.mergeDict "dict.__init__" (w.ρ i) (w.ρ j)) Q (λB B=>False) s:=by
 have D:∀{h'} {s'},St X w h' s'->h'.l.get j=O (dZ d c)->∃g,s'.heap.get? (w.ρ j)=O (cJ g (w.ug j+c))/\gU X s'.heap w h'.n d g.toList:=by
  intro h' s' v y;have r:=(v.rep j _ y).2;generalize ho:dZ d c=o at r
  induction r using Mine.Rep.casesOn with
  |dict kvs' g ep hr G hn P cc I=>
   cases ho;rw [I] at G;exact bW g G P
  |_=>cases ho
 refine dN (D hs hj) λg G P=> ?_;have C:d.length=g.size:=by refine U P.all.length ?_;simp
 unfold Builtin.Dict.mergeDict;refine NJ (by simpa using V) ?_;unfold kc;rw [if_neg (by refine U S ?_;exact bZ)];refine bp (bq (gJ G rfl) ?_);have few:(decide (g.size<=8)&&g.all λe=>(keyPart e.key).isSome)=true:=by
  refine U (aP ..) (⟨by refine U decide_eq_true_eq (cL C ?_);exact h8, ?_⟩);rw [Array.all_eq_true];intro n hn;obtain⟨p,hp⟩:∃p,d[n]? =O p:=⟨d[n]'(Nat.lt_of_lt_of_eq hn (id (gC C))),bB _⟩;refine dN (P.all.get hp) λq hq r=> ?_;have x:g[n]? =O q:=by refine cL hq ?_;simp
  rw [oW hn] at x;injection x with x;subst x
  have ht:=h3 p (cY hp);have hk:=r.key;generalize g[n].key=kk at hk;generalize p.1=u at ht hk
  induction hk using Mine.VR.casesOn with
  |str l t hn=>rfl
  |_=>exact absurd ht (by first|exact aY rfl|(intro q;exact nn q rfl))
 refine U few (bq (ud G rfl) (bq (gJ G rfl) (U (iM ..) ?_)));simp only [n8,Nat.sub_zero,Nat.add_sub_cancel,Nat.div_one];have go:∀m n h' s',n+m=g.size->St X w h' s'->h'.n=h.n->Ext X cV w h.n s w h.n s'->h'.l.get j=O (dZ d c)->vW (bP i) (d.drop n) h' k=O res->
  ∀b:PUnit,wpAny (model X.prog X.w) A (forIn (List.range' n m) b λi_1 r=>(do
   let a<-dictEntries (w.ρ j)
   match a[i_1]? with
    |some e=>do
     holding [e.key,e.val] (dictSetHashed (w.ρ i) e.key e.hash e.val)
     let a<-dictEpoch (w.ρ j)
     if(a !=w.ug j+c)=H then do
      (unsupported (toString "dict.__init__"++toString ":source-changed-during-callback"):Sem PUnit)
      pure (dJ PUnit.unit)
      else pure (dJ PUnit.unit)
    |_=>do
     (unsupported "internal:dict-merge":Sem PUnit)
     pure (dJ PUnit.unit):Sem (ForInStep PUnit))) (λB F=>Q () F) (λB B=>False) s':=by
  intro m
  induction m with
  |zero=>
   intro n h' s' hn v z hx y e b;rw [List.drop_eq_nil_of_le (by lia)] at e;exact U List.range'_zero (U jz (av (hQ h' s' v z hx e)))
  |succ m ih=>
   intro n h' s' hn v z hx y e b;refine U xP (U (dO ..) (dN (D v y) λJ hg' K=> ?_));have hlen':d.length=J.size:=by refine U K.all.length ?_;simp
   have L:n<d.length:=by lia
   refine aq (bq (gJ hg' rfl) (aL (K.all.get (bB L)) λq r hq=> ?_));have x:J[n]? =O q:=by refine cL hq ?_;simp
   refine U x ?_;dsimp only;rw [iw L] at e;refine U r.hash (aq (bO (L0 ax v r.key r.val e hA λo F a1 a2 e2=> ?_)));have M:HT.get (HT.ins o h'.l i) j=O (dZ d c):=by rw [HT.vZ _ R];exact y
   exact dN (D a1 M) λWm KG hd2=>bq (ud KG rfl) (NJ (by simp) (av (ih (n+1) _ F (by lia) a1 z (hx.trans (z▸a2)) M e2 _)))
 exact aq (fZ (go g.size 0 h s (oq (fJ g)) hs rfl .refl hj e _) (λB B q=>av q) λB B f=>f)
end
section
variable {X:dz} {w:Wd} {h:ae7} {s:Shared} {A:Around}
theorem SrcR.ext (r:SrcR X s.heap w n it a) (x:Ext X F w n s w' n' g) (hF:∀a o,F a->s.heap.get? a=O o->d9 o=aj) (b:w.role it=au) (ht:it∉X.tabs) (c:¬F it):SrcR X g.heap w' n' it a:=
 r.keep (x.keep hF) λo e=>x.old it o b ht c e
theorem L2 (D:bw X) (d:10<=X.h₀.objs.size) (f:∀a∈X.tabs,a<X.h₀.objs.size) {b:Addr} (I:A.handled=au) (J:A.units+1<cLine) (hb:X.h₀.objs.size<=b) {R:Shared->Prop}:
 ∀n {a} {h} {s} (j:Nat),St X w h s->w.role b=au->b<s.heap.objs.size->SrcR X s.heap w h.n b a->xS (bP i) k n a h=O res->
  (∀h' s',St X w h' s'->h'.n=h.n->Ext X (λa=>a=b) w h.n s w h.n s'->k (bP i) h'=O res->R s')->
  codeAny (model X.prog X.w) A (.builtin "dict.update.loop" ⟨[.ref (w.ρ i),.ref b,rawInt j,.none],[]⟩) (wants (λr g=>r= .none/\R g) (λl l=>False)) s:=by
 intro n
 induction n with
 |zero=>
  intro a h s j E t m F e u;exact fn e
 |succ n K=>
  intro a h s j E t m F e u;have e:m5 a h (k (bP i) h) (λv c=>lift (pairOf v) h λp h=>Df (bP i) p.1 p.2 h λl h=>xS (bP i) k n c h)=O res:=e;refine iH rE ((?_:wpAny _ A.in1 (pyNext (.ref b)>>=_) _ _ s));refine aq (zb D d E (A:=A.in1) I t hb F e (λs' x z B=> ?_) λs' y v c x z hy L B=> ?_)
  .exact av ⟨rfl,u h s' x rfl z B⟩
  .refine aL (bC B) λp M ep=>aq (bO (Ei D x hy ep M J j λh2 s2 P C G Q=>(av ⟨plainId_quiet kU _, ?_⟩)));have o:=z.trans (G.weaken (F':=λa=>a=b) λl q=>q.elim);exact K (j+1) P t (aQ m o.size) (U C (L.ext G (λl l q=>q.elim) t (λhm=>absurd (f _ hm) (bD.mpr hb)) (λq=>q))) Q λS V c1 c2 c3 e4=>u S V c1 (c2.trans C) (o.trans (C▸c3)) e4
theorem OW (j:bw X) (d:10<=X.h₀.objs.size) (g:∀a∈X.tabs,a<X.h₀.objs.size):qf X 6:=by
 intro n A D w h s l vs ys hv k res m Q R;refine eU ?_;refine dN (ez (show with1 vs (λv=>look v h λo h=>ah
  (ah au (new (dZ [] 0) h λacc h=>xS acc k 2000 (gn v.n 0) h) (ak o.t 1))
  (ah au (ah au (new (dZ [] 0) h λacc h=>vW acc o.kvs h k) (bQ (len o.kvs) 8)) (HE 3 o.kvs)) (ak o.t 2))=O res from m)) λv i=> ?_;subst i;intro e
 refine dN hv.one λy i=> ?_;subst i;intro hy;refine dF (dj e) λo e h6 z=>gb (hy.eu h6) λE G=>U E ?_;have hu:=D.c (k:=2) rfl;refine zQ (jB (l.push j (cJ #[] 0) (dZ [] 0) s.toks rfl 0 λq k h1 h2 h3=> .dict [] #[] 0 h1 h2 (of_decide_eq_true rfl) ⟨.nil,⟨0,λp hp=>(aU hp).elim⟩,iJ⟩ 0 (U h3 rfl)) λq V I a3=> ?_);have r:=cj G;have f:=I.ρ _ G;refine sE e (λh2 e=> ?_) λu_ e=> ?_
 .refine aC (dM e) λe k3=>aC (dM e) λe k8=> ?_;have J:o.kvs.length<=8:=by have:=aA k8;rw [len_eq] at this;exact this
  refine sS (l.tabAt z (aH h2)) λes ep B hn hd hr=> ?_;have b:iA {s with heap:=s.heap.push (cJ #[] 0)} (.ref (w.ρ v.n)) "dict":=bW _ (az _ B) rfl;exact bq (je b) (aq (aq (bq (fK b isSubtype_dict_dict) (aq (bV b Av.lookup (av (bp (cL a3 (cL f (L1 j V ((l.rep v.n o z).2.eqs.2 (aH h2)▸(HT.vZ _ r z)) r J (λp hp=>uM k3 hd p hp) (U f (FE l d hr)) (U a3 (U f (iB (bk B)))) e hu λh' s' K C b3 e2=>(bp (av ⟨rfl,(R q h' s' (bP h.n) _ K (C▸I.trans b3) (.ref h.n (U C (bN _))) e2)⟩))))))))))))
 .refine aC (dM e) λe h1=>sS (l.listAt z (aH h1)) λitems ep B hn hvs hr=> ?_;have b:(s.heap.push (cJ #[] 0)).get? (w.ρ v.n)=O (gp items ep):=az _ B;have L:iA {s with heap:=s.heap.push (cJ #[] 0)} (.ref (w.ρ v.n)) "list":=bW _ b rfl;refine aq (je L (aq (bX (IQ (A:=A.in1.in1) b D.handled λh' tk hk u=>(aC (V.ja j (h':=h') (tk:=tk) u hk) λC K=>tF rfl (bq fj (bq (iI (items:=items) (gc _ (hk _ _ b) rfl _ rfl)) (qN (K.one j g {cls:= .type "list_iterator",data:= .fields #[.ref (w.ρ v.n),.int 0 0]} tk (a:=gn v.n 0) λu_=> .list v.n 0 (cK G) (f7 _ (aJ _ rfl) rfl (U f rfl))) λS c2 c1 M c4=> ?_))))))));refine av ⟨plainId_quiet kU _, ?_⟩;generalize x:h'.objs.size=it at c1 c2 M c4;refine cL a3 ?_;have own:q.role it=au/\X.h₀.objs.size<=it/\SrcR X (h'.push {cls:= .type "list_iterator",data:= .fields #[.ref (w.ρ v.n),.int 0 0]}) q (h.n+1) it (gn v.n 0):=by
   cases M.is with
   |one it' a hS P=>
    have o:=M.own it ((hS it).mpr rfl);exact iX o.1 o.2.1 P
  refine L2 (A:=A.in1) j d g D.handled hu own.2.1 2000 0 c1 own.1 (by refine cL x ?_;simp) own.2.2 e λh4 s4 d1 d2 d3 e4=> ?_;exact R q h4 s4 (bP h.n) _ d1 (d2▸I.trans ((C.trans c2).nR d3 λa P=> .inr (U P (cL x u)))) (.ref h.n (U d2 (bN _))) e4
end
section
variable {X:dz} {w:Wd} {h:ae7} {s:Shared} {A:Around}
noncomputable def Ej:Bool->String
 |true=>"max"
 |false=>"min"
def valAt (us:List V) (i:Nat):Int:=dS (us.getD i di)
def pP (gt:Bool) (us:List V) (i j:Nat):Bool:=match gt with
 |true=>decide (valAt us i>valAt us j)
 |false=>decide (valAt us i<valAt us j)
theorem L3 (hv:ef X g w n us ys) gt {r}:∀l j m,us.drop (j+1)=l->j<us.length->us[argBest (pP gt us) j]? =O m->m.t=2->Gl gt l m=O r->
 us[argBest (pP gt us) (us.length-1)]? =O r/\r.t=2/\∀x∈l,x.t=2:=by
 intro l
 induction l with
 |nil=>
  intro j m i u hm k e;injection e with e;subst e
  have:us.length<=j+1:=sQ.mp i;exact U (congrArg (· -1) (Nat.le_antisymm this u)) (iX hm k (λx hx=>(aU hx).elim))
 |cons x l v=>
  intro j m i u hm k e;refine aC (dM (show(ah au (ah (Gl gt l m) (Gl gt l x) (ah (wV x m) (wV m x) gt)) (ak x.t 2):Option V)=O r from e)) λe b=> ?_;have hx:us[j+1]? =O x:=by
   have:(us.drop (j+1))[0]? =O x:=U i rfl;rw [List.getElem?_drop] at this;exact this
  have c:=(cg.mp hx).1;have d:us.drop (j+1+1)=l:=by
   refine cL sR (U i ?_);rfl
  refine dN (hv.get hx) λI F z=>dN (hv.get hm) λJ G B=> ?_;have C:us.getD (j+1) di=x:=by refine U dg (U hx ?_);rfl
  have D:us.getD (argBest (pP gt us) j) di=m:=by refine U dg (U hm ?_);rfl
  have f:ak m.t 2=true:=U k rfl;have hb:(ah (wV x m) (wV m x) gt:Bool)=pP gt us (j+1) (argBest (pP gt us) j):=by
   induction gt using zB with
   |true=>show wV m x=decide (dS (us.getD (j+1) di)>dS (us.getD (argBest (pP H us) j) di));refine U C (U D ?_);exact tQ B z f b
   |false=>show wV x m=decide (dS (us.getD (j+1) di)<dS (us.getD (argBest (pP aj us) j) di));refine U C (U D ?_);exact tQ z B b f
  rw [hb] at e;have a:argBest (pP gt us) (j+1)=if pP gt us (j+1) (argBest (pP gt us) j)=H then j+1 else argBest (pP gt us) j:=rfl
  induction E:pP gt us (j+1) (argBest (pP gt us) j) using zB with
  |true=>
   rw [E] at e a;rw [if_pos rfl] at a;exact Rx (v (j+1) x d c (U a hx) (aH b) e) λo p a3=>iX o p (λy hy=>(aT.mp hy).elim (λq=>q▸aH b) (a3 y))
  |false=>
   rw [E] at e a;rw [if_neg bZ] at a;exact Rx (v (j+1) m d c (U a hm) k e) λo p a3=>iX o p (λy hy=>(aT.mp hy).elim (λq=>q▸aH b) (a3 y))
theorem Bo (hv:ef X g w n us ys) (e:bestOf gt us=O r):
 0<ys.length/\us[argBest (pP gt us) (ys.length-1)]? =O r/\(∀x∈us,x.t=2)/\∀i v,ys[i]? =O v->∃t,v=gM (valAt us i) t:=by
 induction us using zL with
 |nil=>exact fn e
 |cons x l=>
  refine gb (dM e) λf e=> ?_;have hl:=hv.length.symm;refine Rx (L3 hv gt l 0 x rfl (jJ _) rfl (aH f) e) λj k a3=> ?_;have a:∀y∈x::l,y.t=2:=λy hy=>(aT.mp hy).elim (λq=>q▸aH f) (a3 y);refine qK (U hl (jJ _)) (U hl j) a (λi v hi=> ?_);have b:i<(x::l).length:=cL hl ((cg.mp hi).1);have hu:=bB b;refine aL (hv.get hu) λz c hz=> ?_;rw [hi] at hz;injection hz with hz;subst hz
  refine fE (c.cS (U (a _ (mh b)) rfl)) λt d=> ?_;subst d;exact⟨t,by unfold valAt;refine U dg (U hu ?_);rfl⟩
theorem Bp (D:bw X) gt (m:A.handled=au) (E:St X w h s) {items} (k:ef X s.heap w h.n us items.toList) (e:bestOf gt us=O r) (hl:s.heap.IsList y items\/s.heap.IsTuple y items)
 (F:∀x s',St X w h s'->Ext X cV w h.n s w h.n s'->VR X s'.heap w h.n r x->Q x s'):
 wpAny (model X.prog X.w) A (call (.builtin (Ej gt)) [.ref y]) Q (λG G=>False) s:=by
 refine ux (Bo k e) λI J P K=> ?_;have d:=cj (by rcases hl with⟨_,e,_⟩|⟨_,e,_⟩<;>exact bk e);have q:y<s.heap.objs.size:=by rcases hl with⟨_,e,_⟩|⟨_,e,_⟩<;>exact bk e
 have hz:0<items.size:=by simpa using J
 have f:∀l v h' tk,items[argBest (pP gt us) (items.size-1)]? =O v->s.heap.objs.size<=h'.objs.size->(∀b o,b∉[s.heap.objs.size]->(s.heap.push l).get? b=O o->h'.get? b=O o)->Q v {s with heap:=h',toks:=tk}:=by
  intro l v h' tk g c hk;refine aC (E.ja D (h':=h') (tk:=tk) c λa o B=>hk a o (by
   intro hm;have h1:=bk B;rw [eF.mp hm] at h1;exact j7 _ h1) (az _ B)) λC L=> ?_
  refine dN (k.get I) λz hz u=> ?_;have M:items.toList[argBest (pP gt us) (items.toList.length-1)]? =O v:=by simpa using g
  rw [M] at hz;injection hz with hz;subst hz
  exact F v _ L C (u.mono C.dW)
 have p:∀l,∀b∈[s.heap.objs.size,y],b<(s.heap.push l).objs.size:=λl b hb=>by
  refine U (bJ ..) ?_;rcases aT.mp hb with rfl|hb
  .exact bN _
  .refine U (eF.mp hb) ?_;exact cK q
 have j:∀i v,items[i]? =O v->∃t,v=gM (valAt us i) t:=λi v hi=>K i v (by simpa using hi);rcases hl with hl|hl
 .induction gt using zB with
  |true=>
   refine bX (call_max_walk (iI hl (jg s.heap.objs.size [s.heap.objs.size,y] [s.heap.objs.size] _ _ _ (pP H us) rfl (Walks.list (A:=A.in1) m _ y d items) ⟨(f7 _ (aJ _ rfl) rfl rfl),hl.push _⟩ (p _) hz (CmpOf.ints_gt (valAt us) j) (λv h' tk g hk c=> ?_))));exact f _ v h' tk g c hk
  |false=>
   refine bX (call_min_walk (iI hl (jg s.heap.objs.size [s.heap.objs.size,y] [s.heap.objs.size] _ _ _ (pP aj us) rfl (Walks.list (A:=A.in1) m _ y d items) ⟨(f7 _ (aJ _ rfl) rfl rfl),hl.push _⟩ (p _) hz (CmpOf.ints_lt (valAt us) j) (λv h' tk g hk c=> ?_))));exact f _ v h' tk g c hk
 .induction gt using zB with
  |true=>
   refine bX (call_max_walk (lF hl (jg s.heap.objs.size [s.heap.objs.size,y] [s.heap.objs.size] _ _ _ (pP H us) rfl (Walks.tuple (A:=A.in1) m _ y d items) ⟨(f7 _ (aJ _ rfl) rfl rfl),hl.push _⟩ (p _) hz (CmpOf.ints_gt (valAt us) j) (λv h' tk g hk c=> ?_))));exact f _ v h' tk g c hk
  |false=>
   refine bX (call_min_walk (lF hl (jg s.heap.objs.size [s.heap.objs.size,y] [s.heap.objs.size] _ _ _ (pP aj us) rfl (Walks.tuple (A:=A.in1) m _ y d items) ⟨(f7 _ (aJ _ rfl) rfl rfl),hl.push _⟩ (p _) hz (CmpOf.ints_lt (valAt us) j) (λv h' tk g hk c=> ?_))));exact f _ v h' tk g c hk
theorem GS (C:bw X) gt (hm:oK m= .builtin (Ej gt)) (L:BS m=BR gt):qf X m:=by
 intro n A D w h s z vs ys hv k res i Q x;refine eU ?_;rw [L] at i;refine U hm ?_;have e:=i;unfold BR at e;rcases vs with _|⟨a,_|⟨c,_|⟨d,l⟩⟩⟩
 .exact fn e
 .dsimp only at e;refine dN hv.one λy b=> ?_;subst b;intro hy
  induction E:ak a.t 5 using zB with
  |true=>
   rw [E] at e;refine dN (bC e) λr B M=> ?_;clear e i
   induction hy using Mine.VR.casesOn with
   |tup xs t items ep P ht F hn p=>exact Bp C gt D.handled z p B (.inr (gc _ F rfl _ rfl)) λG s' j g a3=>x w h s' r G j g a3 M
   |_=>exact nn (aH E) rfl
  |false=>
   rw [E] at e;refine gQ (fR e) λo e R S t1=>dN (bC e) λr B e=>gb (hy.eu R) λb=> ?_;subst b;intro lv;exact sS (z.listAt S t1) λitems ep F hn p P=>Bp C gt D.handled z p B (.inl (gc _ F rfl _ rfl)) λG s' j g a3=>x w h s' r G j g a3 e
 .refine dN (bC e) λr B e=>vP hv.two λya yc b=> ?_;subst b;intro I q;refine ux (Bo hv B) λJ b1 K b4=>fE (I.cS (U (K a (aE ..)) rfl)) λt b=> ?_;subst b;refine fE (q.cS (U (K c (aD _ (aE ..))) rfl)) λu b=> ?_;subst b
  induction gt using zB with
  |true=>
   refine bX (max_two_ints D.handled λh' tk hk v=>(aC (z.ja C (h':=h') (tk:=tk) v hk) λg j=> ?_));have hb:([a,c]:List V)[if decide (dS c>dS a)=H then 1 else 0]? =O r:=J;by_cases f:dS c>dS a
   .rw [if_pos (decide_eq_true f)] at hb;injection hb with hb;subst hb
    exact U (if_pos f) (x w h _ _ _ j g (q.mono g.dW) e)
   .rw [if_neg (by simpa using f)] at hb;injection hb with hb;subst hb
    exact U (if_neg f) (x w h _ _ _ j g (I.mono g.dW) e)
  |false=>
   refine bX (min_two_ints D.handled λh' tk hk v=>(aC (z.ja C (h':=h') (tk:=tk) v hk) λg j=> ?_));have hb:([a,c]:List V)[if decide (dS c<dS a)=H then 1 else 0]? =O r:=J;by_cases f:dS c<dS a
   .rw [if_pos (decide_eq_true f)] at hb;injection hb with hb;subst hb
    exact U (if_pos f) (x w h _ _ _ j g (q.mono g.dW) e)
   .rw [if_neg (by simpa using f)] at hb;injection hb with hb;subst hb
    exact U (if_neg f) (x w h _ _ _ j g (I.mono g.dW) e)
 .exact fn e
theorem Uh (a:bw X):qf X 12:=GS a H rfl rfl
theorem Ui (a:bw X):qf X 13:=GS a aj rfl rfl
end
theorem AV:PlainAttrs "bytes":=
 ⟨(bW ("bytes.__getattribute__") (by refine U (typeLookup_type ..) (U bA ?_);kernel_rfl) rfl),by refine U (typeLookup_type ..) (U bA ?_);kernel_rfl⟩
theorem u9:Slot "bytes" "join" "bytes.join":=
 .of (owner:="bytes") (n:="join") (by refine U (typeLookup_type ..) (U bA ?_);kernel_rfl) rfl rfl rfl
  (by first|exact .inl (by decide+kernel)|exact .inr rfl) (by refine U (isSubtype_type ..) ?_;kernel_rfl)
theorem AW:entryFor table "bytes.join"=O Builtin.«bytes.join»:=nC (by kernel_rfl)
theorem CG (a c):argsOk "bytes.join" ⟨[a,c],[]⟩:=by unfold argsOk;kernel_rfl
theorem CH:typeOf (.builtin "bytes.join")=pure (.type "method_descriptor"):=by show builtinType _=_;refine U builtinType_eq_fast ?_;kernel_rfl
section
variable {prog:Program} {ww:World} {A:Around} {E:Value->Shared->Prop} {s:Shared}
theorem FN l:(kI #[] l).toList=(l.map Array.toList).flatten:=by
 have a:∀(l:List (Array UInt8)) k acc,((l.zipIdx k).foldl (λout p=>(if p.2>0 then out++(#[]:Array UInt8) else out)++p.1) acc).toList=acc.toList++(l.map Array.toList).flatten:=by
  intro l
  induction l with
  |nil=>intro k acc;simp
  |cons x l b=>
   intro k acc;refine U List.zipIdx_cons (U List.foldl_cons (U (b ..) ?_));have:(if k>0 then acc++(#[]:Array UInt8) else acc)=acc:=by split<;>exact rfl
   simp
 have:=a l 0 #[];exact this
theorem CI {id} (q:Q (O (b,au)) s):wpAny (model prog ww) A (Builtin.Bytes.takeBufferQuiet? id (.bytes b t) 0) Q E s:=by
 have a:=j9 s b t;exact aq (qG (bq (bV a B.j5) (bq (o9 a) (NJ (of_decide_eq_true rfl) (bq (bV a B.j5) (aq (Bm (av (av q)))))))))
theorem OX:∀(l:List (Array UInt8×Tok)) a {Q},Q () s->wpAny (model prog ww) A (Builtin.Bytes.joinLetGo (l.map λp=>(iT p.1 p.2,au)) a) Q E s:=by
 intro l
 induction l with
 |nil=>
  intro a Q q;exact av q
 |cons p l b=>
  intro a Q q;exact aq (wpAny_letGo (b a q))
theorem OY (l:List (Array UInt8×Tok)):((l.map λp=>(iT p.1 p.2,(none:Option Value))).any λx=>x.1.onHeap)=false:=by
 induction l with
 |nil=>rfl
 |cons p l a=>refine U dH (U gi (U a ?_));rfl
theorem takes {a:List (Array UInt8×Tok)} {x} h:(((a.take x).map (·.1)).toArray.push a[x].1,((a.take x).map λp=>(iT p.1 p.2,(none:Option Value)))++[(iT a[x].1 a[x].2,none)])=
 (((a.take (x+1)).map (·.1)).toArray,(a.take (x+1)).map λp=>(iT p.1 p.2,none)):=by
 refine U (wO h) (U j8 (U j8 ?_));simp only [dH,List.map_nil,List.push_toArray]
theorem OZ {a:Type} {f} {y} (h:¬l.size=1):Builtin.Bytes.joinM.match_1 (λb=>a) l f y=y l:=by
 obtain⟨l⟩:=l
 induction l using BN with
 |zero=>rfl
 |one=>exact absurd rfl h
 |more=>rfl
theorem IS (l:List (Array UInt8×Tok)) n:List.foldl (λb c=>b+c.size) n (l.map (·.1))=n+(l.map λp=>p.1.size).sum:=by
 induction l generalizing n with
 |nil=>rfl
 |cons p l d=>exact(d _).trans (j6 ..)
theorem count_loop (a:Nat->σ) (b:∀i,i<m->∀{Q},Q (.yield (a (i+1))) s->wpAny (model prog ww) A (f i (a i)) Q E s) (c:R (a m) s):wpAny (model prog ww) A (forIn [:m] (a 0) f) R E s:=by
 have d:∀k i,i+k=m->wpAny (model prog ww) A (forIn (List.range' i k) (a i) f) R E s:=by
  intro k
  induction k with
  |zero=>exact λi h=>av ((show i=m from h)▸c)
  |succ k e=>exact λi h=>U xP (U (dO ..) (aq (b i (h▸Nat.lt_add_of_pos_right (jJ k)) (e (i+1) ((pZ i k).trans h)))))
 exact U (iM ..) (U (show([:m]:Std.Legacy.Range).size=m by simp [n8]) (d m 0 (oq m)))
theorem L4 {a:List (Array UInt8×Tok)} (hz:(a.map λp=>p.1.size).sum<=1000000):Array.foldl (λb c=>b+c.size) ((#[]:Array UInt8).size*(((a.map (·.1)).toArray).size-1)) (a.map (·.1)).toArray<=1000000:=cL (Array.foldl_toList ..) (U (IS ..) ((Nat.zero_mul _).symm▸(oq _).symm▸hz))
theorem IT {a:List (Array UInt8×Tok)} (hz:(a.map λp=>p.1.size).sum<=1000000) (b:(kI #[] (a.map (·.1))).toList=(a.map λp=>p.1.toList).flatten):(kI #[] (a.map (·.1))).size<=jr:=by
 have h1:=congrArg fV b;rw [aM,List.length_flatten,jG] at h1;exact aI (h1▸(show(sP (fV∘λp=>p.1.toList) a)=a.map λp=>p.1.size from nD λp c=>aM)▸hz) bx
theorem join_loop {items} {st} (c:List (Array UInt8×Tok)) (g:s.heap.get? a=O {cls:= .type "list",data:= .seq items ep}) (hi:items.toList=c.map λp=>iT p.1 p.2) (hz:(c.map λp=>p.1.size).sum<=1000000)
 {Q:Value->Shared->Prop} (q:∀b t k,b.toList=(c.map λp=>p.1.toList).flatten->Q (.bytes b t) {s with toks:=k}):
 wpAny (model prog ww) A (Builtin.«bytes.join» ⟨[.bytes #[] st,.ref a],[]⟩) (λh s'=>∃v,h= .done (.ret v)/\Q v s') E s:=by
 refine bq (f9 (a:=(iT #[] st,iu a)) rfl) ?_;have j:items=(c.map λp=>iT p.1 p.2).toArray:=cL hi rfl;have e:(Builtin.Bytes.Kind.bytes==Builtin.Bytes.Kind.bytearray)=false:=rfl;refine aq (bq (je (bW _ g rfl)) (av (bq (dB g rfl) ?_)));dsimp only;refine Zr rfl ?_;have d:items.size=c.length:=U j (eG ..);by_cases h1:items.size=1
 .exact fE (List.length_eq_one_iff.mp (d.symm.trans h1)) λp hp=>U j (U hp (bq (je (j9 s p.1 p.2)) (aq (fj (av (bW _ rfl (q _ _ s.toks (by refine U hp ?_;simp))))))))
 refine U (OZ h1) (aq (count_loop (λi=>(((c.take i).map (·.1)).toArray,(c.take i).map λp=>(iT p.1 p.2,au))) (λx l Q q=> ?_) ?_))
 .refine bq (dB g rfl) ?_;have f:=Nat.lt_of_lt_of_eq l d;have hx:items.getD x .none= .bytes c[x].1 c[x].2:=by
   refine U (Array.getD_eq_getD_getElem?) (U j ?_);simp [f]
  dsimp only;rw [e,if_neg (by refine U (OY ..) ?_;exact ne_true_of_eq_false e),hx];refine aq (bO (CI (bq (dB g rfl) ?_)));dsimp only;exact NJ (by simp) (av (U (takes f) q))
 .refine U d (U List.take_length (bq (f9 (a:=(#[]:Array UInt8)) rfl) (NJ (by unfold Builtin.Bytes.tooLong;refine U decide_eq_true_eq ?_;exact bD.mpr (aI (L4 hz) bx)) ?_)));have m:(kI #[] (c.map (·.1))).toList=(c.map λp=>p.1.toList).flatten:=U (FN ..) (U jG rfl);refine aq (wpAny_mkBytes ?_ (IT hz m));exact aq (bO (vH (aq (OX c _ (av (bW _ rfl (q _ _ _ m)))))))
theorem Bq t v l:De t (v::l)=ah au (aB au (λr=>O (app v.l r)) (De t l)) (ak v.t t):=rfl
theorem FO:∀{ys} {m},ef X g w n l ys->De 4 l=O m->
 ∃a:List (Array UInt8×Tok),ys=a.map (λp=>iT p.1 p.2)/\((a.map λp=>p.1.toList).flatten).map bU=m:=by
 induction l with
 |nil=>
  intro ys m h e;injection e with e;subst e
  exact bW [] h.nil_of rfl
 |cons v l c=>
  intro ys m h e;refine vP h.cons_of λy d hy hv hl=> ?_;rw [Bq] at e;refine aC (dM e) λe f=>aL (pX e) λr e i=>dN (c hl i) λa hb h2=> ?_;injection e with e;subst e
  obtain⟨j,t,ht,b,_⟩:=hv.jL (aH f);exact bW ((j,t)::a) (U hy (U hb (U ht rfl))) (U (mH ..) (cL h2 (U b j8)))
theorem IU:∀{ys} {m},ef X g w n l ys->De 3 l=O m->
 ∃a:List (List Nat×Tok),ys=strValues (a.map λp=>(⟨p.1.toArray⟩,p.2))/\(a.map eE).flatten=m:=by
 induction l with
 |nil=>
  intro ys m h e;injection e with e;subst e
  exact bW [] h.nil_of rfl
 |cons v l b=>
  intro ys m h e;refine vP h.cons_of λy c hy hv hl=> ?_;rw [Bq] at e;refine aC (dM e) λe d=>aL (pX e) λr e f=>dN (b hl f) λa hb h2=> ?_;injection e with e;subst e
  exact dN (hv.qa (aH d)) λt ht i=>bW ((v.l,t)::a) (U hy (U hb (U ht rfl))) (U (mH ..) (cL h2 rfl))
theorem index_loop {n m} {f:Nat->σ->Sem (ForInStep σ)} {dn:PySem.Fin->σ} {items:Array Value} (YL:ef X g w n xs items.toList) (a3:qx 3 xs=H)
 (body:∀i r y {Q},items[i]? =O y->wpAny (model prog ww) A (eqBool y (.str ⟨x.l.toArray⟩ tk)) (λc s'=>ah (Q (.yield r0) s') (wpAny (model prog ww) A (retInt (i:Int)) (λz=>Q (.done (dn z))) E s') c) E s->wpAny (model prog ww) A (f i r) Q E s)
 (fin:R (dn (.done (.ret (.int (m:Int) s.toks)))) {s with toks:=s.toks+1}) l:∀i r,xs.drop i=l->ES x l i=O m->wpAny (model prog ww) A (forIn (List.range' i l.length) r f) R E s:=by
 induction l with
 |nil=>exact λi r hd e=>fn e
 |cons u l ih=>
  intro i r hd e;have hu:=(List.head?_drop ..).symm.trans (congrArg List.head? hd);refine aL (YL.get hu) λy hv hy=>U iK (U xP (U (dO ..) (aq (body i r y ((bz ..).symm.trans hy) ?_))));refine dN (hv.qa (zC a3 u (cY hu))) λty hq u_=>U hq (wpAny_eqBool_str (U ((decide_eq_decide.mpr ⟨λq=>congrArg (λs:Str=>s.cps.toList) q,λq=>congrArg (λl:List Nat=>(⟨l.toArray⟩:Str)) q⟩).trans (tN u.l x.l).symm) ?_));revert e;refine(?_:(ah (ES x l (i+1)) (O i) (qp u.l x.l):Option Nat)=O m->_)
  induction qp u.l x.l using zB with
  |true=>exact λe=>aq (wpAny_mkInt (av (av ((aF e).symm▸fin))))
  |false=>exact λe=>ih (i+1) _ (cL sR (U hd rfl)) e
theorem L5 (ax:bw X):xd X b "index" ⟨EU,λt=>ak t 5⟩:=by
 intro t ht;refine U (aH ht) (yw (.inr (.inr rfl)) ("tuple.index") ⟨F.plainAttrs_tuple,F.slot_tuple_index,F.type_tuple_index⟩ (λA n hA w h s hs ov y hv h5 vs ys hvs k res e₀ Q hQ=> ?_));refine dN (ez e₀) λx ow=> ?_;subst ow;intro e;refine dN hvs.one λz ow=> ?_;subst ow;intro hz;refine aC (dM e) λe u_=>aC (dM e) λe x3=>aC (dM e) λe a3=>dN (bC e) λm hm e9=>Zs (hv.g9 h5) λt items ep q1 u_ u_ hg u_ YL=>dN (hz.qa (aH x3)) λtk q2 u_=>U q1 (U q2 (bH F.slot_tuple_index (bW _ hg rfl) F.entry_tuple_index ?_ (F.args_tuple_index_2 _ _)));refine bq (f9 (a:=(iu t,[Value.str ⟨x.l.toArray⟩ tk])) rfl) (aq (aq (dB hg rfl (av ?_))));dsimp only;refine aq (av (bp (U (iM ..) (U (show([0:min items.size items.size]:Std.Legacy.Range).size=ov.xs.length from(by simp [n8]:_=items.size).trans YL.length.symm) (aq (index_loop (tk:=tk) (r0:=(au,())) (dn:=λz=>(O z,())) YL a3 (λi r y {Q} hy h=> ?_) ?_ ov.xs 0 _ rfl hm))))))
 .refine U hy (aq (fZ h (λc s' q=> ?_) λu_ u_ q=>q))
  induction c using zB with
  |true=>exact aq (fZ q (λz s'' h=>av h) λu_ u_ q=>q)
  |false=>exact av q
 .exact aC (hs.ja ax (h':=s.heap) (tk:=s.toks+1) (bu _) λu_ u_ q=>q) λb2 b1=>av (bW _ rfl (hQ w h _ _ _ b1 b2 (.nat _ _) e9))
theorem IV (a:List (List Nat×Tok)):Builtin.Str.glued (⟨([]:List Nat).toArray⟩:Str) ((a.map λp=>((⟨p.1.toArray⟩:Str),p.2)).map (·.1))=⟨((a.map eE).flatten).toArray⟩:=by
 have b:∀(l:List (List Nat×Tok)) acc,(((l.map λp=>((⟨p.1.toArray⟩:Str),p.2)).map (·.1)).foldl (λacc p=>acc++(⟨([]:List Nat).toArray⟩:Str).cps++p.cps) acc)=acc++((l.map eE).flatten).toArray:=by
  intro l
  induction l with
  |nil=>intro acc;exact rfl
  |cons p l c=>intro acc;simp only [dH,List.foldl_cons];refine U (c ..) ?_;simp
 induction a using zL with
 |nil=>rfl
 |cons p l=>
  refine(?_:(⟨_⟩:Str)=⟨_⟩);congr 1;refine(b l p.1.toArray).trans ?_;simp
theorem L6 (l:List (List Nat×Tok)) n:List.foldl (λa b=>a+b.length+(⟨([]:List Nat).toArray⟩:Str).length) n ((l.map λp=>((⟨p.1.toArray⟩:Str),p.2)).map (·.1))=n+((l.map eE).flatten).length:=by
 induction l generalizing n with
 |nil=>rfl
 |cons p l c=>exact(c _).trans ((j6 n p.1.length _).trans (congrArg (n+ ·) (dc ..).symm))
theorem O0 (ax:bw X):xd X b "join" ⟨Gn,λt=>ah (ak t 4) H (ak t 3)⟩:=by
 intro t ht;have two:t=3\/t=4:=by
  induction h3:ak t 3 using zB with
  |true=>exact .inl (aH h3)
  |false=>
   have ht:(ah (ak t 4) H (ak t 3):Bool)=true:=ht;rw [h3] at ht;exact .inr (aH ht)
 have sp:∀{i x:V} {vs} {h} {k} {res},Gn i vs h k=O res->∃x,vs=[x]/\i.l=[]/\∃o,h.l.get x.n=O o/\ak x.t 6=H/\ak o.t 1=H/\(ah (ah au (lift (De 4 o.xs) h λs h=>kB s h k) (ak i.t 4)) (lift (De 3 o.xs) h λs h=>kS s h k) (ak i.t 3):Option Res)=O res:=by
  intro i _ vs h k res c;refine dN (ez c) λx d=> ?_;subst d;intro e;refine aC (dM e) λe hn=>gQ (fR e) λo e v6 D t1=> ?_;have f:i.l=[]:=by
   induction hl:i.l using zL with
   |nil=>rfl
   |cons a l=>rw [hl] at hn;exact ff hn
  exact⟨x,rfl,f,o,D,by refine U v6 ?_;rfl,by refine U t1 ?_;rfl,e⟩
 rcases two with rfl|rfl
 .refine yw (.inl rfl) ("str.join") ⟨F.plainAttrs_str,F.slot_str_join,F.type_str_join⟩ (λA n hA w h s G i y hv I vs ys r k res c Q J=> ?_);obtain⟨x,rfl,f,o,D,K,L,e⟩:=sp (x:=i) c;refine dN r.one λz d=> ?_;subst d;intro hz;clear c;refine gb (hz.eu (aH K)) λd=> ?_;subst d;intro lv;refine sS (G.listAt D (aH L)) λitems ep B hn j hr=>dN (hv.qa I) λtk M C=>U M (U f ?_)
  .rw [I] at e;refine dN (bC e) λm hm e=>gb (dM e) λhz e=> ?_;have hz:=aA hz;rw [len_eq] at hz;refine dN (IU j hm) λu v g=>call_meets F.slot_str_join (typeIs_str s (⟨([]:List Nat).toArray⟩:Str) tk) F.entry_str_join (F.args_str_join_2 _ _) (meets_str_join_list ⟨([]:List Nat).toArray⟩ tk _ (u.map λp=>(⟨p.1.toArray⟩,p.2)) ?_) ⟨(gc _ B rfl ep (by exact cL v rfl)), ?_⟩
   .exact cL (Array.foldl_toList ..) (U (L6 u 0) (U g (decide_eq_false (bD.mpr (aI ((oq _).symm▸hz) bx)))))
   .have B:(Txt.join (⟨([]:List Nat).toArray⟩:Str) ((u.map λp=>((⟨p.1.toArray⟩:Str),p.2)).map (·.1)))=⟨m.toArray⟩:=by
     refine cL g ?_;exact IV _
    refine post_join _ ⟨?_,λt' P=> ?_⟩
    .refine U B ((?_:m.toArray.size<=jr));exact aI hz bx
    .exact U B (aC (G.ja ax (h':=s.heap) (tk:=P) (bu _) λC C q=>q) λR S=>J w h _ (vStr m) _ S R (.str m t' hz) e)
 .refine yw (.inr (.inl rfl)) ("bytes.join") ⟨AV,u9,CH⟩ (λA n hA w h s G i y hv I vs ys r k res c Q J=> ?_);obtain⟨x,rfl,f,o,D,K,L,e⟩:=sp (x:=i) c;refine dN r.one λz d=> ?_;subst d;intro hz;clear c;refine gb (hz.eu (aH K)) λd=> ?_;subst d;intro lv;refine sS (G.listAt D (aH L)) λitems ep B hn j hr=>vP (hv.jL I) λll tk M q2 C=>U M (U (Array.toList_eq_nil_iff.mp (List.map_eq_nil_iff.mp (q2.symm.trans f))) ?_)
  .rw [I] at e;refine dN (bC e) λm hm e=>gb (uQ e) λhz e=>aL (FO j hm) λu g v=>bH u9 (j9 s #[] tk) AW ?_ (CG _ _);refine join_loop u B v ?_ λb t P hb=> ?_
   .rw [<-g,eG,List.length_flatten,jG] at hz;have h2:(sP (fV∘λp=>p.1.toList) u)=u.map λp=>p.1.size:=nD λp C=>aM;rw [h2] at hz;exact hz
   .refine aC (G.ja ax (h':=s.heap) (tk:=P) (bu _) λC C q=>q) λR S=> ?_;have hbz:b.size<=1000000:=by
     rw [<-g,<-hb,eG,aM] at hz;exact hz
    refine J w h _ (fk m) _ S R ?_ e;exact cL g (cL hb (.bytes b t hbz))
end
set_option backward.match.sparseCases false
noncomputable abbrev YM (h:Heap) (t:Addr):Heap:=h.push {cls:= .type "tuple_iterator",data:= .fields #[.ref t,.int 0 0]}
abbrev YN (h:Heap) (t l:Addr):Heap:=(YM h t).push {cls:= .type "list_iterator",data:= .fields #[.ref l,.int 0 0]}
abbrev YO (h:Heap) (t l:Addr):Heap:=(YN h t l).push {cls:= .type "tuple",data:= .seq #[.ref h.objs.size,.ref (YM h t).objs.size]}
abbrev YQ (h:Heap) (t l:Addr):Heap:=(YO h t l).push {cls:= .type "tuple",data:= .seq #[.none,.none]}
abbrev WR (h:Heap) (t l:Addr):Heap:=(YQ h t l).push {cls:= .type "zip",data:= .fields #[.none,.bool aj,.bool aj,.ref (YN h t l).objs.size,.ref (YO h t l).objs.size]}
theorem CJ (t l:Addr) (xs ys:Array Value):
 Meets (Builtin.«zip.__new__» ⟨[.type "zip",.ref t,.ref l],[]⟩) (λi R s=>s.heap.IsTuple t xs/\s.heap.IsList l ys/\R (.ok (.ret (.ref (YQ s.heap t l).objs.size))) {s with heap:=WR s.heap t l}):=
 .of_wp λprog w A R s h=>by
  obtain⟨hp,g,d,tk,os⟩:=s;refine iP h λh a b=> ?_;have f:=sub_zip;have c:Heap.IsTuple (fT ⟨hp,g,d,tk,os⟩) t xs:=a;have e:Heap.IsList (fT ⟨hp.push {cls:= .type "tuple_iterator",data:= .fields #[.ref t,.int 0 0]},g,d,tk,os⟩) l ys:=Heap.IsList.push b _;wp_walk using lF c,iI e;exact bW _ rfl h
section
variable {prog:Program} {ww:World} {A:Around} {E:Value->Shared->Prop} {s:Shared}
theorem Ek {xs ys} (a:s.heap.IsTuple t xs) (b:s.heap.IsList l ys)
 (h:∀h',lO h' (s.heap.objs.size+4) (s.heap.objs.size+2) (s.heap.objs.size+3) .none (.bool aj)->IsPair h' (s.heap.objs.size+2) (.ref s.heap.objs.size) (.ref (s.heap.objs.size+1))->
  IsPair h' (s.heap.objs.size+3) .none .none->h'.IsTupleIter s.heap.objs.size t 0->h'.IsListIter (s.heap.objs.size+1) l 0->h'.objs.size=s.heap.objs.size+5->
  (∀c o,s.heap.get? c=O o->h'.get? c=O o)->Q (.ref (s.heap.objs.size+4)) {s with heap:=h'}):
 wpAny (model prog ww) A (call (.type "zip") [.ref t,.ref l]) Q E s:=by
 refine callType_new F.called_zip rfl (F.typeCall_zip_2 _ _) (F.newCall_zip_2 _ _) (λobj=>F.args_object_init_3 obj _ _) F.entry_zip_new
  (CJ t l xs ys) (iX a b ?_)
 have d:(YM s.heap t).objs.size=s.heap.objs.size+1:=bJ ..;have e:(YN s.heap t l).objs.size=s.heap.objs.size+2:=U (bJ ..) (U d rfl);have f:(YO s.heap t l).objs.size=s.heap.objs.size+3:=U (bJ ..) (U e rfl);have g:(YQ s.heap t l).objs.size=s.heap.objs.size+4:=U (bJ ..) (U f rfl);have i:(WR s.heap t l).get? (YQ s.heap t l).objs.size=O _:=aJ _ rfl;have j:(WR s.heap t l).get? (YO s.heap t l).objs.size=O _:=az _ (aJ _ rfl);have k:(WR s.heap t l).get? (YN s.heap t l).objs.size=O _:=az _ (az _ (aJ _ rfl));have m:(WR s.heap t l).get? (YM s.heap t).objs.size=O _:=az _ (az _ (az _ (aJ _ rfl)));rw [e,f,g] at i;rw [d,e] at k;rw [f] at j;rw [d] at m;refine U g ?_;exact⟨(bW _ i rfl),h _ i k j (f7 _ (az _ (az _ (az _ (az _ (aJ _ rfl))))) rfl rfl) (f7 _ m rfl rfl) (U (bJ ..) (U g rfl)) λc o x=>
  az _ (az _ (az _ (az _ (az _ x))))⟩
end
section
variable {X:dz} {w:Wd} {h:ae7} {s:Shared} {A:Around}
theorem L7 (ax:bw X) (htab:∀a∈X.tabs,a<X.h₀.objs.size) (R:St X w h s) (hh:A.handled=au) {ke:ae7->Option Res} {ki:V->V->ae7->Option Res}
 (e:(aB au (λo=>ah au (match o.bs with
  |[c,d]=>aB au (λq=>ah au (aS (ke ⟨HT.ins qP h.l i,h.n⟩) (λx r u_=>aB (ke ⟨HT.ins qP h.l i,h.n⟩) (λy=>ki x y ⟨HT.ins (uC r c (aG d 1)) h.l i,h.n⟩) (sU q.xs d)) o.xs) (ak q.t 1)) (HT.get h.l c)
  |_=>au) (ak o.t 7)) (HT.get h.l i):Option Res)=O res)
 (hn:∀h' s',St X w h' s'->h'.n=h.n->Ext X cV w h.n s w h.n s'->ke h'=O res->Q au s')
 (hv:∀h' s' x y v,St X w h' s'->h'.n=h.n->Ext X cV w h.n s w h.n s'->VR X s'.heap w h.n (dK [x,y]) v->ki x y h'=O res->Q (O v) s'):wpAny (model X.prog X.w) A (pyNext (.ref (w.ρ i))) Q E s:=by
 refine aL (pX e) λo e ho=>aC (dM e) λe h7=> ?_;have p:w.role s.heap.objs.size=au/\s.heap.objs.size∉X.tabs:=⟨l6 R (bu _),λhm=>absurd (htab _ hm) (bD.mpr R.size)⟩
 induction (R.rep i o ho).2 using Mine.Rep.casesOn with
 |HL xs j2 L TI TO i1 i2 t items ep m aa bb v f M r1 S r3 r4 D hj hz h1 h2 ht hg h3 u h4 YH=>
  refine aL (pX e) λq e hq=>aC (dM e) λe q1=>sS (R.listAt hq (aH q1)) λys Ku KG hn2 B Tw=> ?_;rw [mJ] at e;have G:∀{c},w.role c=O i->t≠c:=λj q=>by have:=ht.1;rw [q,j] at this;exact sn this
  have I:∀{c},w.role c=O i->w.ρ j2≠c:=λj q=>hj.2 (aF (Tw.symm.trans (q▸j)));have g:∀{c d} {oc od},s.heap.get? c=O oc->s.heap.get? d=O od->oc.cls≠od.cls->c≠d:=λec ed hne q=>by subst q;injection ec.symm.trans ed with hq;subst hq;exact hne rfl
  refine cI (id h3) λo3 d3 e3 c3=>cI (id h4) λo4 d4 e4 c4=> ?_;have n1:cW "list_iterator"≠cW "zip":=by decide
  have n2:cW "tuple"≠cW "list_iterator":=by decide
  have n3:cW "tuple_iterator"≠cW "zip":=by decide
  have n4:cW "tuple"≠cW "tuple_iterator":=by decide
  have J:ZipApart (w.ρ i) TI TO i1 i2 t (w.ρ j2):=⟨D.2.1,D.2.2.1,g e3 hz (U c3 n3),g e4 hz (U c4 n1),D.1,g h1 e3 (U c3 n4),g h1 e4 (U c4 n2),g h2 e3 (U c3 n4),g h2 e4 (U c4 n2),D.2.2.2,
   G M,G S,G r3,G r4,I M,I S,I r3,I r4⟩
  have hT:s.TypeIs (.ref (w.ρ i)) "zip":=bW _ hz rfl;have hf:LY s.heap v f:=by
   rcases YH with⟨rfl,rfl⟩|⟨T,fb,its,Vr,rfl,rfl,t1,t2,t3⟩
   .exact .free
   .exact .kept T fb _ t3
  refine bX (aq (qG (dU (name:=bY "__next__") hT F.slot_zip_next
   (bH F.slot_zip_next hT F.entry_zip_next (LZ (Q:=λfin s'=>∃v,fin= .done (.ret v)/\wpAny (model X.prog X.w) A (pure (O v)) (λa s'=>s.heap.objs.size<=s'.heap.objs.size->Q a s') E s') J (OV (prog:=X.prog) (ww:=X.w) (A:=A.in1) hh J.l1i1 m items) (LX (prog:=X.prog) (ww:=X.w) (A:=A.in1) hh J.l2i2 L ys) hz hf h1 h2 ⟨h3,_,hg,rfl,_,rfl⟩ ⟨h4,_,KG,rfl,_,rfl⟩ (λh' xv yv w' g' a' b' ex ey z1 zw zTO z3 z4 z5 z6 z7=>bW _ rfl (av λC=> ?_)) λh' e' hk he hend=> ?_) (F.args_zip_next_1 _)))))
  .induction xs using zL with
   |nil=>
    exact absurd ((jE ..).symm.trans u.length.symm) (iB (xE (fL.mp ex).1))
   |cons x r=>
    induction z:q.xs[L]? using zO with
    |none=>have:=B.get_none z;rw [bz,ey] at this;exact sn this
    |some y=>
     have e:(aB (ke ⟨HT.ins qP h.l i,h.n⟩) (λy=>ki x y ⟨HT.ins (uC r j2 (L+1)) h.l i,h.n⟩) (q.xs[L]?):Option Res)=O res:=e;rw [z] at e;refine dN (B.get z) λyv' k vy=> ?_;rw [bz,ey] at k;injection k with k;subst k
     have hdr:items.toList.drop m=xv::items.toList.drop (m+1):=by
      refine U (iw (((fL.mp ex).1))) ?_;have:items.toList[m]? =O xv:=by refine U bz ?_;exact ex
      exact U ((cg.mp this).2) rfl
     rw [hdr] at u;cases u with
     |cons _ _ _ _ vx hvr=>
      have P:=R.K4 ax ho (s':={s with heap:=h'}) (o':=uC r j2 (L+1)) C
       (λc ob j e=>z7 c ob (λq=>j (q▸M)) (λq=>j (q▸S)) (λq=>j (q▸r3)) (λq=>j (q▸r4)) e) rfl rfl λkk=>by
        refine .HL r j2 (L+1) TI TO i1 i2 t items ep (m+1) a' b' w' g' M r1 S r3 r4 D hj z1 (z7 _ _ D.2.1 D.1 J.TIi1 J.TIi2 h1) zTO ht (z7 _ _ J.l1z J.l1TO J.l1i1 J.l1i2 hg) z3.1 (hvr.mono kk) z4.1 (.inr ?_);rcases zw with⟨rfl,rfl⟩|⟨T,oT,q1,rfl,rfl,q2⟩
        .exact⟨_,_,_,_,rfl,rfl,p.1,p.2,z5⟩
        .rcases YH with⟨q3,_⟩|⟨T',fb,its,Vr,q3,_,t1,t2,t3⟩
         .rw [q1] at q3;injection q3
         .have K:∀{c},w.role c=O i->T'≠c:=λj q=>by rw [q,j] at t1;exact sn t1
          exact⟨T',H,its,Vr,q3,rfl,t1,t2,z7 _ _ (K M) (K S) (K r3) (K r4) t3⟩
      exact hv _ _ x y _ P.1 rfl P.2 (.tup _ _ #[xv,yv] 0 p.1 p.2 z5 (of_decide_eq_true rfl) (.cons _ _ _ _ (vx.mono P.2.dW) (.cons _ _ _ _ (vy.mono P.2.dW) .nil))) e
  .refine dN he λoe hoe hce=>aq (fK (T:="StopIteration") (b:=H) (bW oe hoe hce) isSubtype_stop (av λC=> ?_));have P:=R.K4 ax ho (s':={s with heap:=h'}) (o':=qP) C (λc ob j e=>hk c ob (λq=>j (q▸M)) (λq=>j (q▸S)) (λq=>j (q▸r3)) (λq=>j (q▸r4)) e) rfl rfl λu_=> .junk M;refine hn _ _ P.1 rfl P.2 ?_
   induction xs using zL with
   |nil=>exact e
   |cons x r=>
    induction z:q.xs[L]? using zO with
    |none=>rw [z] at e;exact e
    |some y=>
     refine dN (B.get z) λyv' k vy=> ?_;rw [bz] at k;rcases hend with q|q
     .exact absurd (u.length.trans ((jE ..).trans (mu (eB.mp q)))) (Nat.succ_ne_zero _)
     .rw [k] at q;exact sn q
 |_=>exact nn (aH h7) rfl
theorem L8 (q:bw X) (b:∀a∈X.tabs,a<X.h₀.objs.size) (C:A.handled=au) (D:A.units+1<cLine) {R:Shared->Prop}:
 ∀n {h} {s} (j:Nat),St X w h s->BY (bP i) k n z h=O res->
  (∀h' s',St X w h' s'->h'.n=h.n->Ext X cV w h.n s w h.n s'->k (bP i) h'=O res->R s')->
  codeAny (model X.prog X.w) A (.builtin "dict.update.loop" ⟨[.ref (w.ρ i),.ref (w.ρ z),rawInt j,.none],[]⟩) (wants (λr c=>r= .none/\R c) (λt t=>False)) s:=by
 intro n
 induction n with
 |zero=>
  intro h s j u e f;exact fn e
 |succ n F=>
  intro h s j u e f;refine iH rE ((?_:wpAny _ A.in1 (pyNext (.ref (w.ρ z))>>=_) _ _ s));refine aq (L7 (A:=A.in1) (ke:=λh=>k (bP i) h) (ki:=λx y h=>Df (bP i) x y h λt h=>BY (bP i) k n z h) q b u C e (λh' s' g d l m=> ?_) λh' s' x y v g d l hv m=> ?_)
  .exact av ⟨rfl,f h' s' g d l m⟩
  .have o:=D;refine aq (bO (Ei q g (d▸hv) (p:=(x,y)) rfl m o j λh2 V G B I J=>(av ⟨plainId_quiet kU _,((?_:codeAny _ _ (.builtin "dict.update.loop" ⟨[.ref (w.ρ i),.ref (w.ρ z),rawInt ((j:Int)+1),.none],[]⟩) _ _))⟩)));exact F (j+1) G J λK L M P Q S=>f K L M ((P.trans B).trans d) (l.trans (d▸I.trans (B▸Q))) S
end
set_option backward.match.sparseCases true
section
variable {X:dz} {r:Ap} {n b:Nat} {ns:List (Str×aN)} {G:Str->Option V}
def Se (a b:XE):XE:=⟨λr ρ h k=>a.f r ρ h λx h=>b.f r ρ h λy h=>ah au (gR y h λu_ h=>new (uC x.xs y.n 0) h k) (ak x.t 5)⟩
theorem cQ.ZU (R:bw X) (S:jT X G) (eb:jR G ns 9 fe=H) (l:cQ X r n b ns a x) (hc:cQ X r n b ns c y) (m:br x=aj) (p:br y=aj) pos:cQ X r n b ns (Se a c) (.Call fe [x,y] [] pos):=by
 intro A hA env ρ w h s hs he k res e Q hQ;have B:[x,y].any br=false:=by simp [m,p]
 have e:(dR a (dR c kh)).f r ρ h (λvs h=>match vs with
  |[x,y]=>ah au (gR y h λC h=>new (uC x.xs y.n 0) h k) (ak x.t 5)
  |_=>au)=O res:=e
 refine qg S eb (.cons m l (.cons p hc .nil)) B hA hs he pos e λD h2 d vs ys L b2 b3 j=> ?_
 .refine HA (v9 j) λu v hq j=> ?_;subst hq;cases b3 with
  |cons _ yu _ _ hu q=>
   cases q with
   |cons _ yv _ _ hv q=>
    cases q;refine aC (dM j) λj u5=>gQ (fR j) λo2 j v6 E t2=>gb (hv.eu v6) λF=> ?_;subst F;intro I;refine sS (L.listAt E t2) λi2 p2 g2 n2 C C=>aC (dM j) λj C=> ?_
    induction hu using Mine.VR.casesOn with
    |tup xs t items ep q ht M hn J=>
     refine eU<|Ek (xs:=items) (ys:=i2) (gc _ M rfl _ rfl) (gc _ g2 rfl _ rfl) λh' z1 z2 z3 z4 z5 P z7=> ?_
     obtain⟨c1,c2⟩:=L.new R (o:=uC xs v.n 0) (b:=d.heap.objs.size+4) (own:=λa=>decide (d.heap.objs.size<=a)&&decide (a<d.heap.objs.size+5)) (by simp) (s':={d with heap:=h'}) (U P (d8 (fJ (jF (fT d))) 5))
      (λa l=>by
       simp only [aP,decide_eq_true_eq] at l;exact⟨l.1,by show _<h'.objs.size;refine U P ?_;exact l.2⟩) (λa ob e=>z7 a ob e) rfl rfl 0 _ rfl
      (λK q1 z q3=>by
       refine gb (K.fix t _ q ht rfl M) λk1 k2=> ?_;refine .HL xs v.n 0 (d.heap.objs.size+2) (d.heap.objs.size+3) d.heap.objs.size (d.heap.objs.size+1) t items ep 0 .none .none .none (.bool aj) (U z q1) (by simp) (by simp) (by simp) (by simp) (qK (Z.off_ne (fJ (jF (fT d))) 2 3 rfl) (U z (Z.off_ne (fJ (jF (fT d))) 2 4 rfl)) (U z (Z.off_ne (fJ (jF (fT d))) 3 4 rfl)) (Nat.ne_add_one (fJ (jF (fT d)))))
        ⟨cK I,cj I⟩ (U z z1) z2 z3 ⟨k1,ht⟩ k2 z4 (ef.mono K J) (U (K.ρ v.n I) z5) (.inl ⟨rfl,rfl⟩))
     refine hQ _ _ _ (bP h2.n) _ c1 (b2.trans c2) ?_ j;have:=VR.ref (X:=X) (g:=h') (w:=⟨λi=>if i=h2.n then d.heap.objs.size+4 else D.ρ i,λa=>if(decide (d.heap.objs.size<=a)&&decide (a<d.heap.objs.size+5))=H then O h2.n else D.role a,λi=>if i=h2.n then 0 else D.ug i⟩) (n:=h2.n+1) h2.n (bN _);simpa using this
    |_=>exact nn (aH u5) rfl
theorem cQ.yd (B:bw X) (u:∀a∈X.tabs,a<X.h₀.objs.size) (gx:jT X G) (eb:jR G ns 6 g=H) (K:jR G ns 9 g'=H) (L:br x=aj) (M:br y=aj) (ha:cQ X r n b ns a x) (hc:cQ X r n b ns c y) (p p'):
 cQ X r n b ns (yJ a c) (.Call g [.Call g' [x,y] [] p'] [] p):=by
 intro A C env ρ w h s hs he k res e Q hQ;have e:(dR (Se a c) kh).f r ρ h (λvs h=>match vs with
  |[z]=>look z h λo h=>ah au (new (dZ [] 0) h λacc h=>BY acc k 2000 z.n h) (ak o.t 7)
  |_=>au)=O res:=e
 refine qg gx eb (.cons rfl (cQ.ZU B gx K ha hc L M p') .nil) rfl C hs he p e λE h2 q vs ys b1 b2 b3 d=> ?_
 .refine dN (tL d) λz hq d=> ?_;subst hq;refine dN b3.one λyz i=> ?_;subst i;intro hz;refine dF (dj d) λo d z6 ho=>aC (dM d) λd o5=>gb (hz.eu z6) λi=> ?_;subst i;intro lz;refine eU ((?_:wpAny _ _ (PySem.call (.type "dict") _) _ _ _));obtain⟨P,f0,I,J,R⟩:∃P f0 I J,lO q.heap (E.ρ z.n) I J P f0:=by
   induction (b1.rep z.n o ho).2 using Mine.Rep.casesOn with
   |HL xs j2 k2 I J i1 i2 t items ep m a b v f hr r1 r2 r3 r4 D hj hz=>exact⟨_,_,_,_,hz⟩
   |_=>exact nn (aH o5) rfl
  refine zQ (jB (b1.push B (cJ #[] 0) (dZ [] 0) q.toks rfl 0 λw' k h1 h2 h3=> .dict [] #[] 0 h1 h2 (of_decide_eq_true rfl) ⟨.nil,⟨0,λp hp=>(aU hp).elim⟩,iJ⟩ 0 (U h3 rfl)) λw' a1 a2 a3=> ?_);have j:lO (q.heap.push (cJ #[] 0)) (E.ρ z.n) I J P f0:=az _ R;have S:iA {q with heap:=q.heap.push (cJ #[] 0)} (.ref (E.ρ z.n)) "zip":=bW _ j rfl;refine aq (je S (aq (bX (LW (A:=A.in1.in1) j C.handled λh' tk hk hsz=>(aC (a1.ja B (h':=h') (tk:=tk) hsz hk) λc2 c1=>tF rfl (aq (fj ?_)))))));have l:iA {q with heap:=h',toks:=tk} (.ref (E.ρ z.n)) "zip":=bW _ (hk _ _ j) rfl;refine aq (wpAny_pyIter_slot l F.slot_zip_iter (bH F.slot_zip_iter l F.entry_zip_iter ?_ (F.args_zip_iter_1 _)));exact av ⟨_,rfl,"zip",_,l,F.slot_zip_next.lookup,(av ⟨plainId_quiet kU _,(cL a3 (cL (a2.ρ _ lz) (L8 (A:=A.in1) B u C.handled (C.c (k:=2) rfl) 2000 0 c1 d λh4 s4 d1 d2 d3 e4=>hQ w' h4 s4 (bP h2.n) _ d1 (b2.trans (d2▸a2.trans (c2.trans d3))) (.ref h2.n (U d2 (bN _))) e4)))⟩)⟩
end
section
variable {prog:Program} {ww:World} {A:Around} {E:Value->Shared->Prop} {s:Shared}
noncomputable abbrev iS (led:Bool):Obj:={cls:= .type "set",data:= .set #[] 0 (.fresh 0 0 led)}
theorem Ma {items} (f:s.heap.get? t=O {cls:= .type "tuple",data:= .seq items ep}) (hi:∀x∈items.toList,∃i k,x=gM i k) (q:Q H s):wpAny (model prog ww) A (hashByValue 8 (.ref t)) Q E s:=by
 refine bq (bV (bW _ f rfl) F.slot_tuple_hash.lookup) (bq (dB f rfl) ?_);dsimp only [Option.getD];refine cL Array.forIn_toList ?_;have d:∀(l:List Value) r,(∀x∈l,∃i k,x=gM i k)->r.1=au->wpAny (model prog ww) A (forIn l r λx _=>(do
  let a<-hashByValue 7 x
  if(!a)=H then pure (ForInStep.done (O aj,())) else pure (dJ (au,())):Sem (ForInStep (Option Bool×Unit)))) (λb s'=>b.1=au/\s'=s) E s:=by
  intro l
  induction l with
  |nil=>intro r _ g;refine U jz ?_;exact av ⟨g,rfl⟩
  |cons x l h=>
   intro r hl g;refine U (dO ..) ?_;refine SH (hl x (aE ..)) λi k c=> ?_;subst c;exact aq (bp (av (h _ (λy hy=>hl y (aD _ hy)) rfl)))
 refine aq (fZ (d items.toList (au,()) hi rfl) (λb s' hb=> ?_) λj j e=>e);refine aC hb λc=> ?_;subst c;intro hb;exact U hb (av q)
theorem IW {items} (a:s.heap.get? S=O (iS led)) (e:s.heap.get? t=O {cls:= .type "tuple",data:= .seq items ep}) (hi:∀x∈items.toList,∃i k,x=gM i k)
 (q:∀h' b d n,h'.get? S=O {cls:= .type "set",data:= .set b n d}->b.size=1->d.fits b.size=H->gj S s.heap h'->Q H {s with heap:=h'}):wpAny (model prog ww) A (setAddHashed S (.ref t) hh) Q E s:=by
 refine bO (aq (Ax a rfl rfl (aq ((?_:wpAny _ _ (setState S>>=_) _ _ _)))));refine bq (Ax a rfl rfl) ?_;dsimp only;have c:(SetTable.fresh 0 0 led).gaveWay=false:=by simp [SetTable.gaveWay,SetTable.fresh]
 refine U c (NC (av (bq (Ax a rfl rfl) (bq (Ma e hi) (aq (wpAny_storeSet_of a rfl ?_ (by show(1:Nat)<=jr;exact fit_le rfl)))))));exact av (q _ _ _ _ (bE _ a rfl) rfl rfl (gk ..))
end
section
variable {prog:Program} {ww:World} {A:Around} {E:Value->Shared->Prop} {s:Shared}
theorem CK {l:Addr} {x:Value} {j:Nat} {Q:Value->Shared->Prop} (hA:A.handled=au) (hl:s.heap.get? l=O {cls:= .type "list",data:= .seq #[x] j})
 (hx:∀{A':Around} {E':Value->Shared->Prop} {s':Shared} {Q':Bool->Shared->Prop} {S:Addr} {a:Bool},A'.units=A.units+3->(∀b o,s.heap.get? b=O o->s'.heap.get? b=O o)->s'.heap.get? S=O (iS a)->
  (∀h' tk f g n,h'.get? S=O {cls:= .type "set",data:= .set f n g}->f.size=1->g.fits f.size=H->gj S s'.heap h'->Q' H {s' with heap:=h',toks:=tk})->wpAny (model prog ww) A' (setAdd S x) Q' E' s')
 (h:∀(h':Heap) (tk:Nat) f g n,h'.get? s.heap.objs.size=O {cls:= .type "set",data:= .set f n g}->f.size=1->g.fits f.size=H->(∀b o,s.heap.get? b=O o->h'.get? b=O o)->Q (.ref s.heap.objs.size) {s with heap:=h',toks:=tk}):
 wpAny (model prog ww) A (call (.type "set") [.ref l]) Q E s:=by
 refine SH jQ.mro λc tl adu=> ?_;have C:=jQ.made;have hsub:=jQ.sub;refine wpAny_call (codeAny_of_tree ?_);refine(?_:wpAny _ _ (callAny (.type "set") _) _ _ _);refine av ⟨vC _ (by decide+kernel),iH F.entry_type_call ?_⟩;refine U (Around.under_plain (weight_type_call_type "set" [.ref l] []) rfl) ?_;have h1:=jQ.notType;have hct:=F.typeCall_set_1 (.ref l)
 repeat (any_goals (first|assumption|with_reducible exact jQ.canCreate|wp_step))
 refine codeAny_mono (code_set_new_1 (.ref l) (E:=E) (Q₁:=λobj m=>∃a:Bool,obj= .ref s.heap.objs.size/\m={s with heap:=s.heap.push (iS a)}) λa=>bW a rfl rfl) λr m D=> ?_;rcases r with e|(_|_|_|obj)<;>first|exact D|exact D.elim|skip
 refine dN D λa I J=> ?_;subst I;subst J;have hS:(s.heap.push (iS a)).get? s.heap.objs.size=O (iS a):=aJ _ rfl;have hT:iA {s with heap:=s.heap.push (iS a)} (.ref s.heap.objs.size) "set":=bW _ hS rfl;have hli:=jQ.init.lookup;have hbi:=jQ.init.bind (.ref s.heap.objs.size)
 repeat (any_goals (first|assumption|wp_step))
 refine codeAny_mono (codeAny_call_builtin (R:=wants (λr p=>r= .none/\∃h' tk f g n,p={s with heap:=h',toks:=tk}/\h'.get? s.heap.objs.size=O {cls:= .type "set",data:= .set f n g}/\f.size=1/\g.fits f.size=H/\(∀b o,s.heap.get? b=O o->h'.get? b=O o)) E) jQ.init.plain F.entry_set_init (check_set_init_1 hT ?_)) λt p d=> ?_
 .have u:(s.heap.push (iS a)).get? l=O {cls:= .type "list",data:= .seq #[x] j}:=az _ hl;have adv:=F.sub_list_set;have adw:=F.sub_list_frozenset;have hne:(cW "list"==cW "dict")=false:=by decide
  have v:(s.heap.push (iS a)).IsList l #[x]:=gc _ u rfl j rfl;unfold Builtin.«set.__init__» noKeywords Builtin.Frozenset.updateFrom;generalize K:pyIter=PI;wp_walk;subst K;refine iI v ?_;refine aq (wpAny_runValue ?_);have w:l<s.heap.objs.size:=bk hl;refine iH pV ?_;refine U (jq i9 _) ?_;have L:s.heap.objs.size≠l:=iB w;have k:(s.heap.push (iS a)).objs.size=s.heap.objs.size+1:=bJ ..;refine(?_:wpAny _ A.in1.in1.in1 (pyNext (.ref (s.heap.push (iS a)).objs.size)>>=_) _ _ _);refine aq (wpAny_pyNext_list_item (l:=l) (i:=0) (items:= #[x]) (x:=x) (f7 _ (aJ _ rfl) rfl rfl) (v.push _) rfl λh1 y z=> ?_);have q:(s.heap.push (iS a)).objs.size≠s.heap.objs.size:=by refine U k ?_;exact Nat.succ_ne_self _
  have hIl:(s.heap.push (iS a)).objs.size≠l:=by refine U k ?_;exact iB (cK w)
  have M:∀b o,s.heap.get? b=O o->h1.get? b=O o:=λb o e=>z.extBut b o (by refine U k ?_;exact cj (cK (bk e))) (az _ (az _ e));have P:h1.get? s.heap.objs.size=O (iS a):=z.extBut _ _ q.symm (az _ hS);refine aq (bO (hx rfl M P λh2 tk f g n b1 b2 b3 b4=> ?_));refine av ⟨plainId_quiet i9 _, ?_⟩;refine iH pV ?_;refine U (jq i9 _) ?_;have B:h2.IsListIter (s.heap.push (iS a)).objs.size l 1:=y.at λo e=>b4.extBut _ o q e;have hl2:h2.IsList l #[x]:=gc _ (b4.extBut _ _ L.symm (M _ _ hl)) rfl j rfl;refine aq (wpAny_pyNext_list_end (l:=l) (i:=1) (items:= #[x]) hA B hl2 rfl λh3 he=> ?_);refine av ?_;refine(?_:wpAny _ _ _ _ _ _);refine av ?_;refine(?_:wpAny _ _ (ret dX) _ _ _);refine av ⟨rfl,h3,tk,f,g,n,rfl,he _ _ q.symm b1,b2,b3,λb o e=>he b o ?_ (b4.extBut b o (cj (bk e)) (M b o e))⟩;refine U k ?_;exact cj (cK (bk e))
 .rcases t with e|(_|_|_|r)<;>first|exact d|exact d.elim|skip
  obtain⟨rfl,h',tk,f,g,n,rfl,a1,a2,a3,a4⟩:=d
  repeat (any_goals (first|assumption|wp_step))
  exact h _ _ _ _ _ a1 a2 a3 a4
end
section
variable {X:dz} {r:Ap} {n b:Nat} {ns:List (Str×aN)} {G:Str->Option V}
theorem O1 (hz:VR X s.heap w N u z) (l:ak u.t 5=H) (o:allInts u.xs=H) (hu:A.units<cLine) (v:s.heap.get? S=O (iS led))
 (q:∀h' tk c h n,h'.get? S=O {cls:= .type "set",data:= .set c n h}->c.size=1->h.fits c.size=H->gj S s.heap h'->Q H {s with heap:=h',toks:=tk}):wpAny (model X.prog X.w) A (setAdd S z) Q E s:=by
 have hk:isKey u=true:=by unfold isKey;refine U (aH l) ?_;exact o
 unfold setAdd;refine bO (fE (xY hz hk) λd B=>aq (B s.toks hu ?_));obtain⟨a,C,D,rfl,_,_,i,_,f⟩:=hz.g9 (aH l);refine IW (s:={s with toks:=s.toks+d}) v i (λx hx=> ?_) λh' c h m F I J K=>q h' _ c h m F I J K;refine fE (List.mem_iff_getElem?.mp hx) λj p=> ?_;have g:=f.length▸(cg.mp p).1;refine aL (f.get (bB g)) λy k hy=> ?_;exact fE (k.cS (U (j3 o _ (mh g)) rfl)) λtk e=>Vp _ _ ((aF (p.symm.trans hy)).trans e)
theorem cQ.Cu (ax:bw X) (gx:jT X G) {g J:Expr} (eb:jR G ns 0 g=H) (M:jR G ns 7 J=H) {a:XE} {x:Expr} (B:br x=aj) (ha:cQ X r n b ns a x) (p K:Pos):cQ X r n b ns (BX a) (.Call g [.Call J [x] [] K] [] p):=by
 intro A L env ρ w h s hs he k res e Q hQ;have e:(dR a kh).f r ρ h (λvs h=>match vs with
  |[v]=>gR v h λl h=>with1 l λv=>ah au (ah au (k (aX 1) h) (allInts v.xs)) (ak v.t 5)
  |_=>au)=O res:=e
 refine U (DZ (GN eb)) (ay (Lq gx eb L hs he λw1 s1 a1 a2=> ?_));have hp:=lI (env:=env) (pos:=p) (xs:=[Expr.Call J [x] [] K]) rfl;refine pM hp (l8 hp ((?_:cG _ _ (eval (.Call J [x] [] K) env>>=λv=>pure [v]>>=λi=>holding i (spliced (backTo p (starEach [] env)))>>=λr=>pure (i++r)) _ _ _)));refine ay ?_;have P:[x].any br=false:=by simp [B]
 refine qg gx M (.cons B ha .nil) P L a1 (he.ext a2) K e λw2 h2 s2 vs ys b1 b2 b3 d=>dN (tL d) λv j=> ?_;subst j;intro d;refine dN b3.one λy j=> ?_;subst j;intro hv;refine gQ (fR d) λo d v6 ho t1=>aL (ez d) λu d hu=>aC (dM d) λd u5=>aC (dM d) λd ui=>sS (b1.listAt ho t1) λitems epl hg hn C hr=> ?_;rw [hu] at C;refine dN C.one λz hz R=> ?_;have hit:items= #[z]:=cL (sq (xs:=items)) (U hz rfl);rw [hit] at hg;refine eU (U ((hv.eu v6).1) ((?_:wpAny _ _ (PySem.call (.type "set") [.ref (w2.ρ v.n)]) _ _ _)));refine bX (CK L.handled hg (λ{A' E' s' Q' S led} ZD hk' hS q=>O1 (R.mono ⟨bu _,λD D=>rfl,λD D=>rfl,λa o c1 D D c2=>⟨c1,hk' a o c2⟩⟩) u5 ui ?_ hS q) λh' tk es tb m g1 g2 g3 g4 hsz=> ?_)
 .refine U ZD ?_;exact L.c (k:=3) rfl
 .refine aC (b1.ja ax (h':=h') (tk:=tk) hsz g4) λc2 c1=>ay (aO (ay (bh (aO (aO (⟨tT _ (wu 0) _,eU ?_⟩))))));have I:iA {s2 with heap:=h',toks:=tk} (.ref s2.heap.objs.size) "set":=bW _ g1 rfl;refine xO (n:=1) I F.slot_set_len (λQ' q'=>bH F.slot_set_len I entry_set_len ?_ (F.args_set_len_1 _)) (by decide) (by decide) ?_
  .unfold Builtin.«frozenset.__len__» Builtin.Frozenset.slot0 slotArgs;simp only [List.isEmpty_nil,Bool.not_true,ku,↓reduceIte,bind_assoc,List.length_nil,bne_self_eq_false];unfold Builtin.Frozenset.addrOf Builtin.Frozenset.sizeOf;refine bp ?_
   try dsimp only
   refine bp (aq (aq (wpAny_setEntries_of g1 rfl g3 (av (U g2 ((?_:wpAny _ _ (retInt _) _ _ _)))))));unfold retInt;exact aq (wpAny_mkInt (av (bW _ rfl q')))
  .exact aC (c1.tk ax (tk+1+1)) λd2 d1=>hQ w2 h2 _ (aX 1) _ d1 (a2.trans (b2.trans (c2.trans d2))) (.nat 1 _) d
end
section
variable {prog:Program} {ww:World} {A:Around} {s:Shared}
theorem zR (hh:A.handled=au) (p:S≠I) (hz:base.length+n<=1000000):
 ∀k i s d acc f,n-i=k->i<=n->vK s.heap I (a+(i:Nat)*c) ((n:Int)-(i:Nat)) c->s.heap.get? S=O {cls:= .type "list",data:= .seq acc f}->acc.toList=base++d->d.length=i->
  (∀(j:Nat) v,d[j]? =O v->∃t,v=gM (a+(j:Int)*c) t)->
  (∀h' tk d g c',(∀b o,b≠S->b≠I->s.heap.get? b=O o->h'.get? b=O o)->h'.get? S=O {cls:= .type "list",data:= .seq g c'}->g.toList=base++d->d.length=n->(∀(j:Nat) v,d[j]? =O v->∃t,v=gM (a+(j:Int)*c) t)->R (.ok (.ret .none)) {s with heap:=h',toks:=tk})->
  codeAny (model prog ww) A (.builtin "list.extend.loop" ⟨[.ref S,.ref I,.none],[]⟩) R s:=by
 have W:=Walks.range (prog:=prog) (w:=ww) (A:=A.in1) hh I a c n;have hbig:=bx;intro k
 induction k with
 |zero=>
  intro i s d acc f hk hi q D h l E J;have L:i=n:=by lia
  subst L;refine iH F.entry_extend_loop ((?_:wpAny _ A.in1 (pyNext (.ref I)>>=_) _ _ s));exact aq (W.done s _ _ q λh' tk hm=>(av (J h' tk d acc f (λb o u_ hb e=>hm b o (notIn_one hb) e) (hm S _ (notIn_one p) D) h l E)))
 |succ k ih=>
  intro i s d acc f hk hi q D h l E J;have y:=Nat.lt_of_sub_eq_succ hk;have hsz:acc.size=base.length+i:=cL aM (U h (U dc (U l rfl)));refine iH F.entry_extend_loop ((?_:wpAny _ A.in1 (pyNext (.ref I)>>=_) _ _ s));refine aq (W.item i s _ _ y q λv h' tk hv z hm=> ?_);have B:=hm S _ (notIn_one p) D;refine aq ?_;refine lg (s:={s with heap:=h',toks:=tk}) B rfl (av ⟨plainId_quiet vO _,ih (i+1) _ (d++[v]) (acc.push v) _ (by lia) y ?_ (bE _ B rfl) ?_ ?_ ?_ λM P x g c' h1 h2 h3 h4 h5=> ?_⟩)
   (by lia) (by show(acc.push v).size<=jr+1;refine U (qB ..) ?_;lia)
  .exact(dG _ _ p).trans z
  .exact U pq (U h (U (List.append_assoc ..) rfl))
  .refine U dc (U l ?_);rfl
  .intro j u m;rcases Nat.lt_or_ge j d.length with hl|hl
   .rw [List.getElem?_append_left hl] at m;exact E j u m
   .rw [List.getElem?_append_right hl] at m;have:j-d.length=0:=by
     have:=(cg.mp m).1;simp at this;exact this
    rw [this] at m;injection m with m;subst m
    have Q:j=i:=by lia
    refine U Q ?_;exact hv
  .exact J M P x g c' (λb o hb C e=>h1 b o hb C ((dG _ _ (rO hb)).trans (hm b o (notIn_one C) e))) h2 h3 h4 h5
theorem vd (J:A.handled=au) {items} {n:Nat} (w:s.heap.get? S=O {cls:= .type "list",data:= .seq items c₀}) (y:IsRange s.heap r a b c t u v) (p:p5 a b c=H)
 (hn:cN a b c=n) (hz:items.size+n<=1000000)
 (L:∀h' tk f g c',(∀b o,b≠S->s.heap.get? b=O o->h'.get? b=O o)->h'.get? S=O {cls:= .type "list",data:= .seq g c'}->g.toList=items.toList++f->f.length=n->(∀(j:Nat) v,f[j]? =O v->∃t,v=gM (a+(j:Int)*c) t)->Q .none {s with heap:=h',toks:=tk}):
 wpAny (model prog ww) A (call (.builtin "list.extend") [.ref S,.ref r]) Q E s:=by
 have z:S≠r:=λe=>by rw [e,y] at w;simp at w
 have q:=cj (bk w);refine wpAny_call (codeAny_call_builtin kZ.plain F.entry_list_extend (kZ.check _ _ _ _ _ _ _ _ (bW _ w rfl) (F.args_list_extend_2 _ _) ((?_:wpAny _ _ (um (.ref S) (.ref r) .none) _ _ s))));have x:∀h k tk,vK h s.heap.objs.size (a+((0:Nat):Int)*c) ((n:Int)-((0:Nat):Int)) c->(∀b o,b≠S->s.heap.get? b=O o->h.get? b=O o)->
  h.get? S=O {cls:= .type "list",data:= .seq items k}->codeAny (model prog ww) A (.builtin "list.extend.loop" ⟨[.ref S,.ref s.heap.objs.size,.none],[]⟩) (wants Q E) {s with heap:=h,toks:=tk}:=by
  intro h k tk B hk d;exact zR J q (base:=items.toList) hz n 0 {s with heap:=h,toks:=tk} [] items k rfl (iC _) B d (gC (qI (Array.toList items))) rfl (λj v M=>by simp at M) λh' C f g c' h1 h2 P R h5=>L h' C f g c' (λb o hb e=>h1 b o hb (cj (bk e)) (hk b o hb e)) h2 P R h5
 refine bq (je (T:="range") (bW _ y rfl)) ?_;have h1:nh (.ref S) (.ref r)=false:=by simp [nh,z]
 have h2:(cW "range"==cW "list")=false:=rfl;refine U h1 (bq (wpAny_pyIter_range y p) (aq (bO (wpAny_hint_range (n:=n) (az _ y) hn (by lia) ?_))));have i:vK (s.heap.push {cls:= .type "range_iterator",data:= .fields #[rawInt a,rawInt (cN a b c),rawInt c]}) s.heap.objs.size (a+((0:Nat):Int)*c) ((n:Int)-((0:Nat):Int)) c:=by
  show vK _ _ _ _ _;refine U hn ?_;simpa using aJ _ rfl
 have d:=az {cls:= .type "range_iterator",data:= .fields #[rawInt a,rawInt (cN a b c),rawInt c]} w;have I:=bx;refine ua (λD=> ?_) (λD=>av ⟨plainId_quiet vO _,x _ c₀ _ i (λb o D e=>az _ e) d⟩);refine bq fj (aq ((?_:wpAny _ _ (updateSeq S (·.push .none)>>=λD=>updateSeq S (·.pop)) _ _ _)));refine aq (lg d rfl ?_ (by lia) (by show(items.push dX).size<=jr+1;refine U (qB ..) ?_;lia));have l:=bE (eH (·.push dX)) d rfl;refine lg l rfl ?_ (by refine U (qB ..) (U sizeLine_eq ?_);lia) (by show((items.push dX).pop).size<=jr+1;simp;lia);have m:=bE (eH (·.pop)) l rfl;have e4:eH (·.pop) (eH (·.push dX) {cls:= .type "list",data:= .seq items c₀})={cls:= .type "list",data:= .seq ((items.push dX).pop) _}:=rfl;rw [e4,Array.pop_push] at m;refine av ⟨plainId_quiet vO _,x _ _ _ ?_ (λb o hb e=> ?_) m⟩
 .exact(dG _ _ q).trans ((dG _ _ q).trans i)
 .exact(dG _ _ (rO hb)).trans ((dG _ _ (rO hb)).trans (az _ e))
end
section
variable {X:dz} {K:Frag} {r:Ap} {n b:Nat} {ns:List (Str×aN)} {G:Str->Option V}
theorem o7.vrs:∀{l} {a} {tail},o7 X c l a->tail.length=l.length->(∀(j:Nat) v,tail[j]? =O v->∃t,v=gM (a+(j:Int)*c) t)->ef X g w m l tail:=by
 intro l a tail h
 induction h generalizing tail with
 |nil=>exact λhl e=>U (iL.mp hl) .nil
 |cons v l a hv o f=>
  intro hl e;rcases tail with _|⟨y,tail⟩
  .injection hl
  refine fE (e 0 y rfl) λt d=> ?_;subst d;refine U ((congrArg (a+ ·) (Int.zero_mul c)).trans (Int.add_zero a)) (.cons _ _ _ _ (hv _ _ _ _) (f (Nat.add_right_cancel hl) λj u i=> ?_));refine fE (e (j+1) u i) λk d=> ?_;subst d;refine⟨k, ?_⟩;have:a+((j+1:Nat):Int)*c=a+c+(j:Int)*c:=by push_cast;refine U (Int.add_mul ..) (U (Int.one_mul ..) ?_);lia
  exact U this rfl
theorem FP {w:Wd} (R:wz X ys l a c' c)
 (d:∀t u v tk,Q (.ref s.heap.objs.size) {s with heap:=s.heap.push {cls:= .type "range",data:= .fields #[.int a t,.int c' u,.int c v]},toks:=tk}):wpAny (model X.prog X.w) A (PySem.call (.type "range") ys) Q (λf f=>False) s:=by
 rcases R.args with⟨u,rfl,rfl,rfl⟩|⟨t,u,rfl,rfl⟩|⟨t,u,v,rfl⟩
 .exact call_range_1 (d _ _ _ _)
 .exact call_range_2 (d _ _ _ _)
 .refine call_range_3 R.ne (d _ _ _ _) (.inl (oU ?_));by_cases e:c.natAbs=0
  .refine U e ?_;decide+kernel
  .have:c.natAbs.log2<64:=(Nat.log2_lt e).mpr (i0 R.hc (by decide));lia
theorem cQ.uX (ax:bw X) (gx:jT X G) (ap p p') (hm:nm m=nm "extend") (P:aZ m=H) (hn:lV v=H) (C:ak ap.endLine p.line=H) (eb:jR G ns 1 g=H) (S:args.any br=aj)
 (ho:cQ X r n b ns o v) (hl:AE X r n b ns l args):cQ X r n b ns (vX o l) (.Call (.Attribute v m ap) [.Call g args [] p'] [] p):=by
 intro A hA env ρ w h s hs he k res e Q hQ;refine U (gS P rfl hm) ?_;have hp:=lI (env:=env) (pos:=p) (xs:=[Expr.Call g args [] p']) rfl;refine(?_:cG _ _ (attributeBase v "extend" env (eval v env)>>=λov=>standAt ap.atName>>=λu_=>methodCall v "extend" ap p env ov 1 (backTo p (starEach [Expr.Call g args [] p'] env)) []) _ _ s);refine ay (K0 hn (ho A hA env ρ w h s hs he _ res e _ λw1 h1 s1 ov y D x1 hov E=>(ay (bG (sW hp (fF 28) C ?_)))));refine dF (dj E) λob E h6 hob=>aC (dM E) λE t1=>gb (hov.eu h6) λow=> ?_;subst ow;intro lov;refine sS (D.listAt hob (aH t1)) λM ep0 I hn0 adz hr0=>eU (getMethod_builtin (T:="list") (id:="list.extend") (bW _ I rfl) yq kZ F.type_list_extend (λa' e=>by cases e;exact bW _ I rfl) (pM hp (l8 hp ((?_:cG _ _ (eval (.Call g args [] p') env>>=λv=>pure [v]>>=λi=>holding i (spliced (backTo p (starEach [] env)))>>=λr=>pure (i++r)) _ _ _)))));refine ay (qg gx eb hl S hA D (he.ext x1) p' E λw2 h2 s2 vs ys b1 b2 b3 f=>aL (bC f) λl' f el=>dF (dj f) λob2 f u_ j=>aC (dM f) λf t2=>aC (dM f) λf hle=>VE (zu b3 el) λa c' c R=>(sS (b1.listAt j (aH t2)) λitems ep hg hn2 x J=> ?_));have z:=nQ hle;rw [mH] at f z;rw [dc] at z;have hl2:=x.length;simp only [aM] at hl2;refine eU (FP (w:=w2) R λt u vv tk=>(aC (b1.junk ax {cls:= .type "range",data:= .fields #[.int a t,.int c' u,.int c vv]} tk) λc2 c1=>ay (aO (ay (bh (aO (aO (⟨qd _ _ _,eU ((?_:wpAny _ _ (PySem.call (.builtin "list.extend") [.ref (w1.ρ ov.n),.ref s2.heap.objs.size]) _ _ _))⟩))))))));refine cL (b2.ρ _ lov) (bX (vd (n:=l'.length) hA.handled (az _ hg) (IsRange.new s2.heap a c' c t u vv) (xj R.ha R.hb R.hc) R.len.symm (by lia) λh' tk' tail B ep' g1 g2 g3 g4 g5 hsz=> ?_));have L:B.size=items.size+l'.length:=cL aM (U g3 (U dc (U g4 (U aM rfl))));have ab:=c1.K4 ax j (s':={s2 with heap:=h',toks:=tk'}) (o':=bL (ob2.xs++l')) hsz (λd od hd e=>g1 d od (λq=>hd (q▸J)) e) rfl rfl λkk=>
  .list _ B ep' J g2 (by refine U L ?_;lia) (U g3 (((x.mono c2.dW).mono kk).append (R.val.vrs g4 g5)))
 exact hQ w2 _ _ di .none ab.1 (x1.trans (b2.trans (c2.trans ab.2))) .none f
end
section
variable {X:dz} {env:dD} {ns:List (Str×aN)} {ρ:Env} {w:Wd} {n:Nat} {s:Shared}
theorem eX.ZV (he:eX X env ns ρ w n s) (A:sc.kind= .function) (b:xe ns sc.names) (g:gD sc.names=H) (i:∀x k,bg (nm x) sc.names=O k->(x==("__classdict__":Str))=aj) (j:∀x k,bg (nm x) sc.names=O k->(x==("__debug__":Str))=aj)
 {cl} (f:∀q∈cl,env.cells.lookup q.1=O q.2) (B:∀p∈sc.names,p.2= .free->∃c,(p.1,c)∈cl) (I:s.heap.Ns C m) (J:w.role C=au) (hb:X.h₀.objs.size<=C) (ht:C∉X.tabs)
 (hm:∀x v,aZ x=H->bg (nm x) sc.names=O .local->find (nm x) l=O v->∃y,m x=O y/\VR X s.heap w n v y) (D:∀y v,find y l=O v->bg y sc.names=O .local) qual func code:
 eX X (newEnv sc C mainNs cl qual func code au builtinsNs) sc.names ⟨l,app ρ.loc ρ.out⟩ w n s:=by
 have o:∀p∈sc.names,aZ p.1=true:=λp hp=>(b p hp).1;have free:∀x,aZ x=H->bg (nm x) sc.names=O .free->∃c,cl.lookup x=O c/\env.cells.lookup x=O c/\(bg (nm x) ns=O .cell\/bg (nm x) ns=O .free):=by
  intro x hx hk;refine jB (lJ hk) λp hp K r=> ?_;have t:=gS hx (o p hp) K;refine fE (B p hp r) λc E=>fE (mem_lookup E) λc' hl=> ?_;rw [<-t] at hl;refine f7 c' hl (f _ (mem_of_lookup hl)) ?_;rcases(b p hp).2 with⟨_,q⟩|q|q
  .refine U t ?_;exact q
  .rw [r] at q;injection q
  .rw [r] at q;injection q
 have a:∀y,bg y sc.names≠O .cell:=λy e=>by
  refine jB (lJ e) λp hp G r=> ?_;rcases(b p hp).2 with⟨q,_⟩|q|q<;>rw [r] at q<;>injection q
 refine⟨A,rfl,rfl,λx k hx hk=> ?_,i,j,(bW m I hm),(iX J hb ht),λx hx hk=> ?_,λx v c G hk=>absurd hk (a _),λx v c hx hk d hl=> ?_,λx y c h1 h2=> ?_,λy v h=> .inl (D y v h),λy v G=>a y,λq=>absurd g (U q bZ)⟩
 .have hl:=j4 o hx hk;have this:=hl
  induction k using dw with
  |«local»=>exact this
  |cell=>exact absurd hk (a _)
  |free=>exact .inr this
  |globalImplicit=>exact this
  |_=>trivial
 .have hk:=hk.resolve_left (a _);refine cI (free x hx hk) λc a3 F z=>HB (he.cell x hx a3) λc' L M P Q R S=> ?_;injection z.symm.trans M with hq;subst hq
  exact lT c L F P Q R S
 .refine cI (free x hx hk) λc' a3 F z=> ?_;injection hl.symm.trans F with hq;subst hq
  rw [Dq] at d;rcases a3 with a3|a3
  .induction hq:find (nm x) ρ.loc using zO with
   |none=>rw [hq] at d;exact absurd a3 (he.outs _ v d)
   |some u=>rw [hq] at d;injection d with d;subst d;exact he.wX x _ c hx a3 hq z
  .induction hq:find (nm x) ρ.loc using zO with
   |none=>rw [hq] at d;exact he.wY x v c hx a3 d z
   |some u=>
    rcases he.locs _ u hq with q|q<;>rw [a3] at q<;>cases q
 .exact he.apart x y c (f _ (mem_of_lookup h1)) (f _ (mem_of_lookup h2))
theorem IX {nn} (ax:bw X) (u:X.h₀.NoLimit) (L:cStatics∉X.tabs) (z:∀a∈X.tabs,a<X.h₀.objs.size) (B:St X w h s) (he:eX X env ns ρ w h.n s) {cl}
 (hf:s.heap.get? f=O o) (hd:o.data= .func (kla_fn "<lambda>" q params body sc cl pm cv ctv)) (C:s.heap.CodeRec cv q) (M:sc.isCoroutine=aj) (D:sc.isGenerator=aj)
 (E:sc.kind= .function) (g:xe ns sc.names) (P:sc.names.lookup x0=O .local) (F:gD sc.names=H) (G:∀x k,bg (nm x) sc.names=O k->(x==("__classdict__":Str))=aj) (I:∀x k,bg (nm x) sc.names=O k->(x==("__debug__":Str))=aj)
 (hp:params.posonlyargs=[]/\params.args.map (·.arg)=[x0]/\params.kwonlyargs=[]/\params.vararg=au/\params.kwarg=au) (J:aZ x0=H) (R:bg (nm x0) sc.names=O .local)
 (S:∀q∈cl,env.cells.lookup q.1=O q.2) (V:∀p∈sc.names,p.2= .free->∃c,(p.1,c)∈cl) (hb:cQ X r nn bb sc.names e body) (hrl:A.depth<mF) (hA:∀env,fO nn bb (A.deeper env))
 (ek:e.f r ⟨[(nm x0,aX 0)],app ρ.loc ρ.out⟩ h k=O res) (hQ:Goes (PV X) X w h.n s k res Q):codeN (model X.prog X.w) A (.call (.ref f) ⟨[.int 0 t],[]⟩) (RV Q) s:=by
 refine oO hrl hf hd M D rfl C ?_;have hnl:s.heap.NoLimit:=by
  exact aL u λmc h2 h1=>bW mc (uK h1 λo e=>B.base _ o e L) h2
 have m:wpAny (model X.prog X.w) A.in1 (bindArgs (kla_fn "<lambda>" q params body sc cl pm cv ctv) ⟨[.int 0 t],[]⟩) (λi s'=>s'=s/\i=[(x0,gM 0 t)]) (λu_ u_=>False) s:=
  xh (names:=[x0]) hp.1 hp.2.1 hp.2.2.1 hp.2.2.2.1 hp.2.2.2.2 (of_decide_eq_true rfl) (vals:=[.int 0 t]) (ds:=[]) (od:=au) (λq=>av q) rfl (of_decide_eq_true rfl) (by simp) (Nat.sub_le (fV [x0]) (fV [])) ⟨rfl,rfl⟩
 refine aW (eU m) (λi s' hq=> ?_) λu_ u_ f=>f;refine gb hq λow hq1=> ?_;subst ow;subst hq1;have j:∀p∈sc.names,p.2≠.cell:=λp hp e=>by
  rcases(g p hp).2 with⟨q,_⟩|q|q<;>rw [e] at q<;>injection q
 refine eU (wpAny_newFunctionEnv j (λx hx=>U (eF.mp hx) P) (λh' hns K=> ?_) E);have up:∀b o,s'.heap.get? b=O o->h'.get? b=O o:=λb o eb=>K.extBut b o (cj (bk eb)) (az _ eb);have hsz:s'.heap.objs.size<=h'.objs.size:=by
  have:=K.1;have hpz:(s'.heap.push {cls:= .type (if(none:Option dD).isSome then "dict" else "frame"),data:= .dict #[]}).objs.size=s'.heap.objs.size+1:=bJ ..;lia
 refine aC (B.ja ax (h':=h') (tk:=s'.toks+[(x0,gM 0 t)].length) hsz up) λx2 hs2=> ?_;have Vt:=(he.ext x2).ZV E g F G I S V hns (l6 B (bu _)) B.size (λht=>absurd (z _ ht) (bD.mpr B.size)) (l:=[(nm x0,aX 0)]) (λx v hx hk d=>by
  rw [eV] at d;by_cases hb:nm x=nm x0
  .rw [if_pos hb] at d;refine U (gS hx J hb) ?_;injection d with d;subst d
   exact bW (.int 0 t) (by simp) (.nat 0 t)
  .rw [if_neg hb] at d;exact fn d) (λy v d=>by
  rw [eV] at d;by_cases hb:y=nm x0
  .refine U hb ?_;exact R
  .rw [if_neg hb] at d;exact fn d) (q++".<locals>.") (some f) cv
 exact⟨hnl.keeps up,yS (hb _ (hA _) _ _ w h _ hs2 Vt k res ek _ λw3 h3 s3 v y a1 a2 a3 a4=>hQ w3 h3 s3 v y a1 (x2.trans a2) a3 a4)⟩
end
structure FnAt (X:dz) (g:Heap) (w:Wd) (f:Addr) (fd:mC):Prop where
 hr:w.role f=au
 ht:f∉X.tabs
 obj:∃o,g.get? f=O o/\o.data= .func fd
 code:∃c,fd.code= .ref c/\w.role c=au/\c∉X.tabs/\g.CodeRec (.ref c) fd.qualname
section
variable {X:dz} {w w':Wd} {s s':Shared} {h:ae7} {n n':Nat}
theorem FnAt.ext (i:FnAt X s.heap w f fd) (x:Ext X cV w n s w' n' s'):FnAt X s'.heap w' f fd:=by
 obtain⟨g,ht,⟨o,j,l⟩,c,m,a,b,d⟩:=i;refine pG d λc' k vs t p e h1 h2=> ?_;cases e;exact⟨(x.role f (bk j)).trans g,ht,(bW o (x.old f o g ht (λq=>q) j) l),c,m,(x.role c (bk h1)).trans a,b,(uu c k vs t rfl (x.old c k a b (λq=>q) h1) h2 p)⟩
theorem FnAt.ZW (i:FnAt X g w f fd):g.CodeRec fd.code fd.qualname:=by
 refine pH i.code λc d e d b=>U e ?_;exact b
theorem IY (L:bw X) {env:dD} {ns:List (Str×aN)} {ρ:Env} {d:Arguments} {g:Expr} {scope:Scope} (pos:Pos) {c P:Addr} {q M:Str} (y:gD ns=aj) (hc:X.jO ns=O (c,M)) (R:M++"<lambda>"=q) (hP:P∈X.tabs)
 (z:∀w h s,St X w h s->CodeHd s.heap c P) (B:X.qt P pos.line pos.col=O q) (S:∀w h s,St X w h s->∃C,s.heap.Ns ic C/\s.heap.BuiltinsAt C P) (hgP:ic≠P)
 (D:∀env,defaultsOf d env=([],[])) {cl:List (Str×Addr)} (t:closureFor scope env=pure cl) (x:St X w h s) (he:eX X env ns ρ w h.n s) {A:Around} {E:Value->Shared->Prop} {Q:Value->Shared->Prop}
 (hQ:∀s' f pm cv k,St X w h s'->Ext X cV w h.n s w h.n s'->FnAt X s'.heap w f (kla_fn "<lambda>" q d g scope cl pm cv k)->Q (.ref f) s'):
 wpAny (model X.prog X.w) A (eval (.Lambda d g scope pos) env) Q E s:=by
 refine gb (he.N2 y c M hc) λl u=> ?_;obtain⟨low,ps,hp,ht,hcs⟩:=x.tab P hP;refine dN (S w h s x) λC F I=>kla_eval (D env) (U u (U R ?_));have m:∀s' a,St X w h s'->s'.heap.objs.size<=a->w.role a=au/\a∉X.tabs:=λs' a h1 h2=>⟨by
  induction J:w.role a using zO with
  |none=>rfl
  |some i=>exact absurd (h1.lim a i J).2.2 (bD.mpr h2),λq=>absurd (h1.tab a q).low (bD.mpr (aI h1.size h2))⟩
 induction p:codeAmong pos ps.toList using zO with
 |some cv=>
  refine SI (hcs pos q cv B p) λc' ow=> ?_;subst ow;intro J v j;refine kla_makeFunctionHit t he.glob F l (z w h s x) hp ht p I λk h' tk hk hsz=>aC (x.ja L (h':=h') (tk:=tk) hsz hk) λx1 K=>aC (K.ja L (h':=h'.push {cls:= .type "function",data:= .func (kla_fn "<lambda>" q d g scope cl ((C "__name__").getD .none) (.ref c') k)}) (tk:=tk) (by show h'.objs.size<=_;refine U (bJ ..) ?_;exact gV _) (λa o e=>az _ e)) λx2 s2=> ?_;exact aC (m _ h'.objs.size K (bu _)) λn2 n1=>hQ _ h'.objs.size _ _ _ s2 (x1.trans x2) ⟨n1,n2,(bW _ (aJ _ rfl) rfl),c',rfl,J,v,j.keeps λb o e=>az _ (hk b o e)⟩
 |none=>
  refine kla_makeFunction t he.glob F l (z w h s x) hp ht p hgP I λc' k h' tk hx hge hlt j R6=>ux (x.code L hP hp ht p (λq'' e=>aF (e.symm.trans B)) (tk:=tk) hx hge hlt j R6) λx1 K J v=>aC (K.ja L (h':=h'.push (kla_obj "<lambda>" q d g scope cl ((C "__name__").getD .none) c' k)) (tk:=tk) (by show h'.objs.size<=_;refine U (bJ ..) ?_;exact gV _) (λa o e=>az _ e)) λx2 s2=> ?_;exact aC (m _ h'.objs.size K (bu _)) λn2 n1=>hQ _ h'.objs.size _ _ _ s2 (x1.trans x2) ⟨n1,n2,(bW _ (aJ _ rfl) rfl),c',rfl,J,v,j.push _⟩
end
structure Mb (X:dz) (G:Str->Option V) (a:Addr) (Fp:Nat) where
 fd:mC
 nA:Str
 nB:Str
 nL:Str
 nE:Str
 nF:Str
 n0:Str
 nW:Str
 nX:Str
 pL:Pos
 pE:Pos
 pc:Pos
 pr:Pos
 pos:Pos
 params:Arguments
 sc:Scope
 pA:Pos
 pB:Pos
 pF:Pos
 p0:Pos
 pb:Pos
 L:Addr
 m:Nat
 Mc:mC
 pw:Pos
 ck:Nat
 pz:Pos
 YR:Pos
 prr:Pos
 pt:Pos
 hh:k6
 hs:List k6
 c:Addr
 P:Addr
 q:Str
 q':Str
 obj:∃o,X.h₀.get? a=O o/\o.data= .func fd
 nt:a∉X.tabs
 data:Vv X fd [nA,nB] []
 code:∀w h s,St X w h s->s.heap.CodeRec fd.code fd.qualname
 text:fd.body= .stmts [.Return (O (.Call (.Name nL pL) [.Lambda params (.Call (.Name nB pB) [.Name nA pA,.Name nF pF,.Name n0 p0] [] pb) sc pos,.Name nE pE] [] pc)) pr]
 kA:aZ nA=H/\bg (nm nA) fd.scope.names=O .cell
 kB:aZ nB=H/\bg (nm nB) fd.scope.names=O .cell
 ne:ak (nm nB) (nm nA)=aj
 kL:aZ nL=H/\bg (nm nL) fd.scope.names=O .globalImplicit
 kE:aZ nE=H/\bg (nm nE) fd.scope.names=O .globalImplicit
 gL:G nL=O (bM L)
 gE:G nE=O (aX m)
 gF:G nF=O (bM Fp)
 hloc:gD fd.scope.names=aj
 hc:X.jO fd.scope.names=O (c,q')
 hq':q'++"<lambda>"=q
 hP:P∈X.tabs
 YS:∀w h s,St X w h s->CodeHd s.heap c P
 hla:X.qt P pos.line pos.col=O q
 hbm:∀w h s,St X w h s->∃mg,s.heap.Ns ic mg/\s.heap.BuiltinsAt mg P
 hgP:ic≠P
 hdef:∀env,defaultsOf params env=([],[])
 sco:sc.isCoroutine=aj
 WS:sc.isGenerator=aj
 sfn:sc.kind= .function
 ZX:xe fd.scope.names sc.names
 WT:gD sc.names=H
 WU:∀x k,bg (nm x) sc.names=O k->(x==("__classdict__":Str))=aj
 WV:∀x k,bg (nm x) sc.names=O k->(x==("__debug__":Str))=aj
 sp:params.posonlyargs=[]/\params.args.map (·.arg)=[n0]/\params.kwonlyargs=[]/\params.vararg=au/\params.kwarg=au
 s0:aZ n0=H/\bg (nm n0) sc.names=O .local/\sc.names.lookup n0=O .local
 sA:bg (nm nA) sc.names=O .free
 sB:bg (nm nB) sc.names=O .free
 sF:aZ nF=H/\bg (nm nF) sc.names=O .globalImplicit
 WW:∃o,X.h₀.get? L=O o/\o.data= .func Mc
 ntL:L∉X.tabs
 GU:Vv X Mc [nW,nX] []
 Sf:∀w h s,St X w h s->s.heap.CodeRec Mc.code Mc.qualname
 Sg:Mc.body= .stmts [.Try [.Return (O (.Call (.Name nW pw) [.Constant (.int 0) ck pz] [] YR)) prr] (hh::hs) [] [] pt]
 kW:aZ nW=H/\(bg (nm nW) Mc.scope.names=O .local\/bg (nm nW) Mc.scope.names=O .cell)
section
variable {X:dz} {w:Wd} {s:Shared} {h:ae7} {G:Str->Option V} {A:Around} {r:Ap} {n:Nat}
theorem GV {h h'} (e:O (⟨⟨[],[]⟩,u,h⟩:Res)=O ⟨⟨[],[]⟩,v,h'⟩):u=v/\h=h':=by injection e with e;injection e with _ a b;exact⟨a,b⟩
theorem cQ.give (hx:cQ X r n b ns a x) (l:fO n b A) (m:St X w h s) (he:eX X env ns ρ w h.n s) (o:∀k,a.f r ρ h k=k v h)
 (p:∀d c y,St X d h c->Ext X cV w h.n s d h.n c->VR X c.heap d h.n v y->Q y c):cG (model X.prog X.w) A (eval x env) Q (λq q=>False) s:=
 hx A l env ρ w h s m he (λu h'=>O ⟨⟨[],[]⟩,u,h'⟩) _ (o _) Q λd h2 c u y g t hu e=>by
  refine gb (GV e) λi j=> ?_;subst i;subst j;exact p d c y g t hu
theorem AE.give (hx:AE X r n b ns a l) (m:fO n b A) (o:St X w h s) (he:eX X env ns ρ w h.n s) (p:∀k,a.f r ρ h k=k [v] h) pos
 (t:∀g d y,St X g h d->Ext X cV w h.n s g h.n d->VR X d.heap g h.n v y->Q [y] d):cG (model X.prog X.w) A (spliced (backTo pos (starEach l env))) Q (λu u=>False) s:=
 hx A m env ρ w h s o he (λvs h'=>O ⟨⟨[],[]⟩,dK vs,h'⟩) _ (p _) pos Q λg h2 d us ys i x j e=>by
  refine aC (GV e) λc=> ?_;subst c;intro q;injection q with _ _ _ _ q
  subst q;refine dN j.one λy c=> ?_;subst c;intro hy;exact t g d y i x hy
theorem WX (a:fO (n+1) 0 A):fO n 0 ((A.deeper env).deeper envL):=a.next rfl (j:=6) rfl (aA rfl) rfl (d:=2) rfl
theorem WY (a:fO (n+1) 0 A):fO n 0 (((A.deeper env).deeper envL).deeper env'):=a.next rfl (j:=9) rfl (aA rfl) rfl (d:=3) rfl
theorem VR.Sh (h:VR X g w n (bM a) y):y= .ref a:=by cases h;rfl
theorem Si (x y) (u v):nM [] [x,y] [u,v]=O [(x,u),(y,v)]:=rfl
theorem O2 (ax:bw X) (d:∀a∈X.tabs,a<X.h₀.objs.size) (i:X.h₀.NoLimit) (u:cStatics∉X.tabs) (gx:jT X G) (R:Mb X G a Fp) (rk:Cg X r n) (D:fO (n+1) 0 A) (hs:St X w h s) (hv:ef X s.heap w h.n vs ys)
 (e:with2 vs (λa w=>r w [a,bM Fp,aX 0] h k)=O res) (hQ:Goes (PV X) X w h.n s k res Q):codeN (model X.prog X.w) A (.call (.ref a) ⟨ys,[]⟩) (RV Q) s:=by
 refine nH (tY e) λva vw e9 F=> ?_;rw [F] at hv;clear e F;refine aL R.obj λo hd ho=>jC (zm D) (hs.base a o ho R.nt) hd R.data.sc.co R.data.sc.gen R.text (R.code w h s hs) (aW (eU (uW ax d i u R.data hs hv (Si _ _ _ _) (E:=λc c=>False) (E':=λc c=>False) (P:=λenv s1=>codeN (model X.prog X.w) A (.func _ env) (RV Q) s1) λenv s1 hs1 I x1 J=>tM ?_)) (λc c q=>eU q) λc c f=>f);have K:=ry D (iC _) env;refine kQ (mK (ay (cQ.give (cQ.glob (r:=r) (n:=n) (b:=0) gx R.nL R.pL R.kL.1 R.kL.2 _ R.gL) K hs1 I (v:=bM R.L) (λc=>rfl) λw2 s2 y2 hs2 x2 hu2=>(U hu2.Sh ?_))));have x:=I.ext x2;have hp:=lI (env:=env) (pos:=R.pc) (xs:=[.Lambda R.params (.Call (.Name R.nB R.pB) [.Name R.nA R.pA,.Name R.nF R.pF,.Name R.n0 R.p0] [] R.pb) R.sc R.pos,.Name R.nE R.pE]) rfl;refine pM hp (l8 hp ((?_:cG _ _ (eval (.Lambda _ _ _ _) env>>=λv=>pure [v]>>=λl=>holding l (spliced (backTo R.pc (starEach [.Name R.nE R.pE] env)))>>=λr=>pure (l++r)) _ _ _)));refine cI (zd x R.ZX) λcl J M hcl=>ay (eU (IY ax R.pos R.hloc R.hc R.hq' R.hP R.YS R.hla R.hbm R.hgP R.hdef M hs2 x λs3 f pm cv ctv Jx x3 hf=> ?_));have S:=x.ext x3;refine ay (aO (ay (bh (AE.give (AE.cons (r:=r) (n:=n) (b:=0) rfl (cQ.glob gx R.nE R.pE R.kE.1 R.kE.2 _ R.gE) .nil) K Jx S (v:=aX R.m) (λc=>rfl) R.pc λw4 s4 ye y x4 hye=>aO (dN R.WW λoL ZY hdL=> ?_)))));have hoL:=y.base _ oL ZY R.ntL;refine⟨yb hoL hdL,nN ?_⟩;have ZZ:(A.deeper env).depth=A.depth+1:=rfl;have hD:=D.depth;have Z0:(A.deeper env).depth<mF:=by refine U ZZ ?_;unfold mF;lia
 refine iR (R:=RV λv s'=>Q v s') (jC Z0 hoL hdL R.GU.sc.co R.GU.sc.gen R.Sg (R.Sf w4 h s4 y) ?_) (λr' s' B=> ?_);rotate_left
 .rcases r' with e|(_|_|_|v)<;>first|exact B.elim|exact B
 refine aW (eU (uW ax d i u R.GU y (.cons _ _ _ _ (.fn f) (.cons _ _ _ _ hye .nil)) (Si _ _ _ _) (E:=λc c=>False) (E':=λc c=>False) (P:=λp s1=>codeN (model X.prog X.w) (A.deeper env) (.func _ p) (RV Q) s1) λt s5 ZO heL x5 adE=>tM ?_)) (λc c q=>eU q) λc c f=>f;have hA2:fO n 0 ((A.deeper env).deeper t):=WX D;refine kQ (ay (bG ?_));unfold tryStmt;refine U List.isEmpty_cons (ay (qY (Gw (kQ (mK ?_)))));refine ay (cQ.give (cQ.loc (r:=r) (n:=n) (b:=0) R.nW R.pw R.kW.1 R.kW.2) hA2 ZO heL (v:=bM f) (λk=>by
  refine(?_:(aB au (λv=>k v h) (find (nm R.nW) [(nm R.nW,bM f),(nm R.nX,aX R.m)]):Option Res)=_);exact U (eV ..) (U (if_pos rfl) rfl)) λw6 s6 y6 hs6 x6 hu6=> ?_)
 refine U hu6.Sh ?_;have hp2:=lI (env:=t) (pos:=R.YR) (xs:=[.Constant (.int 0) R.ck R.pz]) rfl;refine pM hp2 (l8 hp2 (AE.give (AE.cons (r:=r) (n:=n) (b:=0) rfl (cQ.const (.int 0) R.ck R.pz) .nil) hA2 hs6 (heL.ext x6) (v:=mw 0) (λc=>rfl) R.YR λw7 s7 y0 hs7 x7 hy0=>fE (hy0.cS (v:=mw 0) rfl) λt0 ht0=>U ht0 ?_));have hf7:=(((hf.ext x4).ext x5).ext x6).ext x7;refine aL hf7.obj λoF hdF hoF=>⟨yb hoF hdF,nN ((?_:codeN _ _ (.call (.ref f) ⟨[.int 0 t0],[]⟩) _ _))⟩;have C:cQ X r n 0 R.sc.names (kK (Dg (nm R.nB)) (dR (Dg (nm R.nA)) (dR (xC (bM Fp)) (dR (qy (nm R.n0)) kh)))) (.Call (.Name R.nB R.pB) [.Name R.nA R.pA,.Name R.nF R.pF,.Name R.n0 R.p0] [] R.pb):=
  cQ.call rk R.pb (λc c c q=>(by injection q)) rfl (cQ.free R.nB R.pB R.kB.1 R.sB) (.cons rfl (cQ.free R.nA R.pA R.kA.1 R.sA) (.cons rfl (cQ.glob gx R.nF R.pF R.sF.1 R.sF.2 _ R.gF) (.cons rfl (cQ.loc R.n0 R.p0 R.s0.1 (.inl R.s0.2.1)) .nil)))
 refine iR (R:=RV Q) (IX ax i u d hs7 ((((S.ext x4).ext x5).ext x6).ext x7) hoF hdF hf7.ZW R.sco R.WS R.sfn R.ZX R.s0.2.2 R.WT R.WU R.WV R.sp R.s0.1 R.s0.2.1 hcl J C (i0 (i6 (Kn (j:=2) D.depth (aA rfl))) (aA rfl)) (λp=>WY D) (k:=k) (res:=res) ?_ (hQ.ext ((((((x1.trans x2).trans x3).trans x4).trans x5).trans x6).trans x7))) (λr' s' B=> ?_)
 .refine(?_:(aB au (λg=>aB au (λa=>aB au (λz=>r g [a,bM Fp,z] h k) (find (nm R.n0) [(nm R.n0,aX 0)])) (find (nm R.nA) [(nm R.nA,va),(nm R.nB,vw)])) (find (nm R.nB) [(nm R.nA,va),(nm R.nB,vw)]):Option Res)=O res);have f1:find (nm R.nB) [(nm R.nA,va),(nm R.nB,vw)]=O vw:=U (eV ..) (U (if_neg (fU R.ne)) (U (eV ..) (U (if_pos rfl) rfl)));have f2:find (nm R.nA) [(nm R.nA,va),(nm R.nB,vw)]=O va:=U (eV ..) (U (if_pos rfl) rfl);have f3:find (nm R.n0) [(nm R.n0,aX 0)]=O (aX 0):=U (eV ..) (U (if_pos rfl) rfl);exact U f1 (U f2 (U f3 e9))
 .rcases r' with e|(_|_|_|v)<;>first|exact B.elim|exact aO (aO B)|exact aO B|exact B
end
section
variable {X:dz} {K:Frag} {G:Str->Option V} {Ms:Nat->List (Nat×Nat)} {r:Ap} {n b:Nat}
theorem Uj (d:bw X) (c:10<=X.h₀.objs.size) (e:∀a∈X.tabs,a<X.h₀.objs.size) m:qf X m:=by
 rcases m with _|_|_|_|_|_|_|_|_|_|_|_|_|_|_|_|_|_|m
 .exact T6 d c
 .exact uZ 1 (.inl rfl)
 .exact LU d
 .exact OS d
 .exact LA d e
 .exact ON d c
 .exact OW d c e
 .exact uZ 7 (.inr (.inl rfl))
 .exact IB d c
 .exact uZ 9 (.inr (.inr (.inl rfl)))
 .exact uZ 10 (.inr (.inr (.inr (.inl rfl))))
 .exact T8 d
 .exact Uh d
 .exact Ui d
 .exact TX d
 .exact TY d
 .exact T4 d
 .exact T5 d
 .exact uZ _ (.inr (.inr (.inr (.inr (rU 18 m)))))
structure Base (X:dz) (K:Frag) (G:Str->Option V) (Ms:Nat->List (Nat×Nat)):Prop where
 ax:bw X
 kx:Jw X K
 gx:jT X G
 hbase:10<=X.h₀.objs.size
 htab:∀a∈X.tabs,a<X.h₀.objs.size
 mo:∀x,aZ x=H->Ci X K (Ms (nm x)) x
 fl:∀x,aZ x=H->∀c,find c (Ms (aG (cM (nm x) 128) 1))≠au->X.fld c x
theorem Base.ctx (B:Base X K G Ms) (rk:Cg X r n):l9 X K G Ms r n b where
 ax:=B.ax
 kx:=B.kx
 gx:=B.gx
 hbase:=B.hbase
 htab:=B.htab
 rk:=rk
 mo:=B.mo
 om:=λx hx=>Ub (Il B.ax) (II B.ax) (T7 B.hbase B.ax) (AP B.ax B.hbase) hx
 vm:=λx hx=>Uc (L5 B.ax) (O0 B.ax) hx
 fl:=B.fl
 Cu:=λns a x g j p d h1 h2 e f=>cQ.Cu B.ax B.gx h1 h2 e f p d
 yd:=λns a c x y g j p d h1 h2 e f h i=>cQ.yd B.ax B.htab B.gx h1 h2 e f h i p d
 uX:=λns o v l args m k g p d h1 h2 e f h i q s=>cQ.uX B.ax B.gx k p d h2 h1 e f h i q s
end
end
section
set_option backward.match.sparseCases false
section
inductive NT (α:Type) where
 |l
 |n (l:NT α) (k:Nat) (v:α) (r:NT α)
def NT.find {α:Type} (t:NT α) (n:Nat):Option α:=NT.rec au (λ_ k v _ ihl ihr=>ah (ah ihr ihl (bI n k)) (O v) (ak n k)) t
noncomputable abbrev NT.o {α:Type} (k:Nat) (v:α):NT α:= .n .l k v .l
namespace K
noncomputable def prog:Program:=kF
def sI (l:List Stmt):Nat->Stmt:=aS (λ_=> .Pass default) (λs _ ih n=>ah (ih (fq n 1)) s (ak n 0)) l
def El (l:List Expr):Nat->Expr:=aS (λ_=> .Constant .none 0 default) (λs _ ih n=>ah (ih (fq n 1)) s (ak n 0)) l
noncomputable def ve:Stmt->List Stmt
 | .ClassDef _ _ _ b _ _ _ _ _ _ _=>b
 |_=>[]
noncomputable def vf:List Stmt->List Expr
 |[.Return (O (.Dict _ vs _)) _]=>vs
 |_=>[]
noncomputable def fnBody:Stmt->List Stmt
 | .FunctionDef _ _ b _ _ _ _ _ _ _=>b
 |_=>[]
def top (i:Nat):Stmt:=sI prog.main.body i
def glob:NT V:=(.n (.n (.n (.n (.n (.n (.n (.n (.o 1653103 (BO 17)) 1800947 (BO 11) .l) 1815276 (BO 0) (.n (.o 1815789 (BO 13)) 1848570 (BO 9) .l)) 1881187 (BO 16) (.n (.n (.o 1896801 (BO 14)) 1913587 (BO 7) .l) 1914729 (BO 15) (.n (.o 1962220 (bM 2810)) 1978605 (BO 12) .l))) 173170896 (aX 6) (.n (.n (.n (.o 211448044 (bM 291)) 213596882 (jh 1129) .l) 215577159 (jh 992) (.n (.o 228325328 (jh 2651)) 244905188 (BO 6) .l)) 245086150 (jh 2698) (.n (.n (.o 245167340 (BO 5)) 22424036555 (dK [(vStr []),(vStr [115,105,110,103,108,101]),(vStr [109,117,108,116,105,112,108,101]),(vStr [97,108,116,101,114,110,97,116,101]),(vStr [108,105,103,97,116,117,114,101]),(vStr [99,111,110,116,101,120,116]),(vStr [99,104,97,105,110]),(vStr []),(vStr [114,101,118,101,114,115,101])]) .l) 22723715788 (aX 2) (.o 27329802482 (BO 1))))) 27340323572 (BO 4) (.n (.n (.n (.n (.o 27359129814 (jh 2008)) 29219126239 (bM 21) .l) 31083805922 (BO 2) (.n (.o 2870272419014 (aX 4)) 2874305454529 (aX 4) .l)) 2904915699662 (qO 1) (.n (.n (.o 3463318205683 (bM 103)) 3463330969587 (BO 8) .l) 3499542426835 (jh 1469) (.o 3879923873740 (jh 2370)))) 3947026249537 (jh 1662) (.n (.n (.n (.o 4011968010485 (bM 96)) 4016016503251 (jh 2424) .l) 4016846844481 (jh 2067) (.n (.o 4017371377868 (jh 2478)) 371829209393621 (aX 16) .l)) 448151359615686 (jh 2452) (.n (.n (.o 448184882934482 (jh 1431)) 448285575527107 (jh 1777) .l) 452098138830830 (bM 1003) (.o 452440390284531 (bM 2024)))))) 452440406931430 (bM 2045) (.n (.n (.n (.n (.n (.o 487286833314167 (bM 1694)) 487287338564073 (bM 2081) .l) 487624791390183 (bM 681) (.n (.o 495935014073411 (jh 572)) 504877905704035 (bM 695) .l)) 505216945910514 (bM 2716) (.n (.n (.o 509205389587149 (jh 322)) 509955375083724 (jh 2398) .l) 513532036428016 (bM 1906) (.n (.o 535556628658150 (bM 2723)) 39145144394541903 (aX 8) .l))) 46450200064354253 (aX 4294967295) (.n (.n (.n (.o 57314307796219843 (jh 790)) 57336811040225997 (jh 1495) .l) 57363374030845132 (jh 1364) (.n (.o 57367071481966797 (jh 1841)) 57867465521657411 (jh 895) .l)) 57912368870142692 (bM 1570) (.n (.n (.o 57912369908053616 (bM 1375)) 57912373687400422 (bM 2210) .l) 59043563102010594 (bM 852) (.o 60740376108773581 (jh 1895))))) 62249534993805775 (jh 187) (.n (.n (.n (.n (.o 65253568564410307 (jh 1170)) 65266456912018160 (bM 1291) .l) 65732096623685876 (bM 333) (.n (.o 65750374377091826 (bM 2179)) 67483170342728434 (bM 1537) .l)) 67483170342909940 (bM 1805) (.n (.n (.o 67483170363767653 (bM 1946)) 5018486001850705869 (aX 255) .l) 5594946513635960781 (aX 255) (.o 5814435663309940684 (aX 65536)))) 6021667624083516610 (aX 1) (.n (.n (.n (.o 7260813351097758450 (bM 1913)) 7267050193396855024 (bM 2094) .l) 7268149395757495026 (bM 1617) (.n (.o 7334603603662435054 (bM 471)) 7339134106964882162 (bM 1207) .l)) 7342986245952795378 (bM 1927) (.n (.n (.o 7343549613325760065 (jh 1521)) 7343549747291846501 (BO 10) .l) 7346962664114385640 (bM 2608) (.o 7407175906581050098 (bM 1055))))))) 7412783829808149744 (bM 688) (.n (.n (.n (.n (.n (.n (.o 7412783829816684786 (bM 808)) 7412783832798853479 (bM 734) .l) 7550151931891053298 (bM 1015) (.n (.o 7557576077057276656 (bM 590)) 7559783550671155954 (bM 2172) .l)) 7774769238184063730 (bM 1941) (.n (.n (.o 7917270102705944550 (bM 2737)) 7918945758392906482 (bM 2019) .l) 7981438047945782002 (bM 822) (.n (.o 7985866882390980208 (bM 1380)) 7990959543696777928 (aX 14) .l))) 7990959543764415218 (bM 2326) (.n (.n (.n (.o 8274105949947982578 (bM 2205)) 8345037781557868127 (bM 2805) .l) 8352373688738804466 (bM 1221) (.n (.o 8354106484704441074 (bM 1549)) 8354106484706882796 (bM 1342) .l)) 8413708812629539566 (bM 89) (.n (.n (.o 8419997426741131206 (jh 73)) 8421097116884563551 (bM 2800) .l) 8424897481346462159 (jh 279) (.o 8629964675023926879 (bM 2786))))) 8774080344635555042 (BO 3) (.n (.n (.n (.n (.o 8774559767153127668 (bM 2751)) 623266388825099756232 (aX 1594834165) .l) 642369615688090773454 (aX 65535) (.n (.o 705707651995876501448 (aX 1)) 744247764907170456659 (aX 20480) .l)) 770558945185483975874 (aX 2) (.n (.n (.o 770773455882689914433 (aX 65536)) 771489985764137428941 (aX 10920) .l) 771634158298616621005 (aX 16384) (.o 780716766390117523660 (aX 65535)))) 929681940731898917618 (bM 2277) (.n (.n (.n (.o 930323122657267710327 (bM 1631)) 939409165693388158051 (bM 1270) .l) 939902239482266155383 (bM 1965) (.n (.o 940052543510412817138 (bM 2031)) 948118516042682759543 (bM 1098) .l)) 948836330219767363171 (bM 1800) (.n (.n (.o 967652294486216309111 (bM 2217)) 995170462487868504439 (bM 1977) .l) 1013408937070619620451 (bM 82) (.o 1022842821602153494903 (bM 2348)))))) 1059085561593650116983 (bM 2248) (.n (.n (.n (.n (.n (.o 1059521791147225444584 (bM 1810)) 1059527485209817150547 (jh 48) .l) 1068022387841961587442 (bM 660) (.n (.o 1068027991262454379250 (bM 354)) 1068245360306806223056 (jh 2129) .l)) 1068462553476415644360 (aX 12) (.n (.n (.o 1068462553476483281650 (bM 1709)) 1068462553476483463156 (bM 1719) .l) 1068669222286244999922 (bM 829) (.o 1068677072834174693590 (jh 460)))) 1068680489399611848291 (bM 911) (.n (.n (.n (.o 1068961890188247200498 (bM 2312)) 1068961890188268304362 (bM 2319) .l) 1069103832158875318647 (bM 1091) (.n (.o 1069103836697001276147 (bM 2231)) 1069103836697001326578 (bM 1583) .l)) 1069106062722726392562 (bM 347) (.n (.n (.o 1069325630042476804471 (bM 1958)) 1077253579605513106162 (bM 1036) .l) 1077759670618833858772 (jh 61) (.o 1077903848374365876978 (bM 361))))) 1077903848374372382700 (bM 382) (.n (.n (.n (.n (.o 1105644263033265484531 (bM 2333)) 98769172262222927258316 (aX 16) .l) 99812129308210770536397 (aX 65535) (.n (.o 118961165944803372562412 (bM 2601)) 118998497416701646762738 (bM 2284) .l)) 118999143771278887697136 (bM 1284) (.n (.n (.o 118999288413683369802103 (bM 2298)) 119063350368686042935532 (bM 2709) .l) 119118681057071593976562 (bM 492) (.o 120243362194891606618866 (bM 1530)))) 120326725569333148940663 (bM 2038) (.n (.n (.n (.o 121451042395008232437731 (bM 801)) 121451042949265469503075 (bM 904) .l) 121451050333925388448499 (bM 707) (.n (.o 123823326446507721013601 (bM 604)) 123859073171099907388130 (bM 1337) .l)) 129716553362697413505268 (bM 2779) (.n (.n (.o 133313169190588689969906 (bM 2534)) 135618789266844825449202 (bM 1680) .l) 135618789266844825630708 (bM 1673) (.o 136707081245458649608946 (bM 478)))))))) 136707948751123226718416 (jh 2161) (.n (.n (.n (.n (.n (.n (.n (.o 136735406120365597422322 (bM 485)) 136735682516148343567090 (bM 368) .l) 136763206844990168398199 (bM 1714) (.n (.o 136790665322840893242096 (bM 1277)) 136809547781519370121970 (bM 639) .l)) 136827121944095950010743 (bM 2340) (.n (.n (.o 136845291097216123499624 (bM 396)) 136845291097216125860327 (bM 2758) .l) 136845291097216129725160 (bM 389) (.n (.o 136845291097216132004594 (bM 1298)) 136845291097216155267309 (bM 403) .l))) 136845291097216161413223 (bM 2765) (.n (.n (.n (.o 136845291097216161493747 (bM 1308)) 136845291097216163575020 (bM 2574) .l) 136845291097216171980520 (bM 410) (.n (.o 136845933475923901313778 (bM 1029)) 137851214036553017422574 (bM 583) .l)) 137888458189505985935735 (bM 1081) (.n (.n (.o 137971692591922896467555 (bM 1726)) 137989276334399805747954 (bM 2510) .l) 138017806641818769060594 (bM 2076) (.o 138035829471761369953010 (bM 2546))))) 138035829471761409799775 (bM 2793) (.n (.n (.n (.n (.o 7995869041531642652947186 (bM 611)) 8298100496435299946623730 (bM 625) .l) 10506764375021921697293004 (aX 16) (.n (.o 10533917780832119422051027 (aX 8)) 12623647655791468010070722 (dK [(dK [(aX 3),(aX 10)]),(dK [(aX 0),(aX 6)]),(dK [(aX 0),(aX 4)]),(dK [(aX 3),(aX 1)]),(dK [(aX 0),(aX 3)]),(dK [(aX 0),(aX 2)]),(dK [(aX 0),(aX 1)]),(dK [(aX 0),(aX 0)])]) .l)) 12624725789957845897702594 (aX 3) (.n (.n (.o 12624837757918969450522573 (aX 65536)) 15231807669337811093977463 (bM 2305) .l) 15231825760320224384021234 (bM 618) (.o 15231871308024227493868274 (bM 1022)))) 15242468808826696465496045 (bM 2099) (.n (.n (.n (.o 15242525020989226879711607 (bM 1953)) 15391150360946125955561847 (bM 1576) .l) 15398363465659577213154034 (bM 2524) (.n (.o 15399515318122634829918962 (bM 1442)) 15402975089260825436254962 (bM 1788) .l)) 16607232935166914733012083 (bM 940) (.n (.n (.o 16754752494912545469592302 (bM 340)) 17040492478999104482472690 (bM 674) .l) 17359205026156137965844855 (bM 1687) (.o 17496163961791076399346418 (bM 375)))))) 17496163961791076399411950 (bM 417) (.n (.n (.n (.n (.n (.o 17497427338017365980377842 (bM 2496)) 17498617440144867420828402 (bM 2193) .l) 17509205161323634301104882 (bM 1193) (.n (.o 17511621826150883076371186 (bM 2539)) 17516279484918259676510583 (bM 1074) .l)) 17516297933294694192149234 (bM 2517) (.n (.n (.o 17522228415138367312261874 (bM 2503)) 17644826346071697837814514 (bM 1542) .l) 17666279250152802748103031 (bM 2087) (.o 17668586172385455662332279 (bM 2668)))) 17672035360570948487508722 (bM 1263) (.n (.n (.n (.o 935997551323211362886775538 (bM 632)) 974683177550879496477373170 (bM 646) .l) 994025990664713563272671986 (bM 653) (.n (.o 1023471237316050259885586807 (bM 727)) 1949679527427101119523486071 (bM 1067) .l)) 1951028970087382846476449633 (bM 1701) (.n (.n (.o 1951028970087382912534688623 (bM 2489)) 1969304620621137590114349810 (bM 836) .l) 1970077826197620305736266482 (bM 1556) (.o 1970990523605565422670738162 (bM 1392))))) 1971137960719697258537974135 (bM 1447) (.n (.n (.n (.n (.o 1971580811425385656148982135 (bM 1795)) 1988348754275273362074268402 (bM 928) .l) 2028721380499582530317137908 (bM 1817) (.n (.o 2028721380499582530348775410 (bM 1920)) 2144608327931510606414770930 (bM 2270) .l)) 2181183037311885374064851319 (bM 752) (.n (.n (.o 2221063403675625147193651954 (bM 2179)) 2239508987109257779424688503 (bM 424) .l) 2239821871556577258672517874 (bM 2529) (.o 2239823032338543030174382455 (bM 1062)))) 2241487593747313036476577392 (bM 2620) (.n (.n (.n (.o 2241770870158271529449420651 (bM 2730)) 2241771018316025211056289643 (bM 2772) .l) 2242073249336789487115302892 (bM 2615) (.n (.o 2242073249336789551520905966 (bM 196)) 2242073249336789585891143922 (bM 513) .l)) 2242073249336789586715506279 (bM 520) (.n (.n (.o 2242073249336789623207932403 (bM 2579)) 2242073249336789624562807020 (bM 2744) .l) 2242083737026894217218945762 (bM 702) (.o 2242088422711605885721408611 (bM 746))))))) 2260509313610995964179165389 (jh 1867) (.n (.n (.n (.n (.n (.n (.o 2261276595556167982473933555 (bM 714)) 2261280193164428091351528171 (bM 2224) .l) 2262020526153081406709463415 (bM 1330) (.n (.o 124759446726512575549412112759 (bM 739)) 206825231721686031451529996240 (dK [(vStr [97,100,106,117,115,116]),(vStr [112,97,105,114]),(vStr [99,117,114,115,105,118,101]),(vStr [98,97,115,101]),(vStr [99,111,109,112,111,110,101,110,116]),(vStr [109,97,114,107]),(vStr [99,111,110,116,101,120,116]),(vStr [99,104,97,105,110])]) .l)) 244916857625732646695848979525 (aX 7) (.n (.n (.o 252070991439505611534945122679 (bM 844)) 252169961753295399134550456695 (bM 1595) .l) 252286787021512374102162831735 (bM 1409) (.n (.o 252322443406300683313366987506 (bM 1563)) 254508626196969650773737108210 (bM 1048) .l))) 254508640547234990345814702455 (bM 948) (.n (.n (.n (.o 257159343767759579956951675634 (bM 815)) 274509864839752640910383936242 (bM 1610) .l) 274509865975233357621399026039 (bM 2291) (.n (.o 286676931061197235372720599272 (bM 721)) 286695513656258600816912921330 (bM 1249) .l)) 286695528848076168695662621412 (bM 506) (.n (.n (.o 286696270259758067789011253623 (bM 2594)) 286697348139333507895317624818 (bM 933) .l) 286754930416137045757115527922 (bM 1228) (.o 286813232761394933049648166900 (bM 1805))))) 286890308735570216155706895429 (aX 9) (.n (.n (.n (.n (.o 286985375915109066962661602034 (bM 2567)) 286985375915109067440181181166 (bM 2553) .l) 286985375915109067684467945708 (bM 2560) (.n (.o 286986718339442459801575584867 (bM 597)) 289345192142207484511194215154 (bM 1934) .l)) 296794122023719055574575903474 (bM 916) (.n (.n (.o 296794122031943143065596228338 (bM 1043)) 21754620659536464674526856422099 (dK [(aX 0),(aX 5)]) .l) 32277581761758900051371466715890 (bM 1537) (.o 32297272756006487464111282747767 (bM 1602)))) 32601768222163670161184792573801 (bM 1200) (.n (.n (.n (.o 36380018200890331181796032313328 (bM 2256)) 36389902805813292114523522413299 (bM 2231) .l) 36697260561834689093716823012082 (bM 1242) (.n (.o 36719464622462322722084190974706 (bM 499)) 37036184594202558017433167886711 (bM 1970) .l)) 37989647620088722312396625574263 (bM 1086) (.n (.n (.o 4092886715862218373754291058719845 (bM 2627)) 4131530465505135591693163193983688 (aX 6) .l) 4497569625534507268675733909287650 (bM 2263) (.o 4699148005562658264452579806837111 (bM 1958)))))) 4700056944600384509658401590506226 (bM 921) (.n (.n (.n (.n (.n (.o 4700091471675177308426776753109367 (bM 527)) 4700740190202365023425939105463397 (bM 2660) .l) 4701344111645595755523557614449394 (bM 2186) (.n (.o 4701344111645697415277808809702130 (bM 2198)) 4701968398993146955359597425589474 (bM 1313) .l)) 4702943856457703250897603260871410 (bM 1731) (.n (.n (.o 4742874986059582077864430395220680 (aX 10)) 528835899584657781901243912411805682 (bM 1583) .l) 528835899584657782123037257887283575 (bM 1588) (.o 529083739975738718373639599492200048 (bM 1375)))) 529083739975738718383210399926874866 (bM 1387) (.n (.n (.n (.o 529242194155823406263589706402915016 (aX 6)) 533743274446209717313503230114165490 (bM 1010) .l) 575688914681950414279124450801119986 (bM 1624) (.n (.o 585506863240280962273848360028135628 (aX 1114111)) 596212167570427398184054589731926770 (bM 2193) .l)) 601244069855250037220482958491153138 (bM 1256) (.n (.n (.o 601772046290636256707015374957869431 (bM 2236)) 601772046290649269155559527950219639 (bM 2241) .l) 601851955071122810071517773335887074 (bM 1318) (.o 601857939601968164259791255073486448 (bM 1186))))) 601857939601968164267629259542524658 (bM 1214) (.n (.n (.n (.n (.o 601857939601968164269362055508342772 (bM 1179)) 601976813626586016114893217699887479 (bM 1736) .l) 52253071017454156795389214197477074896 (aX 9) (.n (.o 73688181079289653027727929702851705207 (bM 1638)) 77037050249103720998148579112613884403 (bM 2584) .l)) 77037816269051925026192870989914206962 (bM 1221) (.n (.n (.o 77707263771600192763730827599879922386 (aX 8)) 8668507995762503161953978766203656418035 (bM 1404) .l) 8668507995762503161953978766203656468466 (bM 1399) (.o 9849464687341924065599428424155553654733 (aX 65535)))) 9859465126833567109120200753796816888012 (aX 1114111) (.n (.n (.n (.o 9859465126833567109120213112857235055304 (aX 10)) 9860742431885276120099779237220200217826 (bM 1323) .l) 9860742431885276287763018060515824399078 (bM 2589) (.n (.o 9860840482438646403352687491247452795635 (bM 1303)) 9946529762764831637267103188259830264562 (bM 2496) .l)) 1227896889258081707583954021459867052045042 (bM 667) (.n (.n (.o 161405946953043442708370758265997993360811981 (aX 65536)) 161537476638041163515825571641052943730402002 (aX 11) .l) 161560010464274782672512852036299465116119794 (bM 1235) (.o 14026576945970690538465802410588192241831946963 (aX 7)))))))))
def ms:NT (List (Nat×Nat)):=(.n (.n (.n (.n (.n (.n (.o 7285 [(187,139),(279,217)]) 15361 [(1662,1)] (.o 15489 [(1662,1)])) 825845 [(187,167),(279,245)] (.n (.o 858485 [(187,160),(279,238)]) 891113 [(187,153),(279,231)] .l)) 891125 [(187,146),(279,224)] (.n (.n (.o 1651297 [(279,262)]) 1700084 [(187,172),(279,250)] .l) 1896680 [(790,780)] (.n (.o 1912961 [(187,1),(2651,1)]) 211383022 [(187,125)] .l))) 211498996 [(322,319),(460,457),(572,569),(790,787),(895,892),(992,989),(1129,1119),(1170,1153),(1364,1361),(1431,1428),(1469,1466),(1495,1492),(1521,1518),(1662,1659),(1777,1774),(1841,1838),(1867,1864),(1895,1892),(2008,1998),(2067,2064),(2129,2126),(2161,2158),(2370,2367),(2398,2395),(2424,2421),(2452,2449),(2478,2475),(2698,2695)] (.n (.n (.n (.o 211530982 [(2129,2121),(2161,2153)]) 213693160 [(187,184)] .l) 213824755 [(279,269)] (.n (.o 217610753 [(2424,1),(2452,1)]) 243136498 [(187,177),(279,255)] .l)) 245005413 [(1777,1764)] (.n (.n (.o 26283110913 [(187,1)]) 26553938817 [(2698,1)] .l) 27075966337 [(2370,1)] (.n (.o 27323299457 [(279,1)]) 27593880449 [(2698,1)] .l)))) 27854058241 [(2370,1)] (.n (.n (.n (.n (.o 28126507762 [(1129,1126)]) 28154164839 [(572,557)] (.o 28931813633 [(1129,1),(1431,1)])) 29500371713 [(1170,1)] (.n (.o 29768643969 [(2698,1)]) 31081607809 [(1777,1)] .l)) 31083674354 [(1170,1167)] (.n (.n (.o 31104709505 [(2698,1)]) 31115016577 [(992,1),(1170,1),(1364,1)] .l) 31121471745 [(2161,1)] (.n (.o 31371130851 [(895,887)]) 32425719657 [(790,773)] .l))) 32721680229 [(1777,1757)] (.n (.n (.n (.o 3462225604737 [(1129,1),(1431,1)]) 3944329476846 [(187,132)] .l) 3978693439873 [(572,1)] (.n (.o 3978724667649 [(1841,1)]) 3979524077159 [(1777,1769)] .l)) 3980333184641 [(1841,1),(1867,1),(1895,1)] (.n (.n (.o 3982193358849 [(2129,1)]) 3982722150895 [(279,276)] .l) 3982730443393 [(322,1)] (.n (.o 3982749104129 [(2651,1)]) 447667100169345 [(1129,1)] .l))))) 460824734675073 [(992,1)] (.n (.n (.n (.n (.n (.o 509272462669825 [(2651,1)]) 509274880506369 [(2370,1)] (.o 509277317397249 [(2067,1)])) 509379081876353 [(790,1)] (.n (.o 509719690950529 [(460,1),(1895,1)]) 509788431085953 [(992,1)] .l)) 509790828361729 [(992,1)] (.n (.n (.o 509792189313793 [(2161,1)]) 513980288004225 [(322,1)] .l) 53902074141372383 [(187,118),(279,210),(322,305),(460,438),(572,550),(790,766),(895,866),(992,963),(1129,1112),(1170,1148),(1364,1356),(1431,1423),(1469,1461),(1495,1487),(1521,1513),(1662,1652),(1777,1750),(1841,1831),(1867,1859),(1895,1885),(2008,1991),(2067,2059),(2129,2114),(2161,2146),(2370,2362),(2398,2388),(2424,2416),(2452,2442),(2478,2470),(2651,2641),(2698,2682)] (.n (.o 57912369908053616 [(2651,2648)]) 57912370741016167 [(572,564)] .l))) 57912373699704419 [(895,873)] (.n (.n (.n (.o 58471268392400513 [(1431,1),(1469,1),(1495,1),(1521,1)]) 63480781313028481 [(2698,1)] .l) 65178289867159169 [(2698,1)] (.n (.o 65182858871404929 [(2161,1)]) 65187429786268033 [(895,1),(992,1),(1170,1)] .l)) 65226872121258113 [(1129,1)] (.n (.n (.o 65235874899293697 [(2452,1),(2478,1)]) 65253294755871105 [(2478,1)] .l) 65781229963276801 [(2424,1)] (.n (.o 65789476864619009 [(322,1)]) 7263122365808736513 [(2398,1)] .l)))) 7336231397916144001 [(1170,1),(2161,1)] (.n (.n (.n (.n (.o 7412783830641047143 [(895,880)]) 8343920472120438913 [(322,1)] .l) 8343986688392524545 [(2398,1),(2478,1)] (.n (.o 8345094583259590913 [(322,1)]) 8351264767095847919 [(460,452)] .l)) 8352404544324989441 [(460,1)] (.n (.n (.o 8416047922182387329 [(2370,1)]) 8416047922968787433 [(992,984)] .l) 8416048161352055809 [(2008,1)] (.n (.o 8416048161352055937 [(2008,1)]) 930326465382488798337 [(2129,1),(2161,1)] .l))) 938756632718972812289 [(2008,1)] (.n (.n (.n (.o 938756632718972812417 [(2008,1)]) 957993226297918618089 [(2008,2005)] .l) 1068024015739814442497 [(2424,1)] (.n (.o 1068030296114247398913 [(1867,1)]) 1077759671718328662505 [(460,445)] .l)) 118998708522763444614273 [(1170,1)] (.n (.n (.o 136790665322774360783617 [(572,1)]) 136835774990656181532263 [(992,970)] .l) 137971692591919937779303 [(322,312)] (.n (.o 17498617440144867420895733 [(1170,1160)]) 17514979198803987696269921 [(992,977)] .l))))))
def G (x:Str):Option V:=NT.find glob (nm x)
def Ms (x:Nat):List (Nat×Nat):=aB [] (λl=>l) (NT.find ms x)
def fnOf (s:Stmt) (ds:List V):Fn:=match s with
 | .FunctionDef _ a b _ _ _ sc _ _ _=>⟨l5 (λx=>nm x.arg) a.args,ds,qV G Ms sc.names b,0⟩
 |_=>⟨[],[],k7,0⟩
def YT (s:Stmt) (ds:List V):Fn:=match s with
 | .FunctionDef _ a b _ _ _ sc _ _ _=>⟨l5 (λx=>nm x.arg) a.args,ds,J8 G Ms sc.names b,0⟩
 |_=>⟨[],[],k7,0⟩
def fD (i:Nat) (ds:List V):Fn:=fnOf (top i) ds
def fDJ (i:Nat) (ds:List V):Fn:=YT (top i) ds
def fM (i j:Nat) (ds:List V):Fn:=fnOf (sI (ve (top i)) j) ds
def fMJ (i j:Nat) (ds:List V):Fn:=YT (sI (ve (top i)) j) ds
def fP (k:Nat):Fn:=⟨[],[],k7,k⟩
structure NG where
 t:Nat
 i:Nat
 j:Nat
 ds:List V
def CL (d:NG):Fn:=ah (ah (ah (ah (fP d.j) (fMJ d.i d.j d.ds) (ak d.t 4)) (fM d.i d.j d.ds) (ak d.t 2)) (fDJ d.i d.ds) (ak d.t 1)) (fD d.i d.ds) (ak d.t 0)
def Me (e:Expr):Lm:=match e with
 | .Lambda a b sc _=>⟨l5 (λx=>nm x.arg) a.args,cU G Ms 30 sc.names b⟩
 |_=>⟨[],fm⟩
noncomputable def Mf:Expr->Bool
 | .Lambda .. =>H
 |_=>aj
def lams:List Expr->List Expr:=aS [] (λe _ ih=>ah ih (e::ih) (Mf e))
def qt (i j:Nat):Lm:=Me (El (lams (vf (fnBody (top i)))) j)
def init:NT Nat:=(.n (.n (.n (.n (.o 187 118) 279 210 (.o 322 305)) 460 438 (.n (.o 572 550) 790 766 (.o 895 866))) 992 963 (.n (.n (.o 1129 1112) 1170 1148 (.o 1364 1356)) 1431 1423 (.n (.o 1469 1461) 1495 1487 (.o 1521 1513)))) 1662 1652 (.n (.n (.n (.o 1777 1750) 1841 1831 (.o 1867 1859)) 1895 1885 (.n (.o 2008 1991) 2067 2059 (.o 2129 2114))) 2161 2146 (.n (.n (.o 2370 2362) 2398 2388 (.o 2424 2416)) 2452 2442 (.n (.o 2478 2470) 2651 2641 (.o 2698 2682)))))
def Uk:NT Lm:=(.n (.n (.o 9519104 (qt 360 0)) 9523200 (qt 360 1) .l) 9629696 (qt 366 0) (.o 9633792 (qt 366 1)))
def dT:NT NG:=(.n (.n (.n (.n (.n (.n (.n (.n (.o 21 ⟨0,0,0,[]⟩) 82 ⟨0,7,0,[]⟩ .l) 89 ⟨0,8,0,[]⟩ (.n (.o 96 ⟨0,9,0,[]⟩) 103 ⟨0,10,0,[]⟩ .l)) 118 ⟨2,11,0,[(aX 0)]⟩ (.n (.n (.o 125 ⟨2,11,1,[]⟩) 132 ⟨2,11,2,[]⟩ .l) 139 ⟨2,11,3,[]⟩ (.o 146 ⟨2,11,4,[]⟩))) 153 ⟨2,11,5,[]⟩ (.n (.n (.n (.o 160 ⟨2,11,6,[]⟩) 167 ⟨2,11,7,[]⟩ .l) 172 ⟨2,11,8,[]⟩ (.n (.o 177 ⟨2,11,9,[]⟩) 184 ⟨2,11,10,[]⟩ .l)) 196 ⟨0,12,0,[]⟩ (.n (.n (.o 210 ⟨2,13,0,[]⟩) 217 ⟨2,13,1,[]⟩ .l) 224 ⟨2,13,2,[]⟩ (.o 231 ⟨2,13,3,[]⟩)))) 238 ⟨2,13,4,[]⟩ (.n (.n (.n (.n (.o 245 ⟨2,13,5,[]⟩) 250 ⟨2,13,6,[]⟩ .l) 255 ⟨2,13,7,[]⟩ (.n (.o 262 ⟨2,13,8,[]⟩) 269 ⟨2,13,9,[]⟩ .l)) 276 ⟨2,13,10,[]⟩ (.n (.n (.o 291 ⟨0,14,0,[(vBool H),(aX 65535)]⟩) 305 ⟨2,22,0,[]⟩ .l) 312 ⟨2,22,1,[]⟩ (.o 319 ⟨2,22,2,[]⟩))) 333 ⟨0,23,0,[]⟩ (.n (.n (.n (.o 340 ⟨0,24,0,[]⟩) 347 ⟨0,25,0,[]⟩ .l) 354 ⟨0,26,0,[]⟩ (.n (.o 361 ⟨0,27,0,[]⟩) 368 ⟨0,28,0,[]⟩ .l)) 375 ⟨0,29,0,[]⟩ (.n (.n (.o 382 ⟨0,30,0,[]⟩) 389 ⟨0,31,0,[]⟩ .l) 396 ⟨0,32,0,[]⟩ (.o 403 ⟨0,33,0,[]⟩))))) 410 ⟨0,34,0,[]⟩ (.n (.n (.n (.n (.n (.o 417 ⟨0,35,0,[]⟩) 424 ⟨0,36,0,[]⟩ .l) 438 ⟨2,42,0,[]⟩ (.n (.o 445 ⟨2,42,1,[]⟩) 452 ⟨2,42,2,[]⟩ .l)) 457 ⟨2,42,3,[]⟩ (.n (.n (.o 471 ⟨0,43,0,[]⟩) 478 ⟨0,44,0,[]⟩ .l) 485 ⟨0,45,0,[]⟩ (.o 492 ⟨0,46,0,[]⟩))) 499 ⟨0,47,0,[]⟩ (.n (.n (.n (.o 506 ⟨0,48,0,[]⟩) 513 ⟨0,49,0,[]⟩ .l) 520 ⟨0,50,0,[]⟩ (.n (.o 527 ⟨0,51,0,[]⟩) 550 ⟨2,58,0,[di]⟩ .l)) 557 ⟨2,58,1,[]⟩ (.n (.n (.o 564 ⟨2,58,2,[]⟩) 569 ⟨2,58,3,[]⟩ .l) 583 ⟨0,59,0,[]⟩ (.o 590 ⟨0,60,0,[]⟩)))) 597 ⟨0,61,0,[]⟩ (.n (.n (.n (.n (.o 604 ⟨0,62,0,[]⟩) 611 ⟨0,63,0,[]⟩ .l) 618 ⟨0,64,0,[]⟩ (.n (.o 625 ⟨0,65,0,[]⟩) 632 ⟨0,66,0,[]⟩ .l)) 639 ⟨0,67,0,[]⟩ (.n (.n (.o 646 ⟨0,68,0,[]⟩) 653 ⟨0,69,0,[]⟩ .l) 660 ⟨0,70,0,[]⟩ (.o 667 ⟨0,71,0,[]⟩))) 674 ⟨0,73,0,[]⟩ (.n (.n (.n (.o 681 ⟨0,74,0,[]⟩) 688 ⟨0,75,0,[]⟩ .l) 695 ⟨0,76,0,[]⟩ (.n (.o 702 ⟨0,77,0,[]⟩) 707 ⟨0,78,0,[]⟩ .l)) 714 ⟨0,79,0,[]⟩ (.n (.n (.o 721 ⟨0,80,0,[]⟩) 727 ⟨0,81,0,[(aX 65535)]⟩ .l) 734 ⟨0,82,0,[]⟩ (.o 739 ⟨0,83,0,[]⟩)))))) 746 ⟨0,84,0,[]⟩ (.n (.n (.n (.n (.n (.n (.o 752 ⟨0,85,0,[(aX 65535)]⟩) 766 ⟨2,87,0,[]⟩ .l) 773 ⟨2,87,1,[]⟩ (.n (.o 780 ⟨2,87,2,[]⟩) 787 ⟨2,87,3,[]⟩ .l)) 801 ⟨0,88,0,[]⟩ (.n (.n (.o 808 ⟨0,89,0,[]⟩) 815 ⟨0,90,0,[]⟩ .l) 822 ⟨0,91,0,[]⟩ (.o 829 ⟨0,92,0,[]⟩))) 836 ⟨0,93,0,[]⟩ (.n (.n (.n (.o 844 ⟨0,94,0,[(aX 0)]⟩) 852 ⟨0,95,0,[(qO 1)]⟩ .l) 866 ⟨2,98,0,[]⟩ (.n (.o 873 ⟨2,98,1,[]⟩) 880 ⟨2,98,2,[]⟩ .l)) 887 ⟨2,98,3,[]⟩ (.n (.n (.o 892 ⟨2,98,4,[]⟩) 904 ⟨0,99,0,[]⟩ .l) 911 ⟨0,100,0,[]⟩ (.o 916 ⟨0,101,0,[]⟩)))) 921 ⟨0,102,0,[]⟩ (.n (.n (.n (.n (.o 928 ⟨0,103,0,[]⟩) 933 ⟨0,104,0,[]⟩ .l) 940 ⟨0,105,0,[]⟩ (.n (.o 948 ⟨0,106,0,[(aX 0)]⟩) 963 ⟨2,109,0,[di,di]⟩ .l)) 970 ⟨2,109,1,[]⟩ (.n (.n (.o 977 ⟨2,109,2,[]⟩) 984 ⟨2,109,3,[]⟩ .l) 989 ⟨2,109,4,[]⟩ (.o 1003 ⟨0,110,0,[]⟩))) 1010 ⟨0,111,0,[]⟩ (.n (.n (.n (.o 1015 ⟨0,113,0,[]⟩) 1022 ⟨0,114,0,[]⟩ .l) 1029 ⟨0,115,0,[]⟩ (.n (.o 1036 ⟨0,116,0,[]⟩) 1043 ⟨0,117,0,[]⟩ .l)) 1048 ⟨0,118,0,[]⟩ (.n (.n (.o 1055 ⟨0,120,0,[]⟩) 1062 ⟨0,121,0,[]⟩ .l) 1067 ⟨0,122,0,[]⟩ (.o 1074 ⟨0,123,0,[]⟩))))) 1081 ⟨0,124,0,[]⟩ (.n (.n (.n (.n (.n (.o 1086 ⟨0,125,0,[]⟩) 1091 ⟨0,126,0,[]⟩ .l) 1098 ⟨0,127,0,[]⟩ (.n (.o 1112 ⟨2,132,0,[]⟩) 1119 ⟨2,132,1,[]⟩ .l)) 1126 ⟨2,132,2,[]⟩ (.n (.n (.o 1148 ⟨2,133,0,[di,di]⟩) 1153 ⟨2,133,1,[]⟩ .l) 1160 ⟨2,133,2,[]⟩ (.o 1167 ⟨2,133,3,[]⟩))) 1179 ⟨0,134,0,[]⟩ (.n (.n (.n (.o 1186 ⟨0,136,0,[]⟩) 1193 ⟨0,138,0,[]⟩ .l) 1200 ⟨0,139,0,[]⟩ (.n (.o 1207 ⟨0,140,0,[]⟩) 1214 ⟨0,141,0,[]⟩ .l)) 1221 ⟨0,143,0,[]⟩ (.n (.n (.o 1228 ⟨0,145,0,[]⟩) 1235 ⟨0,146,0,[]⟩ .l) 1242 ⟨0,148,0,[]⟩ (.o 1249 ⟨0,149,0,[]⟩)))) 1256 ⟨0,150,0,[]⟩ (.n (.n (.n (.n (.o 1263 ⟨0,151,0,[]⟩) 1270 ⟨0,152,0,[]⟩ .l) 1277 ⟨0,153,0,[]⟩ (.n (.o 1284 ⟨0,154,0,[]⟩) 1291 ⟨0,155,0,[]⟩ .l)) 1298 ⟨0,156,0,[]⟩ (.n (.n (.o 1303 ⟨0,157,0,[]⟩) 1308 ⟨0,159,0,[]⟩ .l) 1313 ⟨0,160,0,[]⟩ (.o 1318 ⟨0,161,0,[]⟩))) 1323 ⟨0,162,0,[]⟩ (.n (.n (.n (.o 1330 ⟨0,163,0,[]⟩) 1337 ⟨0,165,0,[]⟩ .l) 1342 ⟨0,166,0,[]⟩ (.n (.o 1356 ⟨2,167,0,[]⟩) 1361 ⟨2,167,1,[]⟩ .l)) 1375 ⟨0,168,0,[]⟩ (.n (.n (.o 1380 ⟨0,170,0,[]⟩) 1387 ⟨0,171,0,[]⟩ .l) 1392 ⟨0,173,0,[]⟩ (.o 1399 ⟨0,174,0,[]⟩))))))) 1404 ⟨0,176,0,[]⟩ (.n (.n (.n (.n (.n (.n (.n (.o 1409 ⟨0,178,0,[]⟩) 1423 ⟨2,180,0,[]⟩ .l) 1428 ⟨2,180,1,[]⟩ (.n (.o 1442 ⟨0,181,0,[]⟩) 1447 ⟨0,182,0,[]⟩ .l)) 1461 ⟨2,186,0,[]⟩ (.n (.n (.o 1466 ⟨2,186,1,[]⟩) 1487 ⟨2,187,0,[]⟩ .l) 1492 ⟨2,187,1,[]⟩ (.o 1513 ⟨2,188,0,[]⟩))) 1518 ⟨2,188,1,[]⟩ (.n (.n (.n (.o 1530 ⟨0,189,0,[]⟩) 1537 ⟨0,190,0,[]⟩ .l) 1542 ⟨0,192,0,[]⟩ (.n (.o 1549 ⟨0,193,0,[]⟩) 1556 ⟨0,194,0,[]⟩ .l)) 1563 ⟨0,195,0,[]⟩ (.n (.n (.o 1570 ⟨0,196,0,[]⟩) 1576 ⟨0,197,0,[(aX 0)]⟩ .l) 1583 ⟨0,198,0,[]⟩ (.o 1588 ⟨0,200,0,[]⟩)))) 1595 ⟨0,202,0,[]⟩ (.n (.n (.n (.n (.o 1602 ⟨0,203,0,[]⟩) 1610 ⟨0,207,0,[]⟩ .l) 1617 ⟨0,208,0,[]⟩ (.n (.o 1624 ⟨0,209,0,[]⟩) 1631 ⟨0,210,0,[]⟩ .l)) 1638 ⟨0,211,0,[]⟩ (.n (.n (.o 1652 ⟨2,214,0,[]⟩) 1659 ⟨2,214,1,[]⟩ .l) 1673 ⟨0,215,0,[]⟩ (.o 1680 ⟨0,216,0,[]⟩))) 1687 ⟨0,217,0,[]⟩ (.n (.n (.n (.o 1694 ⟨0,218,0,[]⟩) 1701 ⟨0,219,0,[]⟩ .l) 1709 ⟨0,220,0,[(aX 65536)]⟩ (.n (.o 1714 ⟨0,221,0,[]⟩) 1719 ⟨0,222,0,[]⟩ .l)) 1726 ⟨0,223,0,[]⟩ (.n (.n (.o 1731 ⟨0,224,0,[]⟩) 1736 ⟨0,225,0,[]⟩ .l) 1750 ⟨2,228,0,[]⟩ (.o 1757 ⟨2,228,1,[]⟩))))) 1764 ⟨2,228,2,[]⟩ (.n (.n (.n (.n (.n (.o 1769 ⟨2,228,3,[]⟩) 1774 ⟨2,228,4,[]⟩ .l) 1788 ⟨0,229,0,[]⟩ (.n (.o 1795 ⟨0,230,0,[]⟩) 1800 ⟨0,233,0,[]⟩ .l)) 1805 ⟨0,234,0,[]⟩ (.n (.n (.o 1810 ⟨0,236,0,[]⟩) 1817 ⟨0,237,0,[]⟩ .l) 1831 ⟨2,238,0,[]⟩ (.o 1838 ⟨2,238,1,[]⟩))) 1859 ⟨2,239,0,[]⟩ (.n (.n (.n (.o 1864 ⟨2,239,1,[]⟩) 1885 ⟨2,240,0,[]⟩ .l) 1892 ⟨2,240,1,[]⟩ (.n (.o 1906 ⟨0,241,0,[]⟩) 1913 ⟨0,242,0,[]⟩ .l)) 1920 ⟨0,243,0,[]⟩ (.n (.n (.o 1927 ⟨0,244,0,[]⟩) 1934 ⟨0,245,0,[]⟩ .l) 1941 ⟨0,246,0,[]⟩ (.o 1946 ⟨0,247,0,[]⟩)))) 1953 ⟨0,248,0,[]⟩ (.n (.n (.n (.n (.o 1958 ⟨0,249,0,[]⟩) 1965 ⟨0,251,0,[]⟩ .l) 1970 ⟨0,252,0,[]⟩ (.n (.o 1977 ⟨0,253,0,[]⟩) 1991 ⟨2,258,0,[]⟩ .l)) 1998 ⟨2,258,1,[]⟩ (.n (.n (.o 2005 ⟨2,258,2,[]⟩) 2019 ⟨0,259,0,[]⟩ .l) 2024 ⟨0,260,0,[]⟩ (.o 2031 ⟨0,261,0,[]⟩))) 2038 ⟨0,262,0,[]⟩ (.n (.n (.n (.o 2045 ⟨0,263,0,[]⟩) 2059 ⟨2,264,0,[]⟩ .l) 2064 ⟨2,264,1,[]⟩ (.n (.o 2076 ⟨0,265,0,[]⟩) 2081 ⟨0,266,0,[]⟩ .l)) 2087 ⟨0,267,0,[(aX 0)]⟩ (.n (.n (.o 2094 ⟨0,269,0,[]⟩) 2099 ⟨0,270,0,[]⟩ .l) 2114 ⟨2,271,0,[(vBool aj)]⟩ (.o 2121 ⟨2,271,1,[]⟩)))))) 2126 ⟨2,271,2,[]⟩ (.n (.n (.n (.n (.n (.n (.o 2146 ⟨2,272,0,[(vBool aj)]⟩) 2153 ⟨2,272,1,[]⟩ .l) 2158 ⟨2,272,2,[]⟩ (.n (.o 2172 ⟨0,273,0,[]⟩) 2179 ⟨0,274,0,[]⟩ .l)) 2186 ⟨0,276,0,[]⟩ (.n (.n (.o 2193 ⟨0,277,0,[]⟩) 2198 ⟨0,279,0,[]⟩ .l) 2205 ⟨0,280,0,[]⟩ (.o 2210 ⟨0,281,0,[]⟩))) 2217 ⟨0,282,0,[]⟩ (.n (.n (.n (.o 2224 ⟨0,283,0,[]⟩) 2231 ⟨0,284,0,[]⟩ .l) 2236 ⟨0,286,0,[]⟩ (.n (.o 2241 ⟨0,287,0,[]⟩) 2248 ⟨0,288,0,[]⟩ .l)) 2256 ⟨0,292,0,[]⟩ (.n (.n (.o 2263 ⟨0,293,0,[]⟩) 2270 ⟨0,294,0,[]⟩ .l) 2277 ⟨0,295,0,[]⟩ (.o 2284 ⟨0,296,0,[]⟩)))) 2291 ⟨0,297,0,[]⟩ (.n (.n (.n (.n (.o 2298 ⟨0,298,0,[]⟩) 2305 ⟨0,299,0,[]⟩ .l) 2312 ⟨0,308,0,[]⟩ (.n (.o 2319 ⟨0,309,0,[]⟩) 2326 ⟨0,310,0,[]⟩ .l)) 2333 ⟨0,311,0,[]⟩ (.n (.n (.o 2340 ⟨0,312,0,[]⟩) 2348 ⟨0,313,0,[(aX 10920)]⟩ .l) 2362 ⟨2,316,0,[]⟩ (.o 2367 ⟨2,316,1,[]⟩))) 2388 ⟨2,322,0,[]⟩ (.n (.n (.n (.o 2395 ⟨2,322,1,[]⟩) 2416 ⟨2,323,0,[]⟩ .l) 2421 ⟨2,323,1,[]⟩ (.n (.o 2442 ⟨2,324,0,[]⟩) 2449 ⟨2,324,1,[]⟩ .l)) 2470 ⟨2,325,0,[]⟩ (.n (.n (.o 2475 ⟨2,325,1,[]⟩) 2489 ⟨0,326,0,[]⟩ .l) 2496 ⟨0,327,0,[]⟩ (.o 2503 ⟨0,329,0,[]⟩))))) 2510 ⟨0,330,0,[]⟩ (.n (.n (.n (.n (.n (.o 2517 ⟨0,331,0,[]⟩) 2524 ⟨0,332,0,[]⟩ .l) 2529 ⟨0,333,0,[]⟩ (.n (.o 2534 ⟨0,334,0,[]⟩) 2539 ⟨0,335,0,[]⟩ .l)) 2546 ⟨0,336,0,[]⟩ (.n (.n (.o 2553 ⟨0,337,0,[]⟩) 2560 ⟨0,338,0,[]⟩ .l) 2567 ⟨0,339,0,[]⟩ (.o 2574 ⟨0,340,0,[]⟩))) 2579 ⟨0,341,0,[]⟩ (.n (.n (.n (.o 2584 ⟨0,342,0,[]⟩) 2589 ⟨0,343,0,[]⟩ .l) 2594 ⟨0,344,0,[]⟩ (.n (.o 2601 ⟨0,345,0,[]⟩) 2608 ⟨0,346,0,[]⟩ .l)) 2615 ⟨0,347,0,[]⟩ (.n (.n (.o 2620 ⟨0,348,0,[]⟩) 2627 ⟨0,349,0,[]⟩ .l) 2641 ⟨2,350,0,[]⟩ (.o 2648 ⟨2,350,1,[]⟩)))) 2660 ⟨0,351,0,[]⟩ (.n (.n (.n (.n (.o 2668 ⟨0,352,0,[(aX 0)]⟩) 2682 ⟨2,356,0,[]⟩ .l) 2689 ⟨2,356,1,[]⟩ (.n (.o 2695 ⟨4,356,2,[]⟩) 2709 ⟨0,357,0,[]⟩ .l)) 2716 ⟨0,358,0,[]⟩ (.n (.n (.o 2723 ⟨1,359,0,[]⟩) 2730 ⟨0,360,0,[]⟩ .l) 2737 ⟨1,361,0,[]⟩ (.o 2744 ⟨0,362,0,[]⟩))) 2751 ⟨1,363,0,[]⟩ (.n (.n (.n (.o 2758 ⟨3,364,1638,[]⟩) 2765 ⟨3,365,2291,[]⟩ .l) 2772 ⟨0,366,0,[]⟩ (.o 2779 ⟨1,367,0,[]⟩)) 2786 ⟨0,369,0,[]⟩ (.n (.n (.o 2793 ⟨0,370,0,[]⟩) 2800 ⟨1,371,0,[]⟩ .l) 2805 ⟨0,372,0,[]⟩ (.o 2810 ⟨1,373,0,[]⟩))))))))
end K
def KT:B5:=⟨λa=>K.Uk.find a,λa=>aB au (λd=>O (K.CL d)) (K.dT.find a),λa=>K.init.find a⟩
end
end
section
open PyProof.Rows PySem.Calls PySem.SeqAt PySem.W
section
noncomputable def CM:aN->Bool
 | .free=>aj
 |_=>H
noncomputable def wD:Option aN->Bool
 |some .local=>H
 |some .cell=>H
 |_=>aj
def WZ (sc:Scope) (names:List Str):Bool:=isFn sc.kind&&(!sc.isCoroutine&&(!sc.isGenerator&&(sc.names.all (λp=>aZ p.1&&CM p.2)&&(!sD (nm "__debug__") sc.names&&(!sD (nm "__classdict__") sc.names&&(names.all (λx=>aZ x&&wD (bg (nm x) sc.names))&&ie (names.map nm)))))))
theorem O3 (e:bg x l=O k):sD x l=true:=by unfold sD;exact U e rfl
theorem r9 (h:sD (nm y) l=aj) x k (e:bg (nm x) l=O k):(x==y)=false:=by
 induction hb:x==y using zB with
 |false=>rfl
 |true=>
  have a:x=y:=by simpa using hb
  subst a;rw [O3 e] at h;exact ft h
theorem vg (h:wD o=H):o=O .local\/o=O .cell:=by
 rcases o with _|k
 .exact ff h
 .rcases k<;>first|exact .inl rfl|exact .inr rfl|exact ff h
theorem GW (h:WZ sc names=H):Ox sc names:=by
 unfold WZ at h;simp only [aP,gu,aK] at h;obtain⟨h1,h2,c,a,d,e,b,f⟩:=h;refine⟨?_,h2,c,λp hp=>(a p hp).1,λp hp q=> ?_,r9 d,r9 e,λx hx=>⟨(b x hx).1,vg (b x hx).2⟩, ?_⟩
 .revert h1;generalize sc.kind=k;intro h1;rcases k<;>first|rfl|exact ff h1
 .have:=(a p hp).2;rw [q] at this;exact ff this
 .have g:=uV f;exact(wQ.mp g).imp λh q=>h (congrArg nm q)
end
set_option backward.match.sparseCases false
section
def GX (v:V) (t s n:Nat):Bool:=ak v.t t&&(ak v.s s&&(ak v.n n&&(isNil v.l&&isNil v.xs)))
theorem qi (h:GX v t s n=H):v=⟨t,s,n,[],[]⟩:=by
 unfold GX at h;simp only [aP] at h;obtain⟨h1,h2,a,b,c⟩:=h;obtain⟨d,vs,e,f,i⟩:=v;have j:d=t:=aH h1;have k:vs=s:=aH h2;have l:e=n:=aH a;subst j;subst k;subst l
 induction f using zL with
 |nil=>
  induction i using zL with
  |nil=>rfl
  |cons _ _=>exact ff c
 |cons _ _=>exact ff b
def YU (v:V):Value->Bool
 | .none=>GX v 0 0 0
 | .bool b=>GX v 1 0 (ah 0 1 b)
 | .int i _=>match i with
  | .ofNat n=>GX v 2 0 n
  | .negSucc n=>GX v 2 1 (n+1)
 |_=>aj
theorem Mg (h:YU v x=H):VR X g w n v x:=by
 induction x using fC with
 |none=>exact U (qi h) .none
 |bool b=>exact U (qi h) (.bool b)
 |int i t=>
  rcases i with k|k
  .exact U (qi h) (VR.mw (bf k) t)
  .exact U (qi h) (VR.mw (Int.negSucc k) t)
 |_=>exact ff h
def O4:List V->List Value->Bool
 |[],[]=>H
 |v::vs,x::xs=>YU v x&&O4 vs xs
 |_,_=>aj
theorem GY {X:dz} {g:Heap} {w:Wd} {n:Nat}:∀{vs:List V} {xs:List Value},O4 vs xs=H->ef X g w n vs xs
 |[],[],_=> .nil
 |v::vs,x::xs,h=>by
  have h:(YU v x&&O4 vs xs)=true:=h;rw [aP] at h;exact .cons _ _ _ _ (Mg h.1) (GY h.2)
 |[],_::_,h=>ff h
 |_::_,[],h=>ff h
def jl (a:Nat) (l:List Nat):Bool:=aS H (λb u_ ih=>ah ih aj (ak a b)) l
theorem fY:∀{l},jl a l=H->a∉l:=by
 intro l
 induction l with
 |nil=>
  intro _;exact λh=>(aU h).elim
 |cons b l c=>
  intro h;have h:(ah (jl a l) aj (ak a b):Bool)=true:=h
  induction hb:ak a b using zB with
  |true=>rw [hb] at h;exact ff h
  |false=>
   rw [hb] at h;intro hm;rcases aT.mp hm with rfl|hm
   .rw [fu] at hb;exact ft hb
   .exact c h hm
def codeB (g:Nat->Option Obj) (tabs:List Nat) (cd:Value) (q:Str):Bool:=match cd with
 | .ref c=>jl c tabs&&(match g c with
  |some o=>match o.data with
   | .fields vs=>match (vs[1]? :Option Value) with
    |some (.str q' _)=>q'==q
    |_=>aj
   |_=>aj
  |none=>aj)
 |_=>aj
def Mh (g:Nat->Option Obj) (tabs:List Nat) (d:Value) (ds:List V):Bool:=match d with
 | .none=>isNil ds
 | .ref t=>jl t tabs&&(match g t with
  |some o=>match o.data with
   | .seq vs _=>O4 ds vs.toList
   |_=>aj
  |none=>aj)
 |_=>aj
def Ul (lc:List (Str×aN)->Option (Addr×Str)) (fd:mC):Bool:=match lc fd.scope.names with
 |none=>H
 |some p=>gD fd.scope.names||(fd.code== .ref p.1&&fd.qualname++".<locals>."==p.2)
def YV (g:Nat->Option Obj) (tabs:List Nat) (lc:List (Str×aN)->Option (Addr×Str)) (fd:mC) (names:List Str) (ds:List V):Bool:=
 WZ fd.scope names&&(fd.closure.isEmpty&&(ak fd.globals mainNs&&(ak fd.builtins builtinsNs&&(Ul lc fd&&(fd.params.posonlyargs.isEmpty&&(fd.params.kwonlyargs.isEmpty&&(fd.params.vararg.isNone&&(fd.params.kwarg.isNone&&(bQ (len ds) names.length&&(Mh g tabs fd.defaults ds&&codeB g tabs fd.code fd.qualname))))))))))
section
variable {X:dz} {g:Nat->Option Obj}
theorem Mi (f:∀a o,g a=O o->X.h₀.get? a=O o) (h:codeB g X.tabs cd q=H):∀w e s,St X w e s->s.heap.CodeRec cd q:=by
 intro w e s i
 induction cd using fC with
 |ref c=>
  refine aC (mG h) λh2 h1=> ?_
  induction b:g c using zO with
  |none=>rw [b] at h2;exact ff h2
  |some o=>
   rw [b] at h2
   induction d:o.data using jH with
   |fields vs=>
    dsimp only at h2;rw [d] at h2;dsimp only at h2
    induction hv:vs[1]? using zO with
    |none=>rw [hv] at h2;exact ff h2
    |some v=>
     rw [hv] at h2
     induction v using fC with
     |str j t=>exact uu c o vs t rfl (i.base c o (f c o b) (fY h1)) d ((show j=q by simpa using h2)▸hv)
     |_=>exact ff h2
   |_=>dsimp only at h2;rw [d] at h2;exact ff h2
 |_=>exact ff h
theorem IZ (f:∀a o,g a=O o->X.h₀.get? a=O o) (h:Mh g X.tabs d ds=H):∀w b s,St X w b s->∃od,(∀{M} {A} {E} {Q},Q od s->wpAny M A (sr d) Q E s)/\ef X s.heap w b.n ds (od.getD #[]).toList:=by
 intro w b s i
 induction d using fC with
 |none=>
  refine bW au (λq=>av q) ?_
  induction ds using zL with
  |nil=>exact .nil
  |cons _ _=>exact ff h
 |ref t=>
  refine aC (mG h) λh2 h1=> ?_
  induction c:g t using zO with
  |none=>rw [c] at h2;exact ff h2
  |some o=>
   rw [c] at h2;dsimp only at h2
   induction e:o.data using jH with
   |seq vs n=>rw [e] at h2;exact bW (O vs) (λq=>dB (i.base t o (f t o c) (fY h1)) e q) (GY h2)
   |_=>rw [e] at h2;exact ff h2
 |_=>exact ff h
theorem O5 (h:Ul lc fd=H):gD fd.scope.names=aj->∀c q,lc fd.scope.names=O (c,q)->fd.code= .ref c/\fd.qualname++".<locals>."=q:=by
 intro hl c q e;unfold Ul at h;rw [e,hl] at h;simp only [Bool.false_or,aP,beq_iff_eq] at h;exact h
theorem FQ (e:∀a o,g a=O o->X.h₀.get? a=O o) (h:YV g X.tabs X.jO fd (fd.params.args.map (·.arg)) ds=H):Vv X fd (fd.params.args.map (·.arg)) ds/\∀w f s,St X w f s->s.heap.CodeRec fd.code fd.qualname:=by
 unfold YV at h;simp only [aP] at h;obtain⟨h1,h2,i,j,k,l,m,n,p,b,c,d⟩:=h;refine⟨⟨GW h1,cZ.mp h2,aH i,aH j,O5 k,cZ.mp l,rfl,cZ.mp m,cT.mp n,cT.mp p, ?_,IZ e c⟩,Mi e d⟩;have:=aA b;rw [len_eq] at this;exact this
end
end
section
def yg (d:K.NG):Stmt:=ah (ah (K.top d.i) (K.sI (K.ve (K.top d.i)) d.j) (ak d.t 4)) (K.sI (K.ve (K.top d.i)) d.j) (ak d.t 2)
noncomputable def rF:Stmt->Arguments
 | .FunctionDef _ a _ _ _ _ _ _ _ _=>a
 |_=>default
noncomputable def oQ:Stmt->Scope
 | .FunctionDef _ _ _ _ _ _ sc _ _ _=>sc
 |_=>default
noncomputable def Sj:Stmt->Bool
 | .FunctionDef .. =>H
 |_=>aj
noncomputable def mO:Expr->Bool
 | .Lambda .. =>H
 |_=>aj
def FT:List Stmt->Bool
 |[.Return (O (.Dict ks vs _)) _]=>ks.all (λk=>match k with|some e=> !mO e|none=>H)&&vs.all λe=> !mO e
 |_=>H
def xr (g:Nat->Option Obj) (tabs:List Nat) (lc:List (Str×aN)->Option (Addr×Str)) (ds:List V) (a:Nat):Option (FuncBody×Scope×Arguments×Bool):=match g a with
 |some o=>match o.data with
  | .func fd=>O (fd.body,fd.scope,fd.params,YV g tabs lc fd (fd.params.args.map (·.arg)) ds)
  |_=>au
 |none=>au
def zS (d:K.NG):Option (FuncBody×Scope×Arguments×Bool):=O (.stmts (K.fnBody (yg d)),oQ (yg d),rF (yg d),H)
section
variable {X:dz} {K':Frag} {g:Nat->Option Obj}
theorem nU (e:xr g tabs lc ds a=zS d):∃o fd,g a=O o/\o.data= .func fd/\fd.body= .stmts (K.fnBody (yg d))/\fd.scope=oQ (yg d)/\fd.params=rF (yg d)/\YV g tabs lc fd (fd.params.args.map (·.arg)) ds=true:=by
 unfold xr at e;revert e
 induction c:g a using zO with
 |none=>exact λe=>fn e
 |some o=>
  dsimp only
  induction b:o.data using jH with
  |func fd=>
   intro e;have e:=aF e;exact⟨o,fd,rfl,b,congrArg eE e,congrArg (λx=>x.2.1) e,congrArg (λx=>x.2.2.1) e,congrArg (λx=>x.2.2.2) e⟩
  |_=>exact λe=>fn e
theorem Mj {body} (h:FT body=H):∀ks vs p c,body=[.Return (O (.Dict ks vs p)) c]->(∀e,O e∈ks->pO X r n b ns e)/\∀e∈vs,pO X r n b ns e:=by
 intro ks vs p c hb;subst hb;have h:(ks.all (λk=>match k with|some e=> !mO e|none=>H)&&vs.all λe=> !mO e)=true:=h;simp only [aP,aK] at h;have d:∀e,(!mO e)=H->pO X r n b ns e:=λe he a f sc pos q=>by subst q;exact ff he
 exact⟨λe he=>d e (h.1 _ he),λe he=>d e (h.2 e he)⟩
theorem Um (j:∀a o,g a=O o->X.h₀.get? a=O o) (B:Base X K' K.G K.Ms) (e:xr g X.tabs X.jO d.ds a=zS d) (y:jl a X.tabs=H) (z:Sj (yg d)=H) (A:ak d.t 3=aj/\bQ d.t 4=H)
 (hl:∀r n,Cg X r n->∀ks vs p M,K.fnBody (yg d)=[.Return (O (.Dict ks vs p)) M]->(∀e,O e∈ks->pO X r n 0 (oQ (yg d)).names e)/\∀e∈vs,pO X r n 0 (oQ (yg d)).names e):
 ∃b names fd body,b<=190/\∀r n,Cg X r n->ZM X r n b a (K.CL d) names fd body:=by
 refine tH (nU e) λo fd P D c h1 h2 l=>aC (FQ j P) λE F=>⟨0,fd.params.args.map (·.arg),fd,K.fnBody (yg d),iC _,λr n I=> ?_⟩;have s:∃f,yg d=f/\(K.CL d=K.fnOf f d.ds\/K.CL d=K.YT f d.ds):=by
  refine bW _ rfl ?_;unfold K.CL yg;have i:∀{m k},ak d.t m=H->m≠k->ak d.t k=false:=λ{m k} e q=>by
   induction h:ak d.t k using zB with
   |false=>rfl
   |true=>exact absurd ((aH e).symm.trans (aH h)) q
  induction u:ak d.t 0 using zB with
  |true=>refine U (i u (k:=2) (Nat.zero_ne_add_one 1)) (U (i u (k:=4) (Nat.zero_ne_add_one 3)) ?_);exact .inl rfl
  |false=>
   induction v:ak d.t 1 using zB with
   |true=>refine U (i v (k:=2) (aY rfl)) (U (i v (k:=4) (aY rfl)) ?_);exact .inr rfl
   |false=>
    induction Q:ak d.t 2 using zB with
    |true=>exact .inl rfl
    |false=>
     induction R:ak d.t 4 using zB with
     |true=>exact .inr rfl
     |false=>
      have q0:=fU u;have q1:=fU v;have q2:=fU Q;have q3:=fU A.1;have q4:=fU R;exact absurd (aA A.2) (by lia)
 refine aL s λf hF w=> ?_;rw [w] at h1 h2 l z hl⊢
 induction f using eY with
 |FunctionDef S J L V ret tp sc ts bi pos=>
  have C:=B.ctx (r:=r) (n:=n) (b:=0) I;rcases hF with hF|hF
  .exact U hF (⟨(bW o (j a o D) c),fY y,F,h1,E,by show l5 (λx=>nm x.arg) J.args=_;refine U (p9 ..) (U l (U jG ?_));rfl,by refine U h2 ?_;exact LG C sc.names L (hl r n I)⟩)
  .exact U hF (⟨(bW o (j a o D) c),fY y,F,h1,E,by show l5 (λx=>nm x.arg) J.args=_;refine U (p9 ..) (U l (U jG ?_));rfl,by refine U h2 ?_;exact LI C sc.names L⟩)
 |_=>exact ff z
end
end
set_option backward.match.sparseCases true
section
def NT.list {α:Type} (t:NT α):List (Nat×α):=NT.rec [] (λu_ k v u_ ihl ihr=>ihl++(k,v)::ihr) t
theorem NT.jm:∀{t} {a} {v:α},NT.find t a=O v->(a,v)∈NT.list t:=by
 intro t
 induction t with
 |l=>exact λh=>fn h
 |n l k u r b c=>
  intro a v h;have h:(ah (ah (NT.find r a) (NT.find l a) (bI a k)) (O u) (ak a k):Option α)=O v:=h;refine(?_:(a,v)∈NT.list l++(k,u)::NT.list r)
  induction hb:ak a k using zB with
  |true=>
   rw [hb] at h;injection h with h;subst h
   exact U (aH hb) (List.mem_append_right _ (aE ..))
  |false=>
   rw [hb] at h
   induction hl:bI a k using zB with
   |true=>rw [hl] at h;exact List.mem_append_left _ (b h)
   |false=>rw [hl] at h;exact List.mem_append_right _ (aD _ (c h))
theorem zT:∀{l} {v:α},find x l=O v->(x,v)∈l:=by
 intro l
 induction l with
 |nil=>
  intro v h;exact fn h
 |cons p l b=>
  intro v h;rw [eV] at h;by_cases hb:x=p.1
  .rw [if_pos hb] at h;injection h with h;subst h
   refine U hb ?_;exact aE ..
  .rw [if_neg hb] at h;exact aD _ (b h)
def Z1 (n:Nat):Nat->List Nat:=gK (λu_=>[]) (λu_ ih k=>ah (ko k 128::ih (ia k 128)) [] (ak k 0)) n
def strOf (k:Nat):Str:=⟨(Z1 60 k).toArray⟩
def isName (k:Nat):Bool:=aZ (strOf k)&&ak (nm (strOf k)) k
theorem Br (h:isName k=H) (hx:aZ x=H) (e:nm x=k):strOf k=x:=by
 unfold isName at h;rw [aP] at h;exact gS h.1 hx ((aH h.2).trans e.symm)
theorem I0 (hx:aZ x=H):nm x %128≠1/\nm x %128≠2:=by
 have hx:qQ x.cps.toList=true:=hx;refine(?_:JE x.cps.toList %128≠1/\JE x.cps.toList %128≠2)
 induction h:x.cps.toList using zL with
 |nil=>exact⟨by decide,by exact aY rfl⟩
 |cons c r=>
  rw [h] at hx;have hx:(ah aj (ah aj (qQ r) (bI 2 c)) (bI c 128):Bool)=true:=hx;have e:JE (c::r)=c+128*JE r:=rfl
  induction h1:bI c 128 using zB with
  |false=>rw [h1] at hx;exact ff hx
  |true=>
   rw [h1] at hx;have h1:=cH.mp h1
   induction h2:bI 2 c using zB with
   |false=>rw [h2] at hx;exact ff hx
   |true=>have h2:=cH.mp h2;lia
def Ml (p:Nat×List (Nat×Nat)):Bool:=match ko p.1 128 with
 |1=>isName (ia p.1 128)
 |2=>H
 |_=>isName p.1
def FU (F:Frag) (C:Nat) (p:Nat×List (Nat×Nat)):Bool:=match ko p.1 128 with
 |1=>p.2.all λq=>ah H (KY F q.1 (strOf (ia p.1 128))) (ak q.1 C)
 |2=>H
 |_=>p.2.all λq=>ah H (GI F q.1 (strOf p.1) q.2) (ak q.1 C)
section
variable {X:dz} {K':Frag}
theorem GZ (h:find c (K.Ms k)=O v):∃l,(k,l)∈NT.list K.ms/\(c,v)∈l:=by
 have e:K.Ms k=aB [] (λl=>l) (NT.find K.ms k):=rfl
 induction a:NT.find K.ms k using zO with
 |none=>rw [e,a] at h;exact fn h
 |some l=>rw [e,a] at h;exact bW l (NT.jm a) (zT h)
theorem W0 (hn:(NT.list K.ms).all Ml=H) (hc:∀p∈NT.list K.ms,∀q∈p.2,∃F,Fl X F/\FU F q.1 p=H):∀x,aZ x=H->Ci X K' (K.Ms (nm x)) x:=by
 intro x hx;refine⟨λc g hf=>(dN (GZ hf) λl hm hcg=> ?_)⟩;have hb1:=aK.mp hn _ hm;refine aL (hc _ hm _ hcg) λF hb hF=>gb (I0 hx) λm1 m2=> ?_;unfold Ml at hb1;unfold FU at hb;split at hb
 .rename_i q;exact absurd q m1
 .rename_i q;exact absurd q m2
 .split at hb1
  .rename_i q;exact absurd q m1
  .rename_i q;exact absurd q m2
  .have hb2:=aK.mp hb _ hcg;rw [fu,Br hb1 hx rfl] at hb2;exact bW F hF hb2
theorem W2 (hn:(NT.list K.ms).all Ml=H) (hc:∀p∈NT.list K.ms,∀q∈p.2,∃F,Fl X F/\FU F q.1 p=H):∀x,aZ x=H->∀c,find c (K.Ms (aG (cM (nm x) 128) 1))≠au->∃F,Fl X F/\KY F c x=true:=by
 intro x hx c hf
 induction hv:find c (K.Ms (aG (cM (nm x) 128) 1)) using zO with
 |none=>exact absurd hv hf
 |some v=>
  refine dN (GZ hv) λl hm hcg=> ?_;have hb1:=aK.mp hn _ hm;refine aL (hc _ hm _ hcg) λF hb hF=> ?_;have hmod:ko (aG (cM (nm x) 128) 1) 128=1:=by show(nm x*128+1) %128=1;lia
  have hdiv:ia (aG (cM (nm x) 128) 1) 128=nm x:=by show(nm x*128+1)/128=nm x;lia
  unfold Ml at hb1;unfold FU at hb;dsimp only at hb hb1;rw [hmod,hdiv] at hb hb1;have hb2:=hb;have hb2:=aK.mp hb2 _ hcg;dsimp only at hb2;rw [fu,Br hb1 hx rfl] at hb2;exact bW F hF hb2
end
end
section
theorem Mm {a b:Type} {f g:a->b}:∀{l:List a},l.map f=l.map g->∀x∈l,f x=g x:=by
 intro l
 induction l with
 |nil=>
  intro _ x hx;exact(aU hx).elim
 |cons y l c=>
  intro h x hx;rw [dH,dH] at h;injection h with h1 h2
  rcases aT.mp hx with rfl|hx
  .exact h1
  .exact c h2 x hx
end
set_option backward.match.sparseCases false
section
noncomputable def dictOf (o:Obj):List aV:=match o.data with
 | .dict es _=>es.toList
 |_=>[]
noncomputable def G0 (o:Obj):Bool:=match o.data with
 | .dict _ _=>H
 |_=>aj
def keyOk (e:aV):Bool:=match e.key with
 | .str s _=>aZ s
 |_=>aj
theorem G1 (h:keyOk e=H):∃s t,e.key= .str s t/\aZ s=true:=by
 delta keyOk at h;generalize e.key=k at h⊢
 induction k using fC with
 |str s t=>exact mZ s t rfl h
 |_=>exact ff h
def Em (k:Nat) (e:aV):Bool:=match e.key with
 | .str s _=>ak (nm s) k
 |_=>aj
def Mn (k:Nat) (l:List aV):Option Value:=aS au (λe u_ ih=>ah ih (O e.val) (Em k e)) l
set_option tactic.hygienic true in
theorem Un (hx:aZ x=H):∀{l},l.all keyOk=H->(l.find? λe=>e.key.isStr x).map (·.val)=Mn (nm x) l:=by
 intro l
 induction l with
 |nil=>
  intro _;exact rfl
 |cons e l a=>
  intro h;rw [iD,aP] at h;have hk:e.key.isStr x=Em (nm x) e:=by
   obtain⟨s,t,b,h1⟩:=G1 h.1;unfold Em;refine U b ((?_:(s==x)=ak (nm s) (nm x)))
   induction hb:ak (nm s) (nm x) using zB with
   |true=>refine U (gS h1 hx (aH hb)) ?_;exact beq_self_eq_true _
   |false=>exact beq_eq_false_iff_ne.mpr λq=>fU hb (U q rfl)
  have c:Mn (nm x) (e::l)=ah (Mn (nm x) l) (O e.val) (Em (nm x) e):=rfl;refine U c (U (List.find?_cons) (U hk ?_))
  induction Em (nm x) e using zB with
  |true=>rfl
  |false=>exact(a h.2)
theorem nsF {a:Array aV} (hx:aZ x=H) (h:a.toList.all keyOk=H):nsFind a x=Mn (nm x) a.toList:=by
 refine cL (Un hx h) ?_;unfold nsFind findBy;exact cL (Array.find?_toList) rfl
def Sk (o:Obj):Bool:=G0 o&&(dictOf o).all keyOk
set_option tactic.hygienic true in
theorem Bs {h:Heap} {a:Nat} (f:h.get? a=O o) (hb:Sk o=H):∃m,h.Ns a m/\∀x,aZ x=H->m x=Mn (nm x) (dictOf o):=by
 unfold Sk at hb;rw [aP] at hb;obtain⟨h1,h2⟩:=hb;have c:∃b ep,o.data= .dict b ep:=by
  delta G0 at h1;generalize o.data=d at h1⊢
  induction d using jH with
  |dict b ep=>exact⟨b,ep,rfl⟩
  |_=>exact ff h1
 .obtain⟨b,ep,c⟩:=c;have hl:dictOf o=b.toList:=by unfold dictOf;exact U c rfl
  rw [hl] at h2;refine bW (nsFind b) (uq o b ep f c (λe he=> ?_) (λj=>rfl)) (λx hx=> ?_)
  .obtain⟨s,t,i,_⟩:=G1 (aK.mp h2 e (mD.mpr he));exact Vp s t i
  .exact U hl (nsF hx h2)
def Uo (g:Nat->Option Obj) (tabs:List Nat) (f:V->Value->Bool) (xs:List V) (a:Nat):Bool:=jl a tabs&&(match g a with
 |some o=>match o with
  |⟨c,d,dt,sl⟩=>match dt with
   | .seq items ep=>c== .type "tuple"&&(d.isNone&&(sl.isEmpty&&(bQ items.size 1000000&&aS (λl=>aS H (λu_ u_ u_=>aj) l) (λv u_ ih l=>aS aj (λx r u_=>f v x&&ih r) l) xs items.toList)))
   |_=>aj
 |none=>aj)
def En (g:Nat->Option Obj) (tabs:List Nat) (ih:V->Value->Bool) (v:V) (y:Value):Bool:=match y with
 | .str s _=>ak v.t 3&&(ak v.s 0&&(ak v.n 0&&(qp v.l s.cps.toList&&(isNil v.xs&&bQ (len v.l) 1000000))))
 | .ref a=>GX v 7 0 a||(GX v 8 0 a||(ak v.t 5&&(ak v.s 0&&(ak v.n 0&&(isNil v.l&&Uo g tabs ih v.xs a)))))
 | .builtin i=>GX v 9 0 v.n&&(oK v.n== .builtin i)
 | .type i=>GX v 9 0 v.n&&(oK v.n== .type i)
 |y=>YU v y
def vG (g:Nat->Option Obj) (tabs:List Nat) (n:Nat):V->Value->Bool:=gK (λu_ u_=>aj) (λu_ ih=>En g tabs ih) n
theorem G3 (h:qp x y=H):x=y:=of_decide_eq_true ((tN x y).symm.trans h)
theorem zU (h:isNil l=H):l=[]:=by induction l using zL with|nil=>rfl|cons _ _=>exact ff h
section
variable {X:dz} {g:Nat->Option Obj} {w:Wd} {h:ae7} {s:Shared}
theorem vMk {v:V} {t:Nat} (h1:ak v.t t=H) (h2:ak v.s 0=H) (d:ak v.n 0=H):v=⟨t,0,0,v.l,v.xs⟩:=by
 obtain⟨a,b,c,l,x⟩:=v;obtain rfl:a=t:=aH h1;obtain rfl:b=0:=aH h2;obtain rfl:c=0:=aH d;rfl
theorem Up {g} {f:V->Value->Bool} (c:∀{v y},f v y=H->VR X g w m v y):∀{l},(aS (λl=>aS H (λa a a=>aj) l) (λv a b l=>aS aj (λx r a=>f v x&&b r) l) xs l:Bool)=H->ef X g w m xs l:=by
 induction xs with
 |nil=>intro l h;rcases l with _|⟨x,l⟩;exact .nil;exact ff h
 |cons v xs b=>
  intro l h;rcases l with _|⟨x,l⟩
  .exact ff h
  .exact e2 h λh1 h2=> .cons _ _ _ _ (c h1) (b h2)
theorem O6 (n:∀a o,g a=O o->X.h₀.get? a=O o) (j:St X w h s) (p:∀{v y},f v y=H->VR X s.heap w m v y) (e:Uo g X.tabs f xs a=H):VR X s.heap w m (dK xs) (.ref a):=by
 refine e2 e λk b=> ?_;clear e;revert b
 induction r:g a using zO with
 |none=>exact λb=>ff b
 |some o=>
  obtain⟨c,d,t,u⟩:=o;dsimp only
  induction t using jH with
  |seq items ep=>
   intro b;refine e2 b λx b=>e2 b λz b=>e2 b λA b=>e2 b λB C=> ?_;obtain rfl:c= .type "tuple":=beq_iff_eq.mp x;obtain rfl:d=none:=cT.mp z;obtain rfl:u= #[]:=Array.isEmpty_iff.mp A;have l:=n a _ r;have D:w.role a=none:=by
    induction q:w.role a using zO with
    |none=>rfl
    |some i=>exact absurd (bk l) (bD.mpr (j.lim a i q).2.1)
   exact .tup xs a items ep D (fY k) (j.base a _ l (fY k)) (aA B) (Up p C)
  |_=>exact λb=>ff b
theorem Mp (l:∀a o,g a=O o->X.h₀.get? a=O o) (p:St X w h s) m n:∀{v} {y},vG g X.tabs n v y=H->VR X s.heap w m v y:=by
 induction n with
 |zero=>exact λe=>ff e
 |succ n r=>
  intro v y e;replace e:En g X.tabs (vG g X.tabs n) v y=true:=e
  induction y using fC with
  |str q t=>
   refine e2 e λc e=>e2 e λd e=>e2 e λj e=>e2 e λf e=>e2 e λk u=> ?_;have hv:v=vStr q.cps.toList:=(vMk c d j).trans (by rw [G3 f,zU k];rfl);exact U hv (VR.str q.cps.toList t (by have:=aA u;rwa [len_eq,G3 f] at this))
  |ref a=>
   rcases cD.mp e with e|e
   .exact U (qi e) (.fn a)
   rcases cD.mp e with e|e
   .exact U (qi e) (.cls a)
   refine e2 e λc e=>e2 e λd e=>e2 e λj e=>e2 e λf k=> ?_;have hv:v=dK v.xs:=(vMk c d j).trans (by rw [zU f];rfl);exact U hv (O6 l p r k)
  |builtin i=>exact e2 e λc d=>U (qi c) (cL (beq_iff_eq.mp d) (.bi _))
  |type i=>exact e2 e λc d=>U (qi c) (cL (beq_iff_eq.mp d) (.bi _))
  |_=>exact Mg e
def gB (m b:List aV) (tg:List (Nat×Nat)) (p:Nat×V):Bool:=isName p.1&&(match Mn p.1 m with
 |some y=>vG (λu_=>au) [] 5 p.2 y||(match y with| .ref a=>tg.any λq=>ak q.1 p.1&&ak q.2 a|_=>aj)
 |none=>match Mn p.1 b with
  |some y=>vG (λu_=>au) [] 5 p.2 y
  |none=>aj)
theorem O7 (hm:X.h₀.get? mainNs=O om) (hb:X.h₀.get? builtinsNs=O ob) (k:Sk om=H) (l:Sk ob=H) (m:jl mainNs X.tabs=H) (r:jl builtinsNs X.tabs=H)
 (t:(NT.list K.glob).all (gB (dictOf om) (dictOf ob) u)=H) (ht:∀q∈u,∃g:Nat->Option Obj,(∀a o,g a=O o->X.h₀.get? a=O o)/\∀v,NT.find K.glob q.1=O v->vG g X.tabs 5 v (.ref q.2)=H):jT X K.G:=by
 obtain⟨z,A,f⟩:=Bs hm k;obtain⟨B,C,D⟩:=Bs hb l;have nil:∀n v y,vG (λb=>au) [] n v y=H->vG (λb=>au) X.tabs n v y=true:=by
  intro n
  induction n with
  |zero=>intro v y h;exact ff h
  |succ n F=>
   intro v y h;replace h:En (λb=>au) [] (vG (λb=>au) [] n) v y=true:=h;refine(?_:En (λb=>au) X.tabs (vG (λb=>au) X.tabs n) v y=H);unfold En Uo at h⊢;rcases y<;>first|exact h|skip
   simpa using h
 refine⟨λw I s c x v hx e=> ?_⟩;have hm:=aK.mp t _ (NT.jm e);unfold gB at hm;rw [aP] at hm;have hm:=hm.2;refine Vp z B ?_;have i:=uK A λo e=>c.base _ o e (fY m);have j:=uK C λo e=>c.base _ o e (fY r);dsimp only at hm
 induction q:Mn (nm x) (dictOf om) using zO with
 |some y=>
  rw [q] at hm;refine qL y i j (.inl ((f x hx).trans q)) (λn=> ?_);rcases cD.mp hm with hm|hm
  .exact Mp (λb o e=>fn e) c n 5 (nil 5 v y hm)
  .induction y using fC with
   |ref a=>
    refine dN (iN.mp hm) λp hq hk=> ?_;rw [aP] at hk;exact dN (ht _ hq) λg E hv=>aH hk.2▸Mp E c n 5 (hv v ((aH hk.1).symm▸e))
   |_=>exact ff hm
 |none=>
  rw [q] at hm
  induction d:Mn (nm x) (dictOf ob) using zO with
  |some y=>rw [d] at hm;exact qL y i j (.inr ⟨(f x hx).trans q,(D x hx).trans d⟩) (λn=>Mp (λb o e=>fn e) c n 5 (nil 5 v y hm))
  |none=>rw [d] at hm;exact ff hm
end
end
section
def Ar (i:Nat):List (Str×aN):=(oQ (K.top i)).names
def W3 (ns:List (Str×aN)):List Nat:=l5 (λp=>nm p.1) ns
structure Mk where
 i:Nat
 c:Nat
 P:Nat
 q:String
noncomputable def O8:List Mk:=[⟨360,2729,2725,"known_readers"⟩,⟨364,2757,2753,"gsub_octets"⟩,⟨365,2764,2760,"gpos_octets"⟩,⟨366,2771,2767,"known_writers"⟩]
def Z2 (k:List Nat) (l:List Mk):Option (Addr×Str):=aS au (λm u_ ih=>ah ih (O (m.c,(bY m.q)++".<locals>.")) (qp k (W3 (Ar m.i)))) l
def O9 (ns:List (Str×aN)):Option (Addr×Str):=Z2 (W3 ns) O8
noncomputable def iO:List Nat:=[2725,2753,2760,2767]
def m8 (i k:Nat):Expr:=K.El (K.lams (K.vf (K.fnBody (K.top i)))) k
def jy:List (Nat×Expr):=[(9519104,m8 360 0),(9523200,m8 360 1),(9629696,m8 366 0),(9633792,m8 366 1)]
noncomputable def Pa (i:String):Str:=(bY i)++".<locals>."++"<lambda>"
def CN (P line col:Nat):Option Str:=ah (ah (ah (ah au (O (Pa "known_writers")) (ak P 2767)) (O (Pa "gpos_octets")) (ak P 2760)) (O (Pa "gsub_octets")) (ak P 2753)) (O (Pa "known_readers")) (ak P 2725)
def Sl (j:Nat) (fd:mC):Prop:=∃a b sc pos q pm cv ctv,find j jy=O (.Lambda a b sc pos)/\fd=kla_fn "<lambda>" q a b sc [] pm cv ctv
def kX (w:World) (h:Heap):dz:=⟨K.prog,w,h,iO,Sl,λc x=>∃F:Frag,(∀a o,F.lookup a=O o->h.get? a=O o/\a∉iO)/\KY F c x=H,CN,O9⟩
def yh (sc:Scope):Bool:=sc.names.all λp=>CM p.2
def Mq (e:Expr):Bool:=match e with
 | .Lambda a b sc pos=>WZ sc (a.args.map (·.arg))&&(a.posonlyargs.isEmpty&&(a.kwonlyargs.isEmpty&&(a.vararg.isNone&&(a.kwarg.isNone&&(a.defaults.isEmpty&&(a.kw_defaults.isEmpty&&(gD sc.names&&yh sc)))))))
 |_=>aj
theorem tn (h1:a.defaults=[]) (h2:a.kw_defaults=[]) env:defaultsOf a env=([],[]):=by
 obtain⟨b,c,d,e,f,h,i⟩:=a;subst h1;subst h2;rfl
theorem CO (h:yh sc=H) env:closureFor sc env=pure []:=by
 have e:closureFor sc env=(forIn sc.names ([]:List (Str×Addr)) (λ(x,k) b=>if k== .free then(do let a<-cellOf env x;pure (dJ ((x,a)::b))) else pure (dJ b))>>=λb=>pure b):=rfl;have c:∀(l:List (Str×aN)),l.all (λp=>CM p.2)=H->(forIn l ([]:List (Str×Addr)) (λ(x,k) b=>if k== .free then(do let a<-cellOf env x;pure (dJ ((x,a)::b))) else pure (dJ b)):Sem (List (Str×Addr)))=pure []:=by
  intro l
  induction l with
  |nil=>intro _;exact jz
  |cons p l d=>
   intro hl;obtain⟨x,k⟩:=p;rw [iD,aP] at hl;have hk:(k==lD)=false:=by
    rcases k<;>first|rfl|exact ff hl.1
   refine U (dO ..) ?_;dsimp only;refine U hk ((?_:(forIn l ([]:List (Str×Addr)) _:Sem _)=_));exact d hl.2
 refine U e (U (c _ h) ?_);rfl
section
variable {X:dz} {Kf:Frag} {w:World} {h₀:Heap} {g:Nat->Option Obj}
theorem Bt (h:Mq (.Lambda a b sc pos)=H):Ox sc (a.args.map (·.arg))/\a.posonlyargs=[]/\a.kwonlyargs=[]/\a.vararg=au/\a.kwarg=au/\a.defaults=[]/\a.kw_defaults=[]/\gD sc.names=H/\yh sc=true:=by
 have h:(WZ sc (a.args.map (·.arg))&&(a.posonlyargs.isEmpty&&(a.kwonlyargs.isEmpty&&(a.vararg.isNone&&(a.kwarg.isNone&&(a.defaults.isEmpty&&(a.kw_defaults.isEmpty&&(gD sc.names&&yh sc))))))))=true:=h;simp only [aP] at h;exact Zt h λh1 h2 c d e f i j k=>⟨GW h1,cZ.mp h2,cZ.mp c,cT.mp d,cT.mp e,cZ.mp f,cZ.mp i,j,k⟩
theorem Pb (B:Base (kX w h₀) Kf K.G K.Ms) (hl:jy.all (λq=>Mq q.2)=H) (d:find j jy=O e) (h:L=K.Me e):∃b names body,b<=190/\∀fd,(kX w h₀).lam j fd->∀r n,Cg (kX w h₀) r n->TM (kX w h₀) r n b L fd names body:=by
 have hb:Mq e=true:=aK.mp hl _ (zT d)
 induction e using aR with
 |Lambda a b sc pos=>
  refine Zt (Bt hb) λi k l m o z A p C=>⟨0,a.args.map (·.arg),b,iC _,λfd c r n t=> ?_⟩;obtain⟨D,E,u,f,q,F,I,v,y,rfl⟩:=c;cases d.symm.trans y;subst h;refine⟨⟨i,rfl,rfl,rfl,λq=>absurd p (U q bZ),k,rfl,l,m,o,iC _,λw J s M=>(bW au (λq=>av q) .nil)⟩,rfl, ?_,(iF (B.ctx t) 30).e sc.names b⟩;refine(?_:l5 (λx=>nm x.arg) a.args=_);refine U (p9 ..) (U jG ?_);rfl
 |_=>exact ff hb
theorem Mr (u:bw X) {m:Mk} (d:gD (Ar i)=aj) (v:X.jO (Ar i)=O (m.c,qq)) (x:m.P∈X.tabs) (l:∀w h s,St X w h s->CodeHd s.heap m.c m.P)
 (o:∀w h s,St X w h s->∃t,s.heap.Ns ic t/\s.heap.BuiltinsAt t m.P) (p:ic≠m.P) (f:∀j fd,X.lam j fd=Sl j fd) {e} (hb:mO e=H->Mq e=H)
 (k:∀a b sc pos,e= .Lambda a b sc pos->find (aG (cM pos.line 4096) pos.col) jy=O e/\X.qt m.P pos.line pos.col=O (qq++"<lambda>")):pO X r n 0 (Ar i) e:=by
 intro a b sc pos he;subst he;refine Zt (Bt (hb rfl)) λF G I J K y z L A=>gb (k _ _ _ _ rfl) λB C=> ?_;exact cQ.lam u pos d v rfl x l C o p (tn y z) (CO A) λD E q=>by
  refine U (f ..) ?_;exact⟨a,b,sc,pos,_,D,E,q,B,rfl⟩
end
end
section
def rxE (b:List Stmt):Expr:=match K.sI b 0 with
 | .Return (O e) _=>e
 |_=> .Constant .none 0 default
def rxP (b:List Stmt):Pos:=match K.sI b 0 with
 | .Return _ p=>p
 |_=>default
noncomputable def cF:Expr->Expr
 | .Call f _ _ _=>f
 |e=>e
def lP (k:Nat):Expr->Expr
 | .Call _ a _ _=>K.El a k
 |e=>e
noncomputable def cP:Expr->Pos
 | .Call _ _ _ p=>p
 |_=>default
noncomputable def nS:Expr->Str
 | .Name x _=>x
 |_=>⟨#[]⟩
noncomputable def nP:Expr->Pos
 | .Name _ p=>p
 | .Constant _ _ p=>p
 |_=>default
noncomputable def kN:Expr->Nat
 | .Constant _ k _=>k
 |_=>0
noncomputable def Z3:Expr->Arguments
 | .Lambda a _ _ _=>a
 |_=>default
noncomputable def laB:Expr->Expr
 | .Lambda _ b _ _=>b
 |e=>e
noncomputable def Pd:Expr->Scope
 | .Lambda _ _ s _=>s
 |_=>default
noncomputable def FW:Expr->Pos
 | .Lambda _ _ _ p=>p
 |_=>default
def trB (b:List Stmt):List Stmt:=match K.sI b 0 with
 | .Try b _ _ _ _=>b
 |_=>[]
def trH (b:List Stmt):List k6:=match K.sI b 0 with
 | .Try _ h _ _ _=>h
 |_=>[]
def trP (b:List Stmt):Pos:=match K.sI b 0 with
 | .Try _ _ _ _ p=>p
 |_=>default
def hdH (l:List k6):k6:=aS (.ExceptHandler au au [] default) (λh u_ u_=>h) l
def tlH (l:List k6):List k6:=aS [] (λu_ t u_=>t) l
def pB (i:Nat):List Stmt:=K.fnBody (K.top i)
def pE (i:Nat):Expr:=rxE (pB i)
def sM (i:Nat):Expr:=lP 0 (pE i)
def wF (i:Nat):Expr:=laB (sM i)
def lB:List Stmt:=K.fnBody (K.top 362)
def lE:Expr:=rxE (trB lB)
def Sm (a:Arguments) (sc:Scope) (x0:Str):Bool:= !sc.isCoroutine&&(!sc.isGenerator&&(isFn sc.kind&&(gD sc.names&&(!sD (nm "__classdict__") sc.names&&(!sD (nm "__debug__") sc.names&&(a.posonlyargs.isEmpty&&(a.kwonlyargs.isEmpty&&(a.vararg.isNone&&(a.kwarg.isNone&&(a.defaults.isEmpty&&a.kw_defaults.isEmpty))))))))))
structure Mt (i m Fp:Nat) (mk:Mk):Prop where
 text:pB i=[.Return (O (.Call (.Name (nS (cF (pE i))) (nP (cF (pE i)))) [.Lambda (Z3 (sM i)) (.Call (.Name (nS (cF (wF i))) (nP (cF (wF i)))) [.Name (nS (lP 0 (wF i))) (nP (lP 0 (wF i))),.Name (nS (lP 1 (wF i))) (nP (lP 1 (wF i))),.Name (nS (lP 2 (wF i))) (nP (lP 2 (wF i)))] [] (cP (wF i))) (Pd (sM i)) (FW (sM i)),.Name (nS (lP 1 (pE i))) (nP (lP 1 (pE i)))] [] (cP (pE i)))) (rxP (pB i))]
 args:(rF (K.top i)).args.map (·.arg)=[nS (lP 0 (wF i)),nS (cF (wF i))]
 b1:(aZ (nS (lP 0 (wF i)))&&(aZ (nS (cF (wF i)))&&(aZ (nS (cF (pE i)))&&(aZ (nS (lP 1 (pE i)))&&(aZ (nS (lP 2 (wF i)))&&(aZ (nS (lP 1 (wF i)))&&(!ak (nm (nS (cF (wF i)))) (nm (nS (lP 0 (wF i))))&&(!gD (Ar i)&&(Sm (Z3 (sM i)) (Pd (sM i)) (nS (lP 2 (wF i)))&&m6 (Ar i) (Pd (sM i)).names)))))))))=H
 ka:bg (nm (nS (lP 0 (wF i)))) (Ar i)=O .cell
 kb:bg (nm (nS (cF (wF i)))) (Ar i)=O .cell
 kl:bg (nm (nS (cF (pE i)))) (Ar i)=O .globalImplicit
 ke:bg (nm (nS (lP 1 (pE i)))) (Ar i)=O .globalImplicit
 gL:K.G (nS (cF (pE i)))=O (bM 2744)
 gE:K.G (nS (lP 1 (pE i)))=O (aX m)
 gF:K.G (nS (lP 1 (wF i)))=O (bM Fp)
 hc:O9 (Ar i)=O (mk.c,(bY mk.q)++".<locals>.")
 hla:CN mk.P (FW (sM i)).line (FW (sM i)).col=O ((bY mk.q)++".<locals>."++"<lambda>")
 sp:(Z3 (sM i)).args.map (·.arg)=[nS (lP 2 (wF i))]
 s0:bg (nm (nS (lP 2 (wF i)))) (Pd (sM i)).names=O .local
 s0':(Pd (sM i)).names.lookup (nS (lP 2 (wF i)))=O .local
 sA:bg (nm (nS (lP 0 (wF i)))) (Pd (sM i)).names=O .free
 sB:bg (nm (nS (cF (wF i)))) (Pd (sM i)).names=O .free
 sF:bg (nm (nS (lP 1 (wF i)))) (Pd (sM i)).names=O .globalImplicit
structure W4:Prop where
 text:lB=[.Try [.Return (O (.Call (.Name (nS (cF lE)) (nP (cF lE))) [.Constant (.int 0) (kN (lP 0 lE)) (nP (lP 0 lE))] [] (cP lE))) (rxP (trB lB))] (hdH (trH lB)::tlH (trH lB)) [] [] (trP lB)]
 args:(rF (K.top 362)).args.map (·.arg)=[nS (cF lE),"extension"]
 pW:aZ (nS (cF lE))=H
 kW:wD (bg (nm (nS (cF lE))) (Ar 362))=H
theorem G4:W4:=⟨by kernel_rfl,by kernel_rfl,by kernel_rfl,by kernel_rfl⟩
theorem Pe:Mt 364 7 1638 ⟨364,2757,2753,"gsub_octets"⟩:=⟨by kernel_rfl,by kernel_rfl,by kernel_rfl,by kernel_rfl,by kernel_rfl,by kernel_rfl,by kernel_rfl,by kernel_rfl,by kernel_rfl,by kernel_rfl,by kernel_rfl,by kernel_rfl,by kernel_rfl,by kernel_rfl,by kernel_rfl,by kernel_rfl,by kernel_rfl,by kernel_rfl⟩
theorem Pf:Mt 365 9 2291 ⟨365,2764,2760,"gpos_octets"⟩:=⟨by kernel_rfl,by kernel_rfl,by kernel_rfl,by kernel_rfl,by kernel_rfl,by kernel_rfl,by kernel_rfl,by kernel_rfl,by kernel_rfl,by kernel_rfl,by kernel_rfl,by kernel_rfl,by kernel_rfl,by kernel_rfl,by kernel_rfl,by kernel_rfl,by kernel_rfl,by kernel_rfl⟩
section
variable {X:dz} {g g2:Nat->Option Obj} {i m Fp a:Nat} {mk:Mk}
theorem G5 (S:Mt i m Fp mk) (z:∀a o,g a=O o->X.h₀.get? a=O o) (b:∀a o,g2 a=O o->X.h₀.get? a=O o) (j:X.jO=O9) (hla:X.qt=CN) (hP:mk.P∈X.tabs) (YS:∀w h s,St X w h s->CodeHd s.heap mk.c mk.P) (hbm:∀w h s,St X w h s->∃A,s.heap.Ns ic A/\s.heap.BuiltinsAt A mk.P) (hgP:ic≠mk.P)
 (J:jl a X.tabs=H) (M:jl 2744 X.tabs=H) (Q:yg d=K.top i) (e:xr g X.tabs X.jO [] a=zS d) (R:xr g2 X.tabs X.jO [] 2744=zS ⟨0,362,0,[]⟩):Nonempty (Mb X K.G a Fp):=by
 refine tH (nU e) λo fd V ho k h1 h2 B=> ?_;obtain⟨oL,Mc,l,f,C,D,E,l4⟩:=nU R;refine aC (FQ z V) λf2 F=>aC (FQ b l4) λr2 I=> ?_;rw [Q] at h1 h2 B;have n:yg ⟨0,362,0,[]⟩=K.top 362:=rfl;rw [n] at C D E;have hs:fd.scope.names=Ar i:=U h2 rfl;have p:Mc.scope.names=Ar 362:=U D rfl;have hb:=S.b1;unfold Sm at hb;simp only [aP,gu] at hb;obtain⟨b1,b2,b3,b4,b5,b6,b7,b8,⟨c1,c2,r,c4,c5,c6,c7,c8,c9,t,u,v⟩,x⟩:=hb;have y:(Pd (sM i)).kind= .function:=by
  unfold isFn at r;split at r
  .assumption
  .exact ff r
 exact⟨{
  fd:=fd,nA:=_,nB:=_,nL:=_,nE:=_,nF:=_,n0:=_,nW:=_,nX:="extension",pL:=_,pE:=_,pc:=_,pr:=_,pos:=_,params:=_,sc:=_,pA:=_,pB:=_,pF:=_,p0:=_,pb:=_,L:=2744,m:=m,Mc:=Mc,pw:=_,ck:=_,pz:=_,YR:=_,prr:=_,pt:=_,hh:=_,hs:=_,
  c:=mk.c,P:=mk.P,q:=_,q':=_
  obj:=bW o (z a o ho) k
  nt:=fY J
  data:=by rw [B,S.args] at F;exact F
  code:=f2
  text:=U h1 (congrArg FuncBody.stmts S.text)
  kA:=⟨b1,by refine U hs ?_;exact S.ka⟩
  kB:=⟨b2,by refine U hs ?_;exact S.kb⟩
  ne:=b7
  kL:=⟨b3,by refine U hs ?_;exact S.kl⟩
  kE:=⟨b4,by refine U hs ?_;exact S.ke⟩
  gL:=S.gL
  gE:=S.gE
  gF:=S.gF
  hloc:=U hs b8
  hc:=U hs (U j S.hc)
  hq':=rfl
  hP:=hP
  YS:=YS
  hla:=U hla S.hla
  hbm:=hbm
  hgP:=hgP
  hdef:=tn (cZ.mp u) (cZ.mp v)
  sco:=c1
  WS:=c2
  sfn:=y
  ZX:=U hs (DL x)
  WT:=c4
  WU:=r9 c5
  WV:=r9 c6
  sp:=A1 (cZ.mp c7) S.sp (cZ.mp c8) (cT.mp c9) (cT.mp t)
  s0:=iX b5 S.s0 S.s0'
  sA:=S.sA
  sB:=S.sB
  sF:=⟨b6,S.sF⟩
  WW:=bW oL (b _ _ l) f
  ntL:=fY M
  GU:=by rw [E,G4.args] at I;exact I
  Sf:=r2
  Sg:=U C (congrArg FuncBody.stmts G4.text)
  kW:=⟨G4.pW,by refine U p ?_;exact vg G4.kW⟩}⟩
end
end
section
def qv (g:Nat->Option Obj):List Nat->Frag:=aS [] (λa u_ ih=>aB ih (λo=>(a,o)::ih) (g a))
theorem vh:∀{as} {a:Nat} {o},(qv g as).lookup a=O o->g a=O o/\a∈as:=by
 intro as
 induction as with
 |nil=>
  intro a o e;exact fn e
 |cons b as c=>
  intro a o e;have d:qv g (b::as)=aB (qv g as) (λo=>(b,o)::qv g as) (g b):=rfl;rw [d] at e
  induction hb:g b using zO with
  |none=>rw [hb] at e;refine gb (c e) λh1 h2=> ?_;exact⟨h1,aD _ h2⟩
  |some x=>
   rw [hb] at e;rw [bK] at e;split at e
   .rename_i q;have q:a=b:=by simpa using q
    injection e with e;subst e
    exact⟨q▸hb,q▸aE ..⟩
   .refine gb (c e) λh1 h2=> ?_;exact⟨h1,aD _ h2⟩
def Z4 (g:Nat->Option Obj) (c:Nat):List Nat:=aB [c] (λo=>match o.data with
 | .cls cd=>[c,cd.ns]
 |_=>[c]) (g c)
def W5 (a:Nat) (l:List Nat):List Nat:=ah l (a::l) (jl a l)
def Pg:List Nat:=aS [] (λp u_ ih=>aS ih (λq u_ ih2=>W5 q.1 ih2) p.2) (NT.list K.ms)
def G6:List Nat:=aS Pg (λp u_ ih=>W5 p.1 ih) (NT.list K.init)
noncomputable def Uq (F:Frag) (p:Nat×Nat):Bool:=makesIn F p.1&&(findIn F (.ref p.1) "__init__"==O (O (.ref p.2))&&typeIn F (.ref p.2)==O (.type "function"))
noncomputable def Ur (g:Nat->Option Obj) (P:Nat):Bool:=match g P with
 |some o=>match o with
  |⟨c,d,dt,sl⟩=>(match c with| .none=>H|_=>aj)&&(d.isNone&&(sl.isEmpty&&(match dt with| .fields ps=>ps.isEmpty|_=>aj)))
 |none=>aj
def Mu (p:Nat×K.NG):Bool:=jl p.1 iO&&(Sj (yg p.2)&&bQ p.2.t 4)
def Mv (d:K.NG):Bool:=ah aj (ah (ak d.i 366) H (ak d.i 360)) (ak d.t 0)
def W6 (p:Nat×K.NG):Bool:=ah (FT (K.fnBody (yg p.2))) H (Mv p.2)
end
section
noncomputable def hole:Obj:={cls:= .none,data:= .freed}
def I1 (d:Nat):BT:=gK .nil (λu_ t=> .node hole t t) d
def zV:dD:={scope:=P0.main.scope,locals:=3,globals:=3,cells:=[],code:= .ref 13,frame:=O 14}
def pQ:List Stmt:=behindTheImports P0
def cB:Code:= .body pQ zV
noncomputable def p0:Pos:=⟨0,0,0,0⟩
def Ph:List Frame:=[topFrame p0]
noncomputable def en (w:World) (x:String) (t:Nat) (v:Value):aV:=⟨nY w.params (bY x),.str (bY x) t,v⟩
def o2 (w:World):Nat->Obj:=gK {cls:= .none,data:= .dict #[]} (λu_ u_=>{cls:= .none,data:= .dict #[en w "type.__subclasses__.Exception.0" 234 (.int (bf 48) 0),en w "type.__subclasses__.Exception.n" 235 (.int (bf 1) 0)] 2})
noncomputable def o3 (L:List aV) (n:Nat):Obj:={cls:= .type "dict",data:= .dict L.toArray n}
noncomputable def W7 (R:List Value):Obj:={cls:= .none,data:= .fields R.toArray}
noncomputable def AX (n:Nat):Value:= .int (bf n) 0
def W8:Obj:={cls:= .type "code",data:= .fields #[.str "<module>" 182,.str "<module>" 183,.str "/claim/cut.py" 184,AX 1,AX 0,AX 0,AX 0,AX 0,.ref 11,.bool aj,AX 181,.ref 12,.none,.none,.none,.none,AX 185,AX 1,.str "/claim/cut.py" 186]}
def six (a b c d e f:Obj):BT:=((((((I1 12).ins 0 a).ins 2 b).ins 3 c).ins 4 d).ins 12 e).ins 13 f
def tK (w:World) (j:Nat) (L:List aV) (n:Nat) (R:List Value):BT:=six (sC w.params) (o2 w j) (o3 L n) (boot_o_4 w.params) (W7 R) W8
def stK (w:World) (os:OsState) (j:Nat) (L:List aV) (n:Nat) (R:List Value) (m k:Nat):SharedT:=⟨tK w j L n R,m,{},#[],{},k,os⟩
def Z5 (i:Nat) (v:Value) (L:List aV):List aV:=aS (λu_=>[]) (λe l ih i=>ah (e::ih (fq i 1)) (⟨e.hash,e.key,v⟩::l) (ak i 0)) L i
def gv (l:List (Nat×Value)) (L:List aV):List aV:=aS L (λp u_ ih=>Z5 p.1 p.2 ih) l
def gq (w:World) (l:List (String×Nat×Value)) (L:List aV):List aV:=L++l5 (λp=>en w p.1 p.2.1 p.2.2) l
def sN (l:List (Nat×Nat×Nat)) (R:List Value):List Value:=R++aS [] (λp u_ ih=>AX p.1::AX p.2.1:: .ref p.2.2::ih) l
def slice (i m:Nat):List Stmt:=(pQ.drop i).take m
noncomputable def Pj (t:Thread):Option Flow:=match t.cur with
 | .pure (.done f)=>(match t.stack with
  |[_]=>O f
  |_=>au)
 |_=>au
theorem Pk t:endAt 1 t=Pj t:=by
 obtain⟨b,e,pos,d⟩:=t;unfold endAt Pj;dsimp only
 induction b using PySem.Sem.casesOn with
 |pure f=>
  induction f using PySem.Fin.casesOn with
  |done f=>induction d using zL with
   |nil=>rfl
   |cons a r=>rcases r<;>rfl
  |again c=>induction hb:(d.length==1) using zB<;>rfl
 |_=>induction hb:(d.length==1) using zB<;>rfl
def Mw (p:Program) (w:World) (n₀:Nat) (ann:Option Value) (n:Nat):SharedT->Thread->Option (Flow×SharedT×Code×Pos):=gK (λu_ u_=>au)
 (λu_ ih s t=>aB (ah au (ah au (aB au (λq=>Prod.rec (λs t=>ih s t) q) (Ay (Az AA) p w s t)) (Vq s t)) (AZ n₀ ann t)) (λf=>O (f,s,t.code,t.pos)) (Pj t)) n
theorem Pn:∀n s t,JD treeTable p w n₀ ann 1 n s t=Mw p w n₀ ann n s t:=by
 intro n
 induction n with
 |zero=>
  intro _ _;exact rfl
 |succ n b=>
  intro s t;have e:Mw p w n₀ ann (n+1) s t=aB (ah au (ah au (aB au (λq=>Prod.rec (λs t=>Mw p w n₀ ann n s t) q) (Ay (Az AA) p w s t)) (Vq s t)) (AZ n₀ ann t)) (λf=>O (f,s,t.code,t.pos)) (Pj t):=rfl;refine U e (cL Fast.te10156331382660048174 (cL Fast.te11892475500146522536 (cL Fast.te14364793385576792824 (cL Fast.te6613529449190102663 (cL (Pk ..) ?_)))));unfold JD
  induction endAt 1 t using zO with
  |some f=>rfl
  |none=>
   induction stepOk n₀ ann t using zB with
   |false=>rfl
   |true=>
    induction Vq s t using zB with
    |false=>rfl
    |true=>
     induction stepT (denote treeTable) p w s t using zO with
     |none=>rfl
     |some r=>exact b r.1 r.2
def gT (lo:Nat) (s:SharedT):Nat->Option Obj:=λa=>ah au (ah au (aB au (λo=>alive o) (BT.get s.tree a)) (bI a s.n)) (bQ lo a)
def methsOf (C:Nat):List Nat:=aS [] (λp u_ ih=>aS ih (λq u_ ih2=>ah ih2 (q.2::ih2) (ak q.1 C)) p.2) (NT.list K.ms)
def wG (g:Nat->Option Obj) (C:Nat):List Nat:=Z4 g C++methsOf C
def vj (g:Nat->Option Obj) (C:Nat):Bool:=(wG g C).all (λa=>jl a iO)&&((NT.list K.init).all (λp=>ah H (Uq (qv g (wG g C)) p) (ak p.1 C))&&(NT.list K.ms).all (FU (qv g (wG g C)) C))
noncomputable def Po (g:Nat->Option Obj) (a:Nat):Bool:=match g a with
 |some o=>match o.data with
  | .func fd=>fd.name=="law"&&(fd.qualname=="law"&&(ak fd.globals mainNs&&(fd.closure.isEmpty&&(ak fd.builtins builtinsNs&&((match fd.defaults with| .none=>H|_=>aj)&&(match fd.kwdefaults with| .none=>H|_=>aj))))))
  |_=>aj
 |none=>aj
def facts (g:Nat->Option Obj) (cs:List Nat) (ms:List Mk) (ts:List Nat) (tg:List (Nat×Nat)) (lw:Nat):Bool:=cs.all (vj g)&&(ms.all (λm=>codeHdIn (qv g [m.c]) m.c m.P&&jl m.c iO)&&(ts.all (Ur g)&&(tg.all (λq=>aB aj (λv=>vG g iO 5 v (.ref q.2)) (NT.find K.glob q.1))&&ah (Po g lw) H (ak lw 0))))
def G7 (lo hi:Nat):List (Nat×K.NG):=(NT.list K.dT).filter λp=>bQ lo p.1&&bI p.1 hi
structure Pc where
 lo:Nat
 hi:Nat
 cs:List Nat
 ms:List Mk
 ts:List Nat
 tg:List (Nat×Nat)
 lw:Nat
def Pp (p:Pc) (q:Flow×SharedT×Code×Pos):=
 (q.1,q.2.2.1,q.2.2.2,(q.2.1.n,q.2.1.toks,q.2.1.life,q.2.1.gens,q.2.1.drawn,q.2.1.os),[q.2.1.tree.get 0,q.2.1.tree.get 2,q.2.1.tree.get 3,q.2.1.tree.get 4,q.2.1.tree.get 12,q.2.1.tree.get 13],
  (G7 p.lo p.hi).map (λd=>xr (gT p.lo q.2.1) iO O9 d.2.ds d.1),facts (gT p.lo q.2.1) p.cs p.ms p.ts p.tg p.lw)
def Us (w:World) (os:OsState) (j:Nat) (L:List aV) (n:Nat) (R:List Value) (p:Pc) (k:Nat) (e:Pos):=
 (tw,cB,e,((p.hi,k,({}:Life),(#[]:Array GenState),({}:Drawn),os):Nat×Nat×Life×Array GenState×Drawn×OsState),[O (sC w.params),O (o2 w j),O (o3 L n),O (boot_o_4 w.params),O (W7 R),O W8],(G7 p.lo p.hi).map (λd=>zS d.2),H)
def Piece (i m N:Nat) (pa pe:Pos) (p:Pc) (j j':Nat) (L L':World->List aV) (n n':Nat) (R R':List Value) (k k':Nat):Prop:=
 ∀(w:World) (os:OsState),(Mw P0 w p.lo (O (.ref 12)) N (stK w os j (L w) n R p.lo k) (piecesOf (slice i m) zV cB pa Ph)).map (Pp p)=O (Us w os j' (L' w) n' R' p k' pe)
end
set_option backward.match.sparseCases true
section
def Vx (w:World):List aV:=gq w [("__name__",165,(.str "__main__" 164)),("__doc__",166,.none),("__package__",167,.none),("__loader__",168,(.builtin "__main__.__loader__#opaque")),("__spec__",169,.none),("__annotations__",170,(.ref 6)),("__builtins__",171,(.ref 4)),("__file__",173,(.str "/claim/cut.py" 172)),("__cached__",174,.none)] []
noncomputable def Vy:List Value:=[]
def YW (w:World):List aV:=gq w [("_wall",193,(.ref 21)),("ShapeError",237,(.ref 48)),("TableFault",253,(.ref 61)),("FontFault",269,(.ref 73))] (gv [(0,(.str "joinedhand.errors" 194))] (Vx w))
def YX:List Value:=sN [(1,0,20),(5,0,28),(14,0,57),(16,0,69)] Vy
noncomputable def q0:Pc:=⟨15,76,[],[],[],[],0⟩
def YY (w:World):List aV:=gq w [("MOST_OFFSET",273,(.int (bf 65535) 272)),("check_room",282,(.ref 82)),("number_at",293,(.ref 89)),("u16_at",301,(.ref 96)),("signed",309,(.ref 103))] (gv [(0,(.str "joinedhand.octets" 270))] (YW w))
def YZ:List Value:=sN [(20,0,81),(23,0,88),(29,0,95),(31,0,102)] YX
noncomputable def q1:Pc:=⟨76,104,[],[],[],[],0⟩
def Y0 (w:World):List aV:=gq w [("OctetsIn",413,(.ref 187)),("number_octets",419,(.ref 196))] (gv [] (YY w))
def Y3:List Value:=sN [(35,0,109),(76,0,195)] YZ
noncomputable def q2:Pc:=⟨104,197,[187],[],[],[],0⟩
def Y4 (w:World):List aV:=gq w [("OctetsOut",521,(.ref 279)),("laid",536,(.ref 291)),("HEAD_MAGIC",540,(.int (bf 1594834165) 539)),("LEAST_UNITS",542,(.int (bf 16) 541)),("MOST_UNITS",544,(.int (bf 16384) 543)),("MOST_GLYPHS_metrics",546,(.int (bf 65535) 545)),("SHORT_MAXP",548,(.int (bf 20480) 547)),("LONG_MAXP",550,(.int (bf 65536) 549))] (gv [(0,(.str "joinedhand.metrics" 537))] (Y0 w))
def Y5:List Value:=sN [(80,0,202),(118,0,290)] Y3
noncomputable def q3:Pc:=⟨197,292,[279],[],[],[],0⟩
def Y6 (w:World):List aV:=gq w [("Metrics",601,(.ref 322)),("table_at",609,(.ref 333)),("need_version",619,(.ref 340)),("read_units",628,(.ref 347)),("read_lines",638,(.ref 354)),("read_count",648,(.ref 361)),("read_widths",661,(.ref 368)),("read_metrics",675,(.ref 375)),("long_count",683,(.ref 382)),("head_octets",691,(.ref 389)),("hhea_octets",699,(.ref 396)),("maxp_octets",707,(.ref 403))] (gv [] (Y4 w))
def Y7:List Value:=sN [(142,0,297),(156,0,332),(160,0,339),(166,0,346),(176,0,353),(185,0,360),(193,0,367),(203,0,374),(211,0,381),(216,0,388),(225,0,395),(236,0,402)] Y5
noncomputable def q4:Pc:=⟨292,404,[322],[],[],[],0⟩
def Y8 (w:World):List aV:=gq w [("hmtx_octets",717,(.ref 410)),("need_metrics",724,(.ref 417)),("write_metrics",731,(.ref 424)),("LAST_CODE_selectors",735,(.int (bf 1114111) 734)),("MOST_MORE",737,(.int (bf 255) 736)),("HEAD_SIZE_selectors",739,(.int (bf 10) 738)),("RECORD_SIZE_selectors",741,(.int (bf 11) 740)),("Variations",796,(.ref 460)),("need_code",804,(.ref 471)),("read_ranges",817,(.ref 478)),("read_glyphs",829,(.ref 485)),("read_record",847,(.ref 492)),("read_variations",860,(.ref 499))] (gv [(0,(.str "joinedhand.selectors" 732))] (Y6 w))
def Y9:List Value:=sN [(241,0,409),(249,0,416),(254,0,423),(262,0,430),(281,0,470),(284,0,477),(297,0,484),(309,0,491),(325,0,498)] Y7
noncomputable def q5:Pc:=⟨404,500,[460],[],[],[],0⟩
def Za (w:World):List aV:=gq w [("default_ranges",869,(.ref 506)),("ranges_octets",880,(.ref 513)),("glyphs_octets",890,(.ref 520)),("write_variations",905,(.ref 527)),("BEST_RECORDS",924,(.ref 536)),("SELECTOR_RECORD",927,(.ref 537)),("LAST_SHORT",929,(.int (bf 65535) 928)),("LAST_CODE_charmap",931,(.int (bf 1114111) 930)),("SEGMENT_SIZE",933,(.int (bf 8) 932)),("CharMap",984,(.ref 572)),("need_format",993,(.ref 583)),("put_glyph",1002,(.ref 590)),("check_segments",1014,(.ref 597))] (gv [(0,(.str "joinedhand.charmap" 906))] (Y8 w))
def Zb:List Value:=sN [(336,0,505),(344,0,512),(354,0,519),(363,0,526),(390,0,543),(405,0,582),(409,0,589),(412,0,596)] Y9
noncomputable def q6:Pc:=⟨500,598,[572],[],[],[(12623647655791468010070722,536),(21754620659536464674526856422099,537)],0⟩
def Zc (w:World):List aV:=gq w [("array_glyph",1025,(.ref 604)),("read_format4",1047,(.ref 611)),("read_trimmed",1060,(.ref 618)),("read_format6",1069,(.ref 625)),("read_format10",1078,(.ref 632)),("read_groups",1098,(.ref 639)),("read_format12",1106,(.ref 646)),("read_format13",1114,(.ref 653)),("read_codes",1123,(.ref 660)),("read_records",1136,(.ref 667)),("read_records_charmap",1137,(.ref 667)),("read_charmap",1147,(.ref 674)),("goes_on",1156,(.ref 681)),("pieces_of",1166,(.ref 688)),("cheaper",1174,(.ref 695)),("best_segments",1191,(.ref 702)),("segments_of",1197,(.ref 707)),("segments_cost",1208,(.ref 714)),("halving_fields",1216,(.ref 721)),("write_format4",1222,(.ref 727))] (gv [] (Za w))
def Zd:List Value:=sN [(420,0,603),(425,0,610),(452,0,617),(462,0,624),(467,0,631),(472,0,638),(493,0,645),(495,0,652),(497,0,659),(510,0,666),(525,0,673),(536,0,680),(540,0,687),(549,0,694),(551,0,701),(563,0,706),(567,0,713),(572,0,720),(577,0,726)] Zb
noncomputable def q7:Pc:=⟨598,728,[],[],[],[],0⟩
def Ze (w:World):List aV:=gq w [("groups_of",1231,(.ref 734)),("write_format12",1237,(.ref 739)),("charmap_parts",1248,(.ref 746)),("write_charmap",1254,(.ref 752)),("Coverage",1311,(.ref 790)),("coverage_of",1320,(.ref 801)),("ranges_of",1329,(.ref 808)),("read_ascending",1340,(.ref 815)),("read_span",1351,(.ref 822)),("read_spans",1364,(.ref 829)),("read_coverage",1374,(.ref 836))] (gv [(0,(.str "joinedhand.coverage" 1255))] (Zc w))
def Zf:List Value:=sN [(597,0,733),(605,0,738),(616,0,745),(627,0,751),(642,0,758),(665,0,800),(670,0,807),(678,0,814),(687,0,821),(697,0,828),(708,0,835)] Zd
noncomputable def q8:Pc:=⟨728,837,[790],[],[],[],0⟩
def Pq (w:World):List aV:=gq w [("write_coverage",1389,(.ref 844)),("by_glyph",1402,(.ref 852)),("MOST_GLYPHS_classdefs",1406,(.int (bf 65536) 1405)),("ClassDef",1466,(.ref 895)),("classdef_of",1472,(.ref 904)),("class_runs",1482,(.ref 911)),("read_class_row",1488,(.ref 916)),("read_class_spans",1494,(.ref 921)),("read_classdef",1504,(.ref 928)),("row_of_classes",1510,(.ref 933)),("shorter_form",1519,(.ref 940))] (gv [(0,(.str "joinedhand.classdefs" 1403))] (Ze w))
def Pr:List Value:=sN [(716,0,843),(737,0,851),(746,0,858),(765,0,903),(772,0,910),(780,0,915),(787,0,920),(803,0,927),(811,0,932),(816,0,939)] Zf
noncomputable def q9:Pc:=⟨837,941,[895],[],[],[],0⟩
def Pu (w:World):List aV:=gq w [("write_classdef",1534,(.ref 948)),("MOST_FAR",1538,(.int (bf 4294967295) 1537)),("Gdef",1606,(.ref 992)),("no_gdef",1612,(.ref 1003)),("read_classes",1620,(.ref 1010)),("read_classes_gdef",1621,(.ref 1010)),("read_each",1627,(.ref 1015)),("read_covered",1640,(.ref 1022)),("read_points",1651,(.ref 1029)),("read_caret",1662,(.ref 1036)),("read_caret_row",1672,(.ref 1043))] (gv [(0,(.str "joinedhand.gdef" 1535))] (Pq w))
def Pw:List Value:=sN [(822,0,947),(845,0,954),(867,0,1002),(869,0,1009),(872,0,1014),(878,0,1021),(890,0,1028),(897,0,1035),(908,0,1042)] Pr
noncomputable def q10:Pc:=⟨941,1044,[992],[],[],[],0⟩
def Px (w:World):List aV:=gq w [("read_sets",1678,(.ref 1048)),("read_sets_gdef",1679,(.ref 1048)),("read_gdef",1694,(.ref 1055)),("write_classes",1701,(.ref 1062)),("write_covered",1707,(.ref 1067)),("write_points",1716,(.ref 1074)),("write_caret",1724,(.ref 1081)),("write_caret_row",1730,(.ref 1086)),("write_sets",1736,(.ref 1091)),("write_gdef",1749,(.ref 1098)),("BY_GLYPHS",1753,(.int (bf 1) 1752)),("BY_CLASSES",1755,(.int (bf 2) 1754)),("BY_COVERAGES",1757,(.int (bf 3) 1756)),("Rule",1806,(.ref 1129))] (gv [(0,(.str "joinedhand.contexts" 1750))] (Pu w))
def Py:List Value:=sN [(914,0,1047),(923,0,1054),(937,0,1061),(939,0,1066),(952,0,1073),(958,0,1080),(967,0,1085),(975,0,1090),(986,0,1097),(1001,0,1104)] Pw
noncomputable def q11:Pc:=⟨1044,1134,[1129],[],[],[],0⟩
def Pz (w:World):List aV:=gq w [("Contexts",1866,(.ref 1170)),("told_row",1872,(.ref 1179)),("told_row_contexts",1873,(.ref 1179)),("place_of",1883,(.ref 1186)),("place_of_contexts",1884,(.ref 1186)),("read_actions",1898,(.ref 1193)),("inside_count_of",1907,(.ref 1200)),("read_rule",1923,(.ref 1207)),("read_set",1938,(.ref 1214)),("read_set_contexts",1939,(.ref 1214)),("read_sets_contexts",1953,(.ref 1221)),("read_by_glyphs",1966,(.ref 1228))] (gv [(119,(.ref 1221))] (Px w))
def PB:List Value:=sN [(1014,0,1139),(1038,0,1178),(1041,0,1185),(1048,0,1192),(1058,0,1199),(1064,0,1206),(1075,0,1213),(1086,0,1220),(1093,0,1227)] Py
noncomputable def q12:Pc:=⟨1134,1229,[1170],[],[],[],0⟩
def PC (w:World):List aV:=gq w [("read_classes_contexts",1977,(.ref 1235)),("read_by_classes",1993,(.ref 1242)),("read_coverages",2007,(.ref 1249)),("read_by_coverages",2023,(.ref 1256)),("read_context",2034,(.ref 1263)),("check_rule",2044,(.ref 1270)),("put_actions",2054,(.ref 1277)),("put_counted",2062,(.ref 1284)),("put_rows",2075,(.ref 1291)),("rule_octets",2084,(.ref 1298)),("set_octets",2090,(.ref 1303)),("set_octets_contexts",2091,(.ref 1303)),("sets_octets",2097,(.ref 1308)),("by_glyphs_octets",2103,(.ref 1313)),("by_classes_octets",2109,(.ref 1318)),("by_coverages_octets",2115,(.ref 1323)),("write_context",2122,(.ref 1330)),("begins_with",2132,(.ref 1337)),("live_rows",2138,(.ref 1342))] (gv [(0,(.str "joinedhand.ligature" 2123)),(112,(.ref 1235))] (Pz w))
def PD:List Value:=sN [(1100,0,1234),(1104,0,1241),(1112,0,1248),(1121,0,1255),(1132,0,1262),(1142,0,1269),(1150,0,1276),(1154,0,1283),(1157,0,1290),(1168,0,1297),(1173,0,1302),(1185,0,1307),(1194,0,1312),(1197,0,1317),(1202,0,1322),(1218,0,1329),(1225,0,1336),(1227,0,1341)] PB
noncomputable def q13:Pc:=⟨1229,1343,[],[],[],[],0⟩
def PE (w:World):List aV:=gq w [("Ligature",2173,(.ref 1364)),("place_of_ligature",2183,(.ref 1375)),("places_in",2189,(.ref 1380)),("read_row",2200,(.ref 1387)),("read_row_ligature",2201,(.ref 1387)),("read_ligature",2207,(.ref 1392)),("row_octets",2217,(.ref 1399)),("row_octets_ligature",2218,(.ref 1399)),("set_octets_ligature",2225,(.ref 1404)),("write_ligature",2231,(.ref 1409))] (gv [(0,(.str "joinedhand.reverse" 2232)),(136,(.ref 1375)),(155,(.ref 1404))] (PC w))
def PF:List Value:=sN [(1233,0,1348),(1241,0,1374),(1246,0,1379),(1251,0,1386),(1259,0,1391),(1270,0,1398),(1276,0,1403),(1282,0,1408)] PD
noncomputable def q14:Pc:=⟨1343,1410,[1364],[],[],[],0⟩
def PG (w:World):List aV:=gq w [("Reverse",2272,(.ref 1431)),("read_reverse",2286,(.ref 1442)),("write_reverse",2292,(.ref 1447)),("ALL_GLYPHS",2296,(.int (bf 65536) 2295)),("HEAD_SIZE_single",2298,(.int (bf 6) 2297)),("Single",2333,(.ref 1469))] (gv [(0,(.str "joinedhand.single" 2293))] (PE w))
def PJ:List Value:=sN [(1290,0,1415),(1301,0,1441),(1313,0,1446),(1329,0,1453)] PF
noncomputable def q15:Pc:=⟨1410,1474,[1431,1469],[],[],[],0⟩
def PK (w:World):List aV:=gq w [("Multiple",2368,(.ref 1495)),("Alternate",2403,(.ref 1521)),("read_single",2409,(.ref 1530)),("read_row_single",2419,(.ref 1537)),("read_rows_at",2425,(.ref 1542)),("read_rows",2437,(.ref 1549))] (gv [(167,(.ref 1537))] (PG w))
def PN:List Value:=sN [(1336,0,1479),(1343,0,1505),(1350,0,1529),(1365,0,1536),(1369,0,1541),(1377,0,1548)] PJ
noncomputable def q16:Pc:=⟨1474,1550,[1495,1521],[],[],[],0⟩
def PO (w:World):List aV:=gq w [("read_multiple",2445,(.ref 1556)),("read_alternate",2453,(.ref 1563)),("delta_of",2463,(.ref 1570)),("write_single",2470,(.ref 1576)),("row_octets_single",2479,(.ref 1583)),("write_rows",2485,(.ref 1588)),("write_rows_single",2486,(.ref 1588)),("write_multiple",2493,(.ref 1595)),("write_alternate",2500,(.ref 1602)),("EXTENSION_gsub",2504,(.int (bf 7) 2503)),("KINDS",2514,(.ref 1603)),("read_extension",2524,(.ref 1610)),("read_kind",2533,(.ref 1617)),("read_substitution",2542,(.ref 1624)),("write_kind",2550,(.ref 1631)),("write_substitution",2558,(.ref 1638)),("MOST_CLASSES",2562,(.int (bf 65536) 2561))] (gv [(0,(.str "joinedhand.anchors" 2559)),(170,(.ref 1583))] (PK w))
def PR:List Value:=sN [(1387,0,1555),(1389,0,1562),(1391,0,1569),(1399,0,1575),(1420,0,1582),(1426,0,1587),(1438,0,1594),(1440,0,1601),(1445,0,1609),(1453,0,1616),(1465,0,1623),(1471,0,1630),(1483,0,1637)] PN
noncomputable def q17:Pc:=⟨1550,1639,[],[],[],[(22424036555,1603)],0⟩
def PS (w:World):List aV:=gq w [("Anchor",2600,(.ref 1662)),("told_anchor",2607,(.ref 1673)),("read_anchor",2619,(.ref 1680)),("write_anchor",2627,(.ref 1687)),("written",2634,(.ref 1694)),("anchor_behind",2643,(.ref 1701)),("read_marks",2659,(.ref 1709)),("write_marks",2665,(.ref 1714)),("told_marks",2671,(.ref 1719)),("class_count",2680,(.ref 1726)),("read_anchor_rows",2686,(.ref 1731)),("write_anchor_rows",2692,(.ref 1736)),("HEAD_SIZE_cursive",2696,(.int (bf 6) 2695))] (gv [(0,(.str "joinedhand.cursive" 2693))] (PO w))
def PU:List Value:=sN [(1489,0,1644),(1497,0,1672),(1499,0,1679),(1508,0,1686),(1514,0,1693),(1516,0,1700),(1520,0,1708),(1535,0,1713),(1545,0,1718),(1547,0,1725),(1552,0,1730),(1564,0,1735)] PR
noncomputable def q18:Pc:=⟨1639,1737,[1662],[],[],[],0⟩
def PW (w:World):List aV:=gq w [("Cursive",2753,(.ref 1777)),("read_cursive",2766,(.ref 1788)),("write_cursive",2779,(.ref 1795)),("HEAD_marks",2783,(.int (bf 12) 2782)),("classes_of",2789,(.ref 1800)),("told_row_marks",2796,(.ref 1805)),("has_anchor",2802,(.ref 1810)),("told_by_glyph",2813,(.ref 1817))] (gv [(0,(.str "joinedhand.marks" 2780)),(134,(.ref 1805))] (PS w))
def PX:List Value:=sN [(1578,0,1742),(1594,0,1787),(1606,0,1794),(1622,0,1799),(1624,0,1804),(1627,0,1809),(1629,0,1816)] PU
noncomputable def q19:Pc:=⟨1737,1818,[1777],[],[],[],0⟩
def PY (w:World):List aV:=gq w [("MarkBase",2851,(.ref 1841)),("MarkComponent",2888,(.ref 1867))] (gv [] (PW w))
def PZ:List Value:=sN [(1636,0,1823),(1644,0,1851)] PX
noncomputable def q20:Pc:=⟨1818,1872,[1841,1867],[],[],[],0⟩
def P1 (w:World):List aV:=gq w [("MarkMark",2926,(.ref 1895)),("part_at",2936,(.ref 1906)),("read_head",2949,(.ref 1913)),("rows_by_glyph",2960,(.ref 1920)),("read_base",2972,(.ref 1927)),("read_component",2988,(.ref 1934)),("read_mark",3000,(.ref 1941)),("even_row",3006,(.ref 1946)),("write_around",3019,(.ref 1953)),("write_rows_marks",3026,(.ref 1958)),("write_base",3033,(.ref 1965)),("write_component",3039,(.ref 1970)),("write_mark",3046,(.ref 1977))] (gv [(191,(.ref 1958))] (PY w))
def P4:List Value:=sN [(1658,0,1877),(1666,0,1905),(1671,0,1912),(1680,0,1919),(1683,0,1926),(1686,0,1933),(1697,0,1940),(1700,0,1945),(1702,0,1952),(1709,0,1957),(1713,0,1964),(1715,0,1969),(1725,0,1976)] PZ
noncomputable def q21:Pc:=⟨1872,1978,[1895],[],[],[],0⟩
def P5 (w:World):List aV:=gq w [("FIELDS",3050,(.int (bf 4) 3049)),("MOST_FORM",3052,(.int (bf 255) 3051)),("LEAST_DEVICE",3054,(.int (bf 16) 3053)),("Value",3103,(.ref 2008)),("read_form",3112,(.ref 2019)),("size_of",3118,(.ref 2024)),("read_value",3128,(.ref 2031)),("write_value",3139,(.ref 2038)),("form_of",3150,(.ref 2045))] (gv [(0,(.str "joinedhand.values" 3047))] (P1 w))
def P6:List Value:=sN [(1731,0,1983),(1744,0,2018),(1750,0,2023),(1752,0,2030),(1760,0,2037),(1768,0,2044)] P4
noncomputable def q22:Pc:=⟨1978,2046,[2008],[],[],[],0⟩
def P7 (w:World):List aV:=gq w [("Adjust",3185,(.ref 2067)),("read_adjust",3191,(.ref 2076)),("is_even",3197,(.ref 2081)),("write_adjust",3204,(.ref 2087)),("pair_told",3213,(.ref 2094)),("moves_second",3219,(.ref 2099))] (gv [(0,(.str "joinedhand.pair" 3205))] (P5 w))
def P8:List Value:=sN [(1775,0,2051),(1782,0,2075),(1796,0,2080),(1798,0,2086),(1818,0,2093),(1820,0,2098)] P6
noncomputable def q23:Pc:=⟨2046,2100,[2067],[],[],[],0⟩
def P9 (w:World):List aV:=gq w [("PairGlyphs",3265,(.ref 2129)),("PairClasses",3311,(.ref 2161)),("read_both",3320,(.ref 2172)),("read_set_pair",3335,(.ref 2179))] (gv [(141,(.ref 2179))] (P7 w))
def Qa:List Value:=sN [(1822,0,2105),(1834,0,2139),(1849,0,2171),(1852,0,2178)] P8
noncomputable def q24:Pc:=⟨2100,2180,[2129,2161],[],[],[],0⟩
def Qc (w:World):List aV:=gq w [("read_glyph_pairs",3351,(.ref 2186)),("read_classes_pair",3361,(.ref 2193)),("read_class_pairs",3367,(.ref 2198)),("read_pair",3380,(.ref 2205)),("forms_of",3386,(.ref 2210)),("write_both",3395,(.ref 2217)),("keys_by_first",3404,(.ref 2224)),("set_octets_pair",3416,(.ref 2231)),("write_glyph_pairs",3422,(.ref 2236)),("write_class_pairs",3428,(.ref 2241)),("write_pair",3435,(.ref 2248)),("POSITION_KINDS",3446,(.ref 2249)),("EXTENSION_gpos",3448,(.int (bf 9) 3447)),("position_number",3455,(.ref 2256)),("behind_extension",3465,(.ref 2263)),("read_position",3475,(.ref 2270)),("read_moved",3484,(.ref 2277)),("read_marked",3493,(.ref 2284)),("write_position",3502,(.ref 2291)),("write_moved",3510,(.ref 2298)),("write_marked",3518,(.ref 2305))] (gv [(0,(.str "joinedhand.kern" 3519)),(112,(.ref 2193)),(155,(.ref 2231))] (P9 w))
def Qd:List Value:=sN [(1862,0,2185),(1873,0,2192),(1876,0,2197),(1887,0,2204),(1898,0,2209),(1901,0,2216),(1904,0,2223),(1911,0,2230),(1919,0,2235),(1928,0,2240),(1944,0,2247),(1951,0,2255),(1955,0,2262),(1963,0,2269),(1974,0,2276),(1980,0,2283),(1986,0,2290),(1993,0,2297),(1999,0,2304)] Qa
noncomputable def q25:Pc:=⟨2180,2306,[],[],[],[(206825231721686031451529996240,2249)],0⟩
def Qe (w:World):List aV:=gq w [("HORIZONTAL",3522,(.int (bf 1) 3521)),("LEAST",3524,(.int (bf 2) 3523)),("ACROSS",3526,(.int (bf 4) 3525)),("OVERRIDE",3528,(.int (bf 8) 3527)),("HEAD_kern",3530,(.int (bf 14) 3529)),("PAIR",3532,(.int (bf 6) 3531)),("MOST_PAIRS",3534,(.int (bf 10920) 3533)),("read_pairs",3549,(.ref 2312)),("join_pairs",3559,(.ref 2319)),("read_kern",3572,(.ref 2326)),("search_row",3580,(.ref 2333)),("write_pairs",3590,(.ref 2340)),("write_kern",3601,(.ref 2348)),("USE_SET",3605,(.int (bf 16) 3604)),("Lookup",3646,(.ref 2370)),("NO_FEATURE",3650,(.int (bf 65535) 3649)),("NO_SET",3653,(.int (Int.negSucc 0) 3652)),("HEAD_SIZE_layout",3655,(.int (bf 10) 3654)),("RECORD_SIZE_layout",3657,(.int (bf 8) 3656))] (gv [(0,(.str "joinedhand.layout" 3647))] (Qc w))
def Qf:List Value:=sN [(2013,0,2311),(2030,0,2318),(2033,0,2325),(2052,0,2332),(2059,0,2339),(2064,0,2347),(2073,0,2354)] Qd
noncomputable def q26:Pc:=⟨2306,2375,[2370],[],[],[],0⟩
def Qg (w:World):List aV:=gq w [("LangSys",3695,(.ref 2398)),("Script",3734,(.ref 2424))] (gv [] (Qe w))
def Qh:List Value:=sN [(2089,0,2380),(2097,0,2408)] Qf
noncomputable def q27:Pc:=⟨2375,2429,[2398,2424],[],[],[],0⟩
def Qi (w:World):List aV:=gq w [("Feature",3772,(.ref 2452)),("Layout",3811,(.ref 2478)),("offset_behind",3821,(.ref 2489)),("read_records_layout",3837,(.ref 2496)),("read_langsys",3848,(.ref 2503))] (gv [(75,(.ref 2496))] (Qg w))
def Qj:List Value:=sN [(2107,0,2434),(2115,0,2462),(2126,0,2488),(2132,0,2495),(2143,0,2502)] Qh
noncomputable def q28:Pc:=⟨2429,2504,[2452,2478],[],[],[],0⟩
def Qk (w:World):List aV:=gq w [("read_script",3862,(.ref 2510)),("read_scripts",3873,(.ref 2517)),("read_feature",3883,(.ref 2524)),("read_features",3889,(.ref 2529)),("read_lookup",3895,(.ref 2534)),("read_lookups",3901,(.ref 2539)),("read_layout",3913,(.ref 2546)),("numbers_octets",3922,(.ref 2553)),("langsys_octets",3929,(.ref 2560)),("records_octets",3941,(.ref 2567)),("list_octets",3951,(.ref 2574)),("script_octets",3957,(.ref 2579)),("script_list_octets",3963,(.ref 2584)),("feature_list_octets",3969,(.ref 2589)),("written_tables",3975,(.ref 2594)),("lookup_head",3985,(.ref 2601)),("head_size",3992,(.ref 2608)),("lookup_octets",4004,(.ref 2615)),("plain_lookups",4010,(.ref 2620)),("extension_record",4019,(.ref 2627))] (gv [] (Qi w))
def Ql:List Value:=sN [(2149,0,2509),(2156,0,2516),(2161,0,2523),(2165,0,2528),(2167,0,2533),(2185,0,2538),(2189,0,2545),(2197,0,2552),(2201,0,2559),(2203,0,2566),(2210,0,2573),(2213,0,2578),(2219,0,2583),(2222,0,2588),(2225,0,2593),(2233,0,2600),(2239,0,2607),(2241,0,2614),(2245,0,2619),(2249,0,2626)] Qj
noncomputable def q29:Pc:=⟨2504,2628,[],[],[],[],0⟩
def Qm (w:World):List aV:=gq w [("Pool",4058,(.ref 2651)),("extended_lookups",4064,(.ref 2660)),("write_layout",4078,(.ref 2668)),("SUBSTITUTION_EXTENSION",4082,(.int (bf 7) 4081)),("POSITION_EXTENSION",4084,(.int (bf 9) 4083))] (gv [(0,(.str "joinedhand.font" 4079))] (Qk w))
def Qn:List Value:=sN [(2254,0,2633),(2267,0,2659),(2283,0,2667)] Ql
noncomputable def q30:Pc:=⟨2628,2669,[2651],[],[],[],0⟩
def Qo (w:World):List aV:=gq w [("Font",4137,(.ref 2698)),("layout_told",4144,(.ref 2709)),("read_or",4154,(.ref 2716)),("font_by",4167,(.ref 2723)),("known_readers",4173,(.ref 2730)),("font_from",4180,(.ref 2737)),("layout_octets",4188,(.ref 2744)),("tables_by",4198,(.ref 2751)),("gsub_octets",4208,(.ref 2758)),("gpos_octets",4218,(.ref 2765))] (gv [] (Qm w))
def Qp:List Value:=sN [(2296,0,2674),(2312,0,2708),(2314,0,2715),(2316,0,2722),(2322,0,2729),(2326,0,2736),(2328,0,2743),(2333,0,2750),(2345,0,2757),(2347,0,2764)] Qn
noncomputable def q31:Pc:=⟨2669,2766,[2698],[⟨360,2729,2725,"known_readers"⟩,⟨364,2757,2753,"gsub_octets"⟩,⟨365,2764,2760,"gpos_octets"⟩],[2725,2753,2760],[],0⟩
def tZ (w:World):List aV:=gq w [("known_writers",4224,(.ref 2772)),("tables_from",4231,(.ref 2779)),("_law_draw",4243,(.ref 2786)),("_law_layout",4252,(.ref 2793)),("_law_font",4268,(.ref 2800)),("_law_tags",4274,(.ref 2805)),("law",4280,(.ref 2810))] (gv [(0,(.str "law_pf0157_01" 4232))] (Qo w))
def Mx:List Value:=sN [(2349,0,2771),(2353,0,2778),(2356,0,2785),(2363,0,2792),(2365,0,2799),(2375,0,2804),(2381,0,2809)] Qp
noncomputable def Z6:Pc:=⟨2766,2811,[],[⟨366,2771,2767,"known_writers"⟩],[2767],[],2810⟩
end
section
theorem My:∀d a o,(I1 d).get a=O o->o=hole:=by
 intro d
 induction d with
 |zero=>
  intro a o h;exact fn h
 |succ d b=>
  intro a o h;have h:(BT.node hole (I1 d) (I1 d)).get a=O o:=h;rw [BT.get_node] at h;split at h
  .exact(aF h).symm
  .split at h
   .exact b _ o h
   .exact b _ o h
theorem G8 (a b c d e f) i:(six a b c d e f).get i=if i=13 then O f else if i=12 then O e else if i=4 then O d else if i=3 then O c else if i=2 then O b else if i=0 then O a else(I1 12).get i:=U (pg f _ 13 (by kernel_rfl) ..) (U (pg e _ 12 (by kernel_rfl) ..) (U (pg d _ 4 (by kernel_rfl) ..) (U (pg c _ 3 (by kernel_rfl) ..) (U (pg b _ 2 (by kernel_rfl) ..) (U (pg a _ 0 (by kernel_rfl) ..) rfl)))))
theorem Eo {x:Nat->Option Obj} (l:x 0=O a) (h2:x 2=O b) (m:x 3=O c) (n:x 4=O d) (g:x 12=O e) (h:x 13=O f)
 (p:alive a=O a) (r:alive b=O b) (s:alive c=O c) (t:alive d=O d) (j:alive e=O e) (k:alive f=O f) i:pick (x i) ((six a b c d e f).get i)=x i:=by
 refine U (G8 ..) ?_;by_cases q:i=13
 .subst q;exact U (if_pos rfl) (U (eS k) (U h rfl))
 refine U (if_neg q) ?_;by_cases q:i=12
 .subst q;exact U (if_pos rfl) (U (eS j) (U g rfl))
 refine U (if_neg q) ?_;by_cases q:i=4
 .subst q;exact U (if_pos rfl) (U (eS t) (U n rfl))
 refine U (if_neg q) ?_;by_cases q:i=3
 .subst q;exact U (if_pos rfl) (U (eS s) (U m rfl))
 refine U (if_neg q) ?_;by_cases q:i=2
 .subst q;exact U (if_pos rfl) (U (eS r) (U h2 rfl))
 refine U (if_neg q) ?_;by_cases q:i=0
 .subst q;exact U (if_pos rfl) (U (eS p) (U l rfl))
 refine U (if_neg q) ?_
 induction u:(I1 12).get i using zO with
 |none=>rfl
 |some o=>refine U (My 12 i o u) ?_;rfl
theorem FY {life} (h:∀i,i<n->pick (x i) (T.get i)=pick (x' i) (T'.get i)):nI x T n life=nI x' T' n life:=by
 unfold nI;congr 2;exact nD λi hi=>U (h i (List.mem_range.mp hi)) rfl
theorem Mz {life} (h:∀i,i<n->pick (x i) (T.get i)=t.get i):absHeap t n life=nI x T n life:=by
 unfold nI absHeap BT.list;congr 2;exact nD λi hi=>U (h i (List.mem_range.mp hi)) rfl
theorem Bu w j L n R:alive (sC w.params)=O (sC w.params)/\alive (o2 w j)=O (o2 w j)/\alive (o3 L n)=O (o3 L n)/\alive (boot_o_4 w.params)=O (boot_o_4 w.params)/\alive (W7 R)=O (W7 R)/\alive W8=O W8:=
 ⟨rfl,by rcases j<;>rfl,rfl,rfl,rfl,rfl⟩
def m9 (h:Heap) (p:Pc):Prop:=∃g:Nat->Option Obj,(∀a o,g a=O o->p.lo<=a/\a<p.hi/\h.get? a=O o)/\(G7 p.lo p.hi).map (λd=>xr g iO O9 d.2.ds d.1)=(G7 p.lo p.hi).map (λd=>zS d.2)/\facts g p.cs p.ms p.ts p.tg p.lw=H
abbrev qj (w:World) (M:Nat) (s:Shared) (t:Thread):Option Shared:=topRun treeTable P0 w 11 (O (.ref 6)) M s t
theorem stx {s:SharedT} (h:(s.n,s.toks,s.life,s.gens,s.drawn,s.os)=(n,k,l,g,d,o)):s=⟨s.tree,n,l,g,d,k,o⟩:=by
 obtain⟨T,f,i,j,m,p,q⟩:=s;injection h with h1 h
 injection h with h2 h
 injection h with a h
 injection h with b h
 injection h with c e
 subst h1 h2 a b c e;rfl
theorem G9 {os} (h:Pp p q=Us w os j L n R p k e):q=(tw,⟨q.2.1.tree,p.hi,{},#[],{},k,os⟩,cB,e):=
 Prod.ext (congrArg (λz=>z.1) h) (Prod.ext (stx (congrArg (λz=>z.2.2.2.1) h)) (Prod.ext (congrArg (λz=>z.2.1) h) (congrArg (λz=>z.2.2.1) h)))
theorem W9 {a b c d e f g i c' j l m:α} (h:[a,b,c,d,e,f]=[g,i,c',j,l,m]) {P:Prop} (k:a=g->b=i->c=c'->d=j->e=l->f=m->P):P:=by
 injection h with h1 h
 injection h with h2 h
 injection h with n h
 injection h with o h
 injection h with p h
 injection h with q h
 exact k h1 h2 n o p q
theorem Qq {lo n a} {os} {o} (e:gT lo ⟨T,n,l,g,d,k,os⟩ a=O o):lo<=a/\a<n/\BT.get T a=O o/\alive o=O o:=by
 refine aC (dM (show(ah au (ah au (aB au (λo=>alive o) (BT.get T a)) (bI a n)) (bQ lo a):Option Obj)=O o from e)) λe b=>aC (dM e) λe c=>aL (pX e) λy e f=> ?_;have hy:=p7 e;subst hy;exact⟨aA b,aA c,f,e⟩
theorem Qt {L c:World->List aV} (g:15<=p.lo) w os x
 (t:Mw P0 w p.lo (O (.ref 12)) N (stK w os j (L w) n R p.lo k) (piecesOf (slice i m) zV cB pa Ph)=O (tw,⟨T,p.hi,{},#[],{},k',os⟩,cB,pe))
 (h:Pp p (tw,⟨T,p.hi,{},#[],{},k',os⟩,cB,pe)=Us w os j' (c w) n' R' p k' pe):
 ∃l,(∀M r,qj w M (mU l (stK w os j' (c w) n' R' p.hi k')) (restOf (pQ.drop (i+m)) zV cB pe Ph)=O r->qj w (N+M) (mU x (stK w os j (L w) n R p.lo k)) (restOf (pQ.drop i) zV cB pa Ph)=O r)/\
  (∀b o,b<p.lo->b≠3->b≠2->b≠12->(mU x (stK w os j (L w) n R p.lo k)).heap.get? b=O o->(mU l (stK w os j' (c w) n' R' p.hi k')).heap.get? b=O o)/\
  m9 (mU l (stK w os j' (c w) n' R' p.hi k')).heap p:=by
 refine W9 (congrArg (λz=>z.2.2.2.2.1) h) λD E F G q s=> ?_;rw [<-Pn] at t;refine gb (NK (x:=x) (m:=11) (P:=12) (ann:=O (.ref 6)) (f6 g) (aA rfl) t) λh1 h2=>yy (Bu w j' (c w) n' R') λu v y A d f=> ?_;have hx:mU (λa=>pick (x a) (T.get a)) (stK w os j' (c w) n' R' p.hi k')=mU x ⟨T,p.hi,{},#[],{},k',os⟩:=by
  refine(?_:Shared.mk _ _ _ _ _=Shared.mk _ _ _ _ _);congr 1;exact FY λa ha=>Eo (x:=λa=>pick (x a) (T.get a)) (by show pick _ _=_;exact U D (U (eS v) rfl)) (by show pick _ _=_;exact U E (U (eS y) rfl)) (by show pick _ _=_;exact U F (U (eS u) rfl)) (by show pick _ _=_;exact U G (U (eS A) rfl)) (by show pick _ _=_;exact U q (U (eS d) rfl)) (by show pick _ _=_;exact U s (U (eS f) rfl)) v y u A d f a
 refine f7 (λa=>pick (x a) (T.get a)) (λM r B=> ?_) (λb o I J K Q e=> ?_) ⟨gT p.lo ⟨T,p.hi,{},#[],{},k',os⟩,λa o e=> ?_,congrArg (λz=>z.2.2.2.2.2.1) h,congrArg (λz=>z.2.2.2.2.2.2) h⟩
 .rw [hx] at B;have S:pQ.drop i=slice i m++pQ.drop (i+m):=by unfold slice;refine cL sR ?_;exact(l0 m _).symm
  exact U S (piece_app h1 B)
 .refine U hx ?_;exact h2 b o I J K Q e
 .exact U hx (z04 (Qq e) λV C q3 q4=>iX V C (uz C q3 q4))
theorem glue (P:Piece i m N pa pe p j j' L L' n n' R R' k k') (a:15<=p.lo) w os x:
 ∃c,(∀M r,qj w M (mU c (stK w os j' (L' w) n' R' p.hi k')) (restOf (pQ.drop (i+m)) zV cB pe Ph)=O r->qj w (N+M) (mU x (stK w os j (L w) n R p.lo k)) (restOf (pQ.drop i) zV cB pa Ph)=O r)/\
  (∀b o,b<p.lo->b≠3->b≠2->b≠12->(mU x (stK w os j (L w) n R p.lo k)).heap.get? b=O o->(mU c (stK w os j' (L' w) n' R' p.hi k')).heap.get? b=O o)/\
  m9 (mU c (stK w os j' (L' w) n' R' p.hi k')).heap p:=
 dN (qo.mp (P w os)) λq e d=>Qt a w os x (e.trans (congrArg O (G9 d))) ((congrArg (Pp p) (G9 d)).symm.trans d)
def Reach (w:World) (os:OsState) (i:Nat) (pe:Pos) (j:Nat) (L:World->List aV) (n:Nat) (R:List Value) (m k:Nat) (l:List Pc):Prop:=
 ∃(x:Nat->Option Obj) (N:Nat),(∀M r,qj w M (mU x (stK w os j (L w) n R m k)) (restOf (pQ.drop i) zV cB pe Ph)=O r->qj w (N+M) ⟨boot_heap w.params,#[],boot_drawn,boot_toks,os⟩ (topStub P0)=O r)/\
  ∀p∈l,15<=p.lo/\p.hi<=m/\m9 (mU x (stK w os j (L w) n R m k)).heap p
theorem bR {os} (P:Piece i m N pa pe p j j' L L' n n' R R' k k') (c:(bQ 15 p.lo&&bQ p.lo p.hi)=H)
 (ae7:Reach w os i pa j L n R p.lo k l):Reach w os (i+m) pe j' L' n' R' p.hi k' (p::l):=by
 refine HA ae7 λx q h1 h2=>gb (cO.mp c) λb d=> ?_;have b:=aA b;refine jB (glue P b w os x) λs t u v=>mZ s (q+N) (λM r y=> ?_) (λz hp=> ?_)
 .refine U (j6 ..) ?_;exact h1 _ r (t M r y)
 .rcases aT.mp hp with rfl|hp
  .exact iX b (bu _) v
  .obtain⟨A,f,g,a3,B,C⟩:=h2 z hp;refine⟨A,aI f (aA d),g,λa o e=> ?_,B,C⟩;exact iP (a3 a o e) λD E h=>iX E h (u a o (aQ h f) (by lia) (by lia) (by lia) D)
end
section
def st0 (w:World) (os:OsState):SharedT:=⟨Rz w.params,11,(boot_heap w.params).life,#[],boot_drawn,boot_toks,os⟩
theorem boot_abs (w:World):absHeap (Rz w.params) 11 (boot_heap w.params).life=boot_heap w.params:=by kernel_rfl
def CQ (w:World):Nat->SharedT->Thread->Option (SharedT×Thread)
 |0,s,t=>O (s,t)
 |n+1,s,t=>match through t with
  |true=>au
  |false=>match stepOk 11 (O (.ref 6)) t with
   |false=>au
   |true=>match stepT (denote treeTable) P0 w s t with
    |some (s',t')=>CQ w n s' t'
    |none=>au
theorem MA:∀{n} {s s'} {t a},CQ w n s t=O (s',a)->topGo treeTable P0 w 11 (O (.ref 6)) n s.abs t=O (s'.abs,a):=by
 intro n
 induction n with
 |zero=>
  intro _ _ _ _ h;cases h;rfl
 |succ n e=>
  intro s s' t a h;unfold CQ at h;unfold topGo
  induction ht:through t using zB with
  |true=>rw [ht] at h;exact fn h
  |false=>
   rw [ht] at h
   induction hk:stepOk 11 (O (.ref 6)) t using zB with
   |false=>rw [hk] at h;exact fn h
   |true=>
    rw [hk] at h
    induction b:stepT (denote treeTable) P0 w s t using zO with
    |none=>rw [b] at h;exact fn h
    |some r=>obtain⟨c,d⟩:=r;rw [b] at h;refine U (stepT_spec b) ?_;exact e h
def thB:Thread:=⟨denote treeTable (.body pQ zV),cB,p0,Ph⟩
theorem Qu w os:(CQ w 12 (st0 w os) (topStub P0)).map (λq=>(q.2,(q.1.n,q.1.toks,q.1.life,q.1.gens,q.1.drawn,q.1.os),[q.1.tree.get 0,q.1.tree.get 2,q.1.tree.get 3,q.1.tree.get 4,q.1.tree.get 12,q.1.tree.get 13]))=
 O (thB,((15,187,({}:Life),(#[]:Array GenState),({}:Drawn),os):Nat×Nat×Life×Array GenState×Drawn×OsState),[O (sC w.params),O (o2 w 0),O (o3 (Vx w) 9),O (boot_o_4 w.params),O (W7 Vy),O W8]):=by kernel_rfl
theorem Ut w h g d k os:segRun treeTable P0 w 11 (O (.ref 6)) 1 1 ⟨h,g,d,k,os⟩ (blockOf pQ zV cB p0 [topFrame p0])=O (.next,⟨h,g,d,k,os⟩,cB,p0):=by kernel_rfl
theorem Xa w h g d k os pe:qj w 2 ⟨h,g,d,k,os⟩ (restOf [] zV cB pe Ph)=O ⟨h,g,d,k,os⟩:=by kernel_rfl
theorem Uu w os:Reach w os 0 p0 0 Vx 9 Vy 15 187 []:=by
 refine dN (qo.mp (Qu w os)) λq d e=> ?_;have d:=d.trans (congrArg O (show q=(⟨q.1.tree,15,{},#[],{},187,os⟩,thB) from Prod.ext (stx (congrArg (λz=>z.2.1) e)) (congrArg (λz=>z.1) e)));refine W9 (congrArg (λz=>z.2.2) e) λi j k l b c=> ?_;generalize q.1.tree=T at d i j k l b c;refine yy (Bu w 0 (Vx w) 9 Vy) λn o s t f g=> ?_;have hx:mU (λa=>T.get a) (stK w os 0 (Vx w) 9 Vy 15 187)=SharedT.abs ⟨T,15,{},#[],{},187,os⟩:=by
  refine(?_:Shared.mk _ _ _ _ _=Shared.mk _ _ _ _ _);refine congrArg (λh=>Shared.mk h _ _ _ _) ?_;exact(Mz λa v=>Eo (x:=λa=>T.get a) i j k l b c o s n t f g a).symm
 have u:(st0 w os).abs=⟨boot_heap w.params,#[],boot_drawn,boot_toks,os⟩:=by
  refine cL (boot_abs w) ?_;rfl
 refine mZ (λa=>T.get a) (12+1) (λM r m=> ?_) (λp hp=>(aU hp).elim);rw [hx] at m;exact cL u (U (j6 ..) (go_top (MA d) (piece_block (Ut w _ _ _ _ _) m)))
theorem I2 {os} (hi:pQ.drop i=[]) (ae7:Reach w os i pe j L n R m k l):
 ∃x N,qj w N ⟨boot_heap w.params,#[],boot_drawn,boot_toks,os⟩ (topStub P0)=O (mU x (stK w os j (L w) n R m k))/\∀p∈l,m9 (mU x (stK w os j (L w) n R m k)).heap p:=by
 refine HA ae7 λx N h1 h2=>mZ x (N+2) (h1 2 _ ?_) (λp hp=>(h2 p hp).2.2);exact U hi (Xa w _ _ _ _ _ pe)
end
section
theorem pc0:Piece 0 5 749 ⟨0,0,0,0⟩ ⟨16,0,17,8⟩ q0 0 1 Vx YW 9 13 Vy YX 187 270:=λw os=>by kernel_rfl
theorem pc5:Piece 34 14 628 ⟨236,0,240,23⟩ ⟨325,0,335,16⟩ q5 1 1 Y6 Y8 40 53 Y7 Y9 708 861:=λw os=>by kernel_rfl
theorem Z7:Piece 106 12 640 ⟨816,0,821,107⟩ ⟨908,0,913,64⟩ q10 1 1 Pq Pu 108 119 Pr Pw 1520 1673:=λw os=>by kernel_rfl
theorem Z8:Piece 180 7 594 ⟨1289,0,1289,8⟩ ⟨1329,0,1335,100⟩ q15 1 1 PE PG 174 180 PF PJ 2234 2334:=λw os=>by kernel_rfl
theorem Z9:Piece 238 2 508 ⟨1629,0,1635,23⟩ ⟨1644,0,1657,66⟩ q20 1 1 PW PY 224 226 PX PZ 2814 2889:=λw os=>by kernel_rfl
theorem aac:Piece 276 25 644 ⟨1861,0,1861,13⟩ ⟨2005,0,2005,8⟩ q25 1 1 P9 Qc 258 279 Qa Qd 3336 3521:=λw os=>by kernel_rfl
theorem aad:Piece 350 6 347 ⟨2249,0,2253,23⟩ ⟨2295,0,2295,18⟩ q30 1 1 Qk Qm 325 330 Ql Qn 4020 4085:=λw os=>by kernel_rfl
end
section
theorem pc1:Piece 5 6 143 ⟨16,0,17,8⟩ ⟨31,0,34,17⟩ q1 1 1 YW YY 13 18 YX YZ 270 310:=λw os=>by kernel_rfl
theorem pc6:Piece 48 14 633 ⟨325,0,335,16⟩ ⟨412,0,419,88⟩ q6 1 1 Y8 Za 53 66 Y9 Zb 861 1015:=λw os=>by kernel_rfl
theorem aae:Piece 118 15 603 ⟨908,0,913,64⟩ ⟨1001,0,1013,49⟩ q11 1 1 Pu Px 119 133 Pw Py 1673 1807:=λw os=>by kernel_rfl
theorem aaf:Piece 187 7 628 ⟨1329,0,1335,100⟩ ⟨1377,0,1386,61⟩ q16 1 1 PG PK 180 186 PJ PN 2334 2438:=λw os=>by kernel_rfl
theorem aag:Piece 240 14 643 ⟨1644,0,1657,66⟩ ⟨1725,0,1726,54⟩ q21 1 1 PY P1 226 239 PZ P4 2889 3047:=λw os=>by kernel_rfl
theorem aah:Piece 301 21 590 ⟨2005,0,2005,8⟩ ⟨2088,0,2088,18⟩ q26 1 1 Qc Qe 279 298 Qd Qf 3521 3658:=λw os=>by kernel_rfl
theorem aai:Piece 356 10 629 ⟨2295,0,2295,18⟩ ⟨2347,0,2348,98⟩ q31 1 1 Qm Qo 330 340 Qn Qp 4085 4219:=λw os=>by kernel_rfl
end
section
theorem pc2:Piece 11 2 561 ⟨31,0,34,17⟩ ⟨76,0,79,83⟩ q2 1 1 YY Y0 18 20 YZ Y3 310 420:=λw os=>by kernel_rfl
theorem pc7:Piece 62 20 635 ⟨412,0,419,88⟩ ⟨577,0,596,23⟩ q7 1 1 Za Zc 66 86 Zb Zd 1015 1223:=λw os=>by kernel_rfl
theorem aaj:Piece 133 13 635 ⟨1001,0,1013,49⟩ ⟨1093,0,1099,119⟩ q12 1 1 Px Pz 133 145 Py PB 1807 1967:=λw os=>by kernel_rfl
theorem aak:Piece 194 20 464 ⟨1377,0,1386,61⟩ ⟨1488,0,1488,12⟩ q17 1 1 PK PO 186 203 PN PR 2438 2563:=λw os=>by kernel_rfl
theorem aal:Piece 254 10 482 ⟨1725,0,1726,54⟩ ⟨1768,0,1774,15⟩ q22 1 1 P1 P5 239 248 P4 P6 3047 3151:=λw os=>by kernel_rfl
theorem aam:Piece 322 2 510 ⟨2088,0,2088,18⟩ ⟨2097,0,2106,86⟩ q27 1 1 Qe Qg 298 300 Qf Qh 3658 3735:=λw os=>by kernel_rfl
theorem aan:Piece 366 8 220 ⟨2347,0,2348,98⟩ ⟨2381,0,2392,56⟩ Z6 1 1 Qo tZ 340 347 Qp Mx 4219 4281:=λw os=>by kernel_rfl
end
section
theorem pc3:Piece 13 9 635 ⟨76,0,79,83⟩ ⟨141,0,141,9⟩ q3 1 1 Y0 Y4 20 28 Y3 Y5 420 551:=λw os=>by kernel_rfl
theorem pc8:Piece 82 12 644 ⟨577,0,596,23⟩ ⟨708,0,715,59⟩ q8 1 1 Zc Ze 86 97 Zd Zf 1223 1375:=λw os=>by kernel_rfl
theorem aao:Piece 146 21 582 ⟨1093,0,1099,119⟩ ⟨1227,0,1232,16⟩ q13 1 1 Pz PC 145 164 PB PD 1967 2139:=λw os=>by kernel_rfl
theorem aap:Piece 214 14 603 ⟨1488,0,1488,12⟩ ⟨1577,0,1577,17⟩ q18 1 1 PO PS 203 216 PR PU 2563 2697:=λw os=>by kernel_rfl
theorem aaq:Piece 264 7 395 ⟨1768,0,1774,15⟩ ⟨1820,0,1821,69⟩ q23 1 1 P5 P7 248 254 P6 P8 3151 3220:=λw os=>by kernel_rfl
theorem aar:Piece 324 6 622 ⟨2097,0,2106,86⟩ ⟨2143,0,2148,72⟩ q28 1 1 Qg Qi 300 305 Qh Qj 3735 3849:=λw os=>by kernel_rfl
end
section
theorem pc4:Piece 22 12 641 ⟨141,0,141,9⟩ ⟨236,0,240,23⟩ q4 1 1 Y4 Y6 28 40 Y5 Y7 551 708:=λw os=>by kernel_rfl
theorem pc9:Piece 94 12 643 ⟨708,0,715,59⟩ ⟨816,0,821,107⟩ q9 1 1 Ze Pq 97 108 Zf Pr 1375 1520:=λw os=>by kernel_rfl
theorem aas:Piece 167 13 500 ⟨1227,0,1232,16⟩ ⟨1289,0,1289,8⟩ q14 1 1 PC PE 164 174 PD PF 2139 2234:=λw os=>by kernel_rfl
theorem aat:Piece 228 10 552 ⟨1577,0,1577,17⟩ ⟨1629,0,1635,23⟩ q19 1 1 PS PW 216 224 PU PX 2697 2814:=λw os=>by kernel_rfl
theorem aau:Piece 271 5 648 ⟨1820,0,1821,69⟩ ⟨1861,0,1861,13⟩ q24 1 1 P7 P9 254 258 P8 Qa 3220 3336:=λw os=>by kernel_rfl
theorem aav:Piece 330 20 596 ⟨2143,0,2148,72⟩ ⟨2249,0,2253,23⟩ q29 1 1 Qi Qk 305 325 Qj Ql 3849 4020:=λw os=>by kernel_rfl
end
section
def pl0:List Pc:=q0::[]
theorem rk0 (w:World) (os:OsState):Reach w os 5 ⟨16,0,17,8⟩ 1 YW 13 YX 76 270 pl0:=(bR pc0 rfl (Uu w os):)
def pl1:List Pc:=q1::pl0
theorem rk1 (w:World) (os:OsState):Reach w os 11 ⟨31,0,34,17⟩ 1 YY 18 YZ 104 310 pl1:=(bR pc1 rfl (rk0 w os):)
def pl2:List Pc:=q2::pl1
theorem rk2 (w:World) (os:OsState):Reach w os 13 ⟨76,0,79,83⟩ 1 Y0 20 Y3 197 420 pl2:=(bR pc2 rfl (rk1 w os):)
def pl3:List Pc:=q3::pl2
theorem rk3 (w:World) (os:OsState):Reach w os 22 ⟨141,0,141,9⟩ 1 Y4 28 Y5 292 551 pl3:=(bR pc3 rfl (rk2 w os):)
def pl4:List Pc:=q4::pl3
theorem rk4 (w:World) (os:OsState):Reach w os 34 ⟨236,0,240,23⟩ 1 Y6 40 Y7 404 708 pl4:=(bR pc4 rfl (rk3 w os):)
def pl5:List Pc:=q5::pl4
theorem rk5 (w:World) (os:OsState):Reach w os 48 ⟨325,0,335,16⟩ 1 Y8 53 Y9 500 861 pl5:=(bR pc5 rfl (rk4 w os):)
def pl6:List Pc:=q6::pl5
theorem rk6 (w:World) (os:OsState):Reach w os 62 ⟨412,0,419,88⟩ 1 Za 66 Zb 598 1015 pl6:=(bR pc6 rfl (rk5 w os):)
def pl7:List Pc:=q7::pl6
theorem rk7 (w:World) (os:OsState):Reach w os 82 ⟨577,0,596,23⟩ 1 Zc 86 Zd 728 1223 pl7:=(bR pc7 rfl (rk6 w os):)
def pl8:List Pc:=q8::pl7
theorem rk8 (w:World) (os:OsState):Reach w os 94 ⟨708,0,715,59⟩ 1 Ze 97 Zf 837 1375 pl8:=(bR pc8 rfl (rk7 w os):)
def pl9:List Pc:=q9::pl8
theorem rk9 (w:World) (os:OsState):Reach w os 106 ⟨816,0,821,107⟩ 1 Pq 108 Pr 941 1520 pl9:=(bR pc9 rfl (rk8 w os):)
def Xb:List Pc:=q10::pl9
theorem aaw (w:World) (os:OsState):Reach w os 118 ⟨908,0,913,64⟩ 1 Pu 119 Pw 1044 1673 Xb:=(bR Z7 rfl (rk9 w os):)
def Xc:List Pc:=q11::Xb
theorem aax (w:World) (os:OsState):Reach w os 133 ⟨1001,0,1013,49⟩ 1 Px 133 Py 1134 1807 Xc:=(bR aae rfl (aaw w os):)
def Xd:List Pc:=q12::Xc
theorem aay (w:World) (os:OsState):Reach w os 146 ⟨1093,0,1099,119⟩ 1 Pz 145 PB 1229 1967 Xd:=(bR aaj rfl (aax w os):)
def Xe:List Pc:=q13::Xd
theorem aaz (w:World) (os:OsState):Reach w os 167 ⟨1227,0,1232,16⟩ 1 PC 164 PD 1343 2139 Xe:=(bR aao rfl (aay w os):)
def Xf:List Pc:=q14::Xe
theorem aaA (w:World) (os:OsState):Reach w os 180 ⟨1289,0,1289,8⟩ 1 PE 174 PF 1410 2234 Xf:=(bR aas rfl (aaz w os):)
def Xg:List Pc:=q15::Xf
theorem aaB (w:World) (os:OsState):Reach w os 187 ⟨1329,0,1335,100⟩ 1 PG 180 PJ 1474 2334 Xg:=(bR Z8 rfl (aaA w os):)
def Xh:List Pc:=q16::Xg
theorem aaC (w:World) (os:OsState):Reach w os 194 ⟨1377,0,1386,61⟩ 1 PK 186 PN 1550 2438 Xh:=(bR aaf rfl (aaB w os):)
def Xi:List Pc:=q17::Xh
theorem aaD (w:World) (os:OsState):Reach w os 214 ⟨1488,0,1488,12⟩ 1 PO 203 PR 1639 2563 Xi:=(bR aak rfl (aaC w os):)
def Xj:List Pc:=q18::Xi
theorem aaE (w:World) (os:OsState):Reach w os 228 ⟨1577,0,1577,17⟩ 1 PS 216 PU 1737 2697 Xj:=(bR aap rfl (aaD w os):)
def Xk:List Pc:=q19::Xj
theorem aaF (w:World) (os:OsState):Reach w os 238 ⟨1629,0,1635,23⟩ 1 PW 224 PX 1818 2814 Xk:=(bR aat rfl (aaE w os):)
def Xl:List Pc:=q20::Xk
theorem aaG (w:World) (os:OsState):Reach w os 240 ⟨1644,0,1657,66⟩ 1 PY 226 PZ 1872 2889 Xl:=(bR Z9 rfl (aaF w os):)
def Xm:List Pc:=q21::Xl
theorem aaH (w:World) (os:OsState):Reach w os 254 ⟨1725,0,1726,54⟩ 1 P1 239 P4 1978 3047 Xm:=(bR aag rfl (aaG w os):)
def Xn:List Pc:=q22::Xm
theorem aaI (w:World) (os:OsState):Reach w os 264 ⟨1768,0,1774,15⟩ 1 P5 248 P6 2046 3151 Xn:=(bR aal rfl (aaH w os):)
def Xo:List Pc:=q23::Xn
theorem aaJ (w:World) (os:OsState):Reach w os 271 ⟨1820,0,1821,69⟩ 1 P7 254 P8 2100 3220 Xo:=(bR aaq rfl (aaI w os):)
def Xp:List Pc:=q24::Xo
theorem aaK (w:World) (os:OsState):Reach w os 276 ⟨1861,0,1861,13⟩ 1 P9 258 Qa 2180 3336 Xp:=(bR aau rfl (aaJ w os):)
def Xq:List Pc:=q25::Xp
theorem aaL (w:World) (os:OsState):Reach w os 301 ⟨2005,0,2005,8⟩ 1 Qc 279 Qd 2306 3521 Xq:=(bR aac rfl (aaK w os):)
def Xr:List Pc:=q26::Xq
theorem aaM (w:World) (os:OsState):Reach w os 322 ⟨2088,0,2088,18⟩ 1 Qe 298 Qf 2375 3658 Xr:=(bR aah rfl (aaL w os):)
def Xs:List Pc:=q27::Xr
theorem aaN (w:World) (os:OsState):Reach w os 324 ⟨2097,0,2106,86⟩ 1 Qg 300 Qh 2429 3735 Xs:=(bR aam rfl (aaM w os):)
def Xu:List Pc:=q28::Xs
theorem aaO (w:World) (os:OsState):Reach w os 330 ⟨2143,0,2148,72⟩ 1 Qi 305 Qj 2504 3849 Xu:=(bR aar rfl (aaN w os):)
def Xv:List Pc:=q29::Xu
theorem aaP (w:World) (os:OsState):Reach w os 350 ⟨2249,0,2253,23⟩ 1 Qk 325 Ql 2628 4020 Xv:=(bR aav rfl (aaO w os):)
def Xw:List Pc:=q30::Xv
theorem aaQ (w:World) (os:OsState):Reach w os 356 ⟨2295,0,2295,18⟩ 1 Qm 330 Qn 2669 4085 Xw:=(bR aad rfl (aaP w os):)
def Xx:List Pc:=q31::Xw
theorem aaR (w:World) (os:OsState):Reach w os 366 ⟨2347,0,2348,98⟩ 1 Qo 340 Qp 2766 4219 Xx:=(bR aai rfl (aaQ w os):)
def Xy:List Pc:=Z6::Xx
theorem aaS (w:World) (os:OsState):Reach w os 374 ⟨2381,0,2392,56⟩ 1 tZ 347 Mx 2811 4281 Xy:=(bR aan rfl (aaR w os):)
end
set_option backward.match.sparseCases false
section
@[irreducible] def dL:List (Nat×K.NG):=NT.list K.dT
theorem zW:dL=NT.list K.dT:=by unfold dL;rfl
theorem CR:dL.all Mu=true:=zW▸(by kernel_rfl:(NT.list K.dT).all Mu=H)
theorem MB:dL.all W6=true:=zW▸(by kernel_rfl:(NT.list K.dT).all W6=H)
theorem Hf:jy.all (λq=>Mq q.2)=true:=by kernel_rfl
def Sn (p:Nat×K.NG):Bool:=ah H (isNil p.2.ds&&(ah (ak p.2.i 365&&ak p.2.j 2291) (ak p.2.j 1638) (ak p.2.i 364))) (ak p.2.t 3)
theorem Ep:dL.all Sn=true:=zW▸(by kernel_rfl:(NT.list K.dT).all Sn=H)
theorem Qv:NT.list K.Uk=jy.map (λp=>(p.1,K.Me p.2)):=by kernel_rfl
theorem Xz i (h:i=360\/i=366):K.lams (K.vf (K.fnBody (K.top i)))=[m8 i 0,m8 i 1]:=by rcases h with rfl|rfl<;>kernel_rfl
theorem yi:find (aG (cM (FW (m8 360 0)).line 4096) (FW (m8 360 0)).col) jy=O (m8 360 0)/\find (aG (cM (FW (m8 360 1)).line 4096) (FW (m8 360 1)).col) jy=O (m8 360 1)/\
 find (aG (cM (FW (m8 366 0)).line 4096) (FW (m8 366 0)).col) jy=O (m8 366 0)/\find (aG (cM (FW (m8 366 1)).line 4096) (FW (m8 366 1)).col) jy=O (m8 366 1):=qK (by kernel_rfl) (by kernel_rfl) (by kernel_rfl) (by kernel_rfl)
def MC (i:Nat):Bool:=match K.fnBody (K.top i) with
 |[.Return (O (.Dict ks _ _)) _]=>ks.all λk=>match k with|some e=> !mO e|none=>H
 |_=>H
theorem Er:MC 360=H/\MC 366=true:=⟨by kernel_rfl,by kernel_rfl⟩
theorem So:O9 (Ar 360)=O (2729,(bY "known_readers")++".<locals>.")/\O9 (Ar 366)=O (2771,(bY "known_writers")++".<locals>."):=⟨by kernel_rfl,by kernel_rfl⟩
theorem Es:gD (Ar 360)=aj/\gD (Ar 366)=false:=⟨by kernel_rfl,by kernel_rfl⟩
theorem Uv:NT.find K.dT 2744=O ⟨0,362,0,[]⟩:=by kernel_rfl
theorem MD:∀{l},e∈l->mO e=H->e∈K.lams l:=by
 intro l
 induction l with
 |nil=>
  intro h _;exact(aU h).elim
 |cons x l a=>
  intro h hl;have b:K.lams (x::l)=ah (K.lams l) (x::K.lams l) (K.Mf x):=rfl;have c:K.Mf=mO:=by funext y;rcases y<;>rfl
  refine U b (U c ?_);rcases aT.mp h with rfl|h
  .refine U hl ?_;exact aE ..
  .have:=a h hl
   induction mO x using zB with
   |true=>exact aD _ this
   |false=>exact this
section
variable {w:World} {h:Heap}
def pl:List Pc:=Xy
def aaT:List (Nat×Nat):=pl.flatMap (·.tg)
abbrev Tells (h:Heap) (g:Nat->Option Obj):Prop:=∀a o,g a=O o->h.get? a=O o
structure Good (w:World) (h:Heap):Prop where
 main:h.get? mainNs=O (o3 (tZ w) 347)
 blt:h.get? builtinsNs=O (sC w.params)
 bmod:h.get? 4=O (boot_o_4 w.params)
 aaU:h.get? cStatics=O (o2 w 1)
 XC:∀p∈pl,m9 h p
theorem Uw:dL.all (λd=>pl.any λp=>bQ p.lo d.1&&bI d.1 p.hi)=true:=zW▸(by kernel_rfl:(NT.list K.dT).all (λd=>pl.any λp=>bQ p.lo d.1&&bI d.1 p.hi)=H)
theorem Qw:G6.all (λC=>pl.any λp=> !jl C p.cs)=true:=by kernel_rfl
theorem Qx:iO.all (λC=>pl.any λp=> !jl C p.ts)=true:=by kernel_rfl
theorem Ux:pl.reverse.flatMap (·.ms)=O8:=by kernel_rfl
theorem Hg:(NT.list K.ms).all Ml=true:=by kernel_rfl
theorem Uy:(NT.list K.ms).all (λp=>p.2.all λq=> !jl q.1 G6)=true:=by kernel_rfl
theorem ME:(NT.list K.init).all (λp=> !jl p.1 G6)=true:=by kernel_rfl
theorem MF w:(NT.list K.glob).all (gB (dictOf (o3 (tZ w) 347)) (dictOf (sC w.params)) aaT)=true:=by kernel_rfl
theorem vn w:Sk (o3 (tZ w) 347)=true:=by kernel_rfl
theorem Uz (w:World):Sk (sC w.params)=true:=by kernel_rfl
theorem Qy w:Sk (o2 w 1)=true:=by kernel_rfl
theorem UA w:Mn (nm "sys.recursionlimit") (dictOf (o2 w 1))=none:=by kernel_rfl
theorem MG w:Mn (nm "__builtins__") (dictOf (o3 (tZ w) 347))=O (.ref 4):=by kernel_rfl
theorem gG:∀{l},(!jl a l)=H->a∈l:=by
 intro l
 induction l with
 |nil=>
  intro h;exact ff h
 |cons b l c=>
  intro h;have h:(!(ah (jl a l) aj (ak a b):Bool))=true:=h
  induction hb:ak a b using zB with
  |true=>refine U (aH hb) ?_;exact aE ..
  |false=>rw [hb] at h;exact aD _ (c h)
theorem CS (G:Good w h) (hm:(a,d)∈dL):∃g,Tells h g/\xr g iO O9 d.ds a=zS d:=aL (iN.mp (aK.mp Uw _ hm)) λp b hp=>ju (G.XC p hp) λg c f i=>bW g (λa o e=>(f a o e).2.2) (Mm c (a,d) (gy.mpr ⟨zW▸hm,b⟩))
theorem rG {p:Pc} (h:facts g p.cs p.ms p.ts p.tg p.lw=H):p.cs.all (vj g)=H/\p.ms.all (λm=>codeHdIn (qv g [m.c]) m.c m.P&&jl m.c iO)=H/\p.ts.all (Ur g)=H/\p.tg.all (λq=>aB aj (λv=>vG g iO 5 v (.ref q.2)) (NT.find K.glob q.1))=H/\(ah (Po g p.lw) H (ak p.lw 0):Bool)=true:=by
 unfold facts at h;simp only [aP] at h;exact h
theorem MH (G:Good w h) {C} (b:C∈G6):∃g,Tells h g/\vj g C=true:=dN (iN.mp (aK.mp Qw _ b)) λp hp c=>ju (G.XC p hp) λg i d f=>bW g (λa o e=>(d a o e).2.2) (aK.mp (rG f).1 C (gG c))
theorem zX (b:Tells h g) (h1:vj g C=H):Fl (kX w h) (qv g (wG g C))/\(NT.list K.init).all (λp=>ah H (Uq (qv g (wG g C)) p) (ak p.1 C))=H/\(NT.list K.ms).all (FU (qv g (wG g C)) C)=true:=by
 unfold vj at h1;simp only [aP] at h1;exact⟨λa o e=>⟨b _ _ (vh e).1,fY (aK.mp h1.1 a (vh e).2)⟩,h1.2⟩
set_option tactic.hygienic true in
theorem tab_of (G:Good w h) {P} (b:P∈iO):h.get? P=O ⟨.none,au,.fields #[],#[]⟩:=by
 refine dN (iN.mp (aK.mp Qx _ b)) λp hp e=>ju (G.XC p hp) λg l f i=> ?_;have h:=aK.mp (rG i).2.2.1 P (gG e);unfold Ur at h;split at h
 .rename_i o j;obtain⟨c,d,m,n⟩:=o;simp only [aP] at h;refine qM h λa h1 h2 k=> ?_;split at h1
  .split at a
   .rename_i q;have a:=Array.empty_of_isEmpty a;exact U ((f _ _ j).2.2) (U (cT.mp h2) (U (Array.empty_of_isEmpty k) (U a rfl)))
   .exact ff a
  .exact ff h1
 .exact ff h
theorem MI (G:Good w h) (a:P∈iO):P<h.objs.size:=bk (tab_of G a)
theorem MJ (G:Good w h):∀p∈NT.list K.ms,∀q∈p.2,∃F,Fl (kX w h) F/\FU F q.1 p=true:=λp hp q hq=>by
 exact aL (MH G (gG (aK.mp (aK.mp Uy p hp) q hq))) λg g2 g1=>eZ (zX (w:=w) g1 g2) λu_ f1 f3=>bW _ f1 (aK.mp f3 p hp)
theorem ql (G:Good w h):Base (kX w h) [] K.G K.Ms where
 ax:=⟨⟩
 kx:=⟨λc x e=>e⟩
 gx:=O7 G.main G.blt (vn w) (Uz w) (show jl mainNs iO=H by rfl) (show jl builtinsNs iO=H by rfl) (MF w) λq hq=>by
  refine aL (List.mem_flatMap.mp hq) λp hq hp=>ju (G.XC p hp) λg u_ g1 g3=>bW g (λa o e=>(g1 a o e).2.2) (λv hv=> ?_);have:=aK.mp (rG g3).2.2.2.1 q hq;rw [hv] at this;exact this
 hbase:=by have:=MI G (P:=2725) (aE ..);show 10<=h.objs.size;exact f6 this
 htab:=λa ha=>MI G ha
 mo:=W0 Hg (MJ G)
 fl:=W2 Hg (MJ G)
theorem MK (G:Good w h):h.NoLimit:=aL (Bs G.aaU (Qy w)) λm a b=>bW m b ((a _ (by kernel_rfl)).trans (UA w))
theorem FZ (G:Good w h) (d:P∈iO):∀a h' s,St (kX w h) a h' s->∃b,s.heap.Ns ic b/\s.heap.BuiltinsAt b P:=by
 intro a h' s c;refine aL (Bs G.main (vn w)) λm f g=>⟨m,uK g λo e=>c.base _ o e (show mainNs∉iO by exact fY rfl),4,_,(f "__builtins__" (by kernel_rfl)).trans (MG w),by exact rO (aY rfl),by exact aY rfl,λq=> ?_,c.base _ _ G.bmod (show 4∉iO by exact fY rfl),rfl,rfl,rfl⟩;subst q;exact(show 4∉iO by exact fY rfl) d
theorem Hh (G:Good w h) (hm:m∈O8):∀b h' s,St (kX w h) b h' s->CodeHd s.heap m.c m.P:=λb h' s d=>by
 rw [<-Ux] at hm;refine dN (List.mem_flatMap.mp hm) λp hp hm=>ju (G.XC p (mq.mp hp)) λg k i j=> ?_;have e:=aK.mp (rG j).2.1 m hm;rw [aP] at e;have f:Fl (kX w h) (qv g [m.c]):=λa o q=>⟨(i _ _ (vh q).1).2.2,by refine U (eF.mp (vh q).2) ?_;exact fY e.2⟩;exact codeHd_of_K (f.In d) e.1
theorem ML (G:Good w h) (hi:i=360\/i=366) (hm:m∈O8) (l:m.P∈iO) (g:ic≠m.P) (o:O9 (Ar i)=O (m.c,qq)) (d:gD (Ar i)=aj) (hk:MC i=H)
 (hq:∀k,k=0\/k=1->find (aG (cM (FW (m8 i k)).line 4096) (FW (m8 i k)).col) jy=O (m8 i k)/\CN m.P (FW (m8 i k)).line (FW (m8 i k)).col=O (qq++"<lambda>"))
 (hb:K.fnBody (K.top i)=[.Return (O (.Dict ks vs p1)) p2]):(∀e,O e∈ks->pO (kX w h) r n 0 (Ar i) e)/\∀e∈vs,pO (kX w h) r n 0 (Ar i) e:=by
 constructor
 .intro e he a b sc pos q;subst q;have hk:(match K.fnBody (K.top i) with
   |[.Return (O (.Dict ks _ _)) _]=>ks.all λk=>match k with|some e=> !mO e|none=>H
   |_=>H)=true:=hk
  rw [hb] at hk;exact ff (aK.mp hk _ he)
 .intro e he;have p:K.vf (K.fnBody (K.top i))=vs:=U hb rfl;have hl:=Xz i hi;rw [p] at hl;have f:mO e=H->∃k,(k=0\/k=1)/\e=m8 i k:=λq=>by
   have:=MD he q;rw [hl] at this;rcases aT.mp this with q|q
   .exact bW 0 (.inl rfl) q
   .exact bW 1 (.inr rfl) (eF.mp q)
  refine Mr ⟨⟩ d o l (Hh G hm) (FZ G l) g (λs s=>rfl) (λq=> ?_) (λa b sc pos q=> ?_)
  .refine aL (f q) λk j=> ?_;subst j;intro hk;exact aK.mp Hf _ (zT (hq k hk).1)
  .refine dN (f (U q rfl)) λk hk t=> ?_;have:=hq k hk;rw [<-t,q] at this;refine U q ?_;exact this
theorem XD (G:Good w h) (hm:(a,d)∈dL):∀r n,Cg (kX w h) r n->∀ks vs b c,K.fnBody (yg d)=[.Return (O (.Dict ks vs b)) c]->(∀e,O e∈ks->pO (kX w h) r n 0 (oQ (yg d)).names e)/\∀e∈vs,pO (kX w h) r n 0 (oQ (yg d)).names e:=by
 intro r n l ks vs b c hb;have ht:=aK.mp MB _ hm;have ht:(ah (FT (K.fnBody (yg d))) H (Mv d):Bool)=true:=ht
 induction hl:Mv d using zB with
 |false=>rw [hl] at ht;exact Mj ht ks vs b c hb
 |true=>
  have hl:(ah aj (ah (ak d.i 366) H (ak d.i 360)) (ak d.t 0):Bool)=true:=hl;have g:ak d.t 0=true:=by
   induction q:ak d.t 0 using zB with
   |true=>rfl
   |false=>rw [q] at hl;exact ff hl
  rw [g] at hl;replace hl:(ah (ak d.i 366) H (ak d.i 360):Bool)=true:=hl;have f:yg d=K.top d.i:=by
   unfold yg;refine U (aH g) ?_;rfl
  rw [f] at hb⊢
  induction j:ak d.i 360 using zB with
  |true=>
   rw [aH j] at hb⊢;refine ML G (m:=⟨360,2729,2725,"known_readers"⟩) (.inl rfl) (aE ..) (aE ..) (aY rfl) So.1 Es.1 Er.1 (λk hk=> ?_) hb;rcases hk with rfl|rfl
   .exact⟨yi.1,rfl⟩
   .exact⟨yi.2.1,rfl⟩
  |false=>
   rw [j] at hl;rw [aH hl] at hb⊢;refine ML G (m:=⟨366,2771,2767,"known_writers"⟩) (.inr rfl) (mS rfl) (gG rfl) (aY rfl) So.2 Es.2 Er.2 (λk hk=> ?_) hb;rcases hk with rfl|rfl
   .exact⟨yi.2.2.1,rfl⟩
   .exact⟨yi.2.2.2,rfl⟩
theorem F0 {a:Addr} {F} (e:KT.fn a=O F):∃d,(a,d)∈dL/\F=K.CL d:=by
 have e:(aB au (λd=>O (K.CL d)) (K.dT.find a):Option Fn)=O F:=e
 induction b:K.dT.find a using zO with
 |none=>rw [b] at e;exact fn e
 |some d=>
  rw [b] at e;injection e with e;subst e
  exact bW d (zW▸NT.jm b) rfl
theorem I3 (e:ak d.t 3=aj) (f:bQ d.t 4=H):(K.CL d).prim=0:=by
 obtain⟨t,i,j,ds⟩:=d;have b:∀a,(K.fnOf a ds).prim=0:=λa=>by rcases a<;>rfl
 have c:∀a,(K.YT a ds).prim=0:=λa=>by rcases a<;>rfl
 rcases t with _|_|_|_|_|t
 .exact b _
 .exact c _
 .exact b _
 .exact ft e
 .exact c _
 .exact absurd (aA f) (Nat.not_le.mpr (rU 5 t))
theorem zY (a:ak d.t 3=H):(K.CL d).prim=d.j/\yg d=K.top d.i:=by
 obtain⟨t,i,j,ds⟩:=d;have:t=3:=aH a;exact U this (⟨rfl,rfl⟩)
theorem Qz (G:Good w h):Lg (kX w h) [] KT where
 cls:=λC f e=>by
  have e:NT.find K.init C=O f:=e;have hm:=NT.jm e;refine aL (MH G (gG (aK.mp ME _ hm))) λg P g1=>eZ (zX (w:=w) g1 P) λf2 f1 S=> ?_;have:=aK.mp f2 _ hm;dsimp only at this;rw [fu] at this;unfold Uq at this;simp only [aP,beq_iff_eq] at this;exact⟨_,f1,this.1,this.2.1,this.2.2⟩
 bi:=Uj ⟨⟩ (ql G).hbase (ql G).htab
 fnk:=λa F e=>by
  refine dN (F0 e) λd hm S=>aL (CS G hm) λg I u=>kJ (nU I) λo fd S h1 h2=> ?_;have ht:=aK.mp CR _ hm;unfold Mu at ht;rw [aP] at ht;exact jY o fd (u _ _ h1) h2 (fY ht.1)
 fn:=λa F e hp=>by
  refine aL (F0 e) λd c=> ?_;subst c;intro hm;have ht:=aK.mp CR _ hm;unfold Mu at ht;simp only [aP] at ht;refine iP ht λJ z V=> ?_;have D:ak d.t 3=false:=by
   induction q:ak d.t 3 using zB with
   |false=>rfl
   |true=>
    rw [(zY q).1] at hp;have b:(ah H (isNil d.ds&&(ah (ak d.i 365&&ak d.j 2291) (ak d.j 1638) (ak d.i 364))) (ak d.t 3):Bool)=true:=aK.mp Ep _ hm;rw [q,aH hp] at b;have b:=(cO.mp b).2
    induction v:ak d.i 364 using zB with
    |true=>rw [v] at b;exact ff b
    |false=>rw [v] at b;exact ff ((cO.mp b).2)
  exact aL (CS G hm) λg I u=>Um u (ql G) I z V ⟨D,J⟩ (XD G hm)
 prim:=λa F e hp r n rk A hA w' h' s hs vs ys hv k res er Q hQ=>by
  refine aL (F0 e) λd c=> ?_;subst c;intro hm;have ht:=aK.mp CR _ hm;unfold Mu at ht;simp only [aP] at ht;refine iP ht λJ z V=> ?_;have D:ak d.t 3=true:=by
   induction q:ak d.t 3 using zB with
   |true=>rfl
   |false=>rw [I3 q J] at hp;exact ft hp
  refine gb (zY D) λp1 E=> ?_;have B:=ql G;have b:(ah H (isNil d.ds&&(ah (ak d.i 365&&ak d.j 2291) (ak d.j 1638) (ak d.i 364))) (ak d.t 3):Bool)=true:=aK.mp Ep _ hm;rw [D] at b;refine aC (cO.mp b) λb M=>aL (CS G hm) λg l u=> ?_;rw [zU M] at l;refine aL (CS G (zW▸NT.jm Uv)) λP x y=> ?_;have pr:Nonempty (Mb (kX w h) K.G a d.j):=by
   induction v:ak d.i 364 using zB with
   |true=>
    rw [v] at b;rw [aH v] at E;exact U (aH b) (G5 Pe u y rfl rfl (gG rfl) (Hh G (m:=⟨364,2757,2753,"gsub_octets"⟩) (by simp [O8])) (FZ G (gG rfl)) (aY rfl) z (by kernel_rfl) E l x)
   |false=>
    rw [v] at b;refine gb (cO.mp b) λq1 q2=> ?_;rw [aH q1] at E;exact U (aH q2) (G5 Pf u y rfl rfl (gG rfl) (Hh G (m:=⟨365,2764,2760,"gpos_octets"⟩) (by simp [O8])) (FZ G (gG rfl)) (aY rfl) z (by kernel_rfl) E l x)
  rw [p1] at er;obtain⟨R⟩:=pr;exact O2 B.ax B.htab (MK G) (show cStatics∉iO by exact fY rfl) B.gx R rk hA hs hv er hQ
 lam:=λj L e=>by
  have e:NT.find K.Uk j=O L:=e;have hm:=NT.jm e;rw [Qv] at hm;refine aL (gH.mp hm) λp hq hp=> ?_;have hj:j=p.1:=congrArg eE hq.symm;have hf:find j jy=O p.2:=by
   refine U hj ?_;simp only [jy,aT,aU,or_false] at hp;rcases hp with rfl|rfl|rfl|rfl<;>rfl
  exact Pb (ql G) Hf hf (congrArg Prod.snd hq.symm)
theorem UB (G:Good w h):∀n,Cg (kX w h) (run KT n) n:=by
 have B:=ql G;exact OB B.ax B.kx B.htab (MK G) (show cStatics∉iO by exact fY rfl) (Qz G)
end
end
end
section
open PyProof.Rows PySem.Calls PySem.W
theorem CU {prog:Program} {w:World} {t:Sem Fin} {s:Shared} {R:Result->Shared->Prop} (e:s.asleep)
 (h:cG (model prog w) callerA t (λg s'=>∃f,g= .done f/\R (.ok f) s'/\leftWithCleanup s'.gens=aj) (λk k=>False) s):
 ∃n r s' s'',runN (denote table) prog w n s ⟨t,.builtin "claim.caller" {},default,[]⟩= .halted (outcomeOf r) s'/\
  schedN (denote table) prog w n (.single s ⟨t,.builtin "claim.caller" {},default,[]⟩)= .halted (outcomeOf r) s'/\s'.forget=s''.forget/\R r s'':=by
 obtain⟨n,r,i,j,a,b,c,d⟩:=wp_halts_full (M:=model prog w) (R:=R) e (pS (model prog w) ⟨.builtin "claim.caller" {},au,au,[],au⟩ t (λg o s' h'=>by
  refine dN h' λf l=> ?_;subst l;intro m;exact m) (λk k k h'=>h'.elim) default s (h ⟨.builtin "claim.caller" {},au,au,[],au⟩ default caller_in ⟨by exact rfl,λx hx=>(aU hx).elim⟩))
 exact uu n r j i b a c d
def QA (n:Int) (v:Value):Prop:=∃t,v= .int n t
theorem QB {cl:Str->Option Addr} {P:Params} {ord:List aV->List aV}:∀(ns:List Int) (s:Shared) (r:List Value×Shared),layAllW [] cl P ord (ofPys (ns.map jX)) s=O r->iV QA ns r.1/\r.2.heap=s.heap:=by
 intro ns
 induction ns with
 |nil=>
  intro s r e;exact aF e▸⟨.nil,rfl⟩
 |cons n ns f=>
  intro s r e;refine oE (layAllW_cons e) λa q hq b g=> ?_;have b:=aF b;refine aC (f _ q hq) λd c=> ?_;rw [<-b] at d;exact U g (cL b (⟨.cons ⟨_,rfl⟩ c,d⟩))
theorem QC {cl:Str->Option Addr} {P:Params} {ord:List aV->List aV} {ns:List Int} {s c:Shared} {vs:List Value} (e:layAllW [] cl P ord [ofPy (.list (ns.map jX))] s=O (vs,c)):
 ∃d:List Value,iV QA ns d/\vs=[.ref s.heap.objs.size]/\c.heap=s.heap.push {cls:= .type "list",data:= .seq d.toArray}:=by
 simp only [ofPy,layAllW,layW] at e
 induction q:layAllW [] cl P ord (ofPys (sP jX ns)) s using zO with
 |none=>rw [q] at e;exact fn e
 |some r=>
  rw [q] at e;refine gb (QB ns s r q) λa b=> ?_;simp only [Option.some.injEq,Prod.mk.injEq] at e;exact f7 r.1 a (cL e.1 (U b rfl)) (cL e.2 (U b rfl))
theorem MN:∀(xs:List WData),(xs.all λd=>WShape.has [] d .int)=H->∃ns:List Int,xs=ofPys (ns.map jX):=by
 intro xs
 induction xs with
 |nil=>
  intro _;exact⟨[],rfl⟩
 |cons d xs b=>
  intro h;rw [iD,aP] at h;refine fE (b h.2) λns a=> ?_
  induction d using PySem.W.WData.casesOn with
  |int i=>exact⟨i::ns,congrArg (WData.int i:: ·) a⟩
  |_=>exact ff h.1
theorem QD {args:List WData} (h:WShape.hasAll [] args [.list .int]=H):∃ns:List Int,args=[ofPy (.list (ns.map jX))]:=by
 refine vP (hasAllW_cons h) λd r b=> ?_;subst b;intro h1 h2;obtain rfl:=hasAllW_nil h2
 induction d using PySem.W.WData.casesOn with
 |list xs=>
  have h1:(xs.all λd=>WShape.has [] d .int)=true:=by
   have this:(WShape.hasItems [] xs .int||false)=true:=h1;rw [pT] at this;have c:∀l:List WData,WShape.hasItems [] l .int=H->(l.all λd=>WShape.has [] d .int)=true:=by
    intro l
    induction l with
    |nil=>intro _;rfl
    |cons a l f=>intro q;rw [WShape.hasItems,aP] at q;refine U iD (U q.1 (U (f q.2) ?_));rfl
   exact c xs this
  exact fE (MN xs h1) λns e=>⟨ns,by refine U e ?_;rfl⟩
 |_=>exact ff h1
end
section
set_option backward.match.sparseCases false
section
theorem Et (h:f j=t):f=upd f j t:=by
 funext i
 refine(?_:f i=ah (f i) t (ak i j))
 induction e:ak i j using zB with
 |false=>rfl
 |true=>exact cL h (U (cz e) rfl)
def kY (l:List (Nat×TR)) (f:Nat->TR):Nat->TR:=aS f (λp u_ ih=>upd ih p.1 p.2) l
def At (f:Nat->TR) (l:List (Nat×TR)):Prop:=aS True (λp u_ ih=>f p.1=p.2/\ih) l
theorem At.eq:∀{l},At f l->∃g,f=kY l g:=by
 intro l
 induction l with
 |nil=>
  intro _;exact⟨f,rfl⟩
 |cons p l a=>
  intro h;exact gb (show f p.1=p.2/\At f l from h) λh1 h2=>fE (a h2) λg b=>⟨g,(Et h1).trans (congrArg (λx=>upd x p.1 p.2) b)⟩
theorem At.app:∀{l m},At f l->At f m->At f (l++m):=by
 intro l
 induction l with
 |nil=>
  intro _ _ h;exact h
 |cons _ _ a=>
  intro _ h h';exact⟨h.1,a h.2 h'⟩
def Fr (d:Nat) (f:Nat->TR) (J:Nat) (g:Nat->TR):Prop:=∀j,bI j J=H->ak j d=aj->g j=f j
theorem Fr.refl:Fr d f J f:=λa a a=>rfl
theorem Fr.upd (h:Fr d f J g) (hk:bI k J=aj\/ak k d=H):Fr d f J (upd g k t):=λj h1 h2=>by
 have a:ak j k=false:=by
  induction e:ak j k using zB with
  |false=>rfl
  |true=>
   have e:=cz e;subst e;rcases hk with q|q
   .rw [h1] at q;exact ft q
   .rw [h2] at q;exact ff q
 refine(?_:ah (g j) t (ak j k)=f j);refine U a ?_;exact h j h1 h2
theorem Fr.trans (h:Fr d f J g) (h':Fr d g J' k) (a:bQ J J'=H):Fr d f J k:=λj h1 h2=>
 (h' j (cH.mpr (aQ (cH.mp h1) (aA a))) h2).trans (h j h1 h2)
theorem At.fr (h:Fr d f J g):∀{l},At f l->l.all (λp=>bI p.1 J&& !ak p.1 d)=H->At g l:=by
 intro l
 induction l with
 |nil=>
  intro _ _;exact trivial
 |cons p l b=>
  intro a c;rw [iD,aP,aP,gu] at c;exact⟨(h p.1 c.1.1 c.1.2).trans a.1,b a.2 c.2⟩
noncomputable def HH (f:Nat->TR) (J:Nat):ae7:=⟨⟨f,.nil,J⟩,cM 16384 J⟩
noncomputable def HC (f:Nat->TR) (t:TR) (J n:Nat):ae7:=⟨⟨f,t,J⟩,n⟩
noncomputable def zZ:Nat->TR:=λu_=> .nil
def XF (x:Option Res):Res:=aB ⟨⟨[],[]⟩,di,HH zZ 0⟩ (λx=>x) x
def ev (X:XS) (r:Ap) (ρ:Env) (l:List (Nat×TR)) (J:Nat):Res:=XF (X.f r ρ (HH (kY l zZ) J) (λρ h=>O ⟨ρ,di,h⟩) (λv h=>O ⟨⟨[],[]⟩,v,h⟩))
def Zg (X:XE) (r:Ap) (ρ:Env) (l:List (Nat×TR)) (J:Nat):Res:=XF (X.f r ρ (HH (kY l zZ) J) (λv h=>O ⟨ρ,v,h⟩))
noncomputable def cu (r:Res):TR:=r.h.l.cur
noncomputable def ol (r:Res) (j:Nat):TR:=r.h.l.old j
def jN (d:Nat) (X:XS) (r:Ap) (ρ:Env) (J:Nat) (l:List (Nat×TR)) (ρ':Env) (J':Nat) (new:List (Nat×TR)):Prop:=
 ∀f,At f l->∃g,(∀kn kr,X.f r ρ (HH f J) kn kr=kn ρ' (HH g J'))/\Fr d f J g/\At g new
def xu (d:Nat) (X:XS) (r:Ap) (ρ:Env) (J:Nat) (l:List (Nat×TR)) (v:V) (J':Nat) (new:List (Nat×TR)):Prop:=
 ∀f,At f l->∃g,(∀kn kr,X.f r ρ (HH f J) kn kr=kr v (HH g J'))/\Fr d f J g/\At g new
def eT (d:Nat) (X:XE) (r:Ap) (ρ:Env) (J:Nat) (l:List (Nat×TR)) (v:V) (J':Nat) (new:List (Nat×TR)):Prop:=
 ∀f,At f l->∃g,(∀k,X.f r ρ (HH f J) k=k v (HH g J'))/\Fr d f J g/\At g new
section
variable {d J J':Nat} {X:XS} {Y:XE} {r:Ap} {ρ ρ':Env} {l new:List (Nat×TR)} {v:V}
theorem jN.mk (G:(Nat->TR)->Nat->TR) (h:∀g c e,X.f r ρ (HH (kY l g) J) c e=c ρ' (HH (G (kY l g)) J')) (i:∀f,Fr d f J (G f)) (hn:∀f,At (G f) new):jN d X r ρ J l ρ' J' new:=λf a=>by
 refine fE a.eq λg b=> ?_;subst b;exact f7 _ (h g) (i _) (hn _)
theorem xu.mk (G:(Nat->TR)->Nat->TR) (h:∀g e c,X.f r ρ (HH (kY l g) J) e c=c v (HH (G (kY l g)) J')) (i:∀f,Fr d f J (G f)) (hn:∀f,At (G f) new):xu d X r ρ J l v J' new:=λf a=>by
 refine fE a.eq λg b=> ?_;subst b;exact f7 _ (h g) (i _) (hn _)
theorem eT.mk (G:(Nat->TR)->Nat->TR) (h:∀g k,Y.f r ρ (HH (kY l g) J) k=k v (HH (G (kY l g)) J')) (c:∀f,Fr d f J (G f)) (hn:∀f,At (G f) new):eT d Y r ρ J l v J' new:=λf a=>by
 refine fE a.eq λg b=> ?_;subst b;exact f7 _ (h g) (c _) (hn _)
end
noncomputable def tl {α:Type} (f:Bool->α):α×α:=(f aj,f H)
noncomputable def tr {α:Type} (f:Bool->α):α×α:=(f aj,f H)
section
variable {α:Type}
theorem sO (h:tl f=tr g) a:f a=g a:=by
 rcases a
 .exact congrArg eE h
 .exact congrArg Prod.snd h
theorem CV {f g:Bool->Bool->α} (h:tl (λa=>tl (f a))=tr (λa=>tr (g a))) (a b):f a b=g a b:=sO (sO h a) b
theorem I4 {f g:Bool->Bool->Bool->α} (h:tl (λa=>tl (λb=>tl (f a b)))=tr (λa=>tr (λb=>tr (g a b)))) (a b c):f a b c=g a b c:=sO (CV h a b) c
theorem F1 {f g:Bool->Bool->Bool->Bool->α} (h:tl (λa=>tl (λb=>tl (λc=>tl (f a b c))))=tr (λa=>tr (λb=>tr (λc=>tr (g a b c))))) (a b c d):f a b c d=g a b c d:=sO (I4 h a b c) d
theorem MO {f g:Bool->Bool->Bool->Bool->Bool->α} (h:tl (λa=>tl (λb=>tl (λc=>tl (λd=>tl (f a b c d)))))=tr (λa=>tr (λb=>tr (λc=>tr (λd=>tr (g a b c d)))))) (a b c d e):f a b c d e=g a b c d e:=sO (F1 h a b c d) e
theorem tb8 {f g:Bool->Bool->Bool->Bool->Bool->Bool->Bool->Bool->α} (h:tl (λa=>tl (λb=>tl (λc=>tl (λd=>tl (λe=>tl (λi=>tl (λj=>tl (f a b c d e i j))))))))=tr (λa=>tr (λb=>tr (λc=>tr (λd=>tr (λe=>tr (λi=>tr (λj=>tr (g a b c d e i j))))))))) (a b c d e i j k):f a b c d e i j k=g a b c d e i j k:=
 I4 (MO h a b c d e) i j k
noncomputable def hl {α:Type} (f:Bool->Bool->Bool->Bool->Bool->α):=(f H,f aj H,f aj aj H,f aj aj aj H,f aj aj aj aj H)
noncomputable def hr {α:Type} (f:Bool->Bool->Bool->Bool->Bool->α):=(f H,f aj H,f aj aj H,f aj aj aj H,f aj aj aj aj H)
theorem h5 (h:hl f=hr g) (i:f aj aj aj aj aj=g aj aj aj aj aj) (a b c d e):f a b c d e=g a b c d e:=by
 rcases a
 .rcases b
  .rcases c
   .rcases d
    .rcases e
     .exact i
     .exact congrArg (λx=>x.2.2.2.2) h
    .exact congrFun (congrArg (λx=>x.2.2.2.1) h) e
   .exact congrFun (congrFun (congrArg (λx=>x.2.2.1) h) d) e
  .exact congrFun (congrFun (congrFun (congrArg (λx=>x.2.1) h) c) d) e
 .exact congrFun (congrFun (congrFun (congrFun (congrArg (λx=>x.1) h) b) c) d) e
def ul {α:Type} (f:Bool->Bool->Bool->Bool->Bool->α):=(tl λb=>tl λc=>tl λd=>tl (f H b c d),tl λc=>tl λd=>tl (f aj H c d),tl λd=>tl (f aj aj H d),tl (f aj aj aj H),f aj aj aj aj H)
def ur {α:Type} (f:Bool->Bool->Bool->Bool->Bool->α):=(tr λb=>tr λc=>tr λd=>tr (f H b c d),tr λc=>tr λd=>tr (f aj H c d),tr λd=>tr (f aj aj H d),tr (f aj aj aj H),f aj aj aj aj H)
theorem u5 (h:ul f=ur g) (i:f aj aj aj aj aj=g aj aj aj aj aj) (a b c d e):f a b c d e=g a b c d e:=by
 rcases a
 .rcases b
  .rcases c
   .rcases d
    .rcases e
     .exact i
     .exact congrArg (λx=>x.2.2.2.2) h
    .exact sO (congrArg (λx=>x.2.2.2.1) h) e
   .exact CV (congrArg (λx=>x.2.2.1) h) d e
  .exact I4 (congrArg (λx=>x.2.1) h) c d e
 .exact F1 (congrArg (λx=>x.1) h) b c d e
def DT (α:Type) (n:Nat):Type:=gK (List Nat->α) (λu_ ih=>α×(Nat->ih)) n
noncomputable def dl (n:Nat):(List Nat->α)->DT α n:=gK (λf=>f) (λu_ ih f=>(f [],λu=>ih λl=>f (u::l))) n
noncomputable def dr (n:Nat):(List Nat->α)->DT α n:=gK (λf=>f) (λu_ ih f=>(f [],λu=>ih λl=>f (u::l))) n
theorem Hi n:∀{f g:List Nat->α},dl n f=dr n g->∀us,f us=g us:=by
 induction n with
 |zero=>exact λh us=>congrFun h us
 |succ n a=>
  intro f g h us;rcases us with _|⟨u,us⟩
  .exact congrArg eE h
  .exact a (congrFun (congrArg Prod.snd h) u) us
end
structure d7 where
 b0:Bool
 b1:Bool
 b2:Bool
 b3:Bool
 b4:Bool
 b5:Bool
 b6:Bool
 b7:Bool
 b8:Bool
 b9:Bool
 vD:Bool
 oA:Bool
 oB:Bool
 n9:Bool
@[elab_as_elim] theorem gX {P:Bool->Prop} w (a:P aj) (h1:P H):P w:=by
 rcases w
 .exact a
 .exact h1
def sel {α:Type} (b:Bool) (x y:α):α:=ah y x b
def vB (b:Bool):V:=aX (sel b 1 0)
def Sp (p:d7):List V:=[vB p.b0,vB p.b1,vB p.b2,vB p.b3,vB p.b4,vB p.b5,vB p.b6,vB p.b7,vB p.b8,vB p.b9,vB p.vD,vB p.oA,vB p.oB,vB p.n9]
noncomputable def t1 (o:ae6):TR:= .node (O o) .nil .nil
def tP (p:d7):TR:=t1 (bL (Sp p))
noncomputable def CW:Stmt->List (Str×aN)
 | .FunctionDef _ _ _ _ _ _ sc _ _ _=>sc.names
 |_=>[]
def Zh (s:Stmt) (k:Nat):XS:=E4 K.G K.Ms (CW s) (K.sI (K.fnBody s) k)
noncomputable def rh (l:List (Nat×V)):Env:=⟨l,[]⟩
end
set_option backward.match.sparseCases true
section
def jw (w:Bool) (a b:Nat):Nat:=sel w b a
def LF (k:Nat):XS:=Zh (K.top 371) k
def xK (w:Bool):V:=bP (jw w 49152 573440)
def qz (w:Bool) (p:d7):Nat×TR:=(jw w 3 35,tP p)
def rF1 (w:Bool):List (Nat×V):=[(31115227376,xK w)]
def QE (w:Bool) (p:d7):Nat×V:=(31083542499,bP (aG (jw w 638976 1032192) (sel p.b1 4 1)))
def eF0 (w:Bool) (p:d7):Res:=ev (LF 0) (run KT 38) (rh (rF1 w)) [qz w p] (jw w 39 63)
def UC (w:Bool):Nat×V:=(213464311,bP (jw w 671744 1064960))
def Zi (w:Bool) (p:d7):Res:=ev (LF 1) (run KT 38) (rh [(31115227376,xK w),QE w p]) [qz w p] (jw w 41 65)
def UD (w:Bool):Nat×V:=(509205389587181,bP (jw w 704513 1097729))
def eF2 (w:Bool) (p:d7):Res:=ev (LF 2) (run KT 38) (rh [(31115227376,xK w),QE w p,UC w]) [qz w p,(jw w 41 65,cu (Zi w p))] (jw w 43 67)
def XG (w:Bool):Nat×V:=(509276795205219,bP (jw w 753665 1146881))
def MP (w:Bool):Nat×V:=(3600193239649,bP (jw w 786433 1179649))
def Vz (w:Bool) (p:d7):Res:=ev (LF 3) (run KT 38) (rh [(31115227376,xK w),QE w p,UC w,UD w]) [qz w p] (jw w 45 69)
def Zj (w:Bool) (p:d7):Nat×V:=(243086067,bP (aG (jw w 835584 1228800) (sel p.b6 4 0)))
def eF4 (w:Bool) (p:d7):Res:=ev (LF 4) (run KT 38) (rh [(31115227376,xK w),QE w p,UC w,UD w,XG w,MP w]) [qz w p] (jw w 51 75)
def Zk (w:Bool):Nat×V:=(215577191,bP (jw w 868354 1261570))
def eF5 (w:Bool) (p:d7):Res:=ev (LF 5) (run KT 38) (rh [(31115227376,xK w),QE w p,UC w,UD w,XG w,MP w,Zj w p]) [qz w p] (jw w 53 77)
def aF6 (w:Bool) (p:d7):Nat×V:=(207452647,sel p.oA (bP (jw w 901135 1294351)) di)
def eF6 (w:Bool) (p:d7):Res:=ev (LF 6) (run KT 38) (rh [(31115227376,xK w),QE w p,UC w,UD w,XG w,MP w,Zj w p,Zk w]) [qz w p] (jw w 55 79)
def aF7 (w:Bool) (p:d7):Nat×V:=(243005543,sel p.oB (bP (jw w 933904 1327120)) di)
def eF7 (w:Bool) (p:d7):Res:=ev (LF 7) (run KT 38) (rh [(31115227376,xK w),QE w p,UC w,UD w,XG w,MP w,Zj w p,Zk w,aF6 w p]) [qz w p] (jw w 57 81)
def rF9 (w:Bool) (p:d7):List (Nat×V):=[(31115227376,xK w),QE w p,UC w,UD w,XG w,MP w,Zj w p,Zk w,aF6 w p,aF7 w p]
def xM (w:Bool):V:=bP (jw w 966657 1359873)
def VA (w:Bool) (p:d7):TR:= .node (O (dZ (sel p.n9 [(dK [aX 1,aX 2],qO 60)] []) (sel p.n9 1 0)))
 (.node (O (uB 2698 [(495943604008035,(QE w p).2),(509205389587181,(UD w).2),(215577191,(Zk w).2),(207452647,(aF6 w p).2),(243005543,(aF7 w p).2),(232567531,bP (jw w 966656 1359872))])) .nil .nil) .nil
def Eu (w:Bool) (p:d7) (k:Nat):Env:=rh (yF (rF9 w p) k)
def iG (w:Bool) (p:d7):List (Nat×TR):=[(jw w 39 63,cu (eF0 w p)),(jw w 43 67,cu (eF2 w p)),(jw w 46 70,ol (Vz w p) (jw w 46 70)),(jw w 48 72,ol (Vz w p) (jw w 48 72)),(jw w 51 75,cu (eF4 w p)),
 (jw w 53 77,cu (eF5 w p)),(jw w 55 79,cu (eF6 w p)),(jw w 57 81,cu (eF7 w p)),(jw w 59 83,VA w p)]
theorem lF0 w p:jN 9999 (sJ aj (LF 0)) (run KT 38) (Eu w p 1) (jw w 38 62) [qz w p] (Eu w p 2) (jw w 40 64) [(jw w 39 63,cu (eF0 w p))]:=
 jN.mk (λf=>upd (upd f (jw w 38 62) .nil) (jw w 39 63) (cu (eF0 w p))) (λg a b=>by
  cases p
  (revert w b0 b1;refine I4 ?_;kernel_rfl)) (λf=>by rcases w<;>exact(Fr.refl.upd (.inl rfl)).upd (.inl rfl)) (λf=>by rcases w<;>exact⟨rfl,trivial⟩)
theorem lF1 w p:jN 9999 (sJ aj (LF 1)) (run KT 38) (Eu w p 2) (jw w 40 64) [qz w p] (Eu w p 3) (jw w 42 66) [(jw w 41 65,cu (Zi w p))]:=
 jN.mk (λf=>upd (upd f (jw w 40 64) .nil) (jw w 41 65) (cu (Zi w p))) (λg a b=>by
  cases p
  (revert w b9;refine CV ?_;kernel_rfl)) (λf=>by rcases w<;>exact(Fr.refl.upd (.inl rfl)).upd (.inl rfl)) (λf=>by rcases w<;>exact⟨rfl,trivial⟩)
theorem lF2 w p:jN 9999 (sJ aj (LF 2)) (run KT 38) (Eu w p 3) (jw w 42 66) [qz w p,(jw w 41 65,cu (Zi w p))] (Eu w p 4) (jw w 44 68) [(jw w 43 67,cu (eF2 w p))]:=
 jN.mk (λf=>upd (upd f (jw w 42 66) .nil) (jw w 43 67) (cu (eF2 w p))) (λg a b=>by
  cases p
  (revert w b2 b3 b9 vD;refine MO ?_;kernel_rfl)) (λf=>by rcases w<;>exact(Fr.refl.upd (.inl rfl)).upd (.inl rfl)) (λf=>by rcases w<;>exact⟨rfl,trivial⟩)
theorem lF3 (w:Bool) (p:d7):jN 9999 (sJ aj (LF 3)) (run KT 38) (Eu w p 4) (jw w 44 68) [qz w p] (Eu w p 6) (jw w 50 74) [(jw w 46 70,ol (Vz w p) (jw w 46 70)),(jw w 48 72,ol (Vz w p) (jw w 48 72))]:=
 jN.mk (λf=>upd (upd (upd (upd (upd (upd f (jw w 44 68) .nil) (jw w 45 69) .nil) (jw w 46 70) (ol (Vz w p) (jw w 46 70))) (jw w 47 71) .nil) (jw w 48 72) (ol (Vz w p) (jw w 48 72))) (jw w 49 73) .nil) (λg a b=>by
  cases p
  (revert w b4 b5;refine I4 ?_;kernel_rfl)) (λf=>by rcases w<;>exact(((((Fr.refl.upd (.inl rfl)).upd (.inl rfl)).upd (.inl rfl)).upd (.inl rfl)).upd (.inl rfl)).upd (.inl rfl)) (λf=>by rcases w<;>exact iX (by kernel_rfl) (by kernel_rfl) trivial)
theorem lF4 w p:jN 9999 (sJ aj (LF 4)) (run KT 38) (Eu w p 6) (jw w 50 74) [qz w p] (Eu w p 7) (jw w 52 76) [(jw w 51 75,cu (eF4 w p))]:=
 jN.mk (λf=>upd (upd f (jw w 50 74) .nil) (jw w 51 75) (cu (eF4 w p))) (λg a b=>by
  cases p
  (revert w b6;refine CV ?_;kernel_rfl)) (λf=>by rcases w<;>exact(Fr.refl.upd (.inl rfl)).upd (.inl rfl)) (λf=>by rcases w<;>exact⟨rfl,trivial⟩)
theorem lF5 w p:jN 9999 (sJ aj (LF 5)) (run KT 38) (Eu w p 7) (jw w 52 76) [qz w p] (Eu w p 8) (jw w 54 78) [(jw w 53 77,cu (eF5 w p))]:=
 jN.mk (λf=>upd (upd f (jw w 52 76) .nil) (jw w 53 77) (cu (eF5 w p))) (λg a b=>by
  cases p
  (revert w b7 b8;refine I4 ?_;kernel_rfl)) (λf=>by rcases w<;>exact(Fr.refl.upd (.inl rfl)).upd (.inl rfl)) (λf=>by rcases w<;>exact⟨rfl,trivial⟩)
theorem lF6 w p:jN 9999 (sJ aj (LF 6)) (run KT 38) (Eu w p 8) (jw w 54 78) [qz w p] (Eu w p 9) (jw w 56 80) [(jw w 55 79,cu (eF6 w p))]:=
 jN.mk (λf=>upd (upd f (jw w 54 78) .nil) (jw w 55 79) (cu (eF6 w p))) (λg a b=>by
  cases p
  (revert w oA;refine CV ?_;kernel_rfl)) (λf=>by rcases w<;>exact(Fr.refl.upd (.inl rfl)).upd (.inl rfl)) (λf=>by rcases w<;>exact⟨rfl,trivial⟩)
theorem lF7 w p:jN 9999 (sJ aj (LF 7)) (run KT 38) (Eu w p 9) (jw w 56 80) [qz w p] (Eu w p 10) (jw w 58 82) [(jw w 57 81,cu (eF7 w p))]:=
 jN.mk (λf=>upd (upd f (jw w 56 80) .nil) (jw w 57 81) (cu (eF7 w p))) (λg a b=>by
  cases p
  (revert w oB;refine CV ?_;kernel_rfl)) (λf=>by rcases w<;>exact(Fr.refl.upd (.inl rfl)).upd (.inl rfl)) (λf=>by rcases w<;>exact⟨rfl,trivial⟩)
theorem lF8 w p:xu 9999 (sJ aj (LF 8)) (run KT 38) (Eu w p 10) (jw w 58 82) [qz w p] (xM w) (jw w 60 84) [(jw w 59 83,VA w p)]:=
 xu.mk (λf=>upd (upd f (jw w 58 82) .nil) (jw w 59 83) (VA w p)) (λg a b=>by
  cases p
  (revert w n9;refine CV ?_;kernel_rfl)) (λf=>by rcases w<;>exact(Fr.refl.upd (.inl rfl)).upd (.inl rfl)) (λf=>by rcases w<;>exact⟨rfl,trivial⟩)
end
section
theorem dm (e:∀a b,A.f r ρ h a b=a ρ' h') (c:B.f r ρ' h' a b=x):(fz A B).f r ρ h a b=x:=
 (e (λρ h=>B.f r ρ h a b) b).trans c
theorem pR (e:∀b a,A.f r ρ h b a=a v h'):(fz A B).f r ρ h b a=a v h':=e _ _
def UE:XS:=fz (sJ aj (LF 0)) (fz (sJ aj (LF 1)) (fz (sJ aj (LF 2)) (fz (sJ aj (LF 3)) (fz (sJ aj (LF 4)) (fz (sJ aj (LF 5)) (fz (sJ aj (LF 6)) (fz (sJ aj (LF 7)) (fz (sJ aj (LF 8)) vY))))))))
theorem UG v h k:run KT 39 (bM 2800) [v] h k=UE.f (run KT 38) (rh [(31115227376,v)]) h (λa h=>k di h) k:=by kernel_rfl
theorem Bv w p f (a:At f [qz w p]):∃g,(∀k,run KT 39 (bM 2800) [xK w] (HH f (jw w 38 62)) k=k (xM w) (HH g (jw w 60 84)))/\Fr 9999 f (jw w 38 62) g/\At g (iG w p):=by
 refine jB (lF0 w p f a) λx y n z=> ?_;have o:=a.fr n (gX w rfl rfl);refine jB (lF1 w p x o) λA B e C=> ?_;have q:=o.fr e (gX w rfl rfl);refine jB (lF2 w p A (q.app C)) λD E h F=> ?_;have r:=q.fr h (gX w rfl rfl);refine cI (lF3 w p D r) λG a3 I i=> ?_;have s:=r.fr i (gX w rfl rfl);refine jB (lF4 w p G s) λJ K j L=> ?_;have t:=s.fr j (gX w rfl rfl);refine jB (lF5 w p J t) λM P l Q=> ?_;have u:=t.fr l (gX w rfl rfl);refine jB (lF6 w p M u) λR S m V=> ?_;have v:=u.fr m (gX w rfl rfl);refine jB (lF7 w p R v) λg7 e7 c a7=>jB (lF8 w p g7 (v.fr c (gX w rfl rfl))) λg8 e8 d a8=>f7 g8 (λk=>(UG _ _ _).trans (dm y (dm B (dm E (dm I (dm K (dm P (dm S (dm e7 (pR e8)))))))))) ?_ ?_
 .exact(((((((n.trans e (gX w rfl rfl)).trans h (gX w rfl rfl)).trans i (gX w rfl rfl)).trans j (gX w rfl rfl)).trans l (gX w rfl rfl)).trans m (gX w rfl rfl)).trans c (gX w rfl rfl)).trans d (gX w rfl rfl)
 .have c8:=a8;have b:=c.trans d (gX w rfl rfl);have b:=m.trans b (gX w rfl rfl);have c5:=(Q.fr b (gX w rfl rfl)).app (((V.fr c (gX w rfl rfl)).fr d (gX w rfl rfl)).app ((a7.fr d (gX w rfl rfl)).app c8));have b:=l.trans b (gX w rfl rfl);have c4:=(L.fr b (gX w rfl rfl)).app c5;have b:=j.trans b (gX w rfl rfl);have c3:=(a3.fr b (gX w rfl rfl)).app c4;have b:=i.trans b (gX w rfl rfl);exact(z.fr (e.trans (h.trans b (gX w rfl rfl)) (gX w rfl rfl)) (gX w rfl rfl)).app ((F.fr b (gX w rfl rfl)).app c3)
end
set_option backward.match.sparseCases false
section
theorem yj {J n:Nat} (h:bQ n (cM 16384 (aG J 1))=H):jump d (HC f t J n) k=k (HH (upd f J (ah t .nil d)) (aG J 1)):=by
 refine(?_:(ah au (k (HH (upd f J (ah t .nil d)) (aG J 1))) (bQ n (cM 16384 (aG J 1))):Option Res)=_);exact U h rfl
theorem fh:jump d (HH f J) k=k (HH (upd f J .nil) (aG J 1)):=by
 have e:HH f J=HC f .nil J (cM 16384 J):=rfl;refine(yj (mj (Nat.mul_le_mul_left _ (gV J)))).trans ?_;rcases d<;>rfl
theorem rH:
 (sJ d X).f r ρ (HH f J) kn kr=X.f r ρ (HH (upd f J .nil) (aG J 1)) (λρ h=>jump d h λh=>kn ρ h) (λv h=>jump d h λh=>kr v h):=fh (d:=aj) (k:=λh=>X.f r ρ h (λρ h=>jump d h λh=>kn ρ h) λv h=>jump d h λh=>kr v h)
theorem xw:(xJ d X).f r ρ (HH f J) k=X.f r ρ (HH (upd f J .nil) (aG J 1)) (λv h=>jump d h λh=>k v h):=fh (d:=aj) (k:=λh=>X.f r ρ h λv h=>jump d h λh=>k v h)
noncomputable def F2:Stmt->Expr
 | .Return (O e) _=>e
 | .Assign _ e _=>e
 |_=> .Constant .none 0 default
noncomputable def XH:Expr->List Expr
 | .Call _ a _ _=>a
 |_=>[]
def Zl (s:Stmt) (i k:Nat):XE:=cU K.G K.Ms 30 (CW s) (K.El (XH (F2 (K.sI (K.fnBody s) i))) k)
def XM:XE:=Zl (K.top 367) 0 1
def XK:XE:=Zl (K.top 367) 0 2
def UH:XS:=fz (sJ aj (yL (kK (xC (bM 2751)) (dR (qy 245086182) (dR (xJ aj XM) (dR (xJ aj XK) kh)))))) vY
theorem UI v h k:run KT 39 (bM 2779) [v] h k=UH.f (run KT 38) (rh [(245086182,v)]) h (λa h=>k di h) k:=by kernel_rfl
def rT (w:Bool):Env:=rh [(245086182,xM w)]
def eM (w:Bool) (p:d7):Res:=Zg XM (run KT 38) (rT w) (iG w p) (jw w 90 128)
def eK (w:Bool):Res:=Zg XK (run KT 38) (rT w) [] (jw w 92 130)
def mV (w:Bool):V:=bP (jw w 1474560 2097152)
def kV (w:Bool):V:=bP (jw w 1507328 2129920)
theorem lM w p:eT 9999 (xJ aj XM) (run KT 38) (rT w) (jw w 89 127) (iG w p) (mV w) (jw w 91 129) [(jw w 90 128,cu (eM w p))]:=
 eT.mk (λf=>upd (upd f (jw w 89 127) .nil) (jw w 90 128) (cu (eM w p))) (λg k=>by
  cases p
  (revert w b2 b3 b9 vD;refine MO ?_;kernel_rfl)) (λf=>by rcases w<;>exact(Fr.refl.upd (.inl rfl)).upd (.inl rfl)) (λf=>by rcases w<;>exact⟨rfl,trivial⟩)
theorem lK w:eT 9999 (xJ aj XK) (run KT 38) (rT w) (jw w 91 129) [] (kV w) (jw w 93 131) [(jw w 92 130,cu (eK w))]:=
 eT.mk (λf=>upd (upd f (jw w 91 129) .nil) (jw w 92 130) (cu (eK w))) (λg k=>by(revert w;refine sO ?_;kernel_rfl)) (λf=>by rcases w<;>exact(Fr.refl.upd (.inl rfl)).upd (.inl rfl)) (λf=>by rcases w<;>exact⟨rfl,trivial⟩)
def z0 (p:d7):List Nat:=app [0,1,0,0,0,0,0,0,0,0,0,0,95,15,60,245,0,0] (app (sel p.b2 [4,24] [3,232]) (repl 34))
def z9 (p:d7):List Nat:=app [0,1,0,0,3,sel p.b3 31 32,255,56,0,0,1,244] (app (sel p.vD [255,253] [0,0]) (app (repl 21) [4]))
def Aa (p:d7):List Nat:=app [1,244,0,0,1,44,0,5,1,44] (app (sel p.vD [255,253] [0,0]) (app (sel p.b9 [1,21] [0,200]) [0,1]))
def Ab (p:d7):List Nat:=sel p.b1
 (app [0,0,0,3,0,0,0,3,0,0,0,28,0,0,0,5,0,0,0,sel p.b0 64 60,0,3,0,1,0,0,0,28] (app (sel p.b0 [0,4,0,36,0,0,0,4,0,4,0,1,0,0,0,98,255,255,0,0,0,97,255,255,0,0,0,1,0,4,0,0,0,1,0,3] [0,4,0,32,0,0,0,4,0,4,0,1,0,0,0,98,255,255,0,0,0,97,255,255,255,160,0,1,0,0,0,0])
  [0,14,0,0,0,38,0,0,0,1,0,254,1,0,0,0,21,0,0,0,29,0,0,0,1,0,0,97,0,0,0,0,1,0,0,98,0,3]))
 (app [0,0,0,2,0,0,0,3,0,0,0,20,0,3,0,1,0,0,0,20] (sel p.b0 [0,4,0,36,0,0,0,4,0,4,0,1,0,0,0,98,255,255,0,0,0,97,255,255,0,0,0,1,0,4,0,0,0,1,0,3] [0,4,0,32,0,0,0,4,0,4,0,1,0,0,0,98,255,255,0,0,0,97,255,255,255,160,0,1,0,0,0,0]))
def jn (p:d7):Bool:=sel p.b4 H (sel p.b5 H (sel p.b6 H (sel p.b7 H p.b8)))
noncomputable def F3 (p:d7):List (Bool×List Nat):=[(p.b4,[0,1,0,3,0,1,0,3]),(p.b7,[0,6,0,1,0,12,0,1,0,1,0,1,0,2,0,0,0,4]),(p.b8,[0,6,0,1,0,12,0,1,0,1,0,2,0,2,0,6,0,10,0,1,0,150,0,2,0,7]),(p.b5,[0,1,0,3,0,1,0,2]),(p.b6,[0,1,0,1,0,0,0,8,0,1,0,2,0,2,0,3])]
def offs (l:List (Bool×List Nat)):Nat->List Nat:=aS (λu_=>[]) (λq u_ ih n=>app [0,sel q.1 n 0] (ih (sel q.1 (aG n (len q.2)) n))) l
def flat (l:List (Bool×List Nat)):List Nat:=aS [] (λq u_ ih=>app (sel q.1 q.2 []) ih) l
def nV (p:d7):List Nat:=app [0,1,0,sel p.b6 2 0] (app (offs (sel p.b6 (F3 p) (yF (F3 p) 4)) (sel p.b6 14 12)) (flat (F3 p)))
noncomputable def Hj:List Nat:=[0,1,0,0,0,10,0,30,0,44,0,1,68,70,76,84,0,8,0,4,0,0,0,0,255,255,0,1,0,0,0,1,108,105,103,97,0,8,0,0,0,1,0,0,0,1,0,4,0,1,0,0,0,1,0,8,0,1,0,6,0,1,0,1,0,1,0,1]
noncomputable def Hl:List Nat:=[0,1,0,0,0,10,0,30,0,44,0,1,68,70,76,84,0,8,0,4,0,0,0,0,255,255,0,1,0,0,0,1,100,105,115,116,0,8,0,0,0,1,0,0,0,1,0,4,0,1,0,0,0,1,0,8,0,1,0,8,0,4,0,40,0,1,0,1,0,2]
noncomputable def Ho:List Nat:=[0,0,0,1,0,0,0,20,0,1,0,1,0,6,0,0,0,0,0,1,0,2,255,196]
def MQ:V:=vStr [71,68,69,70]
def MR:V:=vStr [71,83,85,66]
def MS:V:=vStr [71,80,79,83]
def MT:V:=vStr [107,101,114,110]
def XJ (p:d7):List (V×V):=[(vStr [104,101,97,100],fk (z0 p)),(vStr [104,104,101,97],fk (z9 p)),(vStr [104,109,116,120],fk (Aa p)),(vStr [109,97,120,112],fk [0,0,80,0,0,4])]
def UJ (p:d7) (g s q k:Bool):List (V×V):=app (XJ p) (app [(vStr [99,109,97,112],fk (Ab p))] (app (sel g [(MQ,fk (nV p))] []) (app (sel s [(MR,fk Hj)] []) (app (sel q [(MS,fk Hl)] []) (sel k [(MT,fk Ho)] [])))))
def cA (g s q k:Bool):Nat:=aG 5 (aG (sel g 1 0) (aG (sel s 1 0) (aG (sel q 1 0) (sel k 1 0))))
def tA (p:d7) (g s q k:Bool):TR:=t1 (dZ (UJ p g s q k) (cA g s q k))
def TB (k:Nat):XS:=Zh (K.top 363) k
def rB0 (w:Bool):List (Nat×V):=[(245086182,xM w),(3978710003956,mV w),(509719715936631,kV w)]
def EL (w:Bool):V:=bP (jw w 1540096 2162688)
def yk (w:Bool):Env:=rh [(245086182,xM w),(3978710003956,mV w),(509719715936631,kV w),(27076163558,EL w)]
theorem lT0 w p:jN 9999 (sJ aj (TB 0)) (run KT 37) (rh (rB0 w)) (jw w 93 131) [(jw w 90 128,cu (eM w p))] (yk w) (jw w 95 133) [(jw w 94 132,t1 (dZ (XJ p) 4))]:=
 jN.mk (λf=>upd (upd f (jw w 93 131) .nil) (jw w 94 132) (t1 (dZ (XJ p) 4))) (λg a b=>by
  cases p
  (revert w b2 b3 b9 vD;refine MO ?_;kernel_rfl)) (λf=>by rcases w<;>exact(Fr.refl.upd (.inl rfl)).upd (.inl rfl)) (λf=>by rcases w<;>exact⟨rfl,trivial⟩)
end
set_option backward.match.sparseCases true
section
def iy (n:Nat) (f:Nat->TR) (a:Nat):Nat->TR:=gK f (λi ih=>upd ih (aG a i) .nil) n
theorem Fr.iy {d J a:Nat} (h:Fr d f J g) (b:bQ J a=H):∀n,Fr d f J (Mine.iy n g a):=by
 intro n
 induction n with
 |zero=>
  exact h
 |succ n c=>
  exact(c).upd (.inl (by
  induction e:bI (aG a n) J using zB with
  |false=>rfl
  |true=>exact absurd (cH.mp e) (bD.mpr (aI (aA b) (d8 a n)))))
theorem MU {b:Env->ae7->Option Res} (e:F j=X) (h:x=b ρ (HH (upd F a .nil) J)):x=b ρ (HH (upd (upd F j X) a .nil) J):=cL (Et e) h
def base (w:Bool) (p:d7):List (Nat×TR):=(jw w 92 130,cu (eK w))::iG w p
theorem lT1 w p:jN (jw w 94 132) (sJ H (TB 1)) (run KT 37) (yk w) (jw w 95 133) ((jw w 94 132,t1 (dZ (XJ p) 4))::base w p) (yk w) (jw w 99 137) [(jw w 94 132,tA p aj aj aj aj)]:=
 jN.mk (λf=>upd (upd (iy 3 f (jw w 95 133)) (jw w 94 132) (tA p aj aj aj aj)) (jw w 98 136) .nil) (λg a b=>by
  cases p
  (revert w b0 b1;refine I4 ?_;kernel_rfl)) (λf=>by rcases w<;>exact((Fr.iy Fr.refl rfl 3).upd (.inr rfl)).upd (.inl rfl)) (λf=>by rcases w<;>exact⟨rfl,trivial⟩)
theorem lT2 (w:Bool) (p:d7):jN (jw w 94 132) (sJ H (TB 2)) (run KT 37) (yk w) (jw w 99 137) ((jw w 94 132,tA p aj aj aj aj)::base w p) (yk w) (jw w 107 145) [(jw w 94 132,tA p (jn p) aj aj aj)]:=
 jN.mk (λf=>upd (upd (iy 7 f (jw w 99 137)) (jw w 94 132) (tA p (jn p) aj aj aj)) (jw w 106 144) .nil) (λg a b=>by
  cases p;revert b4 b5 b6 b7 b8;refine u5 ?_ ?_
  .revert w;refine sO ?_;kernel_rfl
  .rcases w<;>exact MU rfl (by kernel_rfl)) (λf=>by rcases w<;>exact((Fr.iy Fr.refl rfl 7).upd (.inr rfl)).upd (.inl rfl)) (λf=>by rcases w<;>exact⟨rfl,trivial⟩)
end
set_option backward.match.sparseCases false
section
noncomputable def CX:Stmt->Expr
 | .If t _ _ _=>t
 |_=> .Constant .none 0 default
noncomputable def ifB:Stmt->Stmt
 | .If _ [s] _ _=>s
 |s=>s
noncomputable def tgE:Stmt->Expr
 | .Assign [t] _ _=>t
 |_=> .Constant .none 0 default
def sTB (k:Nat):Stmt:=K.sI (K.fnBody (K.top 363)) k
def TT (k:Nat):XT:=E1 K.G K.Ms (CW (K.top 363)) (CX (sTB k))
def TA (k:Nat):XA:=Dm K.G K.Ms (CW (K.top 363)) (tgE (ifB (sTB k)))
def TV (k:Nat):XE:=cU K.G K.Ms 30 (CW (K.top 363)) (F2 (ifB (sTB k)))
def aa4 (k:Nat):XS:=Dk (TT k) (fz (jv (TA k) (xJ H (TV k))) vY) E3
theorem Ac {d J J0 J1 J2 o:Nat} (u:J0=aG J 1) (w:J2=aG J1 2) (x:o=aG J1 3) (p:∀l,(TT k).f r ρ (HH (upd f J .nil) J0) l=l b (HH g1 J1)) (q:Fr d f J g1) (s:bQ J J1=H)
 (y:b=H->∃j,(∀l,(xJ H (TV k)).f r ρ (HH g1 J1) l=l v (HH j J2))/\Fr d g1 J1 j/\∀a,(TA k).f r ρ v (HH j J2) a=a ρ (HH (upd j d X) J2)) (z:b=aj->f d=X) (A:bI d J=H) (B:b=aj->g1 d=f d):
 ∃g,(∀a n,(sJ H (aa4 k)).f r ρ (HH f J) a n=a ρ (HH g o))/\Fr d f J g/\g d=X:=by
 subst u;subst w;subst x;have m:∀i,bI (aG J1 i) J=false:=λi=>by
  induction e:bI (aG J1 i) J using zB with
  |false=>rfl
  |true=>exact absurd (cH.mp e) (bD.mpr (aI (aA s) (d8 J1 i)))
 have C:∀i,ak d (aG J1 i)=false:=λi=>by
  induction e:ak d (aG J1 i) using zB with
  |false=>rfl
  |true=>have:=m i;rw [<-cz e,A] at this;exact ft this
 have c:∀g i t,upd g (aG J1 i) t d=g d:=λg i t=>by show ah (g d) t (ak d (aG J1 i))=g d;exact U (C ..) rfl
 induction b using zB with
 |true=>
  refine cI (y rfl) λj D E F=>f7 (upd (upd j d X) (aG J1 2) .nil) (λa n=> ?_) (((q.trans F s).upd (.inr (fu d))).upd (.inl (m 2))) ?_
  .refine rH.trans ((p _).trans ((?_:(xJ H (TV k)).f r ρ (HH g1 J1) (λv h=>(TA k).f r ρ v h λρ h=>jump H h λh=>a ρ h)=_)));exact U (E ..) ((D _).trans fh)
  .refine U (c ..) ((?_:ah (j d) X (ak d d)=X));exact U (fu ..) rfl
 |false=>
  refine f7 (upd (upd (upd g1 J1 .nil) (aG J1 1) .nil) (aG J1 2) .nil) (λa n=> ?_) (((q.upd (.inl (m 0))).upd (.inl (m 1))).upd (.inl (m 2))) ?_
  .refine rH.trans ((p _).trans ((?_:jump aj (HH g1 J1) (λh=>jump aj h λh=>jump H h λh=>a ρ h)=_)));exact fh.trans (fh.trans fh)
  .exact U (c ..) (U (c ..) ((c g1 0 .nil).trans ((B rfl).trans (z rfl))))
end
set_option backward.match.sparseCases true
section
theorem Fr.to {d J:Nat} {f g:Nat->TR} (h:Fr 9999 f J g) (a:bQ J 9999=H):Fr d f J g:=λj h1 b=>h j h1 (by
 induction e:ak j 9999 using zB with
 |false=>rfl
 |true=>rw [cz e] at h1;exact absurd (cH.mp h1) (bD.mpr (aA a)))
theorem t3 w p g k:(TT 3).f (run KT 37) (yk w) (HH (kY (iG w p) g) (jw w 108 146)) k=k p.oA (HH (kY (iG w p) g) (jw w 108 146)):=by
 cases p
 (revert w oA;refine CV ?_;kernel_rfl)
theorem t4 w p g k:(TT 4).f (run KT 37) (yk w) (HH (kY (iG w p) g) (jw w 112 150)) k=k p.oB (HH (kY (iG w p) g) (jw w 112 150)):=by
 cases p
 (revert w oB;refine CV ?_;kernel_rfl)
theorem t5 w p g k:(TT 5).f (run KT 37) (yk w) (HH (kY (iG w p) g) (jw w 116 154)) k=k p.n9 (HH (iy 2 (kY (iG w p) g) (jw w 116 154)) (jw w 118 156)):=by
 cases p
 (revert w n9;refine CV ?_;kernel_rfl)
theorem v3 w p (h:p.oA=H):eT 9999 (xJ H (TV 3)) (run KT 37) (yk w) (jw w 108 146) (base w p) (fk Hj) (jw w 110 148) []:=
 eT.mk (λf=>iy 2 f (jw w 108 146)) (λg k=>by
  cases p;cases h
  (revert w;refine sO ?_;kernel_rfl)) (λf=>by rcases w<;>exact Fr.iy Fr.refl rfl 2) (λf=>trivial)
theorem v4 w p (h:p.oB=H):eT 9999 (xJ H (TV 4)) (run KT 37) (yk w) (jw w 112 150) (base w p) (fk Hl) (jw w 114 152) []:=
 eT.mk (λf=>iy 2 f (jw w 112 150)) (λg k=>by
  cases p;cases h
  (revert w;refine sO ?_;kernel_rfl)) (λf=>by rcases w<;>exact Fr.iy Fr.refl rfl 2) (λf=>trivial)
theorem v5 w p (h:p.n9=H):eT 9999 (xJ H (TV 5)) (run KT 37) (yk w) (jw w 118 156) (base w p) (fk Ho) (jw w 120 158) []:=
 eT.mk (λf=>iy 2 f (jw w 118 156)) (λg k=>by
  cases p;cases h
  (revert w;refine sO ?_;kernel_rfl)) (λf=>by rcases w<;>exact Fr.iy Fr.refl rfl 2) (λf=>trivial)
theorem a3 w p g f (h:At f [(jw w 94 132,tA p g aj aj aj)]) kn:(TA 3).f (run KT 37) (yk w) (fk Hj) (HH f (jw w 110 148)) kn=kn (yk w) (HH (upd f (jw w 94 132) (tA p g H aj aj)) (jw w 110 148)):=by
 refine fE h.eq λf a=> ?_;subst a;clear h
 (revert w g;refine CV ?_;kernel_rfl)
theorem a4 w p (g s) f (h:At f [(jw w 94 132,tA p g s aj aj)]) kn:(TA 4).f (run KT 37) (yk w) (fk Hl) (HH f (jw w 114 152)) kn=kn (yk w) (HH (upd f (jw w 94 132) (tA p g s H aj)) (jw w 114 152)):=by
 refine fE h.eq λf a=> ?_;subst a;clear h
 (revert w g s;refine I4 ?_;kernel_rfl)
theorem a5 w p (g s q) f (h:At f [(jw w 94 132,tA p g s q aj)]) kn:(TA 5).f (run KT 37) (yk w) (fk Ho) (HH f (jw w 120 158)) kn=kn (yk w) (HH (upd f (jw w 94 132) (tA p g s q H)) (jw w 120 158)):=by
 refine fE h.eq λf a=> ?_;subst a;clear h
 (revert w g s q;refine F1 ?_;kernel_rfl)
theorem lT6 w:xu 9999 (sJ aj (TB 6)) (run KT 37) (yk w) (jw w 121 159) [] (EL w) (jw w 123 161) []:=
 xu.mk (λf=>iy 2 f (jw w 121 159)) (λg a b=>by(revert w;refine sO ?_;kernel_rfl)) (λf=>by rcases w<;>exact Fr.iy Fr.refl rfl 2) (λf=>trivial)
theorem jo {a j:Nat} (h:ak j a=aj):upd f a t j=f j:=by show ah (f j) t (ak j a)=f j;exact U h rfl
theorem QF {a j} (h:bI j a=H):∀n,iy n f a j=f j:=by
 intro n
 induction n with
 |zero=>
  exact rfl
 |succ n b=>
  exact(jo (by
  induction e:ak j (aG a n) using zB with
  |false=>rfl
  |true=>rw [cz e] at h;exact absurd (cH.mp h) (bD.mpr (d8 a n)))).trans b
theorem At.tail (h:At f (q::l)):At f l:=h.2
theorem lT3 w p g f (h:At f ((jw w 94 132,tA p g aj aj aj)::base w p)):∃d,(∀c l,(sJ H (TB 3)).f (run KT 37) (yk w) (HH f (jw w 107 145)) c l=c (yk w) (HH d (jw w 111 149)))/\Fr (jw w 94 132) f (jw w 107 145) d/\d (jw w 94 132)=tA p g p.oA aj false:=by
 have e:Fr (jw w 94 132) f (jw w 107 145) (upd f (jw w 107 145) .nil):=Fr.refl.upd (.inl (gX w rfl rfl));have h1:=h.tail.fr e (gX w rfl rfl);refine fE h1.tail.eq λm n=> ?_;have a:upd f (jw w 107 145) .nil (jw w 94 132)=f (jw w 94 132):=jo (gX w rfl rfl);exact Ac (k:=3) (J0:=jw w 108 146) (J1:=jw w 108 146) (J2:=jw w 110 148) (b:=p.oA) (v:=fk Hj) (gX w rfl rfl) (gX w rfl rfl) (gX w rfl rfl) (λo=>by refine U n ?_;exact t3 w p m o) e (gX w rfl rfl) (λhb=>by
  refine jB (v3 w p hb _ h1) λi q j r=>f7 i q (j.to (gX w rfl rfl)) (λc=>(U hb ?_));exact a3 w p g i ⟨(j _ (by exact gX w rfl rfl) (by exact gX w rfl rfl)).trans (a.trans h.1),trivial⟩ c) (λhb=>U hb h.1) (gX w rfl rfl) (λr=>a)
theorem lT4 w p (g s) f (h:At f ((jw w 94 132,tA p g s aj aj)::base w p)):∃d,(∀c l,(sJ H (TB 4)).f (run KT 37) (yk w) (HH f (jw w 111 149)) c l=c (yk w) (HH d (jw w 115 153)))/\Fr (jw w 94 132) f (jw w 111 149) d/\d (jw w 94 132)=tA p g s p.oB false:=by
 have e:Fr (jw w 94 132) f (jw w 111 149) (upd f (jw w 111 149) .nil):=Fr.refl.upd (.inl (gX w rfl rfl));have h1:=h.tail.fr e (gX w rfl rfl);refine fE h1.tail.eq λm n=> ?_;have a:upd f (jw w 111 149) .nil (jw w 94 132)=f (jw w 94 132):=jo (gX w rfl rfl);exact Ac (k:=4) (J0:=jw w 112 150) (J1:=jw w 112 150) (J2:=jw w 114 152) (b:=p.oB) (v:=fk Hl) (gX w rfl rfl) (gX w rfl rfl) (gX w rfl rfl) (λo=>by refine U n ?_;exact t4 w p m o) e (gX w rfl rfl) (λhb=>by
  refine jB (v4 w p hb _ h1) λi q j r=>f7 i q (j.to (gX w rfl rfl)) (λc=>(U hb ?_));exact a4 w p g s i ⟨(j _ (by exact gX w rfl rfl) (by exact gX w rfl rfl)).trans (a.trans h.1),trivial⟩ c) (λhb=>U hb h.1) (gX w rfl rfl) (λr=>a)
theorem lT5 w p (g s q) f (h:At f ((jw w 94 132,tA p g s q aj)::base w p)):∃e,(∀d m,(sJ H (TB 5)).f (run KT 37) (yk w) (HH f (jw w 115 153)) d m=d (yk w) (HH e (jw w 121 159)))/\Fr (jw w 94 132) f (jw w 115 153) e/\e (jw w 94 132)=tA p g s q p.n9:=by
 have i:Fr (jw w 94 132) f (jw w 115 153) (upd f (jw w 115 153) .nil):=Fr.refl.upd (.inl (gX w rfl rfl));refine fE (h.tail.fr i (gX w rfl rfl)).tail.eq λn o=> ?_;have c:Fr (jw w 94 132) f (jw w 115 153) (iy 2 (upd f (jw w 115 153) .nil) (jw w 116 154)):=Fr.iy i (by exact gX w rfl rfl) 2;have a:iy 2 (upd f (jw w 115 153) .nil) (jw w 116 154) (jw w 94 132)=f (jw w 94 132):=(QF (by exact gX w rfl rfl) 2).trans (jo (gX w rfl rfl));exact Ac (k:=5) (J0:=jw w 116 154) (J1:=jw w 118 156) (J2:=jw w 120 158) (b:=p.n9) (v:=fk Ho) (gX w rfl rfl) (gX w rfl rfl) (gX w rfl rfl) (λr=>by refine U o ?_;exact t5 w p n r) c (gX w rfl rfl) (λhb=>by
  refine jB (v5 w p hb _ (h.tail.fr c (gX w rfl rfl))) λj t l u=>f7 j t (l.to (gX w rfl rfl)) (λd=>(U hb ?_));exact a5 w p g s q j ⟨(l _ (by exact gX w rfl rfl) (by exact gX w rfl rfl)).trans (a.trans h.1),trivial⟩ d) (λhb=>U hb h.1) (gX w rfl rfl) (λu=>a)
end
section
def UK:XS:=fz (sJ aj (TB 0)) (fz (sJ H (TB 1)) (fz (sJ H (TB 2)) (fz (sJ H (TB 3)) (fz (sJ H (TB 4)) (fz (sJ H (TB 5)) (fz (sJ aj (TB 6)) vY))))))
theorem UL (a b c) h k:run KT 38 (bM 2751) [a,b,c] h k=UK.f (run KT 37) (rh [(245086182,a),(3978710003956,b),(509719715936631,c)]) h (λd h=>k di h) k:=by kernel_rfl
theorem At.put (h:At f ((d,X)::l)) (a:Fr d f J g) (b:g d=Y) (c:l.all (λp=>bI p.1 J&& !ak p.1 d)=H):At g ((d,Y)::l):=⟨b,h.tail.fr a c⟩
theorem QG w p f (h:At f ((jw w 90 128,cu (eM w p))::base w p)):∃g,(∀k,run KT 38 (bM 2751) [xM w,mV w,kV w] (HH f (jw w 93 131)) k=k (EL w) (HH g (jw w 123 161)))/\Fr 9999 f (jw w 93 131) g/\g (jw w 94 132)=tA p (jn p) p.oA p.oB p.n9:=by
 refine jB (lT0 w p f ⟨h.1,trivial⟩) λb r c s=> ?_;have d:At b ((jw w 94 132,t1 (dZ (XJ p) 4))::base w p):=s.app (h.tail.fr c (gX w rfl rfl));refine jB (lT1 w p b d) λt u i v=> ?_;have h1:=d.put i v.1 (gX w rfl rfl);refine jB (lT2 w p t h1) λx y l z=> ?_;have h2:=h1.put l z.1 (gX w rfl rfl);refine jB (lT3 w p _ x h2) λA B m a3=> ?_;have n:=h2.put m a3 (gX w rfl rfl);refine jB (lT4 w p _ _ A n) λC D o E=>jB (lT5 w p _ _ _ C (n.put o E (gX w rfl rfl))) λG I J K=>jB (lT6 w G trivial) λL M q Q=>f7 L (λk=>(UL _ _ _ _ _).trans (dm r (dm u (dm y (dm B (dm D (dm I (pR M)))))))) ?_ ?_
 .have F:=i.trans (l.trans (m.trans (o.trans (J.trans (q.to (gX w rfl rfl)) (gX w rfl rfl)) (gX w rfl rfl)) (gX w rfl rfl)) (gX w rfl rfl)) (gX w rfl rfl);intro j a P;refine(F j ?_ ?_).trans (c j a P)
  .exact cH.mpr (Nat.lt_trans (cH.mp a) (cH.mp (gX w rfl rfl)))
  .induction e:ak j (jw w 94 132) using zB with
   |false=>rfl
   |true=>rw [cz e] at a;exact absurd (cH.mp a) (bD.mpr (aA (gX w rfl rfl)))
 .exact(q _ (by exact gX w rfl rfl) (by exact gX w rfl rfl)).trans K
theorem Hp w p f (h:At f (iG w p)):∃g,(∀k,run KT 39 (bM 2779) [xM w] (HH f (jw w 88 126)) k=k (EL w) (HH g (jw w 124 162)))/\Fr 9999 f (jw w 88 126) g/\g (jw w 94 132)=tA p (jn p) p.oA p.oB p.n9:=by
 have a:Fr 9999 f (jw w 88 126) (upd f (jw w 88 126) .nil):=Fr.refl.upd (.inl (gX w rfl rfl));have c:=h.fr a (gX w rfl rfl);refine jB (lM w p _ c) λe i d j=>jB (lK w e trivial) λl m b n=>jB (QG w p l (iX ((j.fr b (gX w rfl rfl)).1) n.1 ((c.fr d (gX w rfl rfl)).fr b (gX w rfl rfl)))) λo q r a3=>f7 (upd o (jw w 123 161) .nil) (λk=> ?_) ?_ ?_
 .refine(UI _ _ _).trans ?_;have s:aG (jw w 88 126) 1=jw w 89 127:=gX w rfl rfl;refine(rH (X:=yL (kK (xC (bM 2751)) (dR (qy 245086182) (dR (xJ aj XM) (dR (xJ aj XK) kh)))))).trans (U s ((?_:(xJ aj XM).f (run KT 38) (rT w) (HH (upd f (jw w 88 126) .nil) (jw w 89 127)) (λt h=>(xJ aj XK).f (run KT 38) (rT w) h λu h=>run KT 38 (bM 2751) [xM w,t,u] h λv h=>jump aj h λh=>k v h)=_)));refine U (i ..) (U (m ..) (U (q ..) (fh.trans ?_)));have x:aG (jw w 123 161) 1=jw w 124 162:=gX w rfl rfl;exact U x rfl
 .exact(((a.trans d (gX w rfl rfl)).trans b (gX w rfl rfl)).trans r (gX w rfl rfl)).upd (.inl (gX w rfl rfl))
 .exact(jo (by exact gX w rfl rfl)).trans a3
end
set_option backward.match.sparseCases false
section
def Sq:Stmt:=K.sI (K.ve (K.top 356)) 2
noncomputable def aa5:Expr->List Expr
 | .Tuple es _ _=>es
 |_=>[]
def CT (i:Nat):XE:=cU K.G K.Ms 30 (CW Sq) (K.El (aa5 (F2 (K.sI (K.fnBody Sq) 0))) i)
def UM:XS:=fz (sJ aj (yL (BZ (dR (xJ H (CT 0)) (dR (xJ H (CT 1)) (dR (xJ H (CT 2)) (dR (xJ H (CT 3)) (dR (xJ H (CT 4)) (dR (xJ H (CT 5)) kh))))))))) vY
theorem UN v h k:run KT 39 (bM 2695) [v] h k=UM.f (run KT 38) (rh [(215692019,v)]) h (λa h=>k di h) k:=by kernel_rfl
def vo (a b:Nat):V:=dK [aX a,aX b]
def XO (p:d7):V:=dK [dK [vo 97 1,vo 98 (sel p.b0 3 2)],sel p.b1 (dK [dK [dK [aX 65025,dK [aX 97]]],dK [dK [vo 65025 98,aX 3]]]) di]
def XU (p:d7):V:=dK [aX (sel p.b2 1048 1000),aX (sel p.b3 799 800),qO 200,dK [aX 500,aX 300,aX 300,aX (sel p.b9 277 200)],dK [aX 0,aX 5,sel p.vD (qO 3) (aX 0),aX 1]]
def XW (p:d7):V:=dK [dK (sel p.b4 [vo 3 3] []),dK (sel p.b5 [vo 3 2] []),dK (sel p.b6 [vo 2 3] []),dK (sel p.b7 [dK [aX 1,vo 0 4]] []),dK (sel p.b8 [dK [aX 2,dK [dK [vStr [97,116],aX 150],dK [vStr [112,111,105,110,116],aX 7]]]] [])]
def XX (p:d7):V:=sel p.oA (dK [dK [dK [vStr [68,70,76,84],dK [qO 1,dK [aX 0]],dK []]],dK [dK [vStr [108,105,103,97],dK [aX 0]]],dK [dK [vStr [115,105,110,103,108,101],aX 0,qO 1,dK [dK [vStr [115,105,110,103,108,101],vo 1 2]]]]]) di
def XY (p:d7):V:=sel p.oB (dK [dK [dK [vStr [68,70,76,84],dK [qO 1,dK [aX 0]],dK []]],dK [dK [vStr [100,105,115,116],dK [aX 0]]],dK [dK [vStr [97,100,106,117,115,116],aX 0,qO 1,dK [dK [vStr [97,100,106,117,115,116],dK [dK [aX 2,dK [aX 0,aX 0,aX 40,aX 0]]]]]]]]) di
def XZ (p:d7):V:=dK (sel p.n9 [dK [vo 1 2,qO 60]] [])
def Ew (p:d7):V:=dK [XO p,XU p,XW p,XX p,XY p,XZ p]
inductive T3 where
 |a|b|c
def QH (t:T3):Bool:=T3.rec aj H H t
def jt (t:T3) (k:Nat):Nat:=aG (T3.rec 166 182 248 t) k
@[elab_as_elim] theorem vE {P:T3->Prop} t (d:P .a) (h1:P .b) (h2:P .c):P t:=by
 rcases t
 .exact d
 .exact h1
 .exact h2
def VB (t:T3):Env:=rh [(215692019,xM (QH t))]
theorem c0 t p:eT 9999 (xJ H (CT 0)) (run KT 38) (VB t) (jt t 1) (iG (QH t) p) (XO p) (jt t 3) []:=
 eT.mk (λf=>iy 2 f (jt t 1)) (λg k=>by
  cases p;refine vE t ?_ ?_ ?_<;>(revert b0 b1;refine CV ?_;kernel_rfl)) (λf=>Fr.iy Fr.refl (by exact vE t rfl rfl rfl) 2) (λf=>trivial)
theorem c1 t p:eT 9999 (xJ H (CT 1)) (run KT 38) (VB t) (jt t 3) (iG (QH t) p) (XU p) (jt t 5) []:=
 eT.mk (λf=>iy 2 f (jt t 3)) (λg k=>by
  cases p;refine vE t ?_ ?_ ?_<;>(revert b2 b3 b9 vD;refine F1 ?_;kernel_rfl)) (λf=>Fr.iy Fr.refl (by exact vE t rfl rfl rfl) 2) (λf=>trivial)
theorem c2 t p:eT 9999 (xJ H (CT 2)) (run KT 38) (VB t) (jt t 5) (iG (QH t) p) (XW p) (jt t 7) []:=
 eT.mk (λf=>iy 2 f (jt t 5)) (λg k=>by
  cases p;refine vE t ?_ ?_ ?_<;>(revert b4 b5 b6 b7 b8;refine MO ?_;kernel_rfl)) (λf=>Fr.iy Fr.refl (by exact vE t rfl rfl rfl) 2) (λf=>trivial)
theorem c3 t p:eT 9999 (xJ H (CT 3)) (run KT 38) (VB t) (jt t 7) (iG (QH t) p) (XX p) (jt t 9) []:=
 eT.mk (λf=>iy 2 f (jt t 7)) (λg k=>by
  cases p;refine vE t ?_ ?_ ?_<;>(revert oA;refine sO ?_;kernel_rfl)) (λf=>Fr.iy Fr.refl (by exact vE t rfl rfl rfl) 2) (λf=>trivial)
theorem c4 t p:eT 9999 (xJ H (CT 4)) (run KT 38) (VB t) (jt t 9) (iG (QH t) p) (XY p) (jt t 11) []:=
 eT.mk (λf=>iy 2 f (jt t 9)) (λg k=>by
  cases p;refine vE t ?_ ?_ ?_<;>(revert oB;refine sO ?_;kernel_rfl)) (λf=>Fr.iy Fr.refl (by exact vE t rfl rfl rfl) 2) (λf=>trivial)
theorem c5 t p:eT 9999 (xJ H (CT 5)) (run KT 38) (VB t) (jt t 11) (iG (QH t) p) (XZ p) (jt t 13) []:=
 eT.mk (λf=>iy 2 f (jt t 11)) (λg k=>by
  cases p;refine vE t ?_ ?_ ?_<;>(revert n9;refine sO ?_;kernel_rfl)) (λf=>Fr.iy Fr.refl (by exact vE t rfl rfl rfl) 2) (λf=>trivial)
theorem kT6 (a b c d e f) h k:kT [a,b,c,d,e,f] h k=k (dK [a,b,c,d,e,f]) h:=rfl
theorem Ex {J:Nat} {J0 J1 J2 i j l g J7:Nat} {v a b c a3 d e} (m:aG J 1=J0) (n:aG g 1=J7)
 (o:∀k,(xJ H (CT 0)).f (run KT 38) (rh [(215692019,v)]) (HH (upd f J .nil) J0) k=k a (HH g0 J1)) (p:∀k,(xJ H (CT 1)).f (run KT 38) (rh [(215692019,v)]) (HH g0 J1) k=k b (HH g1 J2))
 (q:∀k,(xJ H (CT 2)).f (run KT 38) (rh [(215692019,v)]) (HH g1 J2) k=k c (HH g2 i)) (r:∀k,(xJ H (CT 3)).f (run KT 38) (rh [(215692019,v)]) (HH g2 i) k=k a3 (HH g3 j))
 (s:∀k,(xJ H (CT 4)).f (run KT 38) (rh [(215692019,v)]) (HH g3 j) k=k d (HH g4 l)) (t:∀k,(xJ H (CT 5)).f (run KT 38) (rh [(215692019,v)]) (HH g4 l) k=k e (HH g5 g)) k:
 run KT 39 (bM 2695) [v] (HH f J) k=k (dK [a,b,c,a3,d,e]) (HH (upd g5 g .nil) J7):=by
 refine(UN _ _ _).trans (rH.trans (U m ?_));show(xJ H (CT 0)).f (run KT 38) (rh [(215692019,v)]) (HH (upd f J .nil) J0) (λa h=>(xJ H (CT 1)).f (run KT 38) (rh [(215692019,v)]) h λb h=>(xJ H (CT 2)).f (run KT 38) (rh [(215692019,v)]) h λc h=>(xJ H (CT 3)).f (run KT 38) (rh [(215692019,v)]) h λa3 h=>
  (xJ H (CT 4)).f (run KT 38) (rh [(215692019,v)]) h λd h=>(xJ H (CT 5)).f (run KT 38) (rh [(215692019,v)]) h λe h=>kT [a,b,c,a3,d,e] h λv h=>jump aj h λh=>k v h)=_
 exact U (o ..) (U (p ..) (U (q ..) (U (r ..) (U (s ..) (U (t ..) (U (kT6 ..) (fh.trans (U n rfl))))))))
theorem CY t p f (h:At f (iG (QH t) p)):∃g,(∀k,run KT 39 (bM 2695) [xM (QH t)] (HH f (jt t 0)) k=k (Ew p) (HH g (jt t 14)))/\Fr 9999 f (jt t 0) g:=by
 have a:Fr 9999 f (jt t 0) (upd f (jt t 0) .nil):=Fr.refl.upd (.inl (vE t rfl rfl rfl));have c:=h.fr a (vE t rfl rfl rfl);refine jB (c0 t p _ c) λx o d b=> ?_;have h1:=c.fr d (vE t rfl rfl rfl);refine jB (c1 t p _ h1) λy q e b=> ?_;have h2:=h1.fr e (vE t rfl rfl rfl);refine jB (c2 t p _ h2) λz r i b=> ?_;have j:=h2.fr i (vE t rfl rfl rfl);refine jB (c3 t p _ j) λA s l b=> ?_;have m:=j.fr l (vE t rfl rfl rfl);exact jB (c4 t p _ m) λB u n b=>jB (c5 t p _ (m.fr n (vE t rfl rfl rfl))) λC v w b=>bW _ (Ex (J0:=jt t 1) (J7:=jt t 14) (vE t rfl rfl rfl) (by exact vE t rfl rfl rfl) o q r s u v) (((((((a.trans d (vE t rfl rfl rfl)).trans e (vE t rfl rfl rfl)).trans i (vE t rfl rfl rfl)).trans l (vE t rfl rfl rfl)).trans n (vE t rfl rfl rfl)).trans w (vE t rfl rfl rfl)).upd (.inl (vE t rfl rfl rfl)))
end
set_option backward.match.sparseCases true
section
def XR:XE:=Zl (K.top 361) 0 1
def XQ:XE:=Zl (K.top 361) 0 2
def FB (k:Nat):XS:=Zh (K.top 359) k
def Ss (x:Nat) (r:Res):V:=aB di (λv=>v) (find x r.ρ.loc)
def rR:Env:=rh [(3978710003956,EL H)]
def eR (p:d7):Res:=Zg XR (run KT 38) rR [(132,tA p aj aj aj aj)] 216
def eQ:Res:=Zg XQ (run KT 38) rR [] 218
def mR:V:=bP 3538955
def qR:V:=bP 3571712
theorem lR (p:d7) (g s q k:Bool):eT 9999 (xJ aj XR) (run KT 38) rR 215 [(132,tA p g s q k)] mR 217 [(216,cu (eR p))]:=
 eT.mk (λf=>upd (upd f 215 .nil) 216 (cu (eR p))) (λf k=>by
  cases p
  (revert b2 b3 b9 vD;refine F1 ?_;kernel_rfl)) (λf=>(Fr.refl.upd (.inl rfl)).upd (.inl rfl)) (λf=>⟨rfl,trivial⟩)
theorem lQ:eT 9999 (xJ aj XQ) (run KT 38) rR 217 [] qR 219 [(218,cu eQ)]:=
 eT.mk (λf=>upd (upd f 217 .nil) 218 (cu eQ)) (λf k=>by kernel_rfl) (λf=>(Fr.refl.upd (.inl rfl)).upd (.inl rfl)) (λf=>⟨rfl,trivial⟩)
def Jy:List (Nat×V):=[(3978710003956,EL H),(509205389587181,mR),(509719682249458,qR)]
def X0 (p:d7):Res:=ev (FB 0) (run KT 37) (rh Jy) [(132,tA p aj aj aj aj),(218,cu eQ)] 220
def MV (p:d7):Nat×V:=(495943604008035,Ss 495943604008035 (X0 p))
def X3 (p:d7):Res:=ev (FB 1) (run KT 37) (rh (app Jy [MV p])) [(132,tA p (jn p) aj aj aj),(218,cu eQ)] 222
def Sv (p:d7):Nat×V:=(215577191,Ss 215577191 (X3 p))
def Zm (p:d7):Res:=ev (FB 2) (run KT 37) (rh (app Jy [MV p,Sv p])) [(132,tA p aj p.oA aj aj),(218,cu eQ)] 224
def X4 (p:d7):Nat×V:=(207452647,sel p.oA (bP 3670056) di)
def Zn (p:d7):Res:=ev (FB 3) (run KT 37) (rh (app Jy [MV p,Sv p,X4 p])) [(132,tA p aj aj p.oB aj),(218,cu eQ)] 226
def vB3 (p:d7):Nat×V:=(243005543,sel p.oB (bP 3702826) di)
def rQ4 (p:d7):List (Nat×V):=app Jy [MV p,Sv p,X4 p,vB3 p]
def Zo (p:d7):Res:=ev (FB 4) (run KT 37) (rh (rQ4 p)) [(132,tA p aj aj aj p.n9),(218,cu eQ)] 228
def Sw:V:=bP 3768320
def NH (p:d7):TR:=t1 (uB 2698 [(495943604008035,(MV p).2),(509205389587181,mR),(215577191,(Sv p).2),(207452647,(X4 p).2),(243005543,(vB3 p).2),(232567531,bP (aG 3751936 (sel p.n9 2 0)))])
theorem lB0 (p:d7) (g s q k:Bool):jN 9999 (sJ aj (FB 0)) (run KT 37) (rh Jy) 219 [(132,tA p g s q k),(218,cu eQ)] (rh (app Jy [MV p])) 221 [(220,cu (X0 p))]:=
 jN.mk (λf=>upd (upd f 219 .nil) 220 (cu (X0 p))) (λf a b=>by
  cases p
  (revert b0 b1;refine CV ?_;kernel_rfl)) (λf=>(Fr.refl.upd (.inl rfl)).upd (.inl rfl)) (λf=>⟨rfl,trivial⟩)
theorem lB1 (p:d7) (s q k:Bool):jN 9999 (sJ aj (FB 1)) (run KT 37) (rh (app Jy [MV p])) 221 [(132,tA p (jn p) s q k),(218,cu eQ)] (rh (app Jy [MV p,Sv p])) 223 [(222,cu (X3 p))]:=
 jN.mk (λf=>upd (upd f 221 .nil) 222 (cu (X3 p))) (λf a b=>by
  cases p;revert b4 b5 b6 b7 b8;refine u5 ?_ ?_
  .kernel_rfl
  .revert s q k;refine I4 ?_;kernel_rfl) (λf=>(Fr.refl.upd (.inl rfl)).upd (.inl rfl)) (λf=>⟨rfl,trivial⟩)
theorem lB2 (p:d7) (g q k:Bool):jN 9999 (sJ aj (FB 2)) (run KT 37) (rh (app Jy [MV p,Sv p])) 223 [(132,tA p g p.oA q k),(218,cu eQ)] (rh (app Jy [MV p,Sv p,X4 p])) 225 [(224,cu (Zm p))]:=
 jN.mk (λf=>upd (upd f 223 .nil) 224 (cu (Zm p))) (λf a b=>by
  cases p;rcases oA
  ·(revert g q k;refine I4 ?_;kernel_rfl)
  ·(revert g;refine sO ?_;kernel_rfl)) (λf=>(Fr.refl.upd (.inl rfl)).upd (.inl rfl)) (λf=>⟨rfl,trivial⟩)
theorem lB3 (p:d7) (g s k:Bool):jN 9999 (sJ aj (FB 3)) (run KT 37) (rh (app Jy [MV p,Sv p,X4 p])) 225 [(132,tA p g s p.oB k),(218,cu eQ)] (rh (rQ4 p)) 227 [(226,cu (Zn p))]:=
 jN.mk (λf=>upd (upd f 225 .nil) 226 (cu (Zn p))) (λf a b=>by
  cases p;rcases oB
  ·(revert g s k;refine I4 ?_;kernel_rfl)
  ·(revert g s;refine CV ?_;kernel_rfl)) (λf=>(Fr.refl.upd (.inl rfl)).upd (.inl rfl)) (λf=>⟨rfl,trivial⟩)
theorem lB4 (p:d7) (g s q:Bool):xu 9999 (sJ aj (FB 4)) (run KT 37) (rh (rQ4 p)) 227 [(132,tA p g s q p.n9),(218,cu eQ)] Sw 231 [(229,ol (Zo p) 229),(230,NH p)]:=
 xu.mk (λf=>upd (upd (upd (upd f 227 .nil) 228 .nil) 229 (ol (Zo p) 229)) 230 (NH p)) (λf a b=>by
  cases p
  (revert g s q n9;refine F1 ?_;kernel_rfl)) (λf=>(((Fr.refl.upd (.inl rfl)).upd (.inl rfl)).upd (.inl rfl)).upd (.inl rfl)) (λf=>iX rfl rfl trivial)
def I5:Env:=rh [(215692019,Sw)]
theorem d0 (p:d7):eT 9999 (xJ H (CT 0)) (run KT 38) I5 233 [(230,NH p),(220,cu (X0 p))] (XO p) 235 []:=
 eT.mk (λf=>iy 2 f 233) (λg k=>by
  cases p
  (revert b0 b1;refine CV ?_;kernel_rfl)) (λf=>Fr.iy Fr.refl rfl 2) (λf=>trivial)
theorem d1 (p:d7):eT 9999 (xJ H (CT 1)) (run KT 38) I5 235 [(230,NH p),(216,cu (eR p))] (XU p) 237 []:=
 eT.mk (λf=>iy 2 f 235) (λg k=>by
  cases p
  (revert b2 b3 b9 vD;refine F1 ?_;kernel_rfl)) (λf=>Fr.iy Fr.refl rfl 2) (λf=>trivial)
theorem d2 (p:d7):eT 9999 (xJ H (CT 2)) (run KT 38) I5 237 [(230,NH p),(222,cu (X3 p))] (XW p) 239 []:=
 eT.mk (λf=>iy 2 f 237) (λg k=>by
  cases p
  (revert b4 b5 b6 b7 b8;refine MO ?_;kernel_rfl)) (λf=>Fr.iy Fr.refl rfl 2) (λf=>trivial)
theorem d3 (p:d7):eT 9999 (xJ H (CT 3)) (run KT 38) I5 239 [(230,NH p),(224,cu (Zm p))] (XX p) 241 []:=
 eT.mk (λf=>iy 2 f 239) (λg k=>by
  cases p
  (revert oA;refine sO ?_;kernel_rfl)) (λf=>Fr.iy Fr.refl rfl 2) (λf=>trivial)
theorem d4 (p:d7):eT 9999 (xJ H (CT 4)) (run KT 38) I5 241 [(230,NH p),(226,cu (Zn p))] (XY p) 243 []:=
 eT.mk (λf=>iy 2 f 241) (λg k=>by
  cases p
  (revert oB;refine sO ?_;kernel_rfl)) (λf=>Fr.iy Fr.refl rfl 2) (λf=>trivial)
theorem d5 (p:d7):eT 9999 (xJ H (CT 5)) (run KT 38) I5 243 [(230,NH p),(229,ol (Zo p) 229)] (XZ p) 245 []:=
 eT.mk (λf=>iy 2 f 243) (λg k=>by
  cases p
  (revert n9;refine sO ?_;kernel_rfl)) (λf=>Fr.iy Fr.refl rfl 2) (λf=>trivial)
end
section
theorem aa7 (c:find x ρ.loc=O v):(yL (kK (xC F) (dR (qy x) (dR A (dR B kh))))).f r ρ h kn kr=A.f r ρ h λa h=>B.f r ρ h λb h=>r F [v,a,b] h kr:=by
 refine(?_:(aB au (λv=>A.f r ρ h λa h=>B.f r ρ h λb h=>r F [v,a,b] h kr) (find x ρ.loc):Option Res)=_);exact U c rfl
def UO:XS:=fz (sJ aj (yL (kK (xC (bM 2723)) (dR (qy 3978710003956) (dR (xJ aj XR) (dR (xJ aj XQ) kh)))))) vY
theorem UP v h k:run KT 39 (bM 2737) [v] h k=UO.f (run KT 38) (rh [(3978710003956,v)]) h (λa h=>k di h) k:=by kernel_rfl
def UQ:XS:=fz (sJ aj (FB 0)) (fz (sJ aj (FB 1)) (fz (sJ aj (FB 2)) (fz (sJ aj (FB 3)) (fz (sJ aj (FB 4)) vY))))
theorem UR (a b c) h k:run KT 38 (bM 2723) [a,b,c] h k=UQ.f (run KT 37) (rh [(3978710003956,a),(509205389587181,b),(509719682249458,c)]) h (λd h=>k di h) k:=by kernel_rfl
def I6 (p:d7):TR:=tA p (jn p) p.oA p.oB p.n9
def MW (p:d7):List (Nat×TR):=[(229,ol (Zo p) 229),(230,NH p),(226,cu (Zn p)),(224,cu (Zm p)),(222,cu (X3 p)),(220,cu (X0 p)),(216,cu (eR p))]
theorem QI p f (h:At f [(132,I6 p),(218,cu eQ)]) (h':At f [(216,cu (eR p))]):∃g,(∀k,run KT 38 (bM 2723) [EL H,mR,qR] (HH f 219) k=k Sw (HH g 231))/\Fr 9999 f 219 g/\At g (MW p):=by
 refine jB (lB0 p _ _ _ _ f h) λo q a r=> ?_;have b:=h.fr a rfl;refine jB (lB1 p _ _ _ o b) λs t c u=> ?_;have h1:=b.fr c rfl;refine jB (lB2 p _ _ _ s h1) λv w d x=> ?_;have h2:=h1.fr d rfl;refine jB (lB3 p _ _ _ v h2) λy z e a3=>jB (lB4 p _ _ _ y (h2.fr e rfl)) λA B i C=> ?_;have j:=e.trans i rfl;have l:=d.trans j rfl;have m:=c.trans l rfl;have n:=a.trans m rfl;exact f7 A (λk=>(UR _ _ _ _ _).trans (dm q (dm t (dm w (dm z (pR B)))))) n (C.app ((a3.fr i rfl).app ((x.fr j rfl).app ((u.fr l rfl).app ((r.fr m rfl).app (h'.fr n rfl))))))
theorem QJ p f (h:At f [(132,I6 p)]):∃g,(∀k,run KT 39 (bM 2737) [EL H] (HH f 214) k=k Sw (HH g 232))/\Fr 9999 f 214 g/\At g (MW p):=by
 have a:Fr 9999 f 214 (upd f 214 .nil):=Fr.refl.upd (.inl rfl);have e:=h.fr a rfl;refine jB (lR p _ _ _ _ _ e) λl m i n=>jB (lQ l trivial) λo q b r=>jB (QI p o (((e.fr i rfl).fr b rfl).app r) (n.fr b rfl)) λs t u a3=> ?_;have E:∀j c,(sJ aj (yL (kK (xC (bM 2723)) (dR (qy 3978710003956) (dR (xJ aj XR) (dR (xJ aj XQ) kh)))))).f (run KT 38) rR (HH f 214) j c=c Sw (HH (upd s 231 .nil) 232):=λj c=>
  rH.trans ((aa7 (v:=EL H) rfl).trans ((m _).trans ((q _).trans ((t _).trans fh))))
 exact f7 _ (λk=>(UP _ _ _).trans (pR E)) ((((a.trans i rfl).trans b rfl).trans u rfl).upd (.inl rfl)) (a3.fr ((Fr.refl (d:=9999)).upd (.inl (rfl:bI 231 231=aj))) rfl)
theorem QK p f (h:At f (MW p)):∃g,(∀k,run KT 39 (bM 2695) [Sw] (HH f 232) k=k (Ew p) (HH g 246))/\Fr 9999 f 232 g:=by
 have a:Fr 9999 f 232 (upd f 232 .nil):=Fr.refl.upd (.inl rfl);have c:=h.fr a rfl;refine jB (d0 p _ (iX c.2.1 c.2.2.2.2.2.1 trivial)) λx q i b=> ?_;have h1:=c.fr i rfl;refine jB (d1 p _ (iX h1.2.1 h1.2.2.2.2.2.2.1 trivial)) λy r j b=> ?_;have h2:=h1.fr j rfl;refine jB (d2 p _ (iX h2.2.1 h2.2.2.2.2.1 trivial)) λz s l b=> ?_;have d:=h2.fr l rfl;refine jB (d3 p _ (iX d.2.1 d.2.2.2.1 trivial)) λA t m b=> ?_;have e:=d.fr m rfl;refine jB (d4 p _ (iX e.2.1 e.2.2.1 trivial)) λB u n b=> ?_;have o:=e.fr n rfl;exact jB (d5 p _ (iX o.2.1 o.1 trivial)) λC v w b=>bW _ (Ex (J0:=233) (J7:=246) rfl rfl q r s t u v) (((((((a.trans i rfl).trans j rfl).trans l rfl).trans m rfl).trans n rfl).trans w rfl).upd (.inl rfl))
end
section
def xb (b:Bool) (s i:Nat):Bool:=sel (ak s i) (neg b) b
def flip (p:d7) (s:Nat):d7:=⟨xb p.b0 s 0,xb p.b1 s 1,xb p.b2 s 2,xb p.b3 s 3,xb p.b4 s 4,xb p.b5 s 5,xb p.b6 s 6,xb p.b7 s 7,xb p.b8 s 8,xb p.b9 s 9,xb p.vD s 10,xb p.oA s 11,xb p.oB s 12,xb p.n9 s 13⟩
def sL (k:Nat):XS:=Zh (K.top 373) k
def VC (s:Nat):List (Nat×V):=[(4016016503283,bP 0),(1815280,bP 16386),(1668975,bP 49152),(245102707,aX s)]
def X5 (s:Nat):List (Nat×V):=app (VC s) [(30815173231,bP 573440)]
def US (s:Nat):List (Nat×V):=app (X5 s) [(31115163622,bP 1392640)]
def Bw (s:Nat):List (Nat×V):=app (US s) [(31083672806,bP 1425408)]
theorem CZ {P:Nat->Prop} (g:P 0) (h1:P 1) (h2:P 2) (i:P 3) (j:P 4) (k:P 5) (l:P 6) (m:P 7) (n:P 8) (o:P 9) (a:P 10) (b:P 11) (c:P 12) (d:P 13) (e:P 14) (f:P 15):∀s,s<16->P s:=kg (kg (kg (kg (kg (kg (kg (kg (kg (kg (kg (kg (kg (kg (kg (kg (λs h=>absurd h (kq s)) g) h1) h2) i) j) k) l) m) n) o) a) b) c) d) e) f
theorem lL3 p g kn kr:∀s,s<16->(sJ aj (sL 3)).f (run KT 39) (rh (VC s)) (HH (kY [(3,tP p)] g) 34) kn kr=kn (rh (X5 s)) (HH (upd (upd (kY [(3,tP p)] g) 34 .nil) 35 (tP (flip p s))) 36):=by
 cases p;refine CZ ?_ ?_ ?_ ?_ ?_ ?_ ?_ ?_ ?_ ?_ ?_ ?_ ?_ ?_ ?_ ?_
 ·(revert b0;refine sO ?_;kernel_rfl)
 ·(revert b1;refine sO ?_;kernel_rfl)
 ·(revert b2;refine sO ?_;kernel_rfl)
 ·(revert b3;refine sO ?_;kernel_rfl)
 ·(revert b4;refine sO ?_;kernel_rfl)
 ·(revert b5;refine sO ?_;kernel_rfl)
 ·(revert b6;refine sO ?_;kernel_rfl)
 ·(revert b7;refine sO ?_;kernel_rfl)
 ·(revert b8;refine sO ?_;kernel_rfl)
 ·(revert b9;refine sO ?_;kernel_rfl)
 ·(revert vD;refine sO ?_;kernel_rfl)
 ·(revert oA;refine sO ?_;kernel_rfl)
 ·(revert oB;refine sO ?_;kernel_rfl)
 ·(revert n9;refine sO ?_;kernel_rfl)
 .kernel_rfl
 .kernel_rfl
def UT:XS:=jv (kj 31115163622) (wW (dR (xJ aj (kK (xC (bM 2800)) (dR (qy 1668975) kh))) (dR (xJ aj (kK (xC (bM 2800)) (dR (qy 30815173231) kh))) kh)))
theorem sL4:sL 4=UT:=by kernel_rfl
def mP:TR:=t1 (bL [xM aj,xM H])
theorem aa8 (A B) x:(jv (kj x) (wW (dR A (dR B kh)))).f r ρ h kn kr=A.f r ρ h (λa h=>B.f r ρ h λb h=>new (bL [a,b]) h λv h=>kn (gf ρ x v) h):=rfl
theorem Hq (a:find x ρ.loc=O v):(kK (xC F) (dR (qy x) kh)).f r ρ h k=r F [v] h k:=by
 refine(?_:(aB au (λv=>r F [v] h k) (find x ρ.loc):Option Res)=_);exact U a rfl
theorem I7 s g (a:Env->ae7->Option Res):new (bL [xM aj,xM H]) (HH g 85) (λv h=>jump aj h λh=>a (gf (rh (X5 s)) 31115163622 v) h)=a (rh (US s)) (HH (upd g 85 mP) 86):=by kernel_rfl
theorem lL4 (p q) s f (h:At f [(3,tP p),(35,tP q)]):∃g,(∀a e,(sJ aj (sL 4)).f (run KT 39) (rh (X5 s)) (HH f 36) a e=a (rh (US s)) (HH g 86))/\Fr 9999 f 36 g/\At g ((85,mP)::(iG aj p++iG H q)):=by
 have i:Fr 9999 f 36 (upd (upd f 36 .nil) 37 .nil):=(Fr.refl.upd (.inl rfl)).upd (.inl rfl);have h1:=h.fr i rfl;refine jB (Bv aj p _ ⟨h1.1,trivial⟩) λj m k n=> ?_;have b:Fr 9999 j 60 (upd (upd j 60 .nil) 61 .nil):=(Fr.refl.upd (.inl rfl)).upd (.inl rfl);refine jB (Bv H q _ ⟨((h1.fr k rfl).fr b rfl).2.1,trivial⟩) λc o l a3=> ?_;have d:Fr 9999 c 84 (upd (upd c 84 .nil) 85 mP):=(Fr.refl.upd (.inl rfl)).upd (.inl rfl);refine qL (upd (upd c 84 .nil) 85 mP) (λa e=> ?_) (((i.trans k rfl).trans b rfl).trans (l.trans d rfl) rfl) rfl ((((n.fr b rfl).fr l rfl).fr d rfl).app (a3.fr d rfl));exact U sL4 (rH.trans ((aa8 _ _ _).trans (xw.trans ((Hq (v:=xK aj) rfl).trans ((m _).trans (fh.trans (xw.trans ((Hq (v:=xK H) rfl).trans ((o _).trans (fh.trans (I7 s _ a)))))))))))
end
section
def UU:XS:=jv (kj 31083672806) (yK (xJ aj (kK (xC (bM 2779)) (dR (qy 245086182) kh))) (kj 245086182) (iE (qy 31115163622)) ji)
section
variable {r:Ap} {x i j n:Nat} {elt:XE} {acc v:V} {k:ae7->Option Res} {ρ:Env} {h:ae7} {xs:List V}
def putBack (acc:V) (K:V->ae7->Option Res) (a:V) (h:ae7):Option Res:=look acc h λo h=>ah au (put acc.n (bL (app o.xs [a])) h K) (ak o.t 1)
theorem wH (hm:m=aG n 1) (hx:HT.get h.l i=O (bL xs)) (hn:sU xs j=O v):turns r (kj x) ji (pI elt r acc) k m (gg (gn i j)) ρ h=
 elt.f r (gf ρ x v) h (putBack acc λa h=>turns r (kj x) ji (pI elt r acc) k n (gg (gn i (aG j 1))) (gf ρ x v) h):=by
 refine U hm ?_;have e:turns r (kj x) ji (pI elt r acc) k (aG n 1) (gg (gn i j)) ρ h=aB au (λo=>ah au (aB (k h) (λv=>elt.f r (gf ρ x v) h (putBack acc λa h=>turns r (kj x) ji (pI elt r acc) k n (gg (gn i (aG j 1))) (gf ρ x v) h)) (sU o.xs j)) (ak o.t 1)) (HT.get h.l i):=rfl;refine U e (U hx ((?_:(aB (k h) _ (sU xs j):Option Res)=_)));exact U hn rfl
theorem Bx (hm:m=aG n 1) (hx:HT.get h.l i=O (bL xs)) (hn:sU xs j=au):turns r (kj x) ji (pI elt r acc) k m (gg (gn i j)) ρ h=k h:=by
 refine U hm ?_;have e:turns r (kj x) ji (pI elt r acc) k (aG n 1) (gg (gn i j)) ρ h=aB au (λo=>ah au (aB (k h) (λv=>elt.f r (gf ρ x v) h (putBack acc λa h=>turns r (kj x) ji (pI elt r acc) k n (gg (gn i (aG j 1))) (gf ρ x v) h)) (sU o.xs j)) (ak o.t 1)) (HT.get h.l i):=rfl;refine U e (U hx ((?_:(aB (k h) _ (sU xs j):Option Res)=_)));exact U hn rfl
end
theorem MX r s g kn kr:UU.f r (rh (US s)) (HH (kY [(85,mP)] g) 87) kn kr=
 turns r (kj 245086182) ji (pI (xJ aj (kK (xC (bM 2779)) (dR (qy 245086182) kh))) r (bP 1425408)) (λh=>kn (gf (rh (US s)) 31083672806 (bP 1425408)) h) 2000 (gg (gn 1392640 0)) (compEnv (rh (US s))) (HC (kY [(85,mP)] g) (t1 (bL [])) 87 1425409):=by kernel_rfl
theorem MY {J n:Nat} (h:bQ n (cM 16384 (aG J 1))=H):(xJ d X).f r ρ (HC f t J n) k=X.f r ρ (HH (upd f J t) (aG J 1)) (λv h=>jump d h λh=>k v h):=yj (d:=aj) (k:=λh=>X.f r ρ h λv h=>jump d h λh=>k v h) h
theorem aa9 g a K:putBack (bP 1425408) K a (HH (kY [(87,t1 (bL []))] g) 125)=K di (HH (upd (kY [(87,t1 (bL []))] g) 87 (t1 (bL [a]))) 125):=by kernel_rfl
theorem abb g (a b) K:putBack (bP 1425408) K a (HH (kY [(87,t1 (bL [b]))] g) 163)=K di (HH (upd (kY [(87,t1 (bL [b]))] g) 87 (t1 (bL [b,a]))) 163):=by kernel_rfl
theorem F4 {J n:Nat} (h:f 85=t1 (bL xs)) (a:ak 85 J=aj):HT.get (HC f t J n).l 1392640=O (bL xs):=by
 have e:HT.get (HC f t J n).l 1392640=ah (TR.get (f 85) 0) (TR.get t 0) (ak 85 J):=rfl;refine U e (U a ((?_:TR.get (f 85) 0=_)));refine U h ?_;rfl
def rI:TR:=t1 (bL [EL aj,EL H])
theorem lL5 (p q) s f (h:At f ((85,mP)::(iG aj p++iG H q))):∃g,(∀o w,(sJ aj (sL 5)).f (run KT 39) (rh (US s)) (HH f 86) o w=o (rh (Bw s)) (HH g 164))/\Fr 9999 f 86 g/\At g [(87,rI),(94,I6 p),(132,I6 q)]:=by
 have r0:Fr 9999 f 86 (upd (upd f 86 .nil) 87 (t1 (bL []))):=(Fr.refl.upd (.inl rfl)).upd (.inl rfl);have c:=h.fr r0 rfl;have hq:At (upd (upd f 86 .nil) 87 (t1 (bL []))) (iG H q):=c.2.2.2.2.2.2.2.2.2.2;refine jB (Hp aj p _ (⟨c.2.1,c.2.2.1,c.2.2.2.1,c.2.2.2.2.1,c.2.2.2.2.2.1,c.2.2.2.2.2.2.1,c.2.2.2.2.2.2.2.1,c.2.2.2.2.2.2.2.2.1,c.2.2.2.2.2.2.2.2.2.1,trivial⟩)) λB G d I=> ?_;have K:At (upd B 124 .nil) [(87,t1 (bL []))]:=⟨(jo rfl).trans (d 87 rfl rfl),trivial⟩;refine fE K.eq λS C=> ?_;have y:Fr 9999 (upd (upd f 86 .nil) 87 (t1 (bL []))) 87 (upd (upd (upd B 124 .nil) 87 (t1 (bL [EL aj]))) 125 .nil):=λj a u_=>((((d.to rfl).upd (.inl rfl)).upd (.inr rfl)).upd (.inl rfl)) j (cH.mpr (cK (cH.mp a))) (by
  induction e:ak j 87 using zB with
  |false=>rfl
  |true=>rw [cz e] at a;exact ff a)
 refine jB (Hp H q _ (hq.fr y rfl)) λD L u M=> ?_;have P:At (upd D 162 .nil) [(87,t1 (bL [EL aj]))]:=⟨(jo rfl).trans (u 87 rfl rfl),trivial⟩;refine fE P.eq λG2 E=>⟨upd (upd (upd D 162 .nil) 87 rI) 163 .nil,λo w=> ?_, ?_,rfl, ?_, ?_,trivial⟩
 .skip
  refine rH.trans ?_;have z:At (upd f 86 .nil) [(85,mP)]:=⟨h.1,trivial⟩;refine fE z.eq λQ R=> ?_;have F:=MX (run KT 39) s Q (λρ h=>jump aj h λh=>o ρ h) (λv h=>jump aj h λh=>w v h);rw [<-R] at F;exact F.trans (bS (wH (n:=1999) (xs:=[xM aj,xM H]) rfl (F4 h.1 rfl) rfl) (bS (MY rfl) (bS (Hq (v:=xM aj) rfl) (bS (G _) (bS fh (U (show aG 124 1=125 from rfl) (U C (U (aa9 ..) (cL C (bS (wH (n:=1998) (xs:=[xM aj,xM H]) rfl (F4 (t:= .nil) (n:=2048000) (J:=125) (rfl.trans ((d 85 rfl rfl).trans h.1)) rfl) rfl) (bS xw (bS (Hq (v:=xM H) rfl) (bS (L _) (bS fh (U (show aG 162 1=163 from rfl) (U E (U (abb ..) (cL E (bS (Bx (n:=1997) (xs:=[xM aj,xM H]) rfl (F4 (t:= .nil) (n:=2670592) (J:=163) (rfl.trans ((u 85 rfl rfl).trans (rfl.trans ((d 85 rfl rfl).trans h.1)))) rfl) rfl) fh)))))))))))))))))))
 .intro j a A;have b:∀m,bI j 86=H->bQ 86 m=H->ak j m=false:=λm h1 h2=>by
   induction e:ak j m using zB with
   |false=>rfl
   |true=>rw [cz e] at h1;exact absurd (cH.mp h1) (bD.mpr (aA h2))
  have l:∀m,bQ 86 m=H->bI j m=true:=λm h2=>cH.mpr (aQ (cH.mp a) (aA h2));exact(jo (b 163 a rfl)).trans ((jo (b 87 a rfl)).trans ((jo (b 162 a rfl)).trans ((u j (l 126 rfl) A).trans ((jo (b 125 a rfl)).trans ((jo (b 87 a rfl)).trans ((jo (b 124 a rfl)).trans ((d j (l 88 rfl) A).trans (r0 j a A))))))))
 .exact rfl.trans ((u 94 rfl rfl).trans (rfl.trans I))
 .exact rfl.trans M
end
section
def f5 (t u:Bool):Bool:=ah aj u t
def eqB (a b:Bool):Bool:=Zu a b
theorem Ad b:eqB b b=true:=by rcases b<;>rfl
theorem Hr b:eqB b (neg b)=false:=by rcases b<;>rfl
theorem By b:f5 b H=b:=by rcases b<;>rfl
theorem t6 b:f5 b aj=false:=by rcases b<;>rfl
theorem vp f:uD f [] []=O true:=rfl
theorem eW {t u} (h1:f a b=O t) (h2:uD f x y=O u):uD f (a::x) (b::y)=O (f5 u t):=by
 refine(?_:(aB au (λt=>aB au (λu=>O (ah aj u t)) (uD f x y)) (f a b):Option Bool)=_);refine U h1 (U h2 ?_);rcases t<;>rcases u<;>rfl
theorem C0 (e:uD (oY h n) x y=O t):oY h (aG n 1) (dK x) (dK y)=O t:=e
theorem qv0 h (p q):oY h 59 (XO p) (XO q)=O (f5 (eqB p.b0 q.b0) (eqB p.b1 q.b1)):=by
 cases p;obtain⟨a,b,g,i,j,k,l,m,n,o,c,d,e,f⟩:=q
 (revert b0 a b1 b;refine F1 ?_;kernel_rfl)
theorem n1 h (b c) (x y:Nat) (hx:ak x y=aj):oY h 58 (aX (sel b x y)) (aX (sel c x y))=O (eqB b c):=by
 have hy:ak y x=false:=by
  induction e:ak y x using zB with
  |false=>rfl
  |true=>rw [cz e,fu] at hx;exact ft hx
 rcases b<;>rcases c
 .show O (ak y y)=_;refine U (fu ..) ?_;rfl
 .show O (ak y x)=_;refine U hy ?_;rfl
 .show O (ak x y)=_;refine U hx ?_;rfl
 .show O (ak x x)=_;refine U (fu ..) ?_;rfl
theorem qv1 h (p q):oY h 59 (XU p) (XU q)=O (f5 (f5 (f5 (f5 (f5 H (eqB p.vD q.vD)) (eqB p.b9 q.b9)) H) (eqB p.b3 q.b3)) (eqB p.b2 q.b2)):=by
 refine C0 (eW (n1 h _ _ 1048 1000 rfl) (eW (n1 h _ _ 799 800 rfl) (eW rfl (eW ?_ (eW ?_ (vp _))))))
 .rcases p.b9<;>rcases q.b9<;>kernel_rfl
 .rcases p.vD<;>rcases q.vD<;>kernel_rfl
theorem qv2 h (p q):oY h 59 (XW p) (XW q)=O (f5 (f5 (f5 (f5 (f5 H (eqB p.b8 q.b8)) (eqB p.b7 q.b7)) (eqB p.b6 q.b6)) (eqB p.b5 q.b5)) (eqB p.b4 q.b4)):=by
 refine C0 (eW ?_ (eW ?_ (eW ?_ (eW ?_ (eW ?_ (vp _))))))
 .rcases p.b4<;>rcases q.b4<;>kernel_rfl
 .rcases p.b5<;>rcases q.b5<;>kernel_rfl
 .rcases p.b6<;>rcases q.b6<;>kernel_rfl
 .rcases p.b7<;>rcases q.b7<;>kernel_rfl
 .rcases p.b8<;>rcases q.b8<;>kernel_rfl
theorem qv3 h (p q):oY h 59 (XX p) (XX q)=O (eqB p.oA q.oA):=by
 cases p;obtain⟨e,f,g,i,j,k,l,m,n,o,b,a,c,d⟩:=q
 (revert oA a;refine CV ?_;kernel_rfl)
theorem qv4 h (p q):oY h 59 (XY p) (XY q)=O (eqB p.oB q.oB):=by
 cases p;obtain⟨e,f,g,i,j,k,l,m,n,o,b,c,a,d⟩:=q
 (revert oB a;refine CV ?_;kernel_rfl)
theorem qv5 h (p q):oY h 59 (XZ p) (XZ q)=O (eqB p.n9 q.n9):=by
 cases p;obtain⟨e,f,g,i,j,k,l,m,n,o,b,c,d,a⟩:=q
 (revert n9 a;refine CV ?_;kernel_rfl)
def same (p q:d7):Bool:=f5 (f5 (f5 (f5 (f5 (f5 H (eqB p.n9 q.n9)) (eqB p.oB q.oB)) (eqB p.oA q.oA))
 (f5 (f5 (f5 (f5 (f5 H (eqB p.b8 q.b8)) (eqB p.b7 q.b7)) (eqB p.b6 q.b6)) (eqB p.b5 q.b5)) (eqB p.b4 q.b4)))
 (f5 (f5 (f5 (f5 (f5 H (eqB p.vD q.vD)) (eqB p.b9 q.b9)) H) (eqB p.b3 q.b3)) (eqB p.b2 q.b2))) (f5 (eqB p.b0 q.b0) (eqB p.b1 q.b1))
theorem Hs h (p q):oY h 60 (Ew p) (Ew q)=O (same p q):=
 C0 (eW (qv0 h p q) (eW (qv1 h p q) (eW (qv2 h p q) (eW (qv3 h p q) (eW (qv4 h p q) (eW (qv5 h p q) (vp _)))))))
theorem MZ b:f5 aj b=false:=rfl
theorem F5 b:f5 H b=b:=rfl
theorem same_self p:same p p=true:=by
 unfold same;simp only [Ad,F5]
theorem I8 p:∀s,s<16->same p (flip p s)=bI 13 s:=by
 refine CZ ?_ ?_ ?_ ?_ ?_ ?_ ?_ ?_ ?_ ?_ ?_ ?_ ?_ ?_ (same_self p) (same_self p)
 all_goals
  cases p;unfold same flip;dsimp only [xb,sel,ak];simp only [Ad,Hr,F5,By,t6,MZ];rfl
end
section
def gP (g g' t rest:Bool):Bool:=sel g (sel g' (f5 t rest) aj) rest
def BA (p p':d7) (g g' s s' q q' k k':Bool):Bool:=sel (ak (cA g s q k) (cA g' s' q' k'))
 (f5 (qp (z0 p) (z0 p')) (f5 (qp (z9 p) (z9 p')) (f5 (qp (Aa p) (Aa p')) (f5 H (f5 (qp (Ab p) (Ab p')) (gP g g' (qp (nV p) (nV p')) (gP s s' H (gP q q' H (gP k k' H H))))))))) aj
theorem I9 h (p p') (g g' s s' q q' k k'):RA (oY h 60) (dZ (UJ p g s q k) (cA g s q k)) (dZ (UJ p' g' s' q' k') (cA g' s' q' k'))=O (BA p p' g g' s s' q q' k k'):=by
 (revert g g' s s' q q' k k';refine tb8 ?_;kernel_rfl)
theorem UW (p q):qp (z0 p) (z0 q)=eqB p.b2 q.b2:=by
 cases p;obtain⟨f,g,a,h,i,j,k,l,m,n,b,c,d,e⟩:=q
 (revert b2 a;refine CV ?_;kernel_rfl)
theorem UX (p q):qp (z9 p) (z9 q)=f5 (eqB p.b3 q.b3) (eqB p.vD q.vD):=by
 cases p;obtain⟨f,g,h,b,i,j,k,l,m,n,a,c,d,e⟩:=q
 (revert b3 b vD a;refine F1 ?_;kernel_rfl)
theorem UY (p q):qp (Aa p) (Aa q)=f5 (eqB p.b9 q.b9) (eqB p.vD q.vD):=by
 cases p;obtain⟨f,g,h,i,j,k,l,m,n,b,a,c,d,e⟩:=q
 (revert b9 b vD a;refine F1 ?_;kernel_rfl)
theorem UZ (p q):qp (Ab p) (Ab q)=f5 (eqB p.b0 q.b0) (eqB p.b1 q.b1):=by
 cases p;obtain⟨a,b,g,h,i,j,k,l,m,n,c,d,e,f⟩:=q
 (revert b0 a b1 b;refine F1 ?_;kernel_rfl)
theorem M0 l:qp l l=true:=by
 induction l with
 |nil=>rfl
 |cons a l b=>
  refine(?_:(ah aj (qp l l) (ak a a):Bool)=H);refine U (fu ..) ?_;exact b
theorem Ja (s q k):gP s s H (gP q q H (gP k k H H))=true:=by rcases s<;>rcases q<;>rcases k<;>rfl
theorem QL (g t) (ht:t=H):gP g g t H=true:=by subst ht;rcases g<;>rfl
theorem sd (h:ak (cA g s q k) (cA g' s' q' k')=aj):BA p p' g g' s s' q q' k k'=false:=by unfold BA;refine U h ?_;rfl
theorem Ey:BA p p' g g s s q q k k=f5 (qp (z0 p) (z0 p')) (f5 (qp (z9 p) (z9 p')) (f5 (qp (Aa p) (Aa p')) (f5 H (f5 (qp (Ab p) (Ab p')) (gP g g (qp (nV p) (nV p')) H))))):=by
 unfold BA;refine U (fu ..) (U (Ja ..) ?_);rfl
def U0 (p q:d7):Bool:=sel (jn p) (sel (jn q) (neg (qp (nV p) (nV q))) H) (jn q)
theorem Ae (h:U0 p q=H):(jn p=H/\jn q=H/\qp (nV p) (nV q)=aj)\/jn q=neg (jn p):=by
 unfold U0 at h
 induction e:jn p using zB with
 |false=>rw [e] at h;exact .inr h
 |true=>
  induction a:jn q using zB with
  |false=>exact .inr rfl
  |true=>
   rw [e,a] at h
   induction b:qp (nV p) (nV q) using zB with
   |false=>exact .inl (iX rfl rfl rfl)
   |true=>rw [b] at h;exact ff h
theorem QM p:U0 p (flip p 4)=true:=by
 cases p;revert b4 b5 b6 b7 b8;refine MO ?_;kernel_rfl
theorem QN p:U0 p (flip p 5)=true:=by
 cases p;revert b4 b5 b6 b7 b8;refine MO ?_;kernel_rfl
theorem QO p:U0 p (flip p 6)=true:=by
 cases p;revert b4 b5 b6 b7 b8;refine MO ?_;kernel_rfl
theorem QS p:U0 p (flip p 7)=true:=by
 cases p;revert b4 b5 b6 b7 b8;refine MO ?_;kernel_rfl
theorem QT p:U0 p (flip p 8)=true:=by
 cases p;revert b4 b5 b6 b7 b8;refine MO ?_;kernel_rfl
theorem X6 (g s q k):ak (cA g s q k) (cA (neg g) s q k)=false:=by rcases g<;>rcases s<;>rcases q<;>rcases k<;>rfl
theorem X7 (g s q k):ak (cA g s q k) (cA g (neg s) q k)=false:=by rcases g<;>rcases s<;>rcases q<;>rcases k<;>rfl
theorem X8 (g s q k):ak (cA g s q k) (cA g s (neg q) k)=false:=by rcases g<;>rcases s<;>rcases q<;>rcases k<;>rfl
theorem Yb (g s q k):ak (cA g s q k) (cA g s q (neg k))=false:=by rcases g<;>rcases s<;>rcases q<;>rcases k<;>rfl
def rJ (p p':d7):Bool:=BA p p' (jn p) (jn p') p.oA p'.oA p.oB p'.oB p.n9 p'.n9
theorem Jb (p p') (d:jn p'=jn p) (a:p'.oA=p.oA) (b:p'.oB=p.oB) (c:p'.n9=p.n9) (hb:nV p'=nV p):rJ p p'=f5 (eqB p.b2 p'.b2) (f5 (f5 (eqB p.b3 p'.b3) (eqB p.vD p'.vD)) (f5 (f5 (eqB p.b9 p'.b9) (eqB p.vD p'.vD)) (f5 H (f5 (f5 (eqB p.b0 p'.b0) (eqB p.b1 p'.b1)) H)))):=by
 unfold rJ;rw [d,a,b,c,Ey,UW,UX,UY,UZ,QL _ _ (by refine U hb ?_;exact M0 _)]
theorem Af (p p') (h:(jn p=H/\jn p'=H/\qp (nV p) (nV p')=aj)\/jn p'=neg (jn p)) (d:p'.oA=p.oA) (f:p'.oB=p.oB) (g:p'.n9=p.n9):rJ p p'=false:=by
 unfold rJ;refine U d (U f (U g ?_));rcases h with⟨a,b,c⟩|a
 .refine U a (U b (U Ey (U c ?_)));have e:gP H H aj H=false:=rfl;refine U e ?_;simp only [t6]
 .refine U a ?_;exact sd (X6 _ _ _ _)
theorem Jc p:∀s,s<16->rJ p (flip p s)=bI 13 s:=by
 refine CZ ?_ ?_ ?_ ?_ (Af p _ (Ae (QM p)) rfl rfl rfl) (Af p _ (Ae (QN p)) rfl rfl rfl) (Af p _ (Ae (QO p)) rfl rfl rfl) (Af p _ (Ae (QS p)) rfl rfl rfl) (Af p _ (Ae (QT p)) rfl rfl rfl) ?_ ?_ (sd (X7 _ _ _ _)) (sd (X8 _ _ _ _)) (sd (Yb _ _ _ _)) ?_ ?_
 all_goals
  refine bS (Jb p _ (by rfl) (by rfl) (by rfl) (by rfl) (by rfl)) ?_;cases p;unfold flip;dsimp only [xb,sel,ak];simp only [Ad,Hr,F5,By,t6,MZ];rfl
theorem M1 h p s (a:s<16):RA (oY h 60) (dZ (UJ p (jn p) p.oA p.oB p.n9) (cA (jn p) p.oA p.oB p.n9)) (dZ (UJ (flip p s) (jn (flip p s)) (flip p s).oA (flip p s).oB (flip p s).n9) (cA (jn (flip p s)) (flip p s).oA (flip p s).oB (flip p s).n9))=O (bI 13 s):=
 (I9 h p (flip p s) _ _ _ _ _ _ _ _).trans (congrArg O (Jc p s a))
end
set_option backward.match.sparseCases false
section
def wI (k:Nat):Stmt:=K.sI (K.fnBody (K.top 373)) k
def Zp (e:Expr) (k:Nat):Expr:=match e with
 | .BoolOp _ es _=>K.El es k
 |e=>e
noncomputable def NI:Expr->Expr
 | .Compare a _ _ _=>a
 |e=>e
def Yc:Expr->Expr
 | .Compare _ _ es _=>K.El es 0
 |e=>e
def cE (e:Expr):XE:=cU K.G K.Ms 30 (CW (K.top 373)) e
def XA0:XE:=cE (NI (NI (Zp (CX (wI 6)) 0)))
def XA1:XE:=cE (Yc (NI (Zp (CX (wI 6)) 0)))
def XF0:XE:=cE (NI (NI (Zp (CX (wI 6)) 1)))
def XF1:XE:=cE (Yc (NI (Zp (CX (wI 6)) 1)))
def M3 (k:Nat):XS:=J6 K.G K.Ms (CW (K.top 373)) [ifB (wI k)]
def U1:XE:=BW Zw (qy 245102707) (xC (aX 13))
def Yd:XT:=Di aj (EX RG (BW Ju (xJ H XA0) (xJ H XA1)) U1) (EX RG (BW Ju XF0 XF1) U1)
theorem sL6:sL 6=Dk Yd (M3 6) E3:=by kernel_rfl
def QU (p q:d7):List (Nat×TR):=[(85,mP),(87,rI),(94,I6 p),(132,I6 q),(3,tP p),(35,tP q)]
theorem QV r s p f (h:At f [(85,mP),(59,VA aj p)]) k:XA0.f r (rh (Bw s)) (HH f 166) k=r (bM 2695) [xM aj] (HH f 166) k:=by
 refine fE h.eq λg a=> ?_;subst a;clear h;kernel_rfl
theorem QW r s q f (h:At f [(85,mP),(83,VA H q)]) k:XA1.f r (rh (Bw s)) (HH f 182) k=r (bM 2695) [xM H] (HH f 182) k:=by
 refine fE h.eq λg a=> ?_;subst a;clear h;kernel_rfl
theorem QX r s f (h:At f [(87,rI)]) k:XF0.f r (rh (Bw s)) (HH f 197) k=k (EL aj) (HH f 197):=by
 refine fE h.eq λg a=> ?_;subst a;clear h;kernel_rfl
theorem QY r s f (h:At f [(87,rI)]) k:XF1.f r (rh (Bw s)) (HH f 197) k=k (EL H) (HH f 197):=by
 refine fE h.eq λg a=> ?_;subst a;clear h;kernel_rfl
theorem Ez r s h k:U1.f r (rh (Bw s)) h k=k (vBool (bI 13 s)) h:=by kernel_rfl
theorem EA b h k:RG (vBool b) (vBool b) h k=k aj h:=by rcases b<;>rfl
theorem Ht (c:ak a.t 6=aj) (e:oY h 60 a b=O t):Ju a b h k=k t h:=by
 refine(?_:(ah (lift (oY h 60 a b) h k) _ (ak a.t 6):Option Res)=_);refine U c ((?_:(aB au (λt=>k t h) (oY h 60 a b):Option Res)=_));exact U e rfl
theorem Jd {i j c c'} (hi:HT.get h.l i=O (dZ x c)) (a:HT.get h.l j=O (dZ y c')) (e:RA (oY h 60) (dZ x c) (dZ y c')=O t):Ju (bP i) (bP j) h k=k t h:=by
 have b:Ju (bP i) (bP j) h k=aB au (λo=>ah (lift (oY h 60 (bP i) (bP j)) h k) (aB au (λo'=>lift (RA (oY h 60) o o') h k) (HT.get h.l j)) (ak o.t 2)) (HT.get h.l i):=rfl;refine U b (U hi (U a ((?_:(aB au (λt=>k t h) (RA (oY h 60) (dZ x c) (dZ y c')):Option Res)=_))));exact U e rfl
theorem Je (c:∀k,a.f r ρ h k=k aj h1) (d:∀k,b.f r ρ h1 k=k aj h2):(Di aj a b).f r ρ h k=k aj h2:=U (c ..) (d k)
theorem Ag {op:V->V->M Bool} {x y} {t} (c:∀k,a.f r ρ h k=k x h1) (d:∀k,b.f r ρ h1 k=k y h2) (e:∀k,op x y h2 k=k t h2):(EX op a b).f r ρ h k=k t h2:=
 (c _).trans ((d _).trans (e _))
theorem Ah {op:V->V->M Bool} (c:∀k,a.f r ρ h k=k x h1) (d:∀k,b.f r ρ h1 k=k y h2) (e:∀k,op x y h2 k=k t h2):(BW op a b).f r ρ h k=k (vBool t) h2:=
 (c _).trans ((d _).trans (e _))
theorem ite_no {J J0 J1 J2:Nat} {kr} (b:J0=aG J 1) (c:J2=aG J1 3) (e:∀k,T.f r ρ (HH (upd f J .nil) J0) k=k aj (HH g J1)):(sJ H (Dk T a E3)).f r ρ (HH f J) kn kr=kn ρ (HH (upd (upd (upd g J1 .nil) (aG J1 1) .nil) (aG J1 2) .nil) J2):=by
 subst b;subst c;refine bS rH (bS (e _) ((?_:jump aj (HH g J1) (λh=>jump aj h λh=>jump H h λh=>kn ρ h)=_)));exact fh.trans (fh.trans fh)
theorem lL6 p s (l:s<16) f (h1:At f (iG aj p)) (h2:At f (iG H (flip p s))) (i:At f (QU p (flip p s))):∃g,(∀j m,(sJ H (sL 6)).f (run KT 39) (rh (Bw s)) (HH f 164) j m=j (rh (Bw s)) (HH g 200))/\Fr 9999 f 164 g:=by
 have r0:Fr 9999 f 164 (upd (upd f 164 .nil) 165 .nil):=(Fr.refl.upd (.inl rfl)).upd (.inl rfl);refine dN (CY .a p (upd (upd f 164 .nil) 165 .nil) (h1.fr r0 rfl)) λn q r=> ?_;have e:Fr 9999 f 164 (upd (upd n 180 .nil) 181 .nil):=((r0.trans r rfl).upd (.inl rfl)).upd (.inl rfl);refine dN (CY .b (flip p s) (upd (upd n 180 .nil) 181 .nil) (h2.fr e rfl)) λd u v=> ?_;have o:Fr 9999 f 164 (upd d 196 .nil):=(e.trans v rfl).upd (.inl rfl);have h:=i.fr o rfl;refine bW _ (λj m=> ?_) (((o.upd (k:=197) (t:= .nil) (.inl rfl)).upd (k:=198) (t:= .nil) (.inl rfl)).upd (k:=199) (t:= .nil) (.inl rfl));refine U sL6 ?_;have w:∀k,(BW Ju XF0 XF1).f (run KT 39) (rh (Bw s)) (HH (upd d 196 .nil) 197) k=k (vBool (bI 13 s)) (HH (upd d 196 .nil) 197):=λk=>Ah (QX _ s _ ⟨h.2.1,trivial⟩) (QY _ s _ ⟨h.2.1,trivial⟩) λk=>Jd (x:=UJ p (jn p) p.oA p.oB p.n9) (c:=cA (jn p) p.oA p.oB p.n9) (y:=UJ (flip p s) (jn (flip p s)) (flip p s).oA (flip p s).oB (flip p s).n9) (c':=cA (jn (flip p s)) (flip p s).oA (flip p s).oB (flip p s).n9)
  ((show _=TR.get (upd d 196 .nil 94) 0 from rfl).trans (U h.2.2.1 rfl)) ((show _=TR.get (upd d 196 .nil 132) 0 from rfl).trans (U h.2.2.2.1 rfl)) (M1 _ p s l)
 exact ite_no (J0:=165) (J1:=197) rfl rfl λk=>Je (λk=>Ag (λk=>Ah (λk=>bS xw (bS (QV _ s p _ (iX (i.fr r0 rfl).1 (h1.fr r0 rfl).2.2.2.2.2.2.2.2.1 trivial) _) (bS (q _) fh))) (λk=>bS xw (bS (QW _ s (flip p s) _ (iX (i.fr e rfl).1 (h2.fr e rfl).2.2.2.2.2.2.2.2.1 trivial) _) (bS (u _) fh))) λk=>Ht rfl ((Hs _ p (flip p s)).trans (congrArg O (I8 p s l)))) (Ez _ s _) (EA _ _)) (λk=>Ag w (Ez _ s _) (EA _ _))
end
section
def Ye (e:Expr) (k:Nat):Expr:=match e with
 | .List es _=>K.El es k
 |e=>e
def XS0:XE:=cE (Ye (NI (CX (wI 7))) 0)
def XS1:XE:=cE (Ye (NI (CX (wI 7))) 1)
def XG0:XE:=cE (Ye (Yc (CX (wI 7))) 0)
def XG1:XE:=cE (Ye (Yc (CX (wI 7))) 1)
def test7:XT:=EX RG (wW (dR (xJ aj XS0) (dR (xJ aj XS1) kh))) (wW (dR (xJ aj XG0) (dR (xJ aj XG1) kh)))
theorem sL7:sL 7=Dk test7 (M3 7) E3:=by kernel_rfl
def Ai (g s q k:Bool):List V:=app (sel g [MQ] []) (app (sel q [MS] []) (app (sel s [MR] []) (app [vStr [99,109,97,112],vStr [104,101,97,100],vStr [104,104,101,97],vStr [104,109,116,120]] (app (sel k [MT] []) [vStr [109,97,120,112]]))))
def Yg (g s q k:Bool):List V:=app [vStr [99,109,97,112],vStr [104,101,97,100],vStr [104,104,101,97],vStr [104,109,116,120],vStr [109,97,120,112]] (app (sel g [MQ] []) (app (sel s [MR] []) (app (sel q [MS] []) (sel k [MT] []))))
def abf (l:List ae6):Nat->TR->TR:=aS (λu_ t=>t) (λo u_ ih i t=>ih (aG i 1) (TR.ins o t i)) l
def tGo (g s q k:Bool) (a b c d:List V):TR:=abf [bL (Yg g s q k),bL [aX 4,aX 5,aX 6,aX 7,aX 8],bL [aX 11],bL [aX 12],bL [aX 13],bL a,bL b,bL c,bL d,bL (Ai g s q k)] 0 .nil
def tG (p:d7):TR:=tGo (jn p) p.oA p.oB p.n9 [vB p.b4,vB p.b5,vB p.b6,vB p.b7,vB p.b8] [vB p.oA] [vB p.oB] [vB p.n9]
theorem lS0 t p (g s q k):eT 9999 (xJ aj XS0) (run KT 39) (rh (Bw t)) 201 [(87,rI),(94,tA p g s q k)] (bP 3309568) 203 [(202,t1 (bL (Ai g s q k)))]:=
 eT.mk (λf=>upd (upd f 201 .nil) 202 (t1 (bL (Ai g s q k)))) (λf a=>by
  (revert g s q k;refine F1 ?_;kernel_rfl)) (λf=>(Fr.refl.upd (.inl rfl)).upd (.inl rfl)) (λf=>⟨rfl,trivial⟩)
theorem lS1 t p (g s q k):eT 9999 (xJ aj XS1) (run KT 39) (rh (Bw t)) 203 [(87,rI),(132,tA p g s q k)] (bP 3342336) 205 [(204,t1 (bL (Ai g s q k)))]:=
 eT.mk (λf=>upd (upd f 203 .nil) 204 (t1 (bL (Ai g s q k)))) (λf a=>by
  (revert g s q k;refine F1 ?_;kernel_rfl)) (λf=>(Fr.refl.upd (.inl rfl)).upd (.inl rfl)) (λf=>⟨rfl,trivial⟩)
def vq (a b:Nat):TR:=t1 (bL [bP a,bP b])
theorem lG0 t p f (h:At f [(3,tP p)]) k:(xJ aj XG0).f (run KT 39) (rh (Bw t)) (HC f (vq 3309568 3342336) 205 3358721) k=k (bP 3375113) (HH (upd (upd f 205 (vq 3309568 3342336)) 206 (tG p)) 207):=by
 refine fE h.eq λg a=> ?_;subst a;clear h;cases p;revert oA oB n9;refine I4 ?_;revert b4 b5 b6 b7 b8;refine h5 ?_ ?_<;>kernel_rfl
theorem lG1 t p f (h:At f [(35,tP p)]) k:(xJ aj XG1).f (run KT 39) (rh (Bw t)) (HH f 207) k=k (bP 3407881) (HH (upd (upd f 207 .nil) 208 (tG p)) 209):=by
 refine fE h.eq λg a=> ?_;subst a;clear h;cases p;revert oA oB n9;refine I4 ?_;revert b4 b5 b6 b7 b8;refine h5 ?_ ?_<;>kernel_rfl
end
set_option backward.match.sparseCases true
section
theorem Yh F t (g s q k) (a b c d) (h:At F [(202,t1 (bL (Ai g s q k))),(206,tGo g s q k a b c d)]):oY (HC F t 209 3424257) 59 (bP 3309568) (bP 3375113)=O true:=by
 refine fE h.eq λF e=> ?_;subst e;clear h
 (revert g s q k;refine F1 ?_;kernel_rfl)
theorem Yi F t (g s q k) (a b c d) (h:At F [(204,t1 (bL (Ai g s q k))),(208,tGo g s q k a b c d)]):oY (HC F t 209 3424257) 59 (bP 3342336) (bP 3407881)=O true:=by
 refine fE h.eq λF e=> ?_;subst e;clear h
 (revert g s q k;refine F1 ?_;kernel_rfl)
theorem Jf {x y} (hi:HT.get h.l i=O (bL x)) (a:HT.get h.l j=O (bL y)) (hl:ak (len x) (len y)=H) (e:uD (oY h 59) x y=O H):RG (bP i) (bP j) h k=k aj h:=by
 have b:RG (bP i) (bP j) h k=aB au (λo=>ah (aB au (λt=>k (neg t) h) (aB au (λx=>aB au (λy=>Zv (oY h 59) x y) (HT.get h.l j)) (HT.get h.l i))) (aB au (λo'=>lift (RA (oY h 60) o o') h λt h=>k (neg t) h) (HT.get h.l j)) (ak o.t 2)) (HT.get h.l i):=rfl;refine U b (U hi (U a ((?_:(aB au (λt=>k (neg t) h) (ah (O aj) (uD (oY h 59) x y) (ak (len x) (len y)):Option Bool):Option Res)=_))));refine U hl ((?_:(aB au (λt=>k (neg t) h) (uD (oY h 59) x y):Option Res)=_));refine U e ?_;rfl
theorem Yj f K:new (bL [bP 3309568,bP 3342336]) (HH f 205) K=K (bP 3358720) (HC f (vq 3309568 3342336) 205 3358721):=by kernel_rfl
theorem Yk f K:new (bL [bP 3375113,bP 3407881]) (HH f 209) K=K (bP 3424256) (HC f (vq 3375113 3407881) 209 3424257):=by kernel_rfl
theorem Sx (A B):(wW (dR A (dR B kh))).f r ρ h k=A.f r ρ h λa h=>B.f r ρ h λb h=>new (bL [a,b]) h k:=rfl
theorem QZ {J J0 J1 J2 n:Nat} {kr} (b:J0=aG J 1) (c:J2=aG J1 3) (hn:bQ n (cM 16384 (aG J1 1))=H) (e:∀k,T.f r ρ (HH (upd f J .nil) J0) k=k aj (HC g t J1 n)):
 (sJ H (Dk T a E3)).f r ρ (HH f J) kn kr=kn ρ (HH (upd (upd (upd g J1 t) (aG J1 1) .nil) (aG J1 2) .nil) J2):=by
 subst b;subst c;refine bS rH (bS (e _) ((?_:jump aj (HC g t J1 n) (λh=>jump aj h λh=>jump H h λh=>kn ρ h)=_)));exact(yj hn).trans (fh.trans fh)
theorem lL7 (p q) s f (h:At f (QU p q)):∃g,(∀c i,(sJ H (sL 7)).f (run KT 39) (rh (Bw s)) (HH f 200) c i=c (rh (Bw s)) (HH g 212))/\Fr 9999 f 200 g:=by
 have r0:Fr 9999 f 200 (upd f 200 .nil):=Fr.refl.upd (.inl rfl);have d:=h.fr r0 rfl;refine jB (lS0 s p (jn p) p.oA p.oB p.n9 _ (iX d.2.1 d.2.2.1 trivial)) λl m j o=> ?_;have h1:=d.fr j rfl;refine jB (lS1 s q (jn q) q.oA q.oB q.n9 l (iX h1.2.1 h1.2.2.2.1 trivial)) λa r e v=> ?_;have h2:=h1.fr e rfl;have b:Fr 9999 a 205 (upd (upd a 205 (vq 3309568 3342336)) 206 (tG p)):=(Fr.refl.upd (.inl rfl)).upd (.inl rfl);have w:Fr 9999 (upd (upd a 205 (vq 3309568 3342336)) 206 (tG p)) 207 (upd (upd (upd (upd a 205 (vq 3309568 3342336)) 206 (tG p)) 207 .nil) 208 (tG q)):=(Fr.refl.upd (.inl rfl)).upd (.inl rfl);refine bW _ (λc i=> ?_) ((((((r0.trans j rfl).trans e rfl).trans b rfl).trans w rfl).upd (k:=209) (t:=vq 3375113 3407881) (.inl rfl)|>.upd (k:=210) (t:= .nil) (.inl rfl)).upd (k:=211) (t:= .nil) (.inl rfl));refine U sL7 (QZ (J0:=201) (J1:=209) (n:=3424257) rfl rfl rfl λk=>Ag (x:=bP 3358720) (y:=bP 3424256) (h1:=HC a (vq 3309568 3342336) 205 3358721) (λk=> ?_) (λk=> ?_) λk=> ?_)
 .exact bS (Sx _ _) (bS (m _) (bS (r _) (Yj _ _)))
 .exact bS (Sx _ _) (bS ((lG0 s p a ⟨h2.2.2.2.2.1,trivial⟩) _) (bS ((lG1 s q _ ⟨(h2.fr b rfl).2.2.2.2.2.1,trivial⟩) _) (Yk _ _)))
 .refine Jf (x:=[bP 3309568,bP 3342336]) (y:=[bP 3375113,bP 3407881]) rfl rfl rfl (eW (t:=H) (u:=H) ?_ (eW (t:=H) (u:=H) ?_ (vp _)))
  .exact Yh _ _ _ _ _ _ _ _ _ _ (iX ((o.fr e rfl).fr b rfl).1 rfl trivial)
  .exact Yi _ _ _ _ _ _ _ _ _ _ (iX (v.fr b rfl).1 rfl trivial)
end
set_option backward.match.sparseCases false
section
noncomputable def atO:Expr->Expr
 | .Call (.Attribute o _ _) _ _ _=>o
 |e=>e
def XB:XE:=cE (NI (F2 (wI 8)))
def Zq:XE:=cU K.G K.Ms 29 (CW (K.top 373)) (atO (NI (F2 (wI 8))))
def XB1:XE:=cE (Yc (F2 (wI 8)))
theorem Yl:XB=Dh Zq (nm "told") (K.Ms (nm "told")) (SS (nm "told")) (SV (nm "told")) kh:=by kernel_rfl
theorem Q0 r s f (h:At f [(87,rI)]) k:Zq.f r (rh (Bw s)) (HH f 214) k=r (bM 2737) [EL H] (HH f 214) k:=by
 refine fE h.eq λg a=> ?_;subst a;clear h;kernel_rfl
def Sy (r:Ap) (k:V->ae7->Option Res) (ov:V) (h:ae7):Option Res:=(Dh (xC ov) (nm "told") (K.Ms (nm "told")) (SS (nm "told")) (SV (nm "told")) kh).f r (rh []) h k
theorem U3 r ρ h k:(Dh Zq (nm "told") (K.Ms (nm "told")) (SS (nm "told")) (SV (nm "told")) kh).f r ρ h k=Zq.f r ρ h (Sy r k):=rfl
theorem Jg r p f (h:At f [(230,NH p)]) k:Sy r k Sw (HH f 232)=r (bM 2695) [Sw] (HH f 232) k:=by
 refine fE h.eq λg a=> ?_;subst a;clear h;kernel_rfl
theorem Q5 r s q f (h:At f [(85,mP),(83,VA H q)]) k:XB1.f r (rh (Bw s)) (HH f 248) k=r (bM 2695) [xM H] (HH f 248) k:=by
 refine fE h.eq λg a=> ?_;subst a;clear h;kernel_rfl
theorem lL8 (p q) s f (h2:At f (iG H q)) (e:At f (QU p q)):∃g,∀i a,(sJ aj (sL 8)).f (run KT 39) (rh (Bw s)) (HH f 212) i a=a (vBool H) (HH g 264):=by
 have r0:Fr 9999 f 212 (upd (upd f 212 .nil) 213 .nil):=(Fr.refl.upd (.inl rfl)).upd (.inl rfl);have j:=e.fr r0 rfl;refine jB (QJ q _ ⟨j.2.2.2.1,trivial⟩) λm n o l=>dN (QK q m l) λb r t=> ?_;have d:Fr 9999 f 212 (upd (upd b 246 .nil) 247 .nil):=((((r0.trans o rfl).trans t rfl).upd (.inl rfl)).upd (.inl rfl));refine dN (CY .c q (upd (upd b 246 .nil) 247 .nil) (h2.fr d rfl)) λu w y=>⟨upd (upd u 262 .nil) 263 .nil,λi a=> ?_⟩;have x:∀k,(xJ H XB).f (run KT 39) (rh (Bw s)) (HH (upd f 212 .nil) 213) k=k (Ew q) (HH (upd b 246 .nil) 247):=λk=>by
  refine bS xw (U Yl (U (U3 ..) (bS (Q0 _ s _ ⟨j.2.1,trivial⟩ _) (bS (n _) (bS (Jg _ q _ ⟨l.2.1,trivial⟩ _) (bS (r _) fh))))))
 refine bS rH ((?_:(BW Ju (xJ H XB) (xJ H XB1)).f (run KT 39) (rh (Bw s)) (HH (upd f 212 .nil) 213) (λv h=>jump aj h λh=>a v h)=_));exact bS (Ah x (λk=>bS xw (bS (Q5 _ s q _ (iX (e.fr d rfl).1 (h2.fr d rfl).2.2.2.2.2.2.2.2.1 trivial) _) (bS (w _) fh))) λk=>Ht rfl ((Hs _ q q).trans (congrArg O (same_self q)))) fh
def Hu:XS:=fz (sJ aj (sL 3)) (fz (sJ aj (sL 4)) (fz (sJ aj (sL 5)) (fz (sJ H (sL 6)) (fz (sJ H (sL 7)) (fz (sJ aj (sL 8)) vY)))))
theorem M4 p s (j:s<16) f (h:At f [(3,tP p)]):∃g,∀b c,Hu.f (run KT 39) (rh (VC s)) (HH f 34) b c=c (vBool H) (HH g 264):=by
 refine fE h.eq λF hF=> ?_;have r:∀b c,(sJ aj (sL 3)).f (run KT 39) (rh (VC s)) (HH f 34) b c=b (rh (X5 s)) (HH (upd (upd f 34 .nil) 35 (tP (flip p s))) 36):=λb c=>U hF (lL3 p F b c s j);have t:Fr 9999 f 34 (upd (upd f 34 .nil) 35 (tP (flip p s))):=(Fr.refl.upd (.inl rfl)).upd (.inl rfl);have k:At (upd (upd f 34 .nil) 35 (tP (flip p s))) [(3,tP p),(35,tP (flip p s))]:=iX ((h.fr t rfl).1) rfl trivial;refine jB (lL4 p (flip p s) s _ k) λu v w l=>jB (lL5 p (flip p s) s u l) λe x m i=> ?_;have n:=(k.fr w rfl).fr m rfl;have a:=l.fr m rfl;have hq:At e (iG H (flip p s)):=a.2.2.2.2.2.2.2.2.2.2;have hl:At e (QU p (flip p s)):=⟨a.1,i.1,i.2.1,i.2.2.1,n.1,n.2.1,trivial⟩;refine dN (lL6 p s j e (⟨a.2.1,a.2.2.1,a.2.2.2.1,a.2.2.2.2.1,a.2.2.2.2.2.1,a.2.2.2.2.2.2.1,a.2.2.2.2.2.2.2.1,a.2.2.2.2.2.2.2.2.1,a.2.2.2.2.2.2.2.2.2.1,trivial⟩) hq hl) λy z o=> ?_;have d:=hl.fr o rfl;exact dN (lL7 p (flip p s) s y d) λA B q=>fE (lL8 p (flip p s) s A ((hq.fr o rfl).fr q rfl) (d.fr q rfl)) λC D=>⟨C,λb c=>dm r (dm v (dm x (dm z (dm B (pR D)))))⟩
end
section
def Ym (us:List Nat) (i:Nat):Nat:=aB 0 (λu=>u) (sU us i)
def fS (us:List Nat) (a many:Nat):Nat:=ko (ah (aG (ah (ia (Ym us (ko a (len us))) (Nat.pow 16 (ia a (len us)))) 0 (isNil us)) (ia (cM a a) 3)) (Ym us a) (bI a (len us))) many
def PT (c:List V) (us:List Nat) (a:Nat):TR:= .node (O (bL c)) (.node (O (bL (l5 aX us))) .nil .nil) (.node (O (bL [bP 16385,aX a])) .nil .nil)
def dT (us:List Nat) (a:Nat):TR:=ah (t1 (bL [])) .nil (bI a (len us))
def xx (many:Nat):XE:=kK (xC (bM 2786)) (dR (Dg 1815280) (dR (xC (aX many)) kh))
def rD (v:V):Env:=⟨[(245102707,v)],[(4016016503283,bP 0),(1815280,bP 16386)]⟩
def U4 (c:List V) (us:List Nat) (a:Nat):Prop:=∀(v:V) (g:Nat->TR) (k:V->ae7->Option Res),(xx 2).f (run KT 39) (rD v) (HH (kY [(1,PT c us a)] g) (aG 4 (cM 2 a))) (λv h=>jump aj h λh=>k v h)=
 k (aX (fS us a 2)) (HH (upd (upd (kY [(1,PT c us a)] g) 1 (PT c us (aG a 1))) (aG 4 (cM 2 a)) (dT us a)) (aG 5 (cM 2 a)))
theorem Q6 {P:Nat->Prop} (e:P 0) (h1:P 1) (h2:P 2) (f:P 3) (g:P 4) (i:P 5) (j:P 6) (k:P 7) (l:P 8) (m:P 9) (a:P 10) (b:P 11) (c:P 12) (d:P 13):∀s,s<14->P s:=kg (kg (kg (kg (kg (kg (kg (kg (kg (kg (kg (kg (kg (kg (λs h=>absurd h (kq s)) e) h1) h2) f) g) i) j) k) l) m) a) b) c) d
theorem draws c us:∀a,a<14->U4 c us a:=by
 refine Q6 ?_ ?_ ?_ ?_ ?_ ?_ ?_ ?_ ?_ ?_ ?_ ?_ ?_ ?_
 all_goals
  intro v g k;revert us;refine Hi 14 ?_;kernel_rfl
end
set_option backward.match.sparseCases true
section
def abh:XS:=jv (kj 1668975) (yK (xJ aj (xx 2)) (kj 245102707) (EW (dR (xC (aX 14)) kh)) ji)
def rP (l:List (Nat×V)):Env:=⟨l,[(4016016503283,bP 0),(1815280,bP 16386)]⟩
def Yn:Env:=rh [(4016016503283,bP 0),(1815280,bP 16386)]
theorem U5 r g kn kr:abh.f r Yn (HH g 3) kn kr=
 turns r (kj 245102707) ji (pI (xJ aj (xx 2)) r (bP 49152)) (λh=>kn (gf Yn 1668975 (bP 49152)) h) 2000 (gg (dQ (NO 14 0))) (rP []) (HC g (t1 (bL [])) 3 49153):=by kernel_rfl
theorem EB {x n:Nat}:turns r (kj x) ji (pI elt r acc) k (aG n 1) (gg (dQ (v::l))) ρ h=
 elt.f r (gf ρ x v) h (putBack acc λa h=>turns r (kj x) ji (pI elt r acc) k n (gg (dQ l)) (gf ρ x v) h):=rfl
theorem M5 {x n:Nat}:turns r (kj x) ji (pI elt r acc) k (aG n 1) (gg (dQ [])) ρ h=k h:=rfl
theorem wJ (h:l.length<=1000000):oLe (bL l)=true:=by
 refine(?_:bQ (aG (len l) (aG (len ([]:List (V×V))) (aG (len ([]:List Nat)) (len ([]:List (Nat×V)))))) 1000000=H);exact U (len_eq ..) (mj h)
theorem put3 {J:Nat} (h:At g [(3,t1 (bL a))]) (b:ak 3 J=aj) (hl:a.length<1000000):putBack (bP 49152) K v (HH g J)=K di (HH (upd g 3 (t1 (bL (a++[v])))) J):=by
 have e:putBack (bP 49152) K v (HH g J)=aB au (λo=>ah au (ah au (K di ⟨HT.ins (bL (app o.xs [v])) (HH g J).l 49152,(HH g J).n⟩) (oLe (bL (app o.xs [v])))) (ak o.t 1)) (HT.get (HH g J).l 49152):=rfl;have c:HT.get (HH g J).l 49152=ah (TR.get (g 3) 0) au (ak 3 J):=rfl;have d:∀o,HT.ins o (HH g J).l 49152=ah ⟨upd g 3 (TR.ins o (g 3) 0),.nil,J⟩ ⟨g,TR.ins o .nil 0,J⟩ (ak 3 J):=λo=>rfl;refine U e (U c (U b ((?_:(aB au _ (TR.get (g 3) 0):Option Res)=_))));refine U h.1 ((?_:(ah au (K di ⟨HT.ins (bL (app a [v])) (HH g J).l 49152,(HH g J).n⟩) (oLe (bL (app a [v]))):Option Res)=_));refine U (mH ..) (U (wJ (by simp;exact pU hl)) (U (d ..) (U b ((?_:K di ⟨⟨upd g 3 (TR.ins (bL (a++[v])) (g 3) 0),.nil,J⟩,_⟩=_)))));refine U h.1 ?_;rfl
theorem Sz (p:a<14) (b:gf ρ 245102707 (aX a)=rD (aX a)) (j:At f [(1,PT c us a),(3,t1 (bL acc))]) (hl:acc.length<1000):
 ∃g,At g [(1,PT c us (aG a 1)),(3,t1 (bL (acc++[aX (fS us a 2)])))]/\
  ∀k,(xx 2).f (run KT 39) (gf ρ 245102707 (aX a)) (HH f (aG 4 (cM 2 a))) (λv h=>jump aj h λh=>putBack (bP 49152) (λq h=>turns (run KT 39) (kj 245102707) ji (pI (xJ aj (xx 2)) (run KT 39) (bP 49152)) k n (gg (dQ l)) (gf ρ 245102707 (aX a)) h) v h)=
  turns (run KT 39) (kj 245102707) ji (pI (xJ aj (xx 2)) (run KT 39) (bP 49152)) k n (gg (dQ l)) (rD (aX a)) (HH g (aG 5 (cM 2 a))):=by
 have h1:At f [(1,PT c us a)]:=⟨j.1,trivial⟩;refine fE h1.eq λF hF=> ?_;have d:∀i m,i<4->4<=m->ak i m=false:=λi m h1 h2=>by
  induction e:ak i m using zB with
  |false=>rfl
  |true=>have:=cz e;lia
 have o:4<=aG 4 (cM 2 a):=d8 _ _;refine bW (upd (upd (upd f 1 (PT c us (aG a 1))) (aG 4 (cM 2 a)) (dT us a)) 3 (t1 (bL (acc++[aX (fS us a 2)])))) (iX (jo (d 1 _ (fF 2) o)) rfl trivial) (λk=>(U b ?_));have e:=draws c us a p (aX a) F (putBack (bP 49152) λq h=>turns (run KT 39) (kj 245102707) ji (pI (xJ aj (xx 2)) (run KT 39) (bP 49152)) k n (gg (dQ l)) (rD (aX a)) h);rw [<-hF] at e;exact e.trans (put3 ⟨((jo (d 3 _ (Nat.lt_add_one 3) o)).trans j.2.1),trivial⟩ (d 3 _ (Nat.lt_add_one 3) (aI (aA rfl:4<=5) (d8 _ _))) (by lia))
def Aj (us:List Nat) (a:Nat):List V:=(List.range a).map λi=>aX (fS us i 2)
theorem U6:∀n a m f,n+a=14->n<m->0<a->At f [(1,PT c us a),(3,t1 (bL (Aj us a)))]->∀v,
 ∃g,g 3=t1 (bL (Aj us 14))/\g 1=PT c us 14/\∀k,turns (run KT 39) (kj 245102707) ji (pI (xJ aj (xx 2)) (run KT 39) (bP 49152)) k m (gg (dQ (NO n a))) (rD v) (HH f (aG 3 (cM 2 a)))=k (HH g 31):=by
 intro n
 induction n with
 |zero=>
  intro a m f ha hm h0 hf v;have ha:a=14:=gC (Nat.add_left_cancel (id (gC ha)));subst ha;obtain⟨m,rfl⟩:∃m',m=aG m' 1:=⟨m-1,by show m=m-1+1;lia⟩;exact f7 f hf.2.1 hf.1 (λk=>M5)
 |succ n ih=>
  intro a m f ha hm h0 hf v;obtain⟨m,rfl⟩:∃m',m=aG m' 1:=⟨m-1,by show m=m-1+1;lia⟩;have ne:∀i j,i<4->4<=j->ak i j=false:=λi j h1 h2=>by
   induction e:ak i j using zB with
   |false=>rfl
   |true=>have:=cz e;lia
  have m3:4<=aG 3 (cM 2 a):=by show 4<=3+2*a;lia
  have hf':At (upd f (aG 3 (cM 2 a)) .nil) [(1,PT c us a),(3,t1 (bL (Aj us a)))]:=iX ((jo (ne 1 _ (fF 2) m3)).trans hf.1) ((jo (ne 3 _ (Nat.lt_add_one 3) m3)).trans hf.2.1) trivial;refine aL (Sz (n:=m) (ρ:=rD v) (l:=NO n (aG a 1)) (by lia:a<14) rfl hf' (by simp [Aj];lia)) λg e hg=> ?_;have hacc:Aj us a++[aX (fS us a 2)]=Aj us (aG a 1):=by show _=Aj us (a+1);simp [Aj,List.range_succ]
  rw [hacc] at hg;refine cI (ih (aG a 1) m g (by show n+(a+1)=14;lia) (by have:n+1<m+1:=hm;lia) (jJ a) hg (aX a)) λg' e' h1 h2=>f7 g' h1 h2 (λk=>(bS EB (bS xw ?_)));have q:aG (aG 3 (cM 2 a)) 1=aG 4 (cM 2 a):=by show 3+2*a+1=4+2*a;exact gC (pZ 3 (2*a))
  have q5:aG 5 (cM 2 a)=aG 3 (cM 2 (aG a 1)):=by show 5+2*a=3+2*(a+1);lia
  exact U q ((e k).trans (U q5 (e' k)))
theorem lL1 c us f (h:At f [(1,PT c us 0)]):∃g,(∀a b,(sJ aj (sL 1)).f (run KT 39) Yn (HH f 2) a b=a (rh [(4016016503283,bP 0),(1815280,bP 16386),(1668975,bP 49152)]) (HH g 32))/\At g [(1,PT c us 14),(3,t1 (bL (Aj us 14)))]:=by
 have d:At (upd (upd f 2 .nil) 3 (t1 (bL []))) [(1,PT c us 0),(3,t1 (bL []))]:=iX h.1 rfl trivial;refine aL (Sz (c:=c) (us:=us) (n:=1999) (ρ:=rP []) (l:=NO 13 1) (yt 13:0<14) rfl d (of_decide_eq_true rfl)) λg e i=>cI (U6 (c:=c) (us:=us) 13 1 1999 g rfl (of_decide_eq_true rfl) (Nat.one_pos) i (aX 0)) λj k h1 h2=>qL (upd j 31 .nil) (λa b=> ?_) h2 h1 trivial;refine bS rH (bS (U5 _ _ _ _) (bS (EB (n:=1999)) (bS (MY rfl) ((e _).trans ((k _).trans fh)))))
end
set_option backward.match.sparseCases false
section
noncomputable def abi:Expr->Expr
 | .ListComp e _ _ _=>e
 |e=>e
noncomputable def abj:Expr->List (Str×aN)
 | .ListComp _ _ sc _=>sc.names
 |_=>[]
def lcE:Expr:=Ye (F2 (wI 0)) 0
def Q7:XE:=cU K.G K.Ms 29 (abj lcE) (abi lcE)
def M6:XE:=yK Q7 (kj 228274915) (iE (SR (qy 4016016503283) (xC di) (xC (aX 63)))) ji
def U7:Env:=rh [(4016016503283,bP 0)]
def PA (c a:List V):TR:= .node (O (bL c)) (.node (O (bL a)) .nil .nil) .nil
def Q8 (l:List V):List V:=yF (Dc l 0) (fq (ah (len l) 63 (bQ 63 (len l))) 0)
def rC (l:List (Nat×V)):Env:=⟨l,[(4016016503283,bP 0)]⟩
theorem Q9 r l g k:M6.f r U7 (HH (kY [(0,t1 (yD l))] g) 1) k=
 (ah au (turns r (kj 228274915) ji (pI Q7 r (bP 16385)) (k (bP 16385)) 2000 (gg (gn 16384 0)) (rC []) (HC (kY [(0,t1 (yD l))] g) (PA (Q8 l) []) 1 16386)) (oLe (bL (Q8 l))):Option Res):=by kernel_rfl
theorem Ra (h:l.length<=63):Q8 l=l:=by
 unfold Q8;refine U (Dr ..) (U (Ds ..) (U (len_eq ..) ?_))
 induction e:bQ 63 l.length using zB with
 |true=>
  refine(?_:(l.drop 0).take (63-0)=l);exact List.take_of_length_le h
 |false=>
  refine(?_:(l.drop 0).take (l.length-0)=l);exact List.take_of_length_le (bu (fV l))
def enc (z:Int):Nat:=Int.rec (λn=>aG (cM 2 n) 0) (λn=>aG (cM 2 (aG n 1)) 1) z
theorem Rb z h K:Q7.f (run KT 39) (rC [(228274915,mw z)]) h K=K (aX (enc z)) h:=by
 rcases z<;>kernel_rfl
theorem abk (hl:a.length<1000):putBack (bP 16385) K v (HC f (PA c a) 1 16386)=K di (HC f (PA c (a++[v])) 1 16386):=by
 have e:putBack (bP 16385) K v (HC f (PA c a) 1 16386)=(ah au (K di (HC f (PA c (app a [v])) 1 16386)) (oLe (bL (app a [v]))):Option Res):=by kernel_rfl
 exact U e (U (mH ..) (U (wJ (by simp;lia)) rfl))
theorem Yo:HT.get (HC f (PA c a) 1 16386).l 16384=O (bL c):=by kernel_rfl
theorem Yp:∀(zs:List Int) pre a m l,c=pre++zs.map mw->zs.length<m->a.length+zs.length<=63->(l=[]\/∃v,l=[(228274915,v)])->
 turns (run KT 39) (kj 228274915) ji (pI Q7 (run KT 39) (bP 16385)) k m (gg (gn 16384 pre.length)) (rC l) (HC f (PA c a) 1 16386)=k (HC f (PA c (a++zs.map λz=>aX (enc z))) 1 16386):=by
 intro zs
 induction zs with
 |nil=>
  intro pre a m l hc hm ha hl;obtain⟨m,rfl⟩:∃m',m=aG m' 1:=⟨m-1,by show m=m-1+1;lia⟩;exact U List.map_nil (U (qI ..) (Bx rfl Yo (by refine U (mJ ..) (U hc ?_);simp)))
 |cons z zs ih=>
  intro pre a m l hc hm ha hl;obtain⟨m,rfl⟩:∃m',m=aG m' 1:=⟨m-1,by show m=m-1+1;lia⟩;have hs:gf (rC l) 228274915 (mw z)=rC [(228274915,mw z)]:=by
   rcases hl with rfl|⟨v,rfl⟩<;>rfl
  refine bS (wH (v:=mw z) rfl Yo (by refine U (mJ ..) (U hc ?_);simp)) ?_;refine U hs (U (Rb ..) (U (abk (by simp at ha;lia)) ?_));have ih:=ih (pre++[mw z]) (a++[aX (enc z)]) m [(228274915,mw z)] (by refine U hc ?_;simp) (by have:(z::zs).length<m+1:=hm;simp at this;exact this) (by simp at ha⊢;lia) (.inr ⟨_,rfl⟩);have hp:(pre++[mw z]).length=aG pre.length 1:=by simp
  rw [hp] at ih;refine U ih ?_;simp
theorem Rc c us f (a:Env->ae7->Option Res):new (bL [bP 16385,aX 0]) (HC f (PA c (l5 aX us)) 1 16386) (λw h=>jump aj h λh=>a (gf U7 1815280 w) h)=a Yn (HH (upd f 1 (PT c us 0)) 2):=by kernel_rfl
theorem lL0 (ns:List Int) (hn:ns.length<=63) (f:Nat->TR) (t:TR) (ht:t=t1 (yD (ns.map mw))):∃g,(∀a d,(sJ aj (sL 0)).f (run KT 39) U7 (HC f t 0 1) a d=a Yn (HH g 2))/\At g [(1,PT (ns.map mw) (ns.map enc) 0)]:=by
 refine U ht ?_;refine f7 (upd (upd f 0 (t1 (yD (ns.map mw)))) 1 (PT (ns.map mw) (ns.map enc) 0)) (λa d=> ?_) rfl trivial;have i:At (upd f 0 (t1 (yD (ns.map mw)))) [(0,t1 (yD (ns.map mw)))]:=⟨rfl,trivial⟩;refine fE i.eq λF hF=> ?_;refine(?_:jump aj (HC f (t1 (yD (ns.map mw))) 0 1) (λh=>M6.f (run KT 39) U7 h λv h=>new (bL [v,aX 0]) h λw h=>jump aj h λh=>a (gf U7 1815280 w) h)=_);refine bS (yj rfl) ?_;refine(?_:M6.f (run KT 39) U7 (HH (upd f 0 (t1 (yD (ns.map mw)))) 1) _=_);have b:(ns.map mw).length<=63:=by simpa using hn
 have e:=Q9 (run KT 39) (ns.map mw) F (λv h=>new (bL [v,aX 0]) h λw h=>jump aj h λh=>a (gf U7 1815280 w) h);rw [<-hF] at e;refine U e (U (Ra b) (U (wJ (by lia)) ?_));refine bS (Yp (c:=ns.map mw) ns [] [] 2000 [] rfl (by lia) (by simpa using hn) (.inl rfl)) ?_;have hm:([]++ns.map λz=>aX (enc z))=l5 aX (ns.map enc):=by refine U (p9 ..) ?_;simp
 refine U hm ?_;exact Rc _ _ _ a
def SA:XE:=kK (xC (bM 2786)) (dR (qy 1815280) (dR (xC (aX 16)) kh))
theorem sL2:sL 2=jv (kj 245102707) SA:=by kernel_rfl
theorem U8 c us g kn kr:(sJ aj (jv (kj 245102707) SA)).f (run KT 39) (rh [(4016016503283,bP 0),(1815280,bP 16386),(1668975,bP 49152)]) (HH (kY [(1,PT c us 14)] g) 32) kn kr=
 kn (VC (fS us 14 16)|>rh) (HH (upd (upd (upd (kY [(1,PT c us 14)] g) 32 .nil) 1 (PT c us 15)) 33 (dT us 14)) 34):=by
 revert us;refine Hi 15 ?_;kernel_rfl
theorem Yq (h:x<2):aX x=vB (ak x 1):=by
 induction x using zN with
 |zero=>rfl
 |succ x=>
  induction x using zN with
  |zero=>rfl
  |succ x=>exact absurd h (bD.mpr (rU 2 x))
def F6 (us:List Nat):d7:=⟨ak (fS us 0 2) 1,ak (fS us 1 2) 1,ak (fS us 2 2) 1,ak (fS us 3 2) 1,ak (fS us 4 2) 1,ak (fS us 5 2) 1,ak (fS us 6 2) 1,ak (fS us 7 2) 1,
 ak (fS us 8 2) 1,ak (fS us 9 2) 1,ak (fS us 10 2) 1,ak (fS us 11 2) 1,ak (fS us 12 2) 1,ak (fS us 13 2) 1⟩
theorem Jh us:Aj us 14=Sp (F6 us):=by
 have h:∀i,aX (fS us i 2)=vB (ak (fS us i 2) 1):=λi=>Yq (Nat.mod_lt _ (Nat.zero_lt_two));have e:Aj us 14=[aX (fS us 0 2),aX (fS us 1 2),aX (fS us 2 2),aX (fS us 3 2),aX (fS us 4 2),aX (fS us 5 2),aX (fS us 6 2),aX (fS us 7 2),aX (fS us 8 2),aX (fS us 9 2),aX (fS us 10 2),aX (fS us 11 2),aX (fS us 12 2),aX (fS us 13 2)]:=rfl;refine U e (U (h 0) (U (h 1) (U (h 2) (U (h 3) (U (h 4) (U (h 5) (U (h 6) (U (h 7) (U (h 8) (U (h 9) (U (h 10) (U (h 11) (U (h 12) (U (h 13) ?_))))))))))))));rfl
def Rd:XS:=fz (sJ aj (sL 0)) (fz (sJ aj (sL 1)) (fz (sJ aj (sL 2)) Hu))
theorem Rf v h k:run KT 40 (bM 2810) [v] h k=Rd.f (run KT 39) (rh [(4016016503283,v)]) h (λa h=>k di h) k:=by kernel_rfl
theorem Rg (ns:List Int) (hn:ns.length<=63) (f:Nat->TR):∃g,∀k,run KT 40 (bM 2810) [bP 0] (HC f (t1 (yD (ns.map mw))) 0 1) k=k (vBool H) (HH g 264):=by
 refine dN (lL0 ns hn f _ rfl) λd e h=>dN (lL1 (ns.map mw) (ns.map enc) d h) λa i h1=> ?_;have j:At a [(1,PT (ns.map mw) (ns.map enc) 14)]:=⟨h1.1,trivial⟩;refine fE j.eq λF hF=> ?_;have l:∀b c,(sJ aj (sL 2)).f (run KT 39) (rh [(4016016503283,bP 0),(1815280,bP 16386),(1668975,bP 49152)]) (HH a 32) b c=b (rh (VC (fS (ns.map enc) 14 16))) (HH (upd (upd (upd a 32 .nil) 1 (PT (ns.map mw) (ns.map enc) 15)) 33 (dT (ns.map enc) 14)) 34):=λb c=>by
  refine U sL2 (U hF ?_);exact U8 _ _ F b c
 have h2:At (upd (upd (upd a 32 .nil) 1 (PT (ns.map mw) (ns.map enc) 15)) 33 (dT (ns.map enc) 14)) [(3,tP (F6 (ns.map enc)))]:=⟨rfl.trans (h1.2.1.trans (U (Jh ..) rfl)),trivial⟩;exact fE (M4 (F6 (ns.map enc)) (fS (ns.map enc) 14 16) (Nat.mod_lt _ (yt 15)) _ h2) λm n=>⟨m,λk=>(Rf _ _ _).trans (dm e (dm i (dm l (n _ _))))⟩
end
end
section
open PyProof.Rows PySem.Calls PySem.SeqAt PySem.W
section
theorem U9 (e:(t1 o).get j=O o'):j=0/\o'=o:=by
 have e:(TR.node (O o) .nil .nil).get j=O o':=e;rw [TR.get_node] at e;by_cases h:j=0
 .rw [if_pos h] at e;exact⟨h,(aF e).symm⟩
 .rw [if_neg h] at e;split at e<;>exact fn e
theorem Va (e:(HC zZ (t1 o) 0 1).l.get i=O o'):i=0/\o'=o:=by
 have e:HT.get ⟨zZ,t1 o,0⟩ i=O o':=e;rw [HT.get_eq] at e;by_cases h:i/16384=0
 .rw [if_pos h] at e;exact gb (U9 e) λh1 h2=>⟨by exact gC ((λ{i j} h=>Iff.mp (yO h)) (id (gC h)) (id (gC h1))),h2⟩
 .rw [if_neg h] at e;exact fn e
theorem Rh (h:iV QA ns its):ef X g w n (ns.map mw) its:=by
 induction h with
 |nil=>exact .nil
 |cons p _ a=>exact p.elim λt e=>e▸.cons _ _ _ _ (VR.mw _ t) a
theorem M7 (h:iV R l m):l.length=m.length:=by
 induction h with
 |nil=>rfl
 |cons _ _ a=>exact congrArg (·+1) a
theorem Ri (h:VR X g w n v y) (e:v=vBool H):y= .bool true:=by
 induction h using Mine.VR.casesOn with
 |bool b=>induction b using zB with
  |true=>rfl
  |false=>exact absurd (congrArg V.n e) (aY rfl)
 |_=>exact nn (congrArg V.t e) rfl
theorem M8 (G:Good w h) (hn:ns.length<=63) (hi:iV QA ns its) (hs:s.heap=h.push {cls:= .type "list",data:= .seq its.toArray}):
 cG (model P0 w) callerA (call (.ref 2810) [.ref h.objs.size]) (λv s'=>v= .bool H/\OldK s.heap s'.heap/\s'.gens=s.gens/\s'.os=s.os) (λu_ u_=>False) s:=by
 have B:=ql G;have hst:St (kX w h) ⟨λu_=>h.objs.size,λu_=>au,λu_=>0⟩ (HC zZ (t1 (yD (ns.map mw))) 0 1) s:=by
  refine⟨λi o e=> ?_,λa i e=>(fn e),λa o e ht=> ?_, ?_,λP hP=> ?_⟩
  .refine gb (Va e) λow hq1=> ?_;subst ow;subst hq1;refine⟨bN 0,.fix _ its.toArray 0 rfl (λq=>absurd (B.htab _ q) (j7 _)) ?_ ?_ (Rh hi)⟩
   .refine U hs ?_;exact aJ _ rfl
   .have:=M7 hi;refine U pC ?_;lia
  .refine U hs ?_;exact az _ e
  .refine U hs (U (bJ ..) ?_);exact gV _
  .refine⟨B.htab P hP,#[], ?_, ?_,λpos q cv u_ e2=> ?_⟩
   .refine U hs ?_;exact az _ (tab_of G hP)
   .exact trivial
   .exact fn e2
 refine fE (Rg ns hn zZ) λg hg=> ?_;refine aW ((UB G 40).call callerA ⟨rfl,by decide,by decide⟩ _ _ s hst (bM 2810) (.ref 2810) (.fn 2810) [bP 0] [.ref h.objs.size] (.cons _ _ _ _ (.ref 0 (bN 0)) .nil)
  (λv hh=>ah au (O ⟨⟨[],[]⟩,di,HC zZ .nil 0 0⟩) (GX v 1 0 1)) ⟨⟨[],[]⟩,di,HC zZ .nil 0 0⟩ (hg _) (λv s'=>v= .bool H/\OldK s.heap s'.heap/\s'.gens=s.gens/\s'.os=s.os) λw' h' s' v y hs' x' hv hk=> ?_) (λu_ u_ q=>q) λu_ u_ f=>f
 have hv1:GX v 1 0 1=true:=by
  induction q:GX v 1 0 1 using zB with
  |true=>rfl
  |false=>
   have hk:(ah au (O ⟨⟨[],[]⟩,di,HC zZ .nil 0 0⟩) (GX v 1 0 1):Option Res)=O ⟨⟨[],[]⟩,di,HC zZ .nil 0 0⟩:=hk;rw [q] at hk;exact fn hk
 refine qK (Ri hv (qi hv1)) ⟨λb o e=> ?_,λb o e=> ?_⟩ x'.gens x'.os
 .by_cases hb:b∈iO
  .obtain⟨low,ps,p1,_⟩:=hs'.tab b hb;refine U (aF (e.symm.trans (U hs (az _ (tab_of G hb))))) (.inr (.inl ⟨?_,rfl,#[],ps,rfl,by refine U p1 ?_;simp⟩));have hm:∃m∈O8,m.P=b:=by
    simp only [iO,aT,aU,or_false] at hb;rcases hb with rfl|rfl|rfl|rfl
    .exact bW ⟨360,2729,2725,"known_readers"⟩ (List.mem_of_mem_head? rfl) rfl
    .exact bW ⟨364,2757,2753,"gsub_octets"⟩ (by simp [O8]) rfl
    .exact bW ⟨365,2764,2760,"gpos_octets"⟩ (by simp [O8]) rfl
    .exact bW ⟨366,2771,2767,"known_writers"⟩ (mS rfl) rfl
   refine aL hm λm ow=> ?_;subst ow;intro hm;obtain⟨oc,vs,_,_,_,_,_,_,_,c1,c2,c3,c4,_⟩:=Hh G hm _ _ s hst;exact uq m.c oc vs c1 c2 c3 c4
  .exact .inl (x'.old b o rfl hb (λq=>q) e)
 .by_cases hb:b∈iO
  .obtain⟨low,ps,p1,_⟩:=hs'.tab b hb;exact⟨_,p1⟩
  .exact⟨o,x'.old b o rfl hb (λq=>q) e⟩
end
end
section
section
def NT.put {α:Type} (k:Nat) (a:α) (t:NT α):NT α:=NT.rec (.n .l k a .l) (λl q v r ihl ihr=>ah (ah (.n l q v ihr) (.n ihl q v r) (bI k q)) (.n l k a r) (ak k q)) t
def Hv {α:Type} (l:List (Str×α)):NT α:=aS .l (λx u_ ih=>NT.put (nm x.1) x.2 ih) l
def treeOf (l:List Str):NT Unit:=Hv (l.map λx=>(x,()))
theorem find_node {v:α}:NT.find (.n l q v r) j=ah (ah (NT.find r j) (NT.find l j) (bI j q)) (O v) (ak j q):=rfl
theorem M9 {t:NT α}:NT.find (NT.put k a t) j=ah (NT.find t j) (O a) (ak j k):=by
 induction t with
 |l=>
  refine U find_node ?_;rcases bI j k<;>rfl
 |n l q v r b c=>
  have e:NT.put k a (.n l q v r)=ah (ah (.n l q v (NT.put k a r)) (.n (NT.put k a l) q v r) (bI k q)) (.n l k a r) (ak k q):=rfl;refine U e ?_
  induction h1:ak k q using zB with
  |true=>
   have:=aH h1;refine cL this ((?_:NT.find (.n l k a r) j=_));refine U find_node (U find_node ?_);rcases ak j k<;>rfl
  |false=>
   induction h2:bI k q using zB with
   |true=>
    refine U find_node (U find_node (U b ?_))
    induction d:ak j k using zB with
    |false=>rfl
    |true=>
     have:=aH d;subst this;exact U h1 (U h2 rfl)
   |false=>
    refine U find_node (U find_node (U c ?_))
    induction d:ak j k using zB with
    |false=>rfl
    |true=>
     have:=aH d;subst this;exact U h1 (U h2 rfl)
theorem Ak (hn:aZ n=H):∀{l:List (Str×α)},l.all (λp=>aZ p.1)=H->NT.find (Hv l) (nm n)=l.lookup n:=by
 intro l
 induction l with
 |nil=>
  intro _;exact rfl
 |cons b l c=>
  obtain⟨x,a⟩:=b;intro h;rw [iD,aP] at h;refine(?_:NT.find (NT.put (nm x) a (Hv l)) (nm n)=_);refine U M9 (U bK (U (c h.2) ?_))
  induction q:ak (nm n) (nm x) using zB with
  |true=>
   have:=gS hn h.1 (aH q);exact U this (U (beq_self_eq_true ..) rfl)
  |false=>
   have:(n==x)=false:=beq_eq_false_iff_ne.mpr λe=>aY q (congrArg nm e);exact U this rfl
theorem lookup_mem {c d:Type} [BEq c] [LawfulBEq c] {a} {b}:∀{l:List (c×d)},l.lookup a=O b->(a,b)∈l:=by
 intro l
 induction l with
 |nil=>exact λh=>fn h
 |cons p l e=>
  rcases p with⟨x,y⟩
  intro h;rw [bK] at h;by_cases q:a=x
  .subst q;rw [beq_self_eq_true] at h;have h:=aF h;exact U h (aE ..)
  .rw [beq_eq_false_iff_ne.mpr q] at h;exact aD _ (e h)
theorem BB (hn:aZ n=H) (hl:l.all aZ=H) (h:(NT.find (treeOf l) (nm n)).isSome=H):n∈l:=by
 unfold treeOf at h;rw [(Ak hn (l:=l.map λx=>(x,())) (U List.all_map hl))] at h;refine fE (A0.mp h) λu hu=> ?_;have:=lookup_mem hu;refine aL (gH.mp this) λx a hx=> ?_;have a:x=n:=congrArg eE a;exact a▸hx
end
end
section
open PyProof.Rows PySem.Calls PySem.SeqAt PySem.W
section
def xy (w:World) (os:OsState):SharedT:=stK w os 1 (tZ w) 347 Mx 2811 4281
def sB (w:World) (os:OsState):Shared:=⟨boot_heap w.params,#[],boot_drawn,boot_toks,os⟩
theorem Na:pQ.drop 374=[]:=by kernel_rfl
section
variable {w:World} {os:OsState} {x:Nat->Option Obj}
theorem C1 (hf:∀p∈pl,m9 (mU x (xy w os)).heap p):Good w (mU x (xy w os)).heap:=by
 have key:∀a o,a<2811->(tK w 1 (tZ w) 347 Mx).get a=O o->alive o=O o->(mU x (xy w os)).heap.get? a=O o:=λa o h1 h2 h3=>uz (x:=x) h1 h2 h3;have g:∀i,(tK w 1 (tZ w) 347 Mx).get i=_:=λi=>G8 _ _ _ _ _ _ i;exact⟨key 3 _ (of_decide_eq_true rfl) ((g 3).trans rfl) rfl,key 0 _ (yt 2810) ((g 0).trans rfl) rfl,key 4 _ (by decide) ((g 4).trans rfl) rfl,key 2 _ (by decide) ((g 2).trans rfl) rfl,hf⟩
def Nb:List Str:=startupNames++P0.boundNames
def Yr (t:NT Unit) (e:aV):Bool:=match e.key with
 | .str s _=>aZ s&&(NT.find t (nm s)).isSome
 |_=>aj
theorem Ji w:(tZ w).all (Yr (treeOf Nb))=true:=by kernel_rfl
theorem EC:Nb.all aZ=true:=by kernel_rfl
set_option tactic.hygienic true in
theorem Nc (h:nsFind (tZ w).toArray k=O v):k∈startupNames\/k∈P0.boundNames:=by
 unfold nsFind findBy at h;rw [<-Array.find?_toList] at h
 induction b:(tZ w).toArray.toList.find? (λe=>e.key.isStr k) using zO with
 |none=>rw [b] at h;exact fn h
 |some e=>
  have hk:=List.find?_some (p:=λe:aV=>e.key.isStr k) b;have a:=aK.mp (Ji w) e (List.mem_of_find?_eq_some b);unfold Yr at a;split at a
  .rename_i s t c;rw [c] at hk;have hk:s=k:=by simpa [Value.isStr] using hk
   refine cL hk ?_;rw [aP] at a;exact nc.mp (BB a.1 EC a.2)
  .exact ff a
theorem Jj (w:World):(boot_heap w.params).objs.size=11:=by kernel_rfl
theorem Nd (w:World):globalOf (boot_heap w.params) "__annotations__"=O (.ref 6):=by kernel_rfl
theorem F7:staticsOk (importedModules P0.main.body) (boot_heap w.params) (mU x (xy w os)).heap=true:=by kernel_rfl
theorem C2:(mU x (xy w os)).heap.accountedOkI (importedModules P0.main.body)=true:=by kernel_rfl
theorem Rj:(mU x (xy w os)).heap.bltView=bltViewBooted:=by kernel_rfl
theorem Nf:(mU x (xy w os)).heap.isNs builtinsNs=true:=by kernel_rfl
theorem F8 w:laidNames.map (λn=>nsFind (tZ w).toArray n)=laidNames.map (λn=>globalOf (boot_heap w.params) n):=by kernel_rfl
theorem se (G:Good w (mU x (xy w os)).heap) n:globalOf (mU x (xy w os)).heap n=nsFind (tZ w).toArray n:=by
 rfl
theorem Rk (hf:∀p∈pl,m9 (mU x (xy w os)).heap p) (hr:qj w N (sB w os) (topStub P0)=O (mU x (xy w os))) (hz:(sB w os).asleep):TopRan P0 w (sB w os) (mU x (xy w os)):=by
 have G:=C1 hf;have hr:topRun treeTable P0 w 11 (O (.ref 6)) N (sB w os) (topStub P0)=O (mU x (xy w os)):=hr;rw [<-table_eq_tree] at hr;refine qM (topRun_spec _ _ _ _ hz hr) λfr a l o=>⟨a,l,Shared.rest_eq o,λb ob hb hn=> ?_,Heap.accountedI_of_ok C2,statics_of_ok F7, ?_,λn hn=>(Pin.builtinOf_eq Nf n).trans (Heap.of_bltView Nf Rj n hn), ?_,λg hg=> ?_,λk v hk=> ?_,λn hn=> ?_⟩
 .have hb2:b<11:=by have:=bk hb;rw [show(sB w os).heap=boot_heap w.params from rfl,Jj] at this;exact this
  exact fr b ob hb2 (λq=>hn (.inl q)) (λq=>hn (.inr (.inl q))) (λq=>hn (.inr (.inr ((Nd w).trans q)))) hb
 .refine aL (Bs G.main (vn w)) λm u_ m1=> ?_;obtain⟨o,es,ep,ho,hd,hk,_⟩:=m1;exact⟨o,es,ep,ho,hd,hk⟩
 .exact lG 4 _ ((se G _).trans (by kernel_rfl)) G.bmod rfl rfl
 .exact absurd hg (by simp [mU,xy,stK])
 .rw [se G] at hk;exact Nc hk
 .rw [se G];exact List.map_inj_left.mp (F8 w) n hn
end
end
section
noncomputable abbrev Al:OpenRow:=PySem.Challenge.rw_pf0157_01.row
theorem Ng:opening P0=plainProg P0.main.scope.names:=by kernel_rfl
theorem Vb:∀s,fenceModules? P0 s=O s:=λs=>by kernel_rfl
theorem opens w:∃s os,AfterRun (opening P0) w s/\fenceModules? P0 s=O (sB w os):=by
 refine aL (qo.mp (boot_open (p:=P0) (N:=600) Ng rfl Vb w)) λs₀ h2 h1=> ?_;rw [<-table_eq_tree] at h1;refine dN (Option.bind_eq_some_iff.mp h1) λs a b=> ?_;obtain⟨h,g,d,k,os⟩:=s₀;simp only [Prod.mk.injEq] at h2;obtain⟨rfl,rfl,rfl,rfl⟩:=h2;exact mZ s os (AfterImport.of_importEnds a) b
theorem Vc:NT.find K.dT 2810=O ⟨1,373,0,[]⟩:=by kernel_rfl
theorem Rl:P0.theDef "law"=O (rF (K.top 373),K.fnBody (K.top 373),oQ (K.top 373)):=by kernel_rfl
theorem ED:(rF (K.top 373)).defaults=[]/\kwWritten? (rF (K.top 373)).kwonlyargs (rF (K.top 373)).kw_defaults=O []:=⟨by kernel_rfl,by kernel_rfl⟩
theorem EE w:nsFind (tZ w).toArray "law"=O (.ref 2810):=(nsF (by kernel_rfl) (mG (vn w)).2).trans (by kernel_rfl)
theorem Rm (as ds):Al.toRowW.claim.post as (.bool H) ds=true:=by
 kernel_rfl
theorem Rn {h:Heap} (c:h.get? 3=O (o3 L n)) (hb:Sk (o3 L n)=H):h.Ns 3 (nsFind L.toArray):=by
 obtain⟨m,⟨o,g,ep,d,e,f,i⟩,_⟩:=Bs c hb;have:=aF (d.symm.trans c);subst this;injection e with a b
 subst a;exact uq _ _ _ c rfl f (λj=>rfl)
section
variable {w:World} {os:OsState} {x:Nat->Option Obj}
theorem Vd (hf:∀p∈pl,m9 (mU x (xy w os)).heap p):isTheDefsW P0 (mU x (xy w os)).heap "law":=by
 refine ju (hf Z6 (aE ..)) λg g2 g1 g3=> ?_;have hl:Po g 2810=true:=(rG g3).2.2.2.2;refine tH (nU (Mm g2 _ (gy.mpr ⟨NT.jm Vc,rfl⟩))) λo fd u_ ho hd b1 b2 b3=> ?_;unfold Po at hl;rw [ho] at hl;dsimp only at hl;rw [hd] at hl;simp only [aP,beq_iff_eq,cZ] at hl;obtain⟨n1,n2,n3,n4,n5,n6,n7⟩:=hl;have d1:fd.defaults= .none:=by revert n6;generalize fd.defaults=y;intro n6;rcases y<;>first|rfl|exact ff n6
 have d2:fd.kwdefaults= .none:=by revert n7;generalize fd.kwdefaults=y;intro n7;rcases y<;>first|rfl|exact ff n7
 exact⟨2810,o,fd,_,_,_,(se (C1 hf) _).trans (EE w),(g1 _ _ ho).2.2,hd,Rl,n1,n2,b3,b1,b2,cz n3,n4,cz n5,.inl ⟨ED.1,d1⟩,[],ED.2,.inl ⟨rfl,d2⟩⟩
theorem Ve (ns:List Int):(ofPys (ns.map jX)).length=ns.length:=by refine U (ofPys_eq ..) ?_;simp
theorem Vf {ns:List Int} (h:Al.toRowW.pre.holds [] {args:=[ofPy (.list (ns.map jX))]}=H):ns.length<=63:=by
 have h:WTm.holds [] (.and (.not (.arg 0)) (.lit (.bool H))) {args:=[.bool (decide ((63:Int)<((ofPys (ns.map jX)).length:Int)))]}=true:=h;rw [Ve] at h
 induction a:decide ((63:Int)<(ns.length:Int)) using zB with
 |true=>rw [a] at h;exact ff h
 |false=>exact qE.mp (kH.mp (of_decide_eq_false a))
theorem okE {b c:Type} {a} {e} {p:Prop} (h:(Except.ok a:Except b c)= .error e):p:=by injection h
theorem Jk (hf:∀p∈pl,m9 (mU x (xy w os)).heap p) (hz:(mU x (xy w os)).asleep) free kept (hk:∀h',kept h') gens:Al.toRowW.claim.CallFrom (callStub "law") w free gens kept (mU x (xy w os)):=by
 have G:=C1 hf;intro args hpre hlay ord hord;refine nG λhgo=>aC (pre_splitW (r:=Al.toRowW) hpre) λhs2 hs1=>fE (QD hs1) λns ow=> ?_;subst ow;obtain⟨⟨vs,s₂⟩,hlaid⟩:=A0.mp (layAllW_isSome (R:=[]) (cl:=classAt (mU x (xy w os)).heap) (P:=w.params) (ord:=ord) (λc hc=>ff hc) _ Al.toRowW.args (mU x (xy w os)) hs1);refine ju (QC hlaid) λits ow=> ?_;subst ow;intro hi hp;have keeps:=layAllW_keeps _ _ _ hlaid;have hal:=layAllW_rest _ _ _ hlaid;refine jB (reads_layAllW hord _ _ _ hlaid hlay s₂.heap (λu_ u_ e=>e)) λas hrd hin hold=> ?_;obtain⟨n,r,s',s'',abl,Vg,hfo,hv,hK,hg,ho⟩:=CU (prog:=P0) (w:=w) (t:=(callStub "law" [.ref (mU x (xy w os)).heap.objs.size]).cur) (s:=s₂) (R:=λr s'=>r= .ok (.ret (.bool H))/\OldK s₂.heap s'.heap/\s'.gens=s₂.gens/\s'.os=s₂.os)
  (qD hal.2.2.2 hz) (ay (eU (wpAny_nsGet ((Rn G.main (vn w)).keeps keeps) (by
   exact U (EE ..) (ay (aW (M8 G (Vf hs2) hi hp) (λv s' q=>aO (f7 _ rfl ⟨by exact U q.1 rfl,q.2⟩ (by refine U q.2.2.1 (U hal.1 ?_);show leftWithCleanup #[]=aj;simp [leftWithCleanup]))) λu_ u_ f=>f.elim))))))
 refine vQ (Shared.forget_eq hfo) λu_ eh u_ u_ eo=> ?_;subst hv;have good:GoodWG Al.toRowW.claim (classAt (mU x (xy w os)).heap) (ExcName.means (mU x (xy w os)).heap) [ofPy (.list (ns.map jX))] s₂ (.ok (.ret (.bool H))) s'':=
  (qK (.inl ⟨.bool H,.bool H,[],rfl,λu_=>rfl,.bool H,Rm _ _,λu_=>⟨iJ,λa ha=>(aU ha).elim⟩⟩) hK ho (.of_eq (hg.trans (hal.1.trans rfl))))
 refine Rx (good.laid (c:=Al.toRowW.claim) rfl rfl (ident_freeW (r:=Al.toRowW) rfl rfl rfl) (⟨(bW ord hord hlaid),hrd,hin,hold,keeps,hal.1.trans rfl,hal.2.2.1⟩)) λYs hos u_=> ?_;rw [<-eo] at hos;refine hgo ⟨_,s₂,hlaid,n,_,s',Vg, ?_,λu_ i y hy=>absurd hy (by simp [mU,xy,stK]),hk _,by exact U ((runN_life _ _ _ abl).trans hal.2.2.2) rfl,Shared.rest_eq hos⟩;refine(Ys.congr eh).imp (λq=>q.elim λv q=>⟨v,congrArg outcomeOf q.1,q.2.1,q.2.2.1,q.2.2.2.1,λb o y u_=>q.2.2.2.2.1 b o y,q.2.2.2.2.2⟩) λq=>q.elim λe q=>q.elim λob q=>q.elim λcls q=>okE q.1
end
theorem BD:Al.toRowW.promised:=bW [.list []] (by kernel_rfl) (by kernel_rfl)
theorem Yt (a:P0.tablesWhole=H):P0.bare:=⟨rfl,rfl,rfl,rfl,rfl,a⟩
theorem Vh:opensWell P0=true:=by kernel_rfl
theorem Jl (k1:Al.wellSaid=H) (kt:P0.tablesWhole=H):Al.Holds:=by
 refine A1 k1 BD (iX (Yt kt) Vh rfl) BD.witness (λw=>(nH (opens w) λs os hf A=>⟨⟨s,A⟩,λs' hs'=> ?_⟩));obtain rfl:s'=s:=AfterImport.unique hs' A;have hz:=qD (fence_lifeW hf) (AfterImport.life A);refine nH (I2 Na (aaS w os)) λx N hp hr=> ?_;have T:=Rk hp hr hz;refine⟨sB w os,hf,rfl,mU x (xy w os),T,λn hn=> ?_,λc hc=>((aU hc).elim),λc hc=>((aU hc).elim),Jk hp (qD T.2.1 hz) _ _ (λh' q=>ff q) _⟩;exact U (eF.mp hn) (Vd hp)
end
end
section
open PySem.TablesWhole PySem.W PyProof.Rows
set_option backward.match.sparseCases false
section
noncomputable abbrev PL:Program:=kF
noncomputable abbrev Jz:OpenLaw:=PySem.Challenge.rw_pf0157_01
def oh:Scope:=PL.main.scope
def t7 (k:aN):Bool:=NameKind.rec aj aj aj H H k
def Yu (k:aN):Bool:=NameKind.rec H H aj aj aj k
def isFree (k:aN):Bool:=NameKind.rec aj aj H aj aj k
def isCell (k:aN):Bool:=NameKind.rec aj H aj aj aj k
noncomputable def Nh (l:List Nat):Bool:=(l.take 3).all λc=> !ak c 95
noncomputable def SD:List Str:=["Exception","super","len","chr","range","bytes","bytearray","ord","str","tuple","max","min","sorted","list","sum","dict","zip","isinstance","set","enumerate","property","abs","int"]
def wK:List Str:=PL.boundNames++SD
def Yv:List Nat:=Jz.own.map nm
def memC (c:Nat) (l:List Nat):Bool:=aS aj (λy u_ ih=>ah ih H (ak c y)) l
def tW:NT Unit:=treeOf wK
def tV:NT aN:=Hv oh.names
def gY (s:Scope):Bool:=s.names.all λp=>aZ p.1
def EF (l:List Nat):Bool:=aS H (λx r ih=>ah ih aj (memC x r)) l
def Vi (k:ScopeKind):Bool:=ScopeKind.rec aj H H aj aj aj aj k
def Ni (k:ScopeKind):Bool:=ScopeKind.rec aj aj H aj aj aj aj k
def Vj:Nat:=nm "super"
def Nj:List Nat:=(["vars","dir","locals"]:List Str).map nm
noncomputable def Yw:Look:={strict:=aj,foot:=au,bare:=[]}
def Yx:Nat:=nm "fast"
def Nk (more:List (Str×Const)) (x:Nat):Bool:=more.any λp=>ak (nm p.1) Yx&&aZ p.1&&(match p.2 with
 | .str n=>ak (nm n) x&&aZ n
 |_=>aj)
def kindAt (m:Bool) (sc:Scope) (n:Str):Option aN:=ah (bg (nm n) sc.names) (NT.find tV (nm n)) m
section
variable (b:Bool)
def Yy (f:aN->Bool) (m:Bool) (sc:Scope) (n:Str):Bool:=
 aZ n&&(match kindAt m sc n with
  |some k=>f k&&(!t7 k||(NT.find tW (nm n)).isSome)
  |none=>aj)&&(Nh n.cps.toList||attrL n)&&(b|| !memC (nm n) Yv)
def Yz (m:Bool) (sc:Scope) (n:Str):Bool:=Yy b (λu_=>H) m sc n
def rK (m:Bool) (sc:Scope) (n:Str):Bool:=Yy b Yu m sc n
def YA (n:Str):Bool:=Nh n.cps.toList||attrL n
def kC:Const->Bool
 | .str x=>(Nh x.cps.toList&& !roadStr x)||Yw.str x
 |_=>H
def rL (ch:List Scope) (m:Bool) (par own:Scope):Bool:=
 Vi own.kind&&(own.more.isEmpty||own.names.all λp=> !(p.2== .cell||p.2== .free||(p.2== .local&&own.kind== .function))||Nk own.more (nm p.1))&&gY own&&EF (own.names.map λp=>nm p.1)&&
 own.names.all λp=>(!isFree p.2||Yy b (λk=>isCell k||(isFree k&& !Ni par.kind)) m par p.1)&&
  (!t7 p.2||ch.all λs=>match bg (nm p.1) s.names with
   |some k=>t7 k
   |none=>H)
def Ro (fr own:Scope):Bool:=fr.more.isEmpty||own.names.all λp=> !((p.2== .local||p.2== .cell)&&p.1.cps[0]? !=O 46)||Nk fr.more (nm p.1)
noncomputable def EG (p:Arguments):Bool:=p.posonlyargs.isEmpty&&p.vararg.isNone&&p.kwonlyargs.isEmpty&&p.kwarg.isNone&&p.kw_defaults.isEmpty&&p.args.all λa=>a.annotation.isNone
def Rp (own:Scope) (p:Arguments):Bool:=p.args.all λa=>rK b aj own a.arg
structure KS where
 m:Bool
 fr:Scope
 ch:List Scope
 sc:Scope
noncomputable def KS.into (s:KS) (own:Scope):KS:=⟨aj,own,own::s.ch,own⟩
noncomputable def KS.comp (s:KS) (own:Scope):KS:=⟨aj,s.fr,own::s.ch,own⟩
noncomputable def kO (f:Expr->Bool):Option Expr->Bool
 |some e=>f e
 |none=>H
def SE (f:Expr->Bool) (s:KS):Expr->Bool
 | .Name x _=>rK b s.m s.sc x
 | .Tuple es _ _=>es.all λe=>match e with
  | .Name x _=>rK b s.m s.sc x
  | .Tuple es _ _=>es.all λe=>match e with
   | .Name x _=>rK b s.m s.sc x
   |_=>aj
  |_=>aj
 | .Attribute o a _=>YA a&&f o
 | .Subscript o i _=>f o&&f i
 |_=>aj
def kG (f:KS->Expr->Bool) (s:KS) (own:Scope):List Comprehension->Bool
 |⟨t,it,ifs,a⟩::r=>f s it&&SE b (f (s.comp own)) (s.comp own) t&&ifs.all (f (s.comp own))&&a==0&&
  r.all λg=>f (s.comp own) g.iter&&SE b (f (s.comp own)) (s.comp own) g.target&&g.ifs.all (f (s.comp own))&&g.is_async==0
 |[]=>aj
def kE:Nat->KS->Expr->Bool
 |0,_,_=>aj
 |n+1,s,e=>match e with
  | .Constant c _ _=>kC c
  | .Name x _=>Yz b s.m s.sc x&&(!ak (nm x) Vj||Yz b s.m s.sc "__class__")
  | .Attribute v a _=>YA a&&kE n s v
  | .BoolOp _ vs _=>vs.all (kE n s)
  | .BinOp l o r p=> !foldsComplex (.BinOp l o r p)&&kE n s l&&kE n s r
  | .UnaryOp _ x _=> !foldsComplex x&&kE n s x
  | .Lambda a x own _=>EG a&&a.defaults.all (kE n s)&&rL b s.ch s.m s.sc own&&Rp b own a&&kE n (s.into own) x
  | .IfExp t x y _=>kE n s t&&kE n s x&&kE n s y
  | .Dict ks vs _=>ks.all (kO (kE n s))&&vs.all (kE n s)
  | .ListComp e gs own _=>rL b s.ch s.m s.sc own&&Ro s.fr own&&rK b aj own ".0"&&kG b (kE n) s own gs&&kE n (s.comp own) e
  | .DictComp k v gs own _=>rL b s.ch s.m s.sc own&&Ro s.fr own&&rK b aj own ".0"&&kG b (kE n) s own gs&&kE n (s.comp own) k&&kE n (s.comp own) v
  | .Compare l _ cs _=>kE n s l&&cs.all (kE n s)
  | .Call f as ks _=>ks.isEmpty&&(match f with| .Name x _=> !memC (nm x) Nj|_=>H)&&kE n s f&&as.all (kE n s)
  | .Subscript v i _=>kE n s v&&kE n s i
  | .Slice l u st _=>kO (kE n s) l&&kO (kE n s) u&&kO (kE n s) st
  | .List es _=>es.all (kE n s)
  | .Tuple es _ _=>es.all (kE n s)
  |_=>aj
def kD (s:KS) (a:Arguments) (ds:List Expr) (ret:Option Expr) (tp:List TypeParam) (own:Scope) (x:Str):Bool:=
 tp.isEmpty&&ret.isNone&&EG a&&ds.all (kE b 40 s)&&a.defaults.all (kE b 40 s)&&rK b s.m s.sc x&&Rp b own a&&rL b s.ch s.m s.sc own
def C3:Nat->Bool->KS->Stmt->Bool
 |0,_,_,_=>aj
 |n+1,y,s,t=>match t with
  | .Return v _=>y&&kO (kE b 40 s) v
  | .Assign ts v _=>kE b 40 s v&&ts.all (SE b (kE b 40 s) s)
  | .Expr v _=>kE b 40 s v
  | .If t x o _=>kE b 40 s t&&x.all (C3 n y s)&&o.all (C3 n y s)
  | .While t x o _=>kE b 40 s t&&x.all (C3 n y s)&&o.all (C3 n y s)
  | .For t i x o _=>kE b 40 s i&&SE b (kE b 40 s) s t&&x.all (C3 n y s)&&o.all (C3 n y s)
  | .Raise e c _=>kO (kE b 40 s) e&&kO (kE b 40 s) c
  | .Try x hs o f _=>x.all (C3 n y s)&&(hs.all λh=>match h with
   | .ExceptHandler t m x _=>kO (kE b 40 s) t&&m.isNone&&x.all (C3 n y s))&&o.all (C3 n y s)&&f.all (C3 n y s)
  | .Pass _=>H
  | .FunctionDef _ a x ds ret tp own _ z _=>kD b s a ds ret tp own z&&x.all (C3 n H (s.into own))
  | .ClassDef _ bs ks x ds tp own _ z _ _=>tp.isEmpty&&ks.isEmpty&&ds.isEmpty&&bs.all (kE b 40 s)&&rK b s.m s.sc z&&rL b s.ch s.m s.sc own&&x.all (C3 n aj ⟨aj,own,s.ch,own⟩)
  |_=>aj
end
end
set_option backward.match.sparseCases true
section
theorem Am:∀{l},memC c l=aj->c∉l:=by
 intro l
 induction l with
 |nil=>
  intro _;exact aU
 |cons y l d=>
  intro h;have h:(ah (memC c l) H (ak c y):Bool)=false:=h
  induction a:ak c y using zB with
  |true=>rw [a] at h;exact ft h
  |false=>
   rw [a] at h;rw [aT];rintro(q|q)
   .exact absurd q (aY a)
   .exact d h q
theorem BE (hn:aZ n=H):∀{l},l.all (λp=>aZ p.1)=H->bg (nm n) l=l.lookup n:=by
 intro l
 induction l with
 |nil=>
  intro _;exact rfl
 |cons c l d=>
  obtain⟨x,a⟩:=c;intro h;rw [iD,aP] at h;refine(?_:(ah (bg (nm n) l) (O a) (ak (nm n) (nm x)):Option aN)=_);refine U bK (U (d h.2) ?_)
  induction q:ak (nm n) (nm x) using zB with
  |true=>
   have:=gS hn h.1 (aH q);exact U this (U (beq_self_eq_true ..) rfl)
  |false=>
   have:(n==x)=false:=beq_eq_false_iff_ne.mpr λe=>aY q (congrArg nm e);exact U this rfl
theorem Nl:frameAttrs.all (λy=> !Nh y.cps.toList)=true:=by kernel_rfl
theorem C4 (h:Nh n.cps.toList=H):attrL n=true:=by
 have h1:frameAttrs.contains n=false:=by
  induction q:frameAttrs.contains n using zB with
  |false=>rfl
  |true=>
   have:=aK.mp Nl n (g6.mp q);rw [h] at this;exact ff this
 have h2:n.opensWith "__"=false:=by
  induction q:n.opensWith "__" using zB with
  |false=>rfl
  |true=>
   obtain⟨⟨l⟩⟩:=n;have q:=congrArg Array.toList (eq_of_beq q);rw [Array.toList_extract,show("__":Str).cps.toList=[95,95] from rfl,show("__":Str).cps.size=2 from rfl] at q
   induction l using zL with
   |nil=>injection q
   |cons a l=>
    have:a=95:=by simpa using congrArg (λl=>l.head?) q
    subst this;exact ff h
 unfold attrL;refine U h1 (U h2 ?_);rfl
theorem Nm (h:YA n=H):attrL n=true:=by
 rcases cD.mp h with q|q
 .exact C4 q
 .exact q
theorem EH:wK.all aZ=true:=by kernel_rfl
theorem t9:gY oh=true:=by kernel_rfl
def tu (b:Bool) (sc:Scope) (n:Str):Prop:=(∃k,sc.names.lookup n=O k/\(t7 k=H->n∈wK))/\attrL n=H/\(b=aj->Jz.own.contains n=aj)
theorem F9 (hm:m=H->sc=oh) (hp:gY sc=H) (h:Yy b f m sc n=H):aZ n=H/\tu b sc n/\∃k,sc.names.lookup n=O k/\f k=true:=by
 refine gb (mG h) λh c=>gb (mG h) λh d=>aC (mG h) λh2 h1=> ?_;have e:kindAt m sc n=sc.names.lookup n:=by
  induction m using zB with
  |false=>exact BE h1 hp
  |true=>refine U (hm rfl) ?_;exact Ak h1 t9
 rw [e] at h2
 induction q:sc.names.lookup n using zO with
 |none=>rw [q] at h2;exact ff h2
 |some k=>
  rw [q] at h2;refine aC (mG h2) λa i=>⟨h1,(iX (bW k q (λg=> ?_)) ?_ (λhb=> ?_)),k,rfl,i⟩
  .rw [g] at a;exact BB h1 EH a
  .rcases cD.mp d with q|q
   .exact C4 q
   .exact q
  .subst hb;have h:memC (nm n) Yv=false:=by rwa [Bool.false_or,gu] at c
   induction q:Jz.own.contains n using zB with
   |false=>rfl
   |true=>exact absurd (List.mem_map_of_mem (g6.mp q)) (Am h)
theorem EI {sc:Scope} (hn:aZ n=H) (h:Nk sc.more (nm n)=H):sc.fast.contains n=true:=by
 obtain⟨⟨k,v⟩,hm,h⟩:=iN.mp h;refine aC (mG h) λa h=>gb (mG h) λh1 h2=> ?_;have hk:k="fast":=gS h2 rfl (aH h1);subst hk;refine g6.mpr (List.mem_filterMap.mpr (bW _ hm ((?_:(if(("fast":Str)==("fast":Str))=H then _ else au)=O n))))
 induction v using lS with
 |str x=>
  exact gb (mG a) λc d=>U (gS d hn (aH c)) rfl
 |_=>exact ff a
theorem Ao (hp:gY own=H) (h:EF (own.names.map λp=>nm p.1)=H):noTwice own=true:=by
 have c:∀l:List (Str×aN),l.all (λp=>aZ p.1)=H->EF (l.map λp=>nm p.1)=H->∀p∈l,l.filter (λq=>q.1==p.1)=[p]:=by
  intro l
  induction l with
  |nil=>intro _ _ p h;cases h
  |cons a l d=>
   intro hp h p hm;rw [iD,aP] at hp;have h:(ah (EF (l.map λp=>nm p.1)) aj (memC (nm a.1) (l.map λp=>nm p.1)):Bool)=true:=h
   induction q:memC (nm a.1) (l.map λp=>nm p.1) using zB with
   |true=>rw [q] at h;exact ff h
   |false=>
    rw [q] at h;have out:∀p∈l,p.1≠a.1:=λp hp e=>Am q (gH.mpr (bW p hp (congrArg nm e)));rcases aT.mp hm with e|e
    .refine U e ?_;rw [List.filter_cons_of_pos (by exact U (beq_self_eq_true ..) rfl),qA.mpr λx hx e=>out x hx (eq_of_beq e)]
    .rw [List.filter_cons_of_neg (by refine U (beq_eq_false_iff_ne.mpr (out p e).symm) ?_;exact bZ)];exact d hp.2 h p e
 refine aK.mpr λp hm=> ?_;have e:=c _ hp h p hm;obtain⟨n,k⟩:=p;refine(?_:(match own.names.filter (λx=>x.1==n) with|[_]=>H|[(_,a),(_,b)]=>own.kind== .class&&a != .free&&b== .free|_=>aj)=H);exact U e rfl
theorem rM {p:Arguments->Prop} (k:∀c ds,(∀x∈c,x.annotation=au)->p ⟨[],c,au,[],[],au,ds⟩):∀{a:Arguments},EG a=H->p a
 |⟨_,c,_,_,_,_,ds⟩,h=>e6 h λh1 h2 d e g i=>eN (p:=λz=>p ⟨z,_,_,_,_,_,_⟩) h1 (eO (p:=λz=>p ⟨_,_,z,_,_,_,_⟩) h2 (eN (p:=λz=>p ⟨_,_,_,z,_,_,_⟩) d (eO (p:=λz=>p ⟨_,_,_,_,_,z,_⟩) e (eN (p:=λz=>p ⟨_,_,_,_,z,_,_⟩) g (k c ds λx hx=>cT.mp (aK.mp i x hx))))))
structure Cl {α:Type} (b:Bool) (A:Alg α) (Q:α->Prop):Prop where
 ask:∀sc n p,tu b sc n->Q (A.ask sc n p)
 YB:∀w sc n,w≠walrusThrough->w≠declaredGlobal->Q (A.check w sc n H)
 ent:∀sc,Q (A.enter sc)
 unit:Q A.unit
 both:∀x y,Q x->Q y->Q (A.both x y)
inductive Qs {α:Type} (Q:α->Prop):List α->Prop
 |nil:Qs Q []
 |cons {x l}:Q x->Qs Q l->Qs Q (x::l)
section
variable {α:Type} {b:Bool} {A:Alg α} {Q:α->Prop} (C:Cl b A Q)
include C
theorem Cl.all:∀{l:List α},Qs Q l->Q (A.all l)
 |_,.nil=>C.unit
 |_,.cons h r=>C.both _ _ h (Cl.all r)
theorem Cl.map {a:Type} {f}:∀{l:List a},(∀x∈l,Q (f x))->Q (A.all (l.map f)):=by
 intro l
 induction l with
 |nil=>
  intro _;exact C.unit
 |cons x l c=>
  intro h;exact C.both _ _ (h x (aE ..)) (c λy hy=>h y (aD _ hy))
theorem Cl.Jm (hk:k=H) (h1:w≠walrusThrough) (h2:w≠declaredGlobal):Q (A.check w sc n k):=by
 subst hk;exact C.YB w sc n h1 h2
variable {m:Bool} {sc own:Scope} {ch:List Scope} (hm:m=H->sc=oh) (hp:gY sc=H) (hc:∀s∈ch,gY s=H)
theorem Cl.nm (hm:m=H->sc=oh) (hp:gY sc=H) (h:Yy b f m sc n=H):Q (A.ask sc n p):=C.ask _ _ _ (F9 hm hp h).2.1
theorem Cl.bind (hm:m=H->sc=oh) (hp:gY sc=H) (c:cx.gl=[]) (hl:cx.nl=[]) (h:rK b m sc n=H):Q (A.bind cx sc n p):=by
 obtain⟨_,a,k,e,f⟩:=F9 hm hp h;refine C.both _ _ (C.ask _ _ _ a) (C.Jm ?_ (of_decide_eq_true rfl) (by decide+kernel));refine U e (U c (U hl ?_));rcases k<;>first|rfl|exact ff f
theorem Cl.enter (hm:m=H->sc=oh) (hp:gY sc=H) (hc:∀s∈ch,gY s=H) (j:gl=[]) (h:rL b ch m sc own=H):gY own=H/\Q (A.enterFrom ch au gl sc own):=by
 unfold rL at h;refine gb (mG h) λh r=>gb (mG h) λh v=>gb (mG h) λh i=>aC (mG h) λh2 h1=> ?_;have ann:annotationLike own=false:=by
  unfold annotationLike
  induction q:own.kind using mX<;>rw [q] at h1<;>first|rfl|exact ff h1
 refine⟨i, ?_⟩;unfold Alg.enterFrom;refine U ann (U j (C.all (.cons (C.ent _) (.cons (C.Jm (Ao i v) (of_decide_eq_true rfl) (by decide+kernel)) (.cons (C.map λp d=> ?_) (.cons (C.map λp d=> ?_) (.cons C.unit (.cons ?_ (.cons C.unit .nil)))))))))
 .refine gb (gy.mp d) λc g=> ?_;have:=mG (aK.mp r p c);have g:=eq_of_beq g;have t:=this.1;rw [g] at t;obtain⟨_,a,k,e,f⟩:=F9 hm hp t;refine C.both _ _ (C.ask _ _ _ a) (C.Jm (iN.mpr (bW (p.1,k) (lookup_mem e) ?_)) (of_decide_eq_true rfl) (by decide+kernel));refine(?_:(p.1==p.1&&_)=H);refine U (beq_self_eq_true ..) (U (Bool.true_and ..) ?_)
  induction k using dw with
  |cell=>rfl
  |free=>
   have f:Ni sc.kind=false:=by
    induction q:Ni sc.kind using zB with
    |false=>rfl
    |true=>rw [q] at f;exact ff f
   have:(sc.kind==ScopeKind.class)=false:=by
    induction q:sc.kind using mX<;>rw [q] at f<;>first|rfl|exact ft f
   refine U this ?_;rfl
  |_=>exact ff f
 .refine aC (gy.mp d) λg c=> ?_;have:=(mG (aK.mp r p c)).2;have j:t7 p.2=true:=by
   have:=(mG g).1
   induction q:p.2 using dw<;>rw [q] at this<;>first|rfl|exact ff this
  rw [j] at this;have hn:=aK.mp i p c;refine C.Jm (cD.mpr (.inr ?_)) (of_decide_eq_true rfl) (by decide+kernel);have n:∀l:List Scope,(∀s∈l,s∈ch)->(match l.findSome? (λb=>b.names.lookup p.1) with|some k=> !(k== .local||k== .cell||k== .free)|none=>H)=true:=by
   intro l
   induction l with
   |nil=>intro _;rfl
   |cons s l w=>
    intro u;have c:=u s (aE ..);have h:=(aK.mp this) s c;rw [BE hn (hc s c)] at h;refine U (List.findSome?_cons) ?_
    induction q:s.names.lookup p.1 using zO with
    |none=>exact w λt ht=>u t (aD _ ht)
    |some k=>
     rw [q] at h;rcases k<;>first|rfl|exact ff h
  exact n ch λx h=>h
 .split
  .exact C.unit
  .rename_i o;refine C.map λp d=>aC (gy.mp d) λg c=>C.Jm ?_ (of_decide_eq_true rfl) (by decide+kernel);rcases cD.mp h2 with q|q
   .exact absurd (by unfold Scope.fast;refine U (cZ.mp q) ?_;rfl) o
   .have:=aK.mp q p c;rw [show(p.2== .cell||p.2== .free||(p.2== .local&&own.kind== .function))=H from g] at this;exact EI (aK.mp i p c) this
theorem Cl.inl (hp:gY own=H) (h:Ro fr own=H):Q (A.inlined fr own):=by
 unfold Alg.inlined;split
 .exact C.unit
 .rename_i c;refine C.map λp d=>aC (gy.mp d) λe a=>C.Jm ?_ (of_decide_eq_true rfl) (by decide+kernel);rcases cD.mp h with q|q
  .exact absurd (by unfold Scope.fast;refine U (cZ.mp q) ?_;rfl) c
  .have:=aK.mp q p a;rw [show((p.2== .local||p.2== .cell)&&p.1.cps[0]? !=O 46)=H from e] at this;exact EI (aK.mp hp p a) this
theorem Cl.params (hp:gY own=H) (c:EG a=H):Rp b own a=H->Q (A.params own a):=
 rM (p:=λa=>Rp b own a=H->Q (A.params own a)) (λd ds e h=>C.map λx hx=>C.bind (m:=aj) (λq=>ff q) hp rfl rfl (aK.mp h x (by simpa using hx))) c
end
structure EM (s:KS):Prop where
 m:s.m=H->s.sc=oh
 p:gY s.sc=H
 c:∀t∈s.ch,gY t=H
theorem EM.into (h:EM s) (hp:gY own=H):EM (s.into own):=
 ⟨λq=>ff q,hp,λt ht=>(aT.mp ht).elim (λe=>e▸hp) (h.c t)⟩
theorem EM.comp (h:EM s) (hp:gY own=H):EM (s.comp own):=h.into (own:=own) hp|>λq=>⟨q.m,q.p,q.c⟩
def AY (s:KS) (cx:TablesWhole.Ctx):Prop:=cx.frame=s.fr/\cx.encl=s.ch/\cx.gl=[]/\cx.nl=[]
section
variable {α:Type} {b:Bool} {A:Alg α} {Q:α->Prop} (C:Cl b A Q)
include C
def GE (b:Bool) (A:Alg α) (Q:α->Prop) (f:KS->Expr->Bool):Prop:=∀s e cx hold,EM s->AY s cx->f s e=H->Q (wE A cx s.sc hold e)
variable {f:KS->Expr->Bool} (G:GE b A Q f) {s:KS} {cx:TablesWhole.Ctx} {hold:Option Scope} (S:EM s) (X:AY s cx)
include G S X
theorem GE.es:l.all (f s)=H->Q (wEs A cx s.sc hold l):=uo C.unit λe l h k=>C.both _ _ (G s e cx hold S X h) k
theorem GE.o:∀{e:Option Expr},kO (f s) e=H->Q (wEo A cx s.sc hold e)
 |none,_=>C.unit
 |some e,h=>G s e cx hold S X h
theorem GE.os:l.all (kO (f s))=H->Q (wEos A cx s.sc hold l):=uo C.unit λe l h k=>C.both _ _ (GE.o C G S X h) k
theorem GE.ts (a:∀e,P e=H->Q (wT A cx s.sc hold e)):l.all P=H->Q (wTs A cx s.sc hold l):=uo C.unit λe l h k=>C.both _ _ (a e h) k
theorem GE.x {x} (h:rK b s.m s.sc x=H):Q (wT A cx s.sc hold (.Name x p)):=C.bind S.m S.p X.2.2.1 X.2.2.2 h
theorem GE.t (h:SE b (f s) s e=H):Q (wT A cx s.sc hold e):=by
 induction e using aR with
 |Name x p=>exact GE.x C G S X h
 |Tuple c _ _=>
  refine GE.ts C G S X (λe h=> ?_) h
  induction e using aR with
  |Name x p=>exact GE.x C G S X h
  |Tuple c _ _=>
   refine GE.ts C G S X (λe h=> ?_) h
   induction e using aR with
   |Name x p=>exact GE.x C G S X h
   |_=>exact ff h
  |_=>exact ff h
 |Attribute o a _=>exact G s o cx hold S X (mG h).2
 |Subscript o i _=>exact e2 h λh1 h2=>C.both _ _ (G s o cx hold S X h1) (G s i cx hold S X h2)
 |_=>exact ff h
end
section
variable {α:Type} {b:Bool} {A:Alg α} {Q:α->Prop} (C:Cl b A Q)
include C
theorem GE.gr (G:GE b A Q f) {x hold} (S:EM s) (X:AY s cy):
 (l.all λg=>f s g.iter&&SE b (f s) s g.target&&g.ifs.all (f s)&&g.is_async==0)=H->Q (wGens A cx cy a s.sc x hold aj l):=
 uo (p:=λl=>Q (wGens A cx cy a s.sc x hold aj l)) C.unit λg l h k=>by
  obtain⟨t,c,d,q⟩:=g;exact e4 h λh1 h2 e i=>C.all (.cons (G s c cy hold S X h1) (.cons (GE.t C G S X h2) (.cons (GE.es C G S X e) (.cons k .nil))))
theorem GE.g (G:GE b A Q f) {x hold} (S:EM s) (X:AY s cx) (a:EM (s.comp own)) (c:AY (s.comp own) cy):∀{l},kG b f s own l=H->Q (wGens A cx cy s.sc own x hold H l):=by
 intro l
 induction l with
 |nil=>
  intro h;exact ff h
 |cons d l n=>
  obtain⟨t,e,i,q⟩:=d;intro h;exact e5 h λh1 h2 j o k=>C.all (.cons (G s e cx x S X h1) (.cons (GE.t C G a c h2) (.cons (GE.es C G a c j) (.cons (GE.gr C G a c k) .nil))))
theorem BF (G:GE b A Q f) (S:EM s) (X:AY s cx) (h1:rL b s.ch s.m s.sc own=H) (h2:Ro s.fr own=H) (d:rK b aj own ".0"=H) (e:kG b f s own gs=H)
 (k:EM (s.comp own)->AY (s.comp own) ⟨cx.frame,[],[],own::cx.encl,au⟩->Qs Q l):Q (A.all (A.enterFrom cx.encl au [] s.sc own::A.inlined cx.frame own::A.bind ⟨own,[],[],[],au⟩ own (".0":Str) none::wGens A cx ⟨cx.frame,[],[],own::cx.encl,au⟩ s.sc own x hold H gs::l)):=by
 refine aC (C.enter S.m S.p (λt ht=>S.c t ht) rfl h1) λhe hp=> ?_;have a:AY (s.comp own) ⟨cx.frame,[],[],own::cx.encl,au⟩:=qK X.1 (congrArg _ X.2.1) rfl rfl;exact C.all (.cons (X.2.1▸he) (.cons (C.inl hp (X.1▸h2)) (.cons (C.bind (m:=aj) ff hp rfl rfl d) (.cons (GE.g C G S X (S.comp hp) a e) (k (S.comp hp) a)))))
theorem Nn n:GE b A Q (kE b n):=by
 induction n with
 |zero=>exact λs e cx hold S X h=>ff h
 |succ n G=>
  intro s e cx hold S X h
  induction e using aR with
  |Constant c _ _=>exact C.unit
  |Name x p=>
   refine e2 h λh1 h2=>(?_:Q (if(x==("super":Str)&&s.sc.functionLike)=H then A.both (A.ask s.sc x (O p)) (A.ask s.sc ("__class__":Str) au) else A.ask s.sc x (O p)));by_cases q:(x==("super":Str)&&s.sc.functionLike)=H
   .refine U (if_pos q) ?_;have q:=eq_of_beq (mG q).1;subst q;exact C.both _ _ (C.nm S.m S.p h1) (C.nm S.m S.p h2)
   .refine U (if_neg q) ?_;exact C.nm S.m S.p h1
  |Attribute v a _=>exact G s v cx hold S X (mG h).2
  |BoolOp _ vs _=>exact GE.es C G S X h
  |BinOp l o r p=>exact e3 h λB h1 h2=>C.both _ _ (G s l cx hold S X h1) (G s r cx hold S X h2)
  |UnaryOp _ x _=>exact G s x cx hold S X (mG h).2
  |Lambda a x own _=>
   exact e5 h λh1 h2 d g j=>aC (C.enter S.m S.p (λt ht=>S.c t ht) rfl d) λhe hp=>C.all (.cons (rM (p:=λa=>a.defaults.all (kE b n s)=H->Q (wDefaults A cx s.sc hold a)) (λD ds B h=>C.both _ _ (GE.es C G S X h) C.unit) h1 h2) (.cons (X.2.1▸he) (.cons (C.params hp h1 g) (.cons (G (s.into own) x _ au (S.into hp) (qK rfl (congrArg _ X.2.1) rfl rfl) j) .nil))))
  |IfExp t x y _=>exact e3 h λh1 h2 d=>C.all (.cons (G s t cx hold S X h1) (.cons (G s x cx hold S X h2) (.cons (G s y cx hold S X d) .nil)))
  |Dict ks vs _=>exact e2 h λh1 h2=>C.both _ _ (GE.os C G S X h1) (GE.es C G S X h2)
  |ListComp e E own _=>exact e5 h λh1 h2 d g j=>BF C G S X h1 h2 d g λw z=> .cons (G (s.comp own) e _ _ w z j) .nil
  |DictComp k v E own _=>exact e6 h λh1 h2 d g j F=>BF C G S X h1 h2 d g λw z=> .cons (G (s.comp own) k _ _ w z j) (.cons (G (s.comp own) v _ _ w z F) .nil)
  |Compare l _ J _=>exact e2 h λh1 h2=>C.both _ _ (G s l cx hold S X h1) (GE.es C G S X h2)
  |Call k D ks _=>exact e4 h λh1 B d g=>C.all (.cons (G s k cx hold S X d) (.cons (GE.es C G S X g) (.cons (eN (p:=λks=>Q (wKs A cx s.sc hold ks)) h1 C.unit) .nil)))
  |Subscript v i _=>exact e2 h λh1 h2=>C.both _ _ (G s v cx hold S X h1) (G s i cx hold S X h2)
  |Slice l u t _=>exact e3 h λh1 h2 d=>C.all (.cons (GE.o C G S X h1) (.cons (GE.o C G S X h2) (.cons (GE.o C G S X d) .nil)))
  |List I _=>exact GE.es C G S X h
  |Tuple I _ _=>exact GE.es C G S X h
  |_=>exact ff h
end
theorem Ga {a b:List α} (h:a=[]) (k:b=[]):a++b=[]:=h.symm▸k
theorem C5 (a:∀t,P t=H->declS g t=[]) {l}:l.all P=H->declSs g l=[]:=uo (p:=λl=>declSs g l=[]) rfl λt l h k=>Ga (a t h) k
theorem Np:∀n y s t,C3 b n y s t=H->declS g t=[]:=by
 intro n
 induction n with
 |zero=>
  intro _ _ _ h;exact ff h
 |succ n d=>
  intro y s t h;have G:∀{l},l.all (C3 b n y s)=H->declSs g l=[]:=C5 (d y s)
  induction t using eY with
  |If t x o _|While t x o _=>exact e3 h λa h1 h2=>Ga (G h1) (G h2)
  |For t i x o _=>exact e4 h λa a h1 h2=>Ga (G h1) (G h2)
  |Try x c o f _=>exact e4 h λh1 h2 e j=>Ga (Ga (Ga (G h1) (uo (p:=λc=>declHs g c=[]) rfl (λu l h k=>by obtain⟨t,m,x,_⟩:=u;exact Ga (G (mG h).2) k) h2)) (G e)) (G j)
  |Return|Assign|Expr|Raise|Pass|FunctionDef|ClassDef=>rfl
  |_=>exact ff h
section
variable {α:Type} {b:Bool} {A:Alg α} {Q:α->Prop} (C:Cl b A Q)
include C
theorem Hw {cx:TablesWhole.Ctx} {sc:Scope}:∀{l:List Arg},(∀x∈l,x.annotation=au)->Q (wArgAnns A cx sc au l)
 |[],_=>C.unit
 |⟨x,O _,_⟩::l,h=>sn (h _ (aE ..))
 |⟨x,au,_⟩::l,h=>C.both _ _ C.unit (Hw λy hy=>h y (aD _ hy))
theorem Vk (S:EM s) (X:AY s cx) {ret} (i:gl=[]) (h:kD b s a ds ret g own x=H):
 gY own=H/\Q (wDefHead A cx s.sc a ds ret g own ts x p gl):=
 have G:=Nn C 40
 e8 h λh1 h2 d j k l n o=>
 have e:=C.enter S.m S.p (λt ht=>S.c t ht) i o
 ⟨e.1,eN (p:=λg=>Q (wDefHead A cx s.sc a ds ret g own ts x p gl)) h1 (eO (p:=λret=>Q (wDefHead A cx s.sc a ds ret [] own ts x p gl)) h2
  (C.all (.cons (GE.es C G S X j) (.cons (rM (p:=λa=>a.defaults.all (kE b 40 s)=H->Q (wDefaults A cx s.sc au a)) (λq ds r h=>C.both _ _ (GE.es C G S X h) C.unit) d k) (.cons (C.bind S.m S.p X.2.2.1 X.2.2.2 l) (.cons (C.params e.1 d n) (.cons (C.all (.cons (X.2.1▸e.2) (.cons (rM (p:=λa=>Q (wAnns A cx s.sc au a)) (λq ds h=>C.all (.cons C.unit (.cons (Hw C h) (.cons C.unit (.cons C.unit (.cons C.unit .nil)))))) d) (.cons C.unit .nil)))) .nil)))))))⟩
theorem vt (a:∀t,P t=H->Q (wS A top cx sc t)):l.all P=H->Q (wSs A top cx sc l):=uo C.unit λt l h k=>C.both _ _ (a t h) k
theorem Gb top:∀n y s t cx,EM s->AY s cx->C3 b n y s t=H->Q (wS A top cx s.sc t):=by
 intro n
 induction n with
 |zero=>
  intro _ _ _ _ _ _ h;exact ff h
 |succ n B=>
  intro y s t cx S X h;have G:=Nn C 40;have I:∀{l},l.all (C3 b n y s)=H->Q (wSs A top cx s.sc l):=vt C λt h=>B y s t cx S X h
  induction t using eY with
  |Return v _=>exact GE.o C G S X (mG h).2
  |Assign ts v _=>exact e2 h λh1 h2=>C.both _ _ (G s v cx au S X h1) (GE.ts C G S X (λe h=>GE.t C G S X h) h2)
  |Expr v _=>exact G s v cx au S X h
  |If t x o _|While t x o _=>exact e3 h λh1 h2 j=>C.all (.cons (G s t cx au S X h1) (.cons (I h2) (.cons (I j) .nil)))
  |For t i x o _=>exact e4 h λh1 h2 j w=>C.all (.cons (G s i cx au S X h1) (.cons (GE.t C G S X h2) (.cons (I j) (.cons (I w) .nil))))
  |Raise e c _=>exact e2 h λh1 h2=>C.both _ _ (GE.o C G S X h1) (GE.o C G S X h2)
  |Try x J o f _=>
   exact e4 h λh1 h2 j w=>C.all (.cons (I h1) (.cons (uo (p:=λJ=>Q (wHs A top cx s.sc J)) C.unit (λu l h k=>by
    obtain⟨t,m,x,p⟩:=u;exact e3 h λL M P=>C.all (.cons (GE.o C G S X L) (.cons (eO (p:=λm=>Q (A.optName cx s.sc m p)) M C.unit) (.cons (I P) (.cons k .nil))))) h2) (.cons (I j) (.cons (I w) .nil))))
  |Pass _=>exact C.unit
  |FunctionDef _ a x ds ret q own ts z p=>
   refine e2 h λh1 h2=> ?_;have d:=λg=>C5 (g:=g) (Np n H (s.into own)) h2;have D:=Vk C S X (ts:=ts) (p:=p) (d H) h1;exact C.both _ _ D.2 (e8 h1 λR r r r r r r r=>eN (p:=λq=>Q (wSs A top ⟨own,declSs aj x,declSs H x,own::under q ts cx.encl,au⟩ own x)) R (vt C (λt h=>B H (s.into own) t ⟨own,declSs aj x,declSs H x,own::cx.encl,au⟩ (S.into D.1) (qK rfl (congrArg _ X.2.1) (d H) (d aj)) h) h2))
  |ClassDef _ F ks x ds q own ts z _ p=>
   refine e7 h λh1 h2 j w V h6 K=> ?_;have d:=λg=>C5 (g:=g) (Np n aj ⟨aj,own,s.ch,own⟩) K;have E:=C.enter S.m S.p (λt ht=>S.c t ht) (d H) h6;exact C.both _ _ (eN (p:=λq=>Q (wClassHead A cx s.sc F ks ds q own ts z p (declSs H x))) h1 (eN (p:=λks=>Q (wClassHead A cx s.sc F ks ds [] own ts z p (declSs H x))) h2 (eN (p:=λds=>Q (wClassHead A cx s.sc F [] ds [] own ts z p (declSs H x))) j
    (C.all (.cons C.unit (.cons (C.bind S.m S.p X.2.2.1 X.2.2.2 V) (.cons (C.all (.cons (X.2.1▸E.2) (.cons (GE.es C G S X w) (.cons C.unit .nil)))) .nil)))))))
    (eN (p:=λq=>Q (wSs A top ⟨own,declSs aj x,declSs H x,under q ts cx.encl,au⟩ own x)) h1 (vt C (λt h=>B aj ⟨aj,own,s.ch,own⟩ t ⟨own,declSs aj x,declSs H x,cx.encl,au⟩ ⟨ff,E.1,S.c⟩ (qK rfl X.2.1 (d H) (d aj)) h) K))
  |_=>exact ff h
end
end
set_option backward.match.sparseCases false
section
noncomputable def rN (y a l p:Bool):Look:={strict:=aj,foot:=au,yields:=y,awaits:=a,loops:=l,place:=p}
section
variable {y a l p:Bool}
theorem Vl (h:YA n=H):(rN y a l p).field n=true:=by
 simp [Look.field,Look.attr,Look.word,rN,(Nm h)]
theorem Vm (h:kC c=H):noRoadL (rN y a l p) (.Constant c k q)=true:=by
 induction c using lS with
 |str x=>
  rcases cD.mp h with q|q
  .refine gb (mG q) λd e=>(?_:(rN y a l p).str x=H);simp [Look.str,Look.word,rN,(C4 d),e]
  .exact q
 |_=>rfl
theorem Rq n:∃q,(rN y a l p).root n=rN y a l q:=by unfold Look.root;split;exact⟨H,rfl⟩;exact⟨aj,rfl⟩
theorem args_eq f:∃q,(rN y a l p).args f=rN y a l q:=by unfold Look.args;split;exact⟨H,rfl⟩;exact⟨aj,rfl⟩
end
theorem Nq (h:(match k with| .Name x _=> !memC (nm x) Nj|_=>H)=H):(nameOf? k).any (["vars","dir","locals"]:List Str).contains=false:=by
 induction k using aR with
 |Name x _=>
  cases q:(["vars","dir","locals"]:List Str).contains x with
  |false=>exact q
  |true=>exact absurd (List.mem_map_of_mem (g6.mp q)) (Am (l:=Nj) ((gu _).mp h))
 |_=>rfl
def GR (f:KS->Expr->Bool):Prop:=∀s e y a l p,f s e=H->noRoadL (rN y a l p) e=H
section
variable {b:Bool} {f:KS->Expr->Bool} (G:GR f) {s:KS} {y a l p:Bool}
include G
theorem GR.es:m.all (f s)=H->noRoadLs (rN y a l p) m=true:=uo (p:=λm=>noRoadLs (rN y a l p) m=H) rfl λe m h k=>fy (G s e y a l p h) k
theorem GR.o:∀{e:Option Expr},kO (f s) e=H->noRoadLOpt (rN y a l p) e=H
 |none,_=>rfl
 |some e,h=>G s e y a l p h
theorem GR.os:m.all (kO (f s))=H->noRoadLOpts (rN y a l p) m=true:=uo (p:=λm=>noRoadLOpts (rN y a l p) m=H) rfl λe m h k=>fy (GR.o G h) k
theorem GR.ts (c:∀e,P e=H->noRoadL (rN y a l p) e=H):m.all P=H->noRoadLs (rN y a l p) m=true:=uo (p:=λm=>noRoadLs (rN y a l p) m=H) rfl λe m h k=>fy (c e h) k
theorem GR.at_ {o} (h:(YA n&&f s o)=H):noRoadL (rN y a l p) (.Attribute o n q)=true:=e2 h λh1 h2=>by
 exact fE (Rq (y:=y) (a:=a) (l:=l) (p:=p) n) λq e=>fy (cD.mpr (.inl (Vl h1))) (e▸G _ _ _ _ _ _ h2)
theorem GR.t (h:SE b (f s) s e=H):noRoadL (rN y a l p) e=true:=by
 induction e using aR with
 |Name x _=>rfl
 |Tuple c _ _=>
  refine GR.ts G (λe h=> ?_) h
  induction e using aR with
  |Name x _=>rfl
  |Tuple c _ _=>
   refine GR.ts G (λe h=> ?_) h
   induction e using aR with
   |Name x _=>rfl
   |_=>exact ff h
  |_=>exact ff h
 |Attribute o n _=>exact GR.at_ G h
 |Subscript o i _=>exact e2 h λh1 h2=>fy (G s o _ _ _ _ h1) (G s i _ _ _ _ h2)
 |_=>exact ff h
theorem GR.c {t it} (h1:f s' it=H) (h2:SE b (f s) s t=H) (d:ifs.all (f s)=H) (e:(k==0)=H) (g:noRoadLGens (rN y a l p) m=H):noRoadLGens (rN y a l p) (⟨t,it,ifs,k⟩::m)=true:=
 fy (fy (fy (fy (fy (cD.mpr (.inl e)) rfl) (GR.t G h2)) (G _ _ _ _ _ _ h1)) (GR.es G d)) g
theorem GR.g:∀{m},kG b f s own m=H->noRoadLGens (rN y a l p) m=true:=by
 intro m
 induction m with
 |nil=>
  intro _;exact rfl
 |cons j m r=>
  obtain⟨t,n,d,k⟩:=j;intro h;exact e5 h λh1 h2 e i o=>GR.c G h1 h2 e i (uo (p:=λm=>noRoadLGens (rN y a l p) m=H) rfl (λg m h k=>by
  obtain⟨t,n,d,q⟩:=g;exact e4 h λh1 h2 e i=>GR.c G h1 h2 e i k) o)
end
theorem Hx {c:Look}:∀{m:List Arg},(∀x∈m,x.annotation=au)->noRoadLArgL c m=H
 |[],_=>rfl
 |⟨x,O _,_⟩::l,h=>sn (h _ (aE ..))
 |⟨x,au,_⟩::l,h=>fy rfl (Hx λy hy=>h y (aD _ hy))
theorem BG (G:GR f) (h:EG x=H):x.defaults.all (f s)=H->noRoadLArgs (rN y a l p) x=true:=
 rM (p:=λx=>x.defaults.all (f s)=H->noRoadLArgs (rN y a l p) x=H) (λe ds c d=>fy (fy (fy (fy (fy (fy rfl (Hx c)) rfl) rfl) rfl) rfl) (GR.es G d)) h
theorem Vn n:GR (kE b n):=by
 induction n with
 |zero=>exact λs e y a l p h=>ff h
 |succ n G=>
  intro s e y a l p h
  induction e using aR with
  |Constant c _ _=>exact Vm h
  |Name x p=>rfl
  |Attribute v n _=>exact GR.at_ G h
  |BoolOp _ vs _=>exact GR.es G h
  |BinOp i o r p=>exact e3 h λh1 h2 d=>fy (fy h1 (G _ _ _ _ _ _ h2)) (G _ _ _ _ _ _ d)
  |UnaryOp _ x _=>exact e2 h λh1 h2=>fy h1 (G _ _ _ _ _ _ h2)
  |Lambda u x own _=>exact e5 h λh1 h2 j j m=>fy (BG G h1 h2) (G _ _ _ _ _ _ m)
  |IfExp t x z _=>exact e3 h λh1 h2 d=>fy (fy (G _ _ _ _ _ _ h1) (G _ _ _ _ _ _ h2)) (G _ _ _ _ _ _ d)
  |Dict ks vs _=>exact e2 h λh1 h2=>fy (GR.os G h1) (GR.es G h2)
  |ListComp e A own _=>exact e5 h λj j j w m=>fy (G _ _ _ _ _ _ m) (GR.g G w)
  |DictComp k v A own _=>exact e6 h λj j j w m B=>fy (fy (G _ _ _ _ _ _ m) (G _ _ _ _ _ _ B)) (GR.g G w)
  |Compare u _ E _=>exact e2 h λh1 h2=>fy (G _ _ _ _ _ _ h1) (GR.es G h2)
  |Call k C ks _=>
   refine e4 h λh1 h2 d w=>eN (p:=λks=>noRoadL (rN y a l p) (.Call k C ks _)=H) h1 (fE (args_eq (y:=y) (a:=a) (l:=l) (p:=p) k) λq e=>fy (fy (fy (fy ?_ rfl) (cD.mpr (.inr (G _ _ _ _ _ _ d)))) (e▸GR.es G w)) rfl);refine gu _▸Bool.and_eq_false_iff.mpr (.inl (Nq h2))
  |Subscript v i _=>exact e2 h λh1 h2=>fy (G _ _ _ _ _ _ h1) (G _ _ _ _ _ _ h2)
  |Slice i u t _=>exact e3 h λh1 h2 d=>fy (fy (GR.o G h1) (GR.o G h2)) (GR.o G d)
  |List D _=>exact GR.es G h
  |Tuple D _ _=>exact GR.es G h
  |_=>exact ff h
theorem yl (c:∀t,P t=H->noRoadLS lk t=H):l.all P=H->noRoadLSs lk l=true:=uo (p:=λl=>noRoadLSs lk l=H) rfl λt l h k=>fy (c t h) k
theorem Nr:∀n y s t z a l p,(y=H->z=H)->C3 b n y s t=H->noRoadLS (rN z a l p) t=true:=by
 intro n
 induction n with
 |zero=>
  intro _ _ _ _ _ _ _ _ h;exact ff h
 |succ n A=>
  intro y s t z a l p hy h;have G:=Vn (b:=b) 40;have I:∀{l} {x},x.all (C3 b n y s)=H->noRoadLSs (rN z a l p) x=true:=λ{l g} h=>yl (λt h=>A y s t z a l p hy h) h
  induction t using eY with
  |Return v _=>exact e2 h λh1 h2=>fy (hy h1) (GR.o G h2)
  |Assign ts v _=>exact e2 h λh1 h2=>fy (fy rfl (GR.ts G (λe h=>GR.t G h) h2)) (G _ _ _ _ _ _ h1)
  |Expr v _=>exact cD.mpr (.inr (G _ _ _ _ _ _ h))
  |If t x o _=>exact e3 h λh1 h2 d=>fy (fy (G _ _ _ _ _ _ h1) (I h2)) (I d)
  |While t x o _=>exact e3 h λh1 h2 d=>fy (fy (G _ _ _ _ _ _ h1) (I (l:=H) h2)) (I d)
  |For t i x o _=>exact e4 h λh1 h2 d j=>fy (fy (fy (fy rfl (GR.t G h2)) (G _ _ _ _ _ _ h1)) (I (l:=H) d)) (I j)
  |Raise e c _=>exact e2 h λh1 h2=>fy (GR.o G h1) (GR.o G h2)
  |Try x B o f _=>
   exact e4 h λh1 h2 d j=>fy (fy (fy (I h1) (uo (p:=λB=>noRoadLHs (rN z a l p) B=H) rfl (λu m h k=>by
    obtain⟨t,i,x,q⟩:=u;exact e3 h λC g D=>fy (fy (GR.o G C) (I D)) k) h2)) (I d)) (I j)
  |Pass _=>rfl
  |FunctionDef _ u x ds ret w own ts q r=>
   exact e2 h λh hb=>e8 h λh1 h2 d j E g g g=>fy (fy (fy (fy (BG G d E) (yl (λt h=>A H _ t H aj aj p (λg=>rfl) h) hb)) (GR.es G j)) (eO (p:=λr=>noRoadLOpt (rN z a l p) r=H) h2 rfl)) (eN (p:=λw=>noRoadLTps (rN z a l p) w=H) h1 rfl)
  |ClassDef _ J ks x ds w own ts q _ r=>
   exact e7 h λh1 h2 d j g g F=>fy (fy (fy (fy (GR.es G j) (eN (p:=λks=>noRoadLKws (rN z a l p) ks=H) h2 rfl)) (yl (λt h=>A aj _ t aj aj aj p ff h) F)) (eN (p:=λds=>noRoadLs (rN z a l p) ds=H) d rfl)) (eN (p:=λw=>noRoadLTps (rN z a l p) w=H) h1 rfl)
  |_=>exact ff h
end
set_option backward.match.sparseCases true
section
def Vo:KS:=⟨H,oh,[],oh⟩
abbrev KP (b:Bool) (l:List Stmt):Prop:=l.all (C3 b 40 aj Vo)=H
theorem Nt:KP aj (PL.main.body.take 369):=by kernel_rfl
theorem SG:KP H (PL.main.body.drop 369):=by kernel_rfl
theorem Nu:EM Vo:=⟨λa=>rfl,t9,λa h=>nomatch h⟩
theorem tu.weak (h:tu b sc n):tu H sc n:=iX h.1 h.2.1 (λq=>nomatch q)
theorem Cl.weak (C:Cl H A Q):Cl aj A Q:=⟨λsc n p h=>C.ask sc n p h.weak,C.YB,C.ent,C.unit,C.both⟩
theorem Jo {Q:α->Prop} (C:Cl b A Q):∀l m,Q (wSs A oh cx oh m)->(∀t∈l,Q (wS A oh cx oh t))->Q (wSs A oh cx oh (l++m)):=by
 intro l
 induction l with
 |nil=>
  intro m h _;exact h
 |cons t l a=>
  intro m h k;exact C.both _ _ (k t (aE ..)) (a m h λu hu=>k u (aD _ hu))
theorem Hy (C:Cl aj A Q):Q (wSs A oh ⟨oh,[],[],[],au⟩ oh (PL.main.body.take 369)):=vt C (λt h=>Gb C oh 40 aj Vo t _ Nu (qK rfl rfl rfl rfl) h) Nt
theorem Gd (C:Cl H A Q):Q (wSs A oh ⟨oh,[],[],[],au⟩ oh PL.main.body):=by
 have h:=Jo C (PL.main.body.take 369) (PL.main.body.drop 369) (vt C (λt h=>Gb C oh 40 aj Vo t _ Nu (qK rfl rfl rfl rfl) h) SG) λt ht=>
  Gb C.weak oh 40 aj Vo t ⟨oh,[],[],[],au⟩ Nu (qK rfl rfl rfl rfl) (aK.mp Nt t ht)
 rwa [l0] at h
theorem Nv:Cl b gather (λl=>l=[]) where
 ask _ _ _ _:=rfl
 YB w sc n h1 h2:=by
  refine(?_:(if(w==walrusThrough&&sc.kind== .module||w==declaredGlobal)=H then [n] else [])=[]);refine U (beq_eq_false_iff_ne.mpr h1) (U (beq_eq_false_iff_ne.mpr h2) ?_);rfl
 ent _:=rfl
 unit:=rfl
 both x y hx hy:=by subst hx;subst hy;rfl
theorem BH:wSs gather oh ⟨oh,[],[],[],au⟩ oh PL.main.body=[]:=Gd Nv
theorem Ge:wSs gather oh ⟨oh,[],[],[],au⟩ oh (PL.main.body.take 369)=[]:=Hy Nv
theorem Rr:Cl H holds (λx=>x=H) where
 ask sc n p h:=by
  obtain⟨⟨k,e,_⟩,_⟩:=h;refine(?_:(sc.names.lookup n).isSome=H);rw [e];rfl
 YB _ _ _ _ _:=rfl
 ent _:=rfl
 unit:=rfl
 both x y hx hy:=by subst hx;subst hy;rfl
theorem Jp:EF (oh.names.map λp=>nm p.1)=true:=by kernel_rfl
theorem Rt m:wModule holds m=(H&&(noTwice m.scope&&(wSs holds m.scope ⟨m.scope,[],wSs gather m.scope ⟨m.scope,[],[],[],au⟩ m.scope m.body,[],au⟩ m.scope m.body&&H))):=rfl
theorem Gf:wModule holds PL.main=true:=by
 refine(Rt PL.main).trans ((?_:(H&&(noTwice oh&&(wSs holds oh ⟨oh,[],wSs gather oh ⟨oh,[],[],[],au⟩ oh PL.main.body,[],au⟩ oh PL.main.body&&H)))=H));rw [Ao t9 Jp,BH,Gd Rr];rfl
theorem Nx {p:Program} (h:wModule holds p.main=H) (h1:p.modules=[]) (h2:p.parses=[]) (a:p.harvested=[]):p.tablesWhole=true:=by
 have e:p.tablesWhole=(wModule holds p.main&&(holds.all (p.modules.map λ(_,_,m)=>wModule holds m)&&(holds.all (p.parses.map (wParse holds))&&(holds.all (p.harvested.map (wParse holds))&&H)))):=rfl;rw [e,h,h1,h2,a];rfl
theorem C6:PL.tablesWhole=true:=Nx Gf rfl rfl rfl
noncomputable def YC (f:Scope->Str->Bool):Alg Bool:=⟨λsc n u_=>f sc n,λu_ u_ u_ u_=>H,λu_=>H,H,aj,λa b=>a&&b⟩
theorem Ny (h:∀sc n,tu b sc n->f sc n=H):Cl b (YC f) (λx=>x=H) where
 ask sc n _ q:=h sc n q
 YB _ _ _ _ _:=rfl
 ent _:=rfl
 unit:=rfl
 both x y hx hy:=by subst hx;subst hy;rfl
theorem Nz f body:namesMeet PL body f=(H&&(H&&(wSs (YC f) oh ⟨oh,[],wSs gather oh ⟨oh,[],[],[],au⟩ oh body,[],au⟩ oh body&&H))):=rfl
theorem wL (h:∀sc n,tu H sc n->f sc n=H):namesMeet PL PL.main.body f=true:=by
 rw [Nz,BH,Gd (Ny h)];rfl
theorem Gg (h:∀sc n,tu aj sc n->f sc n=H):namesMeet PL (PL.main.body.take 369) f=true:=by
 rw [Nz,Ge,Hy (Ny h)];rfl
theorem Ru:SD.all (λn=>builtinNamed n&& !worldNames.contains n&& !n.opensWith "__")=true:=by kernel_rfl
theorem YD (h:tu H sc n):(match sc.names.lookup n with
 |some .globalImplicit|some .globalExplicit=>PL.boundNames.contains n||n==("__name__":Str)||n==("__debug__":Str)||(builtinNamed n&& !worldNames.contains n&& !n.opensWith "__")
 |_=>H)=true:=by
 obtain⟨⟨k,e,g⟩,_⟩:=h;refine U e ?_;have a:t7 k=H->(PL.boundNames.contains n||n==("__name__":Str)||n==("__debug__":Str)||(builtinNamed n&& !worldNames.contains n&& !n.opensWith "__"))=true:=λq=>by
  rcases nc.mp (g q) with q|q
  .rw [g6.mpr q,nZ,nZ,nZ]
  .rw [aK.mp Ru n q,Bool.or_true]
 cases k with
 |globalImplicit=>exact a rfl
 |globalExplicit=>exact a rfl
 |_=>rfl
theorem YE (hx:wK.contains x=aj) (h:tu H sc n):(n !=x|| !(sc.names.lookup n==O .globalImplicit||sc.names.lookup n==O .globalExplicit))=true:=by
 obtain⟨⟨k,e,g⟩,_⟩:=h;refine U e ?_;have a:t7 k=H->(n !=x)=true:=λq=>bne_iff_ne.mpr λe=>by subst e;rw [g6.mpr (g q)] at hx;cases hx
 cases k with
 |globalImplicit=>rw [a rfl];rfl
 |globalExplicit=>rw [a rfl];rfl
 |_=>exact cD.mpr (.inr rfl)
theorem Gh (hx:wK.contains x=aj):readsOut PL PL.main.body x=false:=congrArg (!·) (wL λsc n=>YE hx)
theorem Jq:(["vars","dir","locals"]:List Str).filter (readsOut PL PL.main.body)=[]:=by
 rw [qA];intro x hx;have a:(["vars","dir","locals"]:List Str).all (λx=> !wK.contains x)=true:=by kernel_rfl
 have:=aK.mp a x hx;exact U (Gh (by rwa [gu] at this)) bZ
theorem Jr:noRoadLSs Yw PL.main.body=true:=by
 have a:∀l m:List Stmt,noRoadLSs Yw m=H->(∀t∈l,noRoadLS Yw t=H)->noRoadLSs Yw (l++m)=true:=by
  intro l
  induction l with
  |nil=>intro m h _;exact h
  |cons t l b=>intro m h k;exact fy (k t (aE ..)) (b m h λu hu=>k u (aD _ hu))
 have h:=a (PL.main.body.take 369) (PL.main.body.drop 369) (yl (λt h=>Nr 40 aj Vo t aj aj aj aj ff h) SG) λt ht=>Nr 40 aj Vo t aj aj aj aj ff (aK.mp Nt t ht)
 rwa [l0] at h
theorem EJ:PL.boundNames.all (λn=> !worldNames.contains n)=true:=by kernel_rfl
theorem Gi:looksOpen PL=true:=
 look_both (look_both (look_both (look_both (look_both (by kernel_rfl) (by kernel_rfl)) (wL λsc n=>YD)) EJ)
  (by rw [Jq];exact Jr)) (wL λsc n h=>h.2.1)
theorem Js:Jz.row.partSaid=true:=
 look_both (look_both (look_both (look_both (look_both (look_both (look_both (look_both (look_both (look_both (look_both (look_both (look_both Gi rfl) rfl) rfl) rfl) rfl) rfl) (by kernel_rfl)) (by kernel_rfl)) (by kernel_rfl)) rfl) rfl) rfl) rfl
theorem BI:Jz.row.wellSaid=true:=look_both (look_both Js (by kernel_rfl)) (by kernel_rfl)
def abm:List Nat:=Manifest.builtinsNames.map λy=>nm (bY y.1)
def freeOf (l:List Str):Bool:=abm.all λc=>l.all λn=> !ak c (nm n)
theorem Rv (h:freeOf l=H) (hn:n∈l):builtinNamed n=false:=by
 cases q:builtinNamed n with
 |false=>rfl
 |true=>
  obtain⟨y,hy,e⟩:=iN.mp q;have:=aK.mp (aK.mp h (nm n) (gH.mpr (bW y hy (congrArg nm (eq_of_beq e))))) n hn;rw [fu] at this;cases this
theorem Gj:freeOf (Jz.bound'.filter λn=> !ak (nm n) (nm "__name__"))=true:=by kernel_rfl
theorem EK:(Jz.bound'.filter λn=>ak (nm n) (nm "__name__")).all (λn=> !Jz.reads n)=true:=by kernel_rfl
theorem Jt (hn:n∈Jz.bound'):(!builtinNamed n||Jz.about==[n]|| !Jz.reads n)=true:=by
 cases q:ak (nm n) (nm "__name__") with
 |true=>rw [aK.mp EK n (gy.mpr ⟨hn,q⟩),Bool.or_true]
 |false=>rw [Rv Gj (gy.mpr ⟨hn,by rw [q];rfl⟩)];rfl
theorem NB:Jz.wellSaid=true:=
 look_both (look_both (look_both (look_both (look_both (look_both (look_both (look_both (look_both (look_both (look_both (look_both (look_both (look_both (look_both (look_both (look_both (look_both
  BI (by kernel_rfl)) (by kernel_rfl)) (by kernel_rfl)) rfl) rfl) (by kernel_rfl)) (by kernel_rfl)) (by kernel_rfl)) (by kernel_rfl))
  (aK.mpr λn hn=>Jt hn)) (by kernel_rfl)) (by kernel_rfl)) (by kernel_rfl)) (by kernel_rfl)) (by kernel_rfl)) (by kernel_rfl))
  (Gg λsc n h=>by rw [h.2.2 rfl];rfl)) (by kernel_rfl)
end
end
end Mine
end
open PySem
theorem PySem.Challenge.cw_pf0157_01_holds : PySem.Challenge.rw_pf0157_01.Holds :=
 ⟨Mine.NB,Mine.Jl Mine.BI Mine.C6⟩
