import PyProof.Rows.All
import PyProof.Rules
import PyProof.AttrMissHeap
import PyProof.TupleIter
import PyProof.ToksMono
import PyProof.SumWalk
import PyProof.StrLoop
import PyProof.StrWalks
import PyProof.CompFree
import PyProof.DictRoads
import PyProof.DictCalls
import PyProof.DictTruth
import PyProof.DictCompW
import PyProof.DictIter
import PyProof.DictRoadsH
import PyProof.EnumFor
import PyProof.EnumStmt
import PyProof.Draws
import PyProof.IsRules
import PyProof.RangeIter
import PyProof.WalksMore
import PyProof.LetGo
import PyProof.ListIndexNeg
import PyProof.ListRange
import PyProof.WalkInts
import PyProof.Rows.Tup
import PyProof.Rows.TupSub
import PyProof.ZipIter
import PyProof.Rows.Exc
import PyProof.Rows.AttrNodeAny
import PyProof.SliceMore
import PyProof.RulesAssignMore
import PyProof.Rows.TupTab
import PyProof.SetRoads
import PyProof.Rows.SetFrom
import OpenK.KMake
import OpenK.KWalk
import KE.KxBytes
import KE.BytesMake
import KE.KUnpack
import KE.KBytesWalk
import KE.KBytesCut
import KE.KDictSum
import KE.KEqDict
import KE.KItemsList
import KE.KNestM
import Wide.FinOn
import OpenK.AllK
import Wide.All
import PySem.Challenge.RW_pf0157_01
set_option tactic.hygienic false
set_option Elab.async false
set_option linter.all false
set_option genInjectivity false
set_option genSizeOf false
set_option maxRecDepth 1000000
set_option maxHeartbeats 0
open And renaming intro->i9
open Array renaming length_toList->aM,getElem?_toList->bz,getElem?_eq_none_iff->ez,size->fG,getElem?_eq_some_iff->fJ,toList_append->fN,mem_toList_iff->mw,replicate->mU,getElem?_eq_getElem->oR,toList_push->o7,size_push->qx,toArray_toList->sd,size_append->vC
open Array.Mem renaming val->rM
open Bool renaming rec->ah,false->aj,true->ao,and_eq_true->aP,false_ne_true->bZ,or_eq_true_iff->cD,and_eq_true_iff->cO,not_eq_true'->gq,false_eq_true->iS,or_eq_false_iff->jv,casesOn->k6,true_or->nU,or_false->pP
open Eq renaming trans->bS,symm->gA
open ForInStep renaming yield->dI
open Int renaming ofNat->aZ,natCast_nonneg->cC,le_trans->eg,not_lt->ko,not_ofNat_neg->lg,toNat_natCast->lq,fdiv_eq_ediv_of_nonneg->oQ,ofNat_le->qz,add_le_add_right->s9,sub_le_sub_right->tn,add_le_add->tu,lt_of_le_of_lt->vF
open List renaming mem_cons_of_mem->aD,mem_cons_self->aE,all_eq_true->aK,rec->aS,mem_cons->aT,not_mem_nil->aU,getElem?_eq_getElem->bB,lookup_cons->bK,getElem?_eq_some_iff->cg,mem_of_getElem?→cY,isEmpty_iff->cZ,length_append->dc,getD_eq_getElem?_getD->dg,map_cons->dG,forIn_cons->dO,mem_singleton->eE,length_map->eF,zip_cons_cons->fz,length->fT,any_cons->gg,nodup_cons->gv,mem_filter->gw,mem_map->gG,contains_iff_mem->gZ,drop_eq_getElem_cons->ie,all_cons->iz,nodup_nil->iF,length_cons->iG,length_eq_zero_iff->iH,any_eq_true->iJ,pairwise_cons->iT,forIn_nil->jx,not_lt->jy,length_drop->jC,map_map->jE,getElem?_eq_none_iff->jF,map_append->j5,getElem?_map->kY,take_append_drop->lX,getElem_mem->l7,mem_reverse->l9,mem_of_getLast?→mL,mem_append->m6,getElem_of_mem->nj,filterMap_cons->nk,map_congr_left->nu,size_toArray->o8,cons_append->qh,filter_eq_nil_iff->qw,append_nil->qD,map->sI,drop_eq_nil_iff->sM,drop_drop->sN,zip_nil_right->vo,take_succ_eq_append_getElem->wJ,pairwise_map->wK,range'_succ->xH
open List.Perm renaming eq_of_pairwise->ym
open Nat renaming beq->ak,le_of_ble_eq_true->aA,add->aG,le_trans->aI,lt_of_lt_of_le->aQ,ne_of_beq_eq_false->aY,le_refl->bu,not_lt->bD,blt->bI,lt_succ_self->bN,ble->bQ,ne_of_lt->cj,eq_of_beq_eq_true->cz,blt_eq->cH,lt_succ_of_lt->cK,mul->cM,le_of_eq->cX,le_add_right->d8,sub->fm,beq_refl->fq,one_lt_succ_succ->fC,le_of_add_left_le->fZ,rec->gJ,le_of_lt->gM,le_succ->gU,div->g7,ne_of_gt->iw,zero_le->iy,lt_of_le_of_lt->iX,le_of_add_right_le->iY,sub_add_cancel->iZ,succ_pos->jG,add_le_add_left->jM,add_assoc->j3,lt_irrefl->j4,mod->kg,not_lt_zero->kh,lt_of_succ_lt_succ->k7,ble_eq_true_of_le->l8,sub_eq_zero_of_le->mh,le_of_not_lt->mq,zero_add->oh,le_of_lt_succ->pQ,succ_add_eq_add_succ->pU,le_of_succ_le_succ->qC,div_add_mod->rL,le_add_left->rN,sub_le_iff_le_add->r8,lt_succ_of_le->xr,le_succ_of_le->xu,sub_pos_of_lt->xx,sub_sub_self->yi,mod_eq_of_lt->yj,zero_lt_succ->yo,mod_two_eq_zero_or_one->BH
open Ne renaming symm->rK
open Option renaming some->af,none->au,rec->aB,isNone_iff_eq_none->cT,none->oM,map_eq_some_iff->qi,isSome_iff_exists->AX
open Option.some renaming inj->aF
open Prod renaming fst->eB
open PyProof renaming noPylong_of_log2->oO
open PyProof.Rows renaming call_len_slot->xG
open PyProof.Rows.F renaming plain_set_update_loop->i6,entry_set_update_loop->pR
open PySem renaming wpAny_bind->aq,wpAny_pure->av,NameKind->aN,DictEntry->aV,builtinLookup_eq_fast->bA,wpAny_call_entry->bH,wpAny_holding->bO,wpAny_specialOf->bV,wpAny_seqItems->dz,Env->dB,wpAny_callSpecial?_slot->dU,wpAny_newObj_type->dY,wpAny_rule->fh,wpAny_isInstance->fH,wpAny_field->fK,wpAny_mono->fX,wpAny_of_eq->f6,size_pos_of_not_empty->gj,wpAny_truthy_bool->gH,wpAny_dictEntries->gI,mainGlobals->g8,codeAny_builtin->iC,wpAny_pyIter_list->iD,wpAny_load->ja,wpAny_typeOf->jb,wpAny_setField_rec->jc,sizeLine->jn,ExceptHandler->kU,wpAny_updateSeq->kZ,sysModules->k9,wpAny_pyIter_tuple->ly,FuncData->mu,wpAny_setField->mz,recursionLimit->mC,wpAny_notOrdered_dict->m7,TriplesOk->ni,entryFor_of_tree->nq,theTreesLotGoes->oN,wpAny_tupleItemsOf->pT,behindInMarks->qA,wpAny_attempt->qB,seqItems?→se,storeAll->sj,bm_if_true->tw,wpAny_ite_split->tZ,wpAny_dictEpoch->t7,wpAny_point->vA,wpAny_letTemporaryGo->vD,IsRangeIter->vE,wpAny_newTuple->vH,noteFrame->wH,seqIndex?→wI,wpAny_standAt->xF,slot_dict_contains->yk,wpAny_sequenceKey->Am,slot_dict_getitem->Ao,wpAny_collect_seq->Ar,wpAny_setState_of->As,wpAny_askSetting->BI,wpAny_lookBehind->BJ,entryFor_of_fast->BK
open PySem.Around renaming under_plainId->jm
open PySem.Builtin.Bytes renaming buffer?→gy,joined->kq,ownRelease->vI,slotIsOwn->wL,exportsOf->wM
open PySem.Builtin.Dict renaming showsAll->j7,pendingCount->mO
open PySem.Builtin.List renaming listSameRef->m8,listTooLong->m9,listExtendWith->ud,listFitsIndex->vn
open PySem.Builtin.Range renaming rangeSize->cN,small->pV,rangeFitsLong->t9
open PySem.Builtin.SmallTypes renaming nextOf->dH
open PySem.Challenge renaming pw_pf0157_01->kj
open PySem.Code renaming quiet_builtin->vp
open PySem.Const renaming casesOn->lJ
open PySem.Data renaming casesOn->mP
open PySem.Expr renaming casesOn->aR
open PySem.F renaming slot_tuple_iterator_next->fU,called_set->jN,slot_list_extend->kR,slot_dict_keyiterator_next->n8,args_tuple_iterator_next_1->n9,entry_tuple_iterator_next->oS,slot_list_getattribute->qp,slot_zip_getattribute->qE,args_object_init_2->uc,plain_extend_loop->vJ,plainAttrs_list->yl,slot_dict_iter->Aq
open PySem.Flow renaming next->s8
open PySem.Heap renaming get?_push_of_some->az,get?_push_size->aJ,lt_size->bk,get?_update_self->bE,size_push->bJ,get?_update_other->dF,SameBut->gh,size_update->jB,objs->jD,ExtBut->mK,get?_push_ne->o9
open PySem.Heap.SameBut renaming update->gi
open PySem.NameKind renaming casesOn->dN,free->lu
open PySem.Obj renaming mapSeq->eG,mapBytearray->gY,data_mapFields->i0,isFreed_of_fields->sf,cls_mapFields->xw
open PySem.PyData renaming int->jU,keyHash->nT
open PySem.ScopeKind renaming casesOn->mT
open PySem.Sem renaming wp_mono->pO
open PySem.Shared renaming heap->fR,TypeIs->iu,asleep_of_life->qy
open PySem.Stmt renaming casesOn->eX
open PySem.Str renaming ofString->bY
open PySem.Value renaming type->cW,none->dX,casesOn->gk,int->gK,ref->ic,bytes->iP,builtin->t6
open PySem.W renaming emptyDict->eH,instObj->fE,typeIs_bytes->j6,boot_o_0->sq,kas_sort->vz
open PySem.W.BT renaming get_ins->o6
open PySem.W.Fast renaming tw10156331382660048174->Au,tw11892475500146522536->Av,tw14364793385576792824->Aw,tw6613529449190102663->AW
open Std.Legacy.Range renaming forIn_eq_forIn_range'->iI,size->nV
open UInt8 renaming toNat->bU,ofNat->r9
open PySem
noncomputable section
namespace Mine
section
theorem zB {motive:Bool->Prop} (t:Bool) («false»:motive Bool.false) («true»:motive Bool.true):motive t:=ah «false» «true» t
theorem zO {α:Type} {motive:Option α->Prop} (t:Option α) (none:motive .none) (some:∀a,motive (.some a)):motive t:=aB none some t
theorem zL {α:Type} {motive:List α->Prop} (t:List α) (nil:motive []) (cons:∀a l,motive (a::l)):motive t:=aS nil (λa l h=>cons a l) t
theorem BL {α:Type} {motive:List α->Prop} (t:List α) (zero:motive []) (one:∀a,motive [a]) (more:∀a b l,motive (a::b::l)):motive t:=zL t zero λa l=>zL (motive:=λl=>motive (a::l)) l (one a) (more a)
theorem Vw {α:Type} {motive:List α->Prop} (t:List α) (zero:motive []) (one:∀a,motive [a]) (two:∀a b,motive [a,b]) (more:∀a b c l,motive (a::b::c::l)):motive t:=BL t zero one λa b l=>zL (motive:=λl=>motive (a::b::l)) l (two a b) (more a b)
theorem zN {motive:Nat->Prop} (t:Nat) (zero:motive 0) (succ:∀n,motive (n+1)):motive t:=gJ zero (λn h=>succ n) t
theorem nn {a b:Nat} {p:Prop} (h:a=b) (k:ak a b=aj):p:=absurd h (aY k)
theorem nG {p:Prop} (k:¬¬p):p:=Classical.byContradiction k
theorem ff {p:Prop} (h:aj=ao):p:=Bool.noConfusion h
section
variable {a b c d e f g i:Bool} {p:Prop}
theorem e2 (h:(a&&b)=ao) (k:a=ao->b=ao->p):p:=k (cO.mp h).1 (cO.mp h).2
theorem e3 (h:(a&&b&&c)=ao) (k:a=ao->b=ao->c=ao->p):p:=e2 h λh1 h2=>e2 h1 λj l=>k j l h2
theorem e4 (h:(a&&b&&c&&d)=ao) (k:a=ao->b=ao->c=ao->d=ao->p):p:=e2 h λh1 h2=>e3 h1 λj l n=>k j l n h2
theorem e5 (h:(a&&b&&c&&d&&e)=ao) (k:a=ao->b=ao->c=ao->d=ao->e=ao->p):p:=e2 h λh1 h2=>e4 h1 λj l n o=>k j l n o h2
theorem e6 (h:(a&&b&&c&&d&&e&&f)=ao) (k:a=ao->b=ao->c=ao->d=ao->e=ao->f=ao->p):p:=e2 h λh1 h2=>e5 h1 λj l n o q=>k j l n o q h2
theorem e7 (h:(a&&b&&c&&d&&e&&f&&g)=ao) (k:a=ao->b=ao->c=ao->d=ao->e=ao->f=ao->g=ao->p):p:=e2 h λh1 h2=>e6 h1 λj l n o q r=>k j l n o q r h2
theorem e8 (h:(a&&b&&c&&d&&e&&f&&g&&i)=ao) (k:a=ao->b=ao->c=ao->d=ao->e=ao->f=ao->g=ao->i=ao->p):p:=e2 h λh1 h2=>e7 h1 λj l n o q r t=>k j l n o q r t h2
end
theorem eN {α:Type} {l:List α} {p:List α->Prop} (h:l.isEmpty=ao) (k:p []):p l:=cZ.mp h▸k
theorem eO {α:Type} {l:Option α} {p:Option α->Prop} (h:l.isNone=ao) (k:p au):p l:=cT.mp h▸k
theorem uf {α:Type} {f:α->Bool} {p:List α->Prop} (j:p []) (n:∀x l,f x=ao->p l->p (x::l)):∀{l:List α},l.all f=ao->p l:=by
 intro l
 induction l with
 |nil=>
  intro _;exact j
 |cons x l o=>
  intro h;exact e2 (show(f x&&l.all f)=ao from h) λh1 h2=>n x l h1 (o h2)
theorem mW {a b:Bool} (h:(a&&b)=ao):a=ao/\b=true:=cO.mp h
theorem fu {a b:Bool} (h:a=ao) (k:b=ao):(a&&b)=true:=cO.mpr ⟨h,k⟩
theorem bT {b x:Bool} (h:(ah aj x b:Bool)=ao):b=ao/\x=true:=by
 cases b with
 |true=>exact⟨rfl,h⟩
 |false=>exact ff h
theorem bF {b x:Bool} (h:(ah x aj b:Bool)=ao):b=aj/\x=true:=by
 cases b with
 |false=>exact⟨rfl,h⟩
 |true=>exact ff h
theorem fn {α:Type} {a:α} {p:Prop} (h:(none:Option α)=some a):p:=nomatch h
theorem sn {α:Type} {a:α} {p:Prop} (h:some a=(none:Option α)):p:=nomatch h
theorem ft {p:Prop} (h:ao=aj):p:=Bool.noConfusion h
section
variable {M:Model} {A:Around} {α:Type} {a b:Sem α} {Q:α->Shared->Prop} {E:Value->Shared->Prop} {s:Shared}
theorem Ze {c:Prop} {d:Decidable c} (h:c) (k:wpAny M A a Q E s):wpAny M A (@ite _ c d a b) Q E s:=by rw [if_pos h];exact k
theorem ND {c:Prop} {d:Decidable c} (h:¬c) (k:wpAny M A b Q E s):wpAny M A (@ite _ c d a b) Q E s:=by rw [if_neg h];exact k
theorem Nu {d:Decidable (aj=ao)} (k:wpAny M A b Q E s):wpAny M A (@ite _ (aj=ao) d a b) Q E s:=by rw [if_neg bZ];exact k
end
@[elab_as_elim] theorem cR {α:Sort _} {a b:α} {motive:α->Prop} (h:a=b) (k:motive b):motive a:=h▸k
@[elab_as_elim] theorem cL {α:Sort _} {a b:α} {motive:α->Prop} (h:b=a) (k:motive b):motive a:=h▸k
@[elab_as_elim] theorem Hv {α:Sort _} {motive:α->Prop} {c:Prop} {d:Decidable c} {a b:α} (h1:c->motive a) (h2:¬c->motive b):motive (@ite α c d a b):=if h:c then cR (if_pos h) (h1 h) else cR (if_neg h) (h2 h)
theorem j8 {P:Nat->Prop} {n:Nat} (h:∀s,s<n->P s) (k:P n) (s:Nat) (j:s<n+1):P s:=(Nat.lt_succ_iff_lt_or_eq.mp j).elim (h s) λe=>e▸k
theorem nab {x:Int} {k:Nat} (h:x.natAbs<=k): -(k:Int)<=x/\x<=k:=⟨Int.neg_le_of_neg_le (eg (Int.natAbs_neg x▸Int.le_natAbs (a:= -x)) (qz.mpr h)),eg Int.le_natAbs (qz.mpr h)⟩
theorem Jw {a b:Int} (q:a<b):0<=b-a-1:=Int.sub_nonneg_of_le (Int.sub_pos_of_lt q)
theorem Rr {a b:Int} (q:0<=b-a-1):a<b:=Int.lt_of_sub_pos (Int.le_of_sub_nonneg q)
theorem sw3 {n d v:Nat} (h:n-d<=v):n-v<=d:=Nat.sub_le_iff_le_add'.mpr (r8.mp h)
theorem sw1 {v d n:Nat} (hv:v<=n) (h:d<=n):v-(n-d)=d-(n-v):=(congrArg (· -(n-d)) (yi hv)).symm.trans ((Nat.sub_right_comm n (n-v) (n-d)).trans (congrArg (· -(n-v)) (yi h)))
theorem sw2 {n v d:Nat} (hv:v<=n) (hm:n-d<=v):n=v+(d-(d-(n-v))):=((congrArg (v+ ·) (yi (sw3 hm))).trans (Nat.add_sub_of_le hv)).symm
theorem iU {h:Prop} {j:Prop} {p2:Prop} (l:h) (h1:j) (h2:p2):h/\j/\p2:=⟨l,⟨h1,h2⟩⟩
theorem qF {h:Prop} {j:Prop} {l:Prop} {p3:Prop} (n:h) (h1:j) (h2:l) (o:p3):h/\j/\l/\p3:=⟨n,⟨h1,⟨h2,o⟩⟩⟩
theorem AY {h:Prop} {j:Prop} {l:Prop} {n:Prop} {p4:Prop} (o:h) (h1:j) (h2:l) (q:n) (r:p4):h/\j/\l/\n/\p4:=⟨o,⟨h1,⟨h2,⟨q,r⟩⟩⟩⟩
theorem yp {h:Type} {j:Prop} {l:h->Prop} {n:h->Prop} (o:j) (a0:h) (h1:l a0) (h2:n a0):j/\∃a0,l a0/\n a0:=⟨o,⟨a0,⟨h1,h2⟩⟩⟩
theorem C6 {h:Type} {j:Prop} {l:h->Prop} {n:h->Prop} {o:h->Prop} (q:j) (a0:h) (h1:l a0) (h2:n a0) (r:o a0):j/\∃a0,l a0/\n a0/\o a0:=⟨q,⟨a0,⟨h1,⟨h2,r⟩⟩⟩⟩
theorem bW {h:Type} {j:h->Prop} {l:h->Prop} (a0:h) (n:j a0) (h1:l a0):∃a0,j a0/\l a0:=⟨a0,⟨n,h1⟩⟩
theorem f5 {h:Type} {j:h->Prop} {l:h->Prop} {n:h->Prop} (a0:h) (o:j a0) (h1:l a0) (h2:n a0):∃a0,j a0/\l a0/\n a0:=⟨a0,⟨o,⟨h1,h2⟩⟩⟩
theorem qG {h:Type} {j:h->Prop} {l:h->Prop} {n:h->Prop} {o:h->Prop} (a0:h) (q:j a0) (h1:l a0) (h2:n a0) (r:o a0):∃a0,j a0/\l a0/\n a0/\o a0:=⟨a0,⟨q,⟨h1,⟨h2,r⟩⟩⟩⟩
theorem f9 {j l:Type} {n:j->Prop} {o:j->Prop} {q:j->l->Prop} (h:j) (r:n h) (h1:o h) (a1:l) (h2:q h a1):∃h,n h/\o h/\∃a1,q h a1:=⟨h,⟨r,⟨h1,⟨a1,h2⟩⟩⟩⟩
theorem Vh {j l:Type} {n:j->l->Prop} (h:j) (a1:l) (o:n h a1):∃h,∃a1,n h a1:=⟨h,⟨a1,o⟩⟩
theorem nv {j l:Type} {n:j->l->Prop} {o:j->l->Prop} (h:j) (a1:l) (q:n h a1) (h1:o h a1):∃h,∃a1,n h a1/\o h a1:=⟨h,⟨a1,⟨q,h1⟩⟩⟩
theorem jV {j l:Type} {n:j->l->Prop} {o:j->l->Prop} {q:j->l->Prop} (h:j) (a1:l) (r:n h a1) (h1:o h a1) (h2:q h a1):∃h,∃a1,n h a1/\o h a1/\q h a1:=⟨h,⟨a1,⟨r,⟨h1,h2⟩⟩⟩⟩
theorem lA {j l:Type} {n:j->l->Prop} {o:j->l->Prop} {q:j->l->Prop} {r:j->l->Prop} (h:j) (a1:l) (t:n h a1) (h1:o h a1) (h2:q h a1) (u:r h a1):∃h,∃a1,n h a1/\o h a1/\q h a1/\r h a1:=⟨h,⟨a1,⟨t,⟨h1,⟨h2,u⟩⟩⟩⟩⟩
theorem lN {j l:Type} {n:j->l->Prop} {o:j->l->Prop} {q:j->l->Prop} {r:j->l->Prop} {t:j->l->Prop} (h:j) (a1:l) (u:n h a1) (h1:o h a1) (h2:q h a1) (v:r h a1) (w:t h a1):∃h,∃a1,n h a1/\o h a1/\q h a1/\r h a1/\t h a1:=⟨h,⟨a1,⟨u,⟨h1,⟨h2,⟨v,w⟩⟩⟩⟩⟩⟩
theorem ug {l n o:Type} {q:l->n->o->Prop} {r:l->n->o->Prop} {t:l->n->o->Prop} {u:l->n->o->Prop} (h:l) (j:n) (a2:o) (v:q h j a2) (h1:r h j a2) (h2:t h j a2) (w:u h j a2):∃h,∃j,∃a2,q h j a2/\r h j a2/\t h j a2/\u h j a2:=⟨h,⟨j,⟨a2,⟨v,⟨h1,⟨h2,w⟩⟩⟩⟩⟩⟩
theorem uh {n o q r:Type} {t:n->o->q->r->Prop} {u:n->o->q->r->Prop} {v:n->o->q->r->Prop} {w:n->o->q->r->Prop} (h:n) (j:o) (l:q) (a3:r) (x:t h j l a3) (h1:u h j l a3) (h2:v h j l a3) (y:w h j l a3):∃h,∃j,∃l,∃a3,t h j l a3/\u h j l a3/\v h j l a3/\w h j l a3:=⟨h,⟨j,⟨l,⟨a3,⟨x,⟨h1,⟨h2,y⟩⟩⟩⟩⟩⟩⟩
theorem jd {q r t u v w x:Type} {y:q->r->t->u->v->w->x->Prop} {z:q->r->t->u->v->w->x->Prop} {B:q->r->t->u->v->w->x->Prop} {C:q->r->t->u->v->w->x->Prop} {D:q->r->t->u->v->w->x->Prop} {F:q->r->t->u->v->w->x->Prop} {G:q->r->t->u->v->w->x->Prop} (h:q) (j:r) (l:t) (a3:u) (n:v) (o:w) (a6:x) (H:y h j l a3 n o a6) (h1:z h j l a3 n o a6) (h2:B h j l a3 n o a6) (I:C h j l a3 n o a6) (J:D h j l a3 n o a6) (K:F h j l a3 n o a6) (L:G h j l a3 n o a6):∃h,∃j,∃l,∃a3,∃n,∃o,∃a6,y h j l a3 n o a6/\z h j l a3 n o a6/\B h j l a3 n o a6/\C h j l a3 n o a6/\D h j l a3 n o a6/\F h j l a3 n o a6/\G h j l a3 n o a6:=⟨h,⟨j,⟨l,⟨a3,⟨n,⟨o,⟨a6,⟨H,⟨h1,⟨h2,⟨I,⟨J,⟨K,L⟩⟩⟩⟩⟩⟩⟩⟩⟩⟩⟩⟩⟩
theorem aC {j l:Prop} {P:Prop} (h:j/\l) (k:l->j->P):P:=k h.2 h.1
theorem f7 {j l:Prop} {P:Prop} (h:j/\l) (k:j->l->P):P:=k h.1 h.2
theorem iL {j l n:Prop} {P:Prop} (h:j/\l/\n) (k:n->j->l->P):P:=k h.2.2 h.1 h.2.1
theorem fB {n:Type} {l:n->Prop} {P:Prop} (h:∃j,l j) (k:∀j,l j->P):P:=h.elim λj o=>k j o
theorem aL {q:Type} {l n:q->Prop} {P:Prop} (h:∃j,l j/\n j) (k:∀j,n j->l j->P):P:=h.elim λj o=>k j o.2 o.1
theorem dM {q:Type} {l n:q->Prop} {P:Prop} (h:∃j,l j/\n j) (k:∀j,l j->n j->P):P:=h.elim λj o=>k j o.1 o.2
theorem jz {r:Type} {n o q:r->Prop} {P:Prop} (h:∃j,n j/\o j/\q j) (k:∀j,n j->o j->q j->P):P:=h.elim λj l=>k j l.1 l.2.1 l.2.2
theorem Hw {r t:Type} {n o:r->t->Prop} {P:Prop} (h:∃j l,n j l/\o j l) (k:∀j l,n j l->o j l->P):P:=h.elim λj u=>u.elim λl q=>k j l q.1 q.2
theorem dD {r:Type} {l:Prop} {n o:r->Prop} {P:Prop} (h:l/\∃j,n j/\o j) (k:∀j,o j->l->n j->P):P:=(h.2).elim λj q=>k j q.2 h.1 q.1
theorem sO {u v:Type} {o q r t:u->v->Prop} {P:Prop} (h:∃j l,o j l/\q j l/\r j l/\t j l) (k:∀j l,o j l->q j l->r j l->t j l->P):P:=h.elim λj w=>w.elim λl n=>k j l n.1 n.2.1 n.2.2.1 n.2.2.2
theorem ou {t u:Type} {o q r:t->u->Prop} {P:Prop} (h:∃j l,o j l/\q j l/\r j l) (k:∀j l,q j l->o j l->r j l->P):P:=h.elim λj v=>v.elim λl n=>k j l n.2.1 n.1 n.2.2
theorem Zf {x y z:Type} {q r t u v w:x->y->z->Prop} {P:Prop} (h:∃j l n,q j l n/\r j l n/\t j l n/\u j l n/\v j l n/\w j l n) (k:∀j l n,q j l n->r j l n->t j l n->u j l n->v j l n->w j l n->P):P:=h.elim λj B=>B.elim λl C=>C.elim λn o=>k j l n o.1 o.2.1 o.2.2.1 o.2.2.2.1 o.2.2.2.2.1 o.2.2.2.2.2
theorem fF {x y z:Type} {q r t u v w:x->y->z->Prop} {P:Prop} (h:∃j l n,q j l n/\r j l n/\t j l n/\u j l n/\v j l n/\w j l n) (k:∀j l n,u j l n->q j l n->r j l n->t j l n->v j l n->w j l n->P):P:=h.elim λj B=>B.elim λl C=>C.elim λn o=>k j l n o.2.2.2.1 o.1 o.2.1 o.2.2.1 o.2.2.2.2.1 o.2.2.2.2.2
theorem gO {t:Type} {n:Prop} {o q r:t->Prop} {P:Prop} (h:n/\∃j,o j/\q j/\r j) (k:∀j,r j->n->o j->q j->P):P:=(h.2).elim λj l=>k j l.2.2 h.1 l.1 l.2.1
theorem eY {j l n:Prop} {P:Prop} (h:j/\l/\n) (k:l->j->n->P):P:=k h.2.1 h.1 h.2.2
theorem z04 {j l n o:Prop} {P:Prop} (h:j/\l/\n/\o) (k:j->l->n->o->P):P:=k h.1 h.2.1 h.2.2.1 h.2.2.2
theorem qH {j l n o:Prop} {P:Prop} (h:j/\l/\n/\o) (k:o->j->l->n->P):P:=k h.2.2.2 h.1 h.2.1 h.2.2.1
theorem Sw {o q:Type} {n:o->q->Prop} {P:Prop} (h:∃j l,n j l) (k:∀j l,n j l->P):P:=h.elim λj r=>r.elim λl t=>k j l t
theorem Rt {j l n:Prop} {P:Prop} (h:j/\l/\n) (k:j->l->n->P):P:=k h.1 h.2.1 h.2.2
theorem ny {r t:Type} {n o:r->t->Prop} {P:Prop} (h:∃j l,n j l/\o j l) (k:∀j l,o j l->n j l->P):P:=h.elim λj u=>u.elim λl q=>k j l q.2 q.1
theorem Sx {t:Type} {n o q r:t->Prop} {P:Prop} (h:∃j,n j/\o j/\q j/\r j) (k:∀j,n j->o j->q j->r j->P):P:=h.elim λj l=>k j l.1 l.2.1 l.2.2.1 l.2.2.2
theorem cI {r:Type} {n o q:r->Prop} {P:Prop} (h:∃j,n j/\o j/\q j) (k:∀j,q j->n j->o j->P):P:=h.elim λj l=>k j l.2.2 l.1 l.2.1
theorem Hx {v w:Type} {o q r t u:v->w->Prop} {P:Prop} (h:∃j l,o j l/\q j l/\r j l/\t j l/\u j l) (k:∀j l,o j l->q j l->r j l->t j l->u j l->P):P:=h.elim λj x=>x.elim λl n=>k j l n.1 n.2.1 n.2.2.1 n.2.2.2.1 n.2.2.2.2
theorem yq {j l n o q r:Prop} {P:Prop} (h:j/\l/\n/\o/\q/\r) (k:r->j->l->n->o->q->P):P:=k h.2.2.2.2.2 h.1 h.2.1 h.2.2.1 h.2.2.2.1 h.2.2.2.2.1
theorem vK {t u:Type} {o q r:t->u->Prop} {P:Prop} (h:∃j l,o j l/\q j l/\r j l) (k:∀j l,o j l->q j l->r j l->P):P:=h.elim λj v=>v.elim λl n=>k j l n.1 n.2.1 n.2.2
theorem ku {t u:Type} {o q r:t->u->Prop} {P:Prop} (h:∃j l,o j l/\q j l/\r j l) (k:∀j l,r j l->o j l->q j l->P):P:=h.elim λj v=>v.elim λl n=>k j l n.2.2 n.1 n.2.1
theorem Vx {q r t:Type} {o:q->r->t->Prop} {P:Prop} (h:∃j l n,o j l n) (k:∀j l n,o j l n->P):P:=h.elim λj u=>u.elim λl v=>v.elim λn w=>k j l n w
theorem qI {t:Type} {n o q r:t->Prop} {P:Prop} (h:∃j,n j/\o j/\q j/\r j) (k:∀j,o j->n j->q j->r j->P):P:=h.elim λj l=>k j l.2.1 l.1 l.2.2.1 l.2.2.2
theorem jo {r:Type} {n o q:r->Prop} {P:Prop} (h:∃j,n j/\o j/\q j) (k:∀j,o j->n j->q j->P):P:=h.elim λj l=>k j l.2.1 l.1 l.2.2
theorem um {r:Type} {l:Prop} {n o:r->Prop} {P:Prop} (h:l/\∃j,n j/\o j) (k:∀j,n j->l->o j->P):P:=(h.2).elim λj q=>k j q.1 h.1 q.2
theorem jH {u v:Type} {o q r t:u->v->Prop} {P:Prop} (h:∃j l,o j l/\q j l/\r j l/\t j l) (k:∀j l,q j l->o j l->r j l->t j l->P):P:=h.elim λj w=>w.elim λl n=>k j l n.2.1 n.1 n.2.2.1 n.2.2.2
theorem tB {w x:Type} {o q r t u v:w->x->Prop} {P:Prop} (h:∃j l,o j l/\q j l/\r j l/\t j l/\u j l/\v j l) (k:∀j l,v j l->o j l->q j l->r j l->t j l->u j l->P):P:=h.elim λj y=>y.elim λl n=>k j l n.2.2.2.2.2 n.1 n.2.1 n.2.2.1 n.2.2.2.1 n.2.2.2.2.1
theorem vL {j l n o q:Prop} {P:Prop} (h:j/\l/\n/\o/\q) (k:q->j->l->n->o->P):P:=k h.2.2.2.2 h.1 h.2.1 h.2.2.1 h.2.2.2.1
theorem iV {v w:Type} {o q r t u:v->w->Prop} {P:Prop} (h:∃j l,o j l/\q j l/\r j l/\t j l/\u j l) (k:∀j l,u j l->o j l->q j l->r j l->t j l->P):P:=h.elim λj x=>x.elim λl n=>k j l n.2.2.2.2 n.1 n.2.1 n.2.2.1 n.2.2.2.1
theorem pg {v w x y:Type} {q r t u:v->w->x->y->Prop} {P:Prop} (h:∃j l n a3,q j l n a3/\r j l n a3/\t j l n a3/\u j l n a3) (k:∀j l n a3,u j l n a3->q j l n a3->r j l n a3->t j l n a3->P):P:=h.elim λj z=>z.elim λl B=>B.elim λn C=>C.elim λa3 o=>k j l n a3 o.2.2.2 o.1 o.2.1 o.2.2.1
theorem uo {u v:Type} {o q r t:u->v->Prop} {P:Prop} (h:∃j l,o j l/\q j l/\r j l/\t j l) (k:∀j l,t j l->o j l->q j l->r j l->P):P:=h.elim λj w=>w.elim λl n=>k j l n.2.2.2 n.1 n.2.1 n.2.2.1
theorem ow {j l n o q r t:Prop} {P:Prop} (h:j/\l/\n/\o/\q/\r/\t) (k:t->j->l->n->o->q->r->P):P:=k h.2.2.2.2.2.2 h.1 h.2.1 h.2.2.1 h.2.2.2.1 h.2.2.2.2.1 h.2.2.2.2.2.1
theorem Ru {n t:Type} {o q:n->Prop} {r:n->t->Prop} {P:Prop} (h:∃j,o j/\q j/\∃a3,r j a3) (k:∀j a3,o j->q j->r j a3->P):P:=h.elim λj l=>(l.2.2).elim λa3 u=>k j a3 l.1 l.2.1 u
theorem pq {t:Type} {n o q r:t->Prop} {P:Prop} (h:∃j,n j/\o j/\q j/\r j) (k:∀j,q j->n j->o j->r j->P):P:=h.elim λj l=>k j l.2.2.1 l.1 l.2.1 l.2.2.2
theorem uq {j l n o:Prop} {P:Prop} (h:j/\l/\n/\o) (k:l->j->n->o->P):P:=k h.2.1 h.1 h.2.2.1 h.2.2.2
theorem yr {j l n o q r:Prop} {P:Prop} (h:j/\l/\n/\o/\q/\r) (k:n->j->l->o->q->r->P):P:=k h.2.2.1 h.1 h.2.1 h.2.2.2.1 h.2.2.2.2.1 h.2.2.2.2.2
theorem pX {z B C:Type} {r t u v w x y q:z->B->C->Prop} {P:Prop} (h:∃j l n,r j l n/\t j l n/\u j l n/\v j l n/\w j l n/\x j l n/\y j l n/\q j l n) (k:∀j l n,q j l n->r j l n->t j l n->u j l n->v j l n->w j l n->x j l n->y j l n->P):P:=h.elim λj D=>D.elim λl F=>F.elim λn o=>k j l n o.2.2.2.2.2.2.2 o.1 o.2.1 o.2.2.1 o.2.2.2.1 o.2.2.2.2.1 o.2.2.2.2.2.1 o.2.2.2.2.2.2.1
theorem yt {u v:Type} {o q r t:u->v->Prop} {P:Prop} (h:∃j l,o j l/\q j l/\r j l/\t j l) (k:∀j l,o j l->r j l->q j l->t j l->P):P:=h.elim λj w=>w.elim λl n=>k j l n.1 n.2.2.1 n.2.1 n.2.2.2
theorem Zg {j l n o q r t u v:Prop} {P:Prop} (h:j/\l/\n/\o/\q/\r/\t/\u/\v) (k:j->l->n->o->q->r->t->u->v->P):P:=k h.1 h.2.1 h.2.2.1 h.2.2.2.1 h.2.2.2.2.1 h.2.2.2.2.2.1 h.2.2.2.2.2.2.1 h.2.2.2.2.2.2.2.1 h.2.2.2.2.2.2.2.2
section
variable {M:Model} {A:Around} {α β:Type} {m:Sem α} {k:α->Sem β} {Q:β->Shared->Prop} {E:Value->Shared->Prop} {s s':Shared} {a:α}
theorem bq (h:∀{Q:α->Shared->Prop},Q a s'->wpAny M A m Q E s) (c:wpAny M A (k a) Q E s'):wpAny M A (m>>=k) Q E s:=aq (h c)
theorem bp (c:wpAny M A (k a) Q E s):wpAny M A (pure a>>=k) Q E s:=aq (av c)
end
end
section
open PySem.W PySem.Calls PyProof.Rows
section
def Sy (l:List Obj):Nat->BT->BT:=aS (λU t=>t) (λo U ih i t=>ih (aG i 1) (t.ins i o)) l
def Rv (P:Params):BT:=Sy (boot_heap P).objs.toList 0 .nil
noncomputable def P0:Program:=kj
end
end
section
open PyProof.Rows PySem.Calls PySem.W
section
noncomputable def pick (u v:Option Obj):Option Obj:=match v with
 |some o=>(match alive o with|some o'=>af o'|none=>u)
 |none=>u
def nC (x:Nat->Option Obj) (T:BT) (n:Nat) (life:Life):Heap:=⟨((List.range n).map λa=>(pick (x a) (T.get a)).getD default).toArray,life⟩
theorem pY (h:alive o=af o'):o'=o:=by
 revert h;rcases o with⟨c,d,dt,sl⟩
 rcases dt<;>first|exact λh=>fn h|exact λh=>(aF h).symm
theorem eL {o} (h:alive o=af o):pick u (af o)=af o:=by unfold pick;simp only [h]
variable {x:Nat->Option Obj}
theorem uu T n life a:(nC x T n life).objs[a]? =if a<n then af ((pick (x a) (T.get a)).getD default) else none:=by
 refine cR (List.getElem?_toArray) (cR kY ?_);by_cases h:a<n
 .refine cR (List.getElem?_range h) (cR (if_pos h) ?_);rfl
 .rw [List.getElem?_eq_none (cR List.length_range (mq h)),if_neg h];rfl
theorem AZ T n life:(nC x T n life).objs.size=n:=cR o8 (cR (eF ..) (cR List.length_range rfl))
theorem Jx {a:Nat} (g:T.get a=af o) (b:alive o=af o) (c:alive (f o)=af (f o)):nC x (T.set a f) n life=(nC x T n life).update a f:=by
 have:(nC x (T.set a f) n life).objs=((nC x T n life).objs.modify a f):=by
  apply Array.ext_getElem?;intro i;refine cR (Array.getElem?_modify) (cR (uu ..) (cR (uu ..) (cR (BT.get_set ..) ?_)));by_cases e:i=a
  .subst e;refine cR (if_pos rfl) (cR (if_pos rfl) (cR g ((?_:(if i<n then af ((pick (x i) (af (f o))).getD default) else au)=_))));refine cR (eL b) (cR (eL c) ?_);by_cases h:i<n
   .refine cR (if_pos h) (cR (if_pos h) ?_);rfl
   .refine cR (if_neg h) (cR (if_neg h) ?_);rfl
  .exact cR (if_neg e) (cR (if_neg (rK e)) rfl)
 exact congrArg (Heap.mk · life) this
theorem Jy (g:((T.ins n o).get n).isSome=ao) (a:alive o=af o):nC x (T.ins n o) (n+1) life=(nC x T n life).push o:=by
 have:(nC x (T.ins n o) (n+1) life).objs=((nC x T n life).objs.push o):=by
  apply Array.ext_getElem?;intro i;refine cR (Array.getElem?_push) (cR (uu ..) (cR (uu ..) (cR (AZ ..) (cR (o6 o T n g ..) ?_))));by_cases e:i=n
  .refine cL e ?_;refine cR (if_pos (bN _)) (cR (if_pos rfl) (cR (if_pos rfl) (cR (eL a) ?_)));rfl
  .refine cR (if_neg e) (cR (if_neg e) ?_);by_cases h:i<n
   .exact cR (if_pos h) (cR (if_pos (cK h)) rfl)
   .exact cR (if_neg h) (cR (if_neg (by lia)) rfl)
 exact congrArg (Heap.mk · life) this
theorem uv (h:a<n) (g:T.get a=af o) (b:alive o=af o):(nC x T n life).get? a=af o:=by
 unfold Heap.get?;refine cR (uu ..) (cR (if_pos h) (cR g (cR (eL b) ((?_:(match af o with|some ⟨_,_,.freed,_⟩=>au|o=>o)=af o)))));obtain⟨c,d,e,f⟩:=o;rcases e<;>first|rfl|exact fn b
def mQ (x:Nat->Option Obj) (s:SharedT):Shared:=⟨nC x s.tree s.n s.life,s.gens,s.drawn,s.toks,s.os⟩
set_option backward.match.sparseCases false in
noncomputable def Vi (s:SharedT) (t:Thread):Bool:=match t.cur with
 | .update a _ f _=>(match s.tree.get a with|some o=>(alive (f o)).isSome|none=>aj)
 | .alloc o _=>(alive o).isSome
 | .loadIfAlive _ _=>aj
 |_=>ao
theorem uw (h:(alive o).isSome=ao):alive o=af o:=by
 induction q:alive o using zO with
 |none=>rw [q] at h;exact ff h
 |some o'=>exact cR (pY q) rfl
section
variable {den:Code->Sem Fin} {p:Program} {w:World}
theorem C7 {drawn} {os} {code} {stack}
 (h1:∀a q k,cur≠.load a q k) (h2:∀a q f k,cur≠.update a q f k) (c:∀o k,cur≠.alloc o k) (d:∀a k,cur≠.loadIfAlive a k)
 (h:(match step den p w ⟨{},gens,drawn,toks,os⟩ ⟨cur,code,pos,stack⟩ with
  | .go s' t'=>af ((⟨T,n,life,s'.gens,s'.drawn,s'.toks,s'.os⟩:SharedT),t')
  | .halt _ _=>au)=af (s',t')):
 step den p w ⟨nC x T n life,gens,drawn,toks,os⟩ ⟨cur,code,pos,stack⟩= .go (mQ x s') t':=by
 cases q:step den p w ⟨{},gens,drawn,toks,os⟩ ⟨cur,code,pos,stack⟩ with
 |halt o s=>rw [q] at h;exact fn h
 |go s₀ b=>rw [q] at h;cases h;exact step_heap h1 h2 c d q
theorem EL (hk:Vi s t=ao) (h:stepT den p w s t=af (s',t')):step den p w (mQ x s) t= .go (mQ x s') t':=by
 obtain⟨T,n,c,d,b,i,os⟩:=s;obtain⟨m,j,pos,stack⟩:=t
 induction m using PySem.Sem.casesOn with
 |load a q k=>
  induction e:bI a n using zB with
  |false=>simp only [stepT,e] at h;exact fn h
  |true=>
   induction g:T.get a using zO with
   |none=>simp only [stepT,e,g] at h;exact fn h
   |some o=>
    induction l:alive o using zO with
    |none=>simp only [stepT,e,g,l] at h;exact fn h
    |some o'=>
     obtain rfl:=pY l;simp only [stepT,e,g,l] at h;cases h;refine(?_:step den p w ⟨nC x T n c,d,b,i,os⟩ ⟨.load a q k,j,pos,stack⟩=_);simp only [step,uv (aA e) g l];rfl
 |update a q f k=>
  induction e:bI a n using zB with
  |false=>simp only [stepT,e] at h;exact fn h
  |true=>
   induction g:T.get a using zO with
   |none=>simp only [stepT,e,g] at h;exact fn h
   |some o=>
    induction l:alive o using zO with
    |none=>simp only [stepT,e,g,l] at h;exact fn h
    |some o'=>
     obtain rfl:=pY l;have hk:(match T.get a with|some o=>(alive (f o)).isSome|none=>aj)=true:=hk;rw [g] at hk;simp only [stepT,e,g,l] at h;cases h;refine(?_:step den p w ⟨nC x T n c,d,b,i,os⟩ ⟨.update a q f k,j,pos,stack⟩= .go ⟨nC x (T.set a f) n c,d,b,i,os⟩ _);refine cR (Jx g l (uw hk)) ?_;simp only [step,uv (aA e) g l,Option.isSome_some,if_true]
 |alloc o k=>
  induction e:((T.ins n o).get n).isSome using zB with
  |false=>simp only [stepT,e] at h;exact fn h
  |true=>
   simp only [stepT,e] at h;cases h;refine(?_:step den p w ⟨nC x T n c,d,b,i,os⟩ ⟨.alloc o k,j,pos,stack⟩= .go ⟨nC x (T.ins n o) (n+1) c,d,b,i,os⟩ _);refine cR (Jy e (uw hk)) ?_;simp only [step,AZ]
 |loadIfAlive a k=>exact ff hk
 |_=>exact C7 (by intros;intro e;injection e) (by intros;intro e;injection e) (by intros;intro e;injection e) (by intros;intro e;injection e) h
end
def Jz (tb:String->Option Builtin) (p:Program) (w:World) (n₀:Nat) (ann:Option Value) (b:Nat):Nat->SharedT->Thread->Option (Flow×SharedT×Code×Pos)
 |0,_,_=>au
 |n+1,s,t=>match endAt b t with
  |some f=>af (f,s,t.code,t.pos)
  |none=>match stepOk n₀ ann t&&Vi s t with
   |false=>au
   |true=>match stepT (denote tb) p w s t with
    |some (s',t')=>Jz tb p w n₀ ann b n s' t'
    |none=>au
set_option tactic.hygienic true in
theorem C8 {n₀ m:Nat} {P:Addr} (hm:m<=n₀) (b:m<=P) (h:stepOk n₀ (af (.ref P)) t=ao):stepOk m ann t=true:=by
 unfold stepOk at h⊢;rw [aP] at h⊢;refine⟨h.1, ?_⟩;have h:=h.2;revert h;rcases t.cur<;>intro h<;>try exact h
 case update a q f k=>
  simp only [Bool.or_eq_true,Nat.ble_eq,beq_iff_eq] at h⊢;rcases h with((q|q)|q)|q
  .exact .inl (.inl (.inl (aI hm q)))
  .exact .inl (.inl (.inr q))
  .exact .inl (.inr q)
  .injection q with q;injection q with q;subst q;exact .inl (.inl (.inl b))
set_option tactic.hygienic true in
theorem NF (hm:m<=n₀) (A:m<=P):∀{n} {s s'} {t} {f} {c} {q},Jz tb p w n₀ (af (.ref P)) b n s t=af (f,s',c,q)->
 segRun tb p w m ann b n (mQ x s) t=af (f,mQ x s',c,q)/\∀d o,d<n₀->d≠mainNs->d≠cStatics->d≠P->(mQ x s).heap.get? d=af o->(mQ x s').heap.get? d=af o:=by
 intro n
 induction n with
 |zero=>
  intro _ _ _ _ _ _ h;exact fn h
 |succ n B=>
  intro s s' t f c q h;unfold Jz at h;unfold segRun
  induction he:endAt b t using zO with
  |some x=>rw [he] at h;cases h;exact⟨rfl,λg g g g g g e=>e⟩
  |none=>
   rw [he] at h
   induction hk:stepOk n₀ (af (.ref P)) t&&Vi s t using zB with
   |false=>rw [hk] at h;exact fn h
   |true=>
    rw [hk] at h;obtain⟨hk,hx⟩:=cO.mp hk
    induction i:stepT (denote tb) p w s t using zO with
    |none=>rw [i] at h;exact fn h
    |some r=>
     obtain⟨l,u⟩:=r;rw [i] at h;have e:=EL (x:=x) hx i;obtain⟨C,D⟩:=B h;refine cR (C8 hm A hk) (cR e (⟨C,λd o h1 h2 v z j=>D d o h1 h2 v z (cR (PySem.step_heap (denote tb) p w _ _ _ _ e) ?_)⟩));have hk:=(cO.mp hk).2;revert hk;rcases t.cur<;>intro hk<;>try exact j
     case update a q f k=>
      have:d≠a:=by
       rintro rfl;simp only [Bool.or_eq_true,Nat.ble_eq,beq_iff_eq] at hk;rcases hk with((q|q)|q)|q
       .exact absurd h1 (bD.mpr q)
       .exact h2 q
       .exact v q
       .injection q with q;injection q with q;exact z q.symm
      exact(Heap.get?_update_ne _ _ _ _ this).trans j
     case alloc y k=>exact az y j
end
end
section
set_option backward.match.sparseCases false
structure V where
 t:Nat
 s:Nat
 n:Nat
 l:List Nat
 xs:List V
structure O where
 t:Nat
 c:Nat
 fs:List (Nat×V)
 xs:List V
 kvs:List (V×V)
 bs:List Nat
inductive TR where
 |nil
 |node (v:Option O) (l r:TR)
structure HT where
 old:Nat->TR
 cur:TR
 xy:Nat
structure H where
 l:HT
 n:Nat
structure Env where
 loc:List (Nat×V)
 out:List (Nat×V)
structure Res where
 ρ:Env
 v:V
 h:H
section
noncomputable def di:V:=⟨0,0,0,[],[]⟩
def vBool (b:Bool):V:=⟨1,0,ah 0 1 b,[],[]⟩
noncomputable def aX (n:Nat):V:=⟨2,0,n,[],[]⟩
noncomputable def qJ (n:Nat):V:=⟨2,1,n,[],[]⟩
noncomputable def vStr (l:List Nat):V:=⟨3,0,0,l,[]⟩
noncomputable def fj (l:List Nat):V:=⟨4,0,0,l,[]⟩
noncomputable def dJ (xs:List V):V:=⟨5,0,0,[],xs⟩
noncomputable def bP (n:Nat):V:=⟨6,0,n,[],[]⟩
noncomputable def bM (n:Nat):V:=⟨7,0,n,[],[]⟩
noncomputable def je (n:Nat):V:=⟨8,0,n,[],[]⟩
noncomputable def BN (n:Nat):V:=⟨9,0,n,[],[]⟩
noncomputable def NG (n:Nat):V:=⟨10,0,n,[],[]⟩
noncomputable def ux (c:Nat) (fs:List (Nat×V)):O:=⟨0,c,fs,[],[],[]⟩
noncomputable def bL (xs:List V):O:=⟨1,0,[],xs,[],[]⟩
noncomputable def yw (xs:List V):O:=⟨8,0,[],xs,[],[]⟩
noncomputable def dZ (kvs:List (V×V)) (c:Nat):O:=⟨2,c,[],[],kvs,[]⟩
def cnt (c:Nat) (old new:List (V×V)):Nat:=aG c (fm (aS 0 (λU U ih=>aG ih 1) new) (aS 0 (λU U ih=>aG ih 1) old))
noncomputable def yx (bs:List Nat):O:=⟨3,0,[],[],[],bs⟩
noncomputable def EM (a b c d:Nat):O:=⟨5,0,[],[],[],[a,b,c,d]⟩
noncomputable def uy (xs:List V) (c d:Nat):O:=⟨7,0,[],xs,[],[c,d]⟩
noncomputable def qK:O:=⟨6,0,[],[],[],[]⟩
def dS (v:V):Int:=ah (Int.negOfNat v.n) (aZ v.n) (ak v.s 0)
def mj (i:Int):V:=Int.rec (λn=>aX n) (λn=>qJ (aG n 1)) i
def TR.get (t:TR):Nat->Option O:=TR.rec (λU=>au) (λv U U gl gr i=>ah (ah (gl (g7 (fm i 1) 2)) (gr (g7 (fm i 1) 2)) (ak (kg i 2) 0)) v (ak i 0)) t
def TR.one (o:O) (n:Nat):Nat->TR:=gJ (λU=> .nil) (λU ih i=>ah (ah (.node au (ih (g7 (fm i 1) 2)) .nil) (.node au .nil (ih (g7 (fm i 1) 2))) (ak (kg i 2) 0)) (.node (af o) .nil .nil) (ak i 0)) n
def TR.ins (o:O) (t:TR):Nat->TR:=TR.rec (λi=>TR.one o 30 i) (λv l r il ir i=>ah (ah (.node v (il (g7 (fm i 1) 2)) r) (.node v l (ir (g7 (fm i 1) 2))) (ak (kg i 2) 0)) (.node (af o) l r) (ak i 0)) t
def upd (f:Nat->TR) (j:Nat) (t:TR):Nat->TR:=λi=>ah (f i) t (ak i j)
def HT.get (t:HT) (i:Nat):Option O:=ah (TR.get (t.old (g7 i 16384)) (kg i 16384)) (TR.get t.cur (kg i 16384)) (ak (g7 i 16384) t.xy)
def HT.ins (o:O) (t:HT) (i:Nat):HT:=ah ⟨upd t.old (g7 i 16384) (TR.ins o (t.old (g7 i 16384)) (kg i 16384)),t.cur,t.xy⟩ ⟨t.old,TR.ins o t.cur (kg i 16384),t.xy⟩ (ak (g7 i 16384) t.xy)
def HT.jump (d:Bool) (t:HT):HT:=⟨upd t.old t.xy (ah t.cur .nil d),.nil,aG t.xy 1⟩
def find {α:Type} (x:Nat) (l:List (Nat×α)):Option α:=aS au (λp U ih=>ah ih (af p.2) (ak x p.1)) l
def setIn {α:Type} (x:Nat) (v:α) (l:List (Nat×α)):List (Nat×α):=aS [(x,v)] (λp r ih=>ah (p::ih) ((x,v)::r) (ak x p.1)) l
def app {α:Type} (x y:List α):List α:=aS y (λa U ih=>a::ih) x
def len {α:Type} (x:List α):Nat:=aS 0 (λU U ih=>aG ih 1) x
def sP {α:Type} (x:List α):Nat->Option α:=aS (λU=>au) (λa U ih i=>ah (ih (fm i 1)) (af a) (ak i 0)) x
def EN {α:Type} (v:α) (x:List α):Nat->List α:=aS (λU=>[]) (λa r ih i=>ah (a::ih (fm i 1)) (v::r) (ak i 0)) x
def lY {α β:Type} (f:α->β) (x:List α):List β:=aS [] (λa U ih=>f a::ih) x
def yy {α:Type} (x:List α):Nat->List α:=aS (λU=>[]) (λa U ih i=>ah (a::ih (fm i 1)) [] (ak i 0)) x
def C9 {α:Type} (x:List α):Nat->List α:=aS (λU=>[]) (λa r ih i=>ah (ih (fm i 1)) (a::r) (ak i 0)) x
def isNil {α:Type} (x:List α):Bool:=aS ao (λU U U=>aj) x
noncomputable def repl (n:Nat):List Nat:=gJ [] (λU ih=>0::ih) n
def gb (ρ:Env) (x:Nat) (v:V):Env:=⟨setIn x v ρ.loc,ρ.out⟩
def JA (l:List Nat):Nat:=aS 0 (λc U ih=>aG c (cM 128 ih)) l
def nm (s:Str):Nat:=JA s.cps.toList
def qL (l:List Nat):Bool:=aS ao (λc U ih=>ah aj (ah aj ih (bI 2 c)) (bI c 128)) l
def bg (s:Str):Bool:=qL s.cps.toList
def bf (x:Nat) (l:List (Str×aN)):Option aN:=aS au (λp U ih=>ah ih (af p.2) (ak x (nm p.1))) l
def qj (x:List Nat):List Nat->Bool:=aS (λy=>isNil y) (λa U ih y=>aS aj (λb y U=>ah aj (ih y) (ak a b)) y) x
def NH (x:List Nat):List Nat->Bool:=aS (λy=>ah ao aj (isNil y)) (λa U ih y=>aS aj (λb y U=>ah (bI a b) (ih y) (ak a b)) y) x
def Ax (a b:V):Bool:=ah aj (ak a.n b.n) (ak a.s b.s)
def wN (a b:V):Bool:=ah (ah (ah (bI b.n a.n) ao (ak b.s 0)) aj (ak a.s 0)) (bI a.n b.n) (ak (aG a.s b.s) 0)
def Zh (a b:Bool):Bool:=ah (ah ao aj b) b a
def allInts (xs:List V):Bool:=aS ao (λv U ih=>ah aj ih (ak v.t 2)) xs
def Gi (x:List V):List V->Option Bool:=aS (λy=>aS (af ao) (λU U U=>au) y)
 (λa x' ih y=>aS au (λb y' U=>ah au (ah au (ah (ah au (ah au (af aj) (allInts y')) (allInts x')) (ih y') (Ax a b)) (ak b.t 2)) (ak a.t 2)) y) x
def xA (x:List V):List V->Option Bool:=aS (λy=>aS (af aj) (λU U U=>au) y)
 (λa x' ih y=>aS au (λb y' U=>ah au (ah au (ah (ah au (ah au (af (wN a b)) (allInts y')) (allInts x')) (ih y') (Ax a b)) (ak b.t 2)) (ak a.t 2)) y) x
def BO (a b:V):Option Bool:=ah au
 (ah (ah (ah (ah au (Gi a.xs b.xs) (ak a.t 5)) (af (qj a.l b.l)) (ak a.t 4)) (af (qj a.l b.l)) (ak a.t 3)) (af (Ax a b)) (ak a.t 2)) (ak a.t b.t)
def Sz (a b:V):Option Bool:=ah au
 (ah (ah (ah au (ah au (xA a.xs b.xs) (ak (len a.xs) (len b.xs))) (ak a.t 5)) (af (NH a.l b.l)) (ak a.t 3)) (af (wN a b)) (ak a.t 2)) (ak a.t b.t)
def Hy (a b:V):Option Bool:=ah au
 (ah (ah au (af (NH a.l b.l)) (ak a.t 3)) (af (wN a b)) (ak a.t 2)) (ak a.t b.t)
def isKey (a:V):Bool:=ah (ah (ah (ah aj (allInts a.xs) (ak a.t 5)) ao (ak a.t 4)) ao (ak a.t 3)) ao (ak a.t 2)
def iQ (k:V) (d:List (V×V)):Option (Option V):=aS (ah au (af au) (isKey k)) (λp U ih=>aB au (λb=>ah ih (af (af p.2)) b) (BO k p.1)) d
def dput (k v:V) (d:List (V×V)):Option (List (V×V)):=aS (ah au (af [(k,v)]) (isKey k))
 (λp r ih=>aB au (λb=>ah (aB au (λr'=>af (p::r')) ih) (af ((p.1,v)::r)) b) (BO k p.1)) d
def uz (f:V->V->Option Bool) (x:List V):List V->Option Bool:=aS (λy=>af (isNil y))
 (λa U ih y=>aS (af aj) (λb y' U=>aB au (λt=>aB au (λu=>af (ah aj u t)) (ih y')) (f a b)) y) x
def JB (f:V->V->Option Bool) (m:List (V×V)) (x:List (V×V)):Option Bool:=aS (af ao)
 (λp U ih=>aB au (λo=>aB (af aj) (λu=>aB au (λt=>aB au (λu=>af (ah aj u t)) ih) (f p.2 u)) o) (iQ p.1 m)) x
def Zi (f:V->V->Option Bool) (a b:O):Option Bool:=ah au
 (ah au (ah (af aj) (uz f a.xs b.xs) (ak (len a.xs) (len b.xs))) (ak a.t 1)) (ak a.t b.t)
def Hz (t:Nat) (x:List (V×V)):Bool:=aS ao (λp U U=>ak p.1.t t) x
def Rw (f:V->V->Option Bool) (a b:O):Option Bool:=ah au
 (ah (ah au (ah (af aj) (JB f b.kvs a.kvs) (ak (len a.kvs) (len b.kvs))) (ah aj (Hz 3 b.kvs) (Hz 3 a.kvs)))
  (ah (af aj) (JB f b.kvs a.kvs) (ak (len a.kvs) (len b.kvs))) (ah aj (Hz 2 b.kvs) (Hz 2 a.kvs))) (ak b.t 2)
def plainT (t:Nat):Bool:=ah (ah (ak t 5) ao (ak t 2)) ao (ak t 0)
def oU (h:H) (n:Nat):V->V->Option Bool:=gJ (λU U=>au) (λU ih a b=>ah
 (ah au (ah au (af aj) (plainT b.t)) (plainT a.t))
 (ah (ah (ah (ah (ah (ah (ah au
  (aB au (λx=>aB au (λy=>Zi ih x y) (HT.get h.l b.n)) (HT.get h.l a.n)) (ak a.t 6))
  (uz ih a.xs b.xs) (ak a.t 5))
  (af (qj a.l b.l)) (ak a.t 4))
  (af (qj a.l b.l)) (ak a.t 3))
  (af (Ax a b)) (ak a.t 2))
  (af (ak a.n b.n)) (ak a.t 1))
  (af ao) (ak a.t 0))
 (ak a.t b.t)) n
def vM (n:Nat):Int->Int->List V:=gJ (λU U=>[]) (λU ih a c=>mj a::ih (Int.add a c) c) n
def NI (n:Nat):Nat->List V:=gJ (λU=>[]) (λU ih a=>aX a::ih (aG a 1)) n
def vN (a b c:Int):Nat:=ah (ah 0 ((a-b-c-1).fdiv (-c)).toNat (decide (c<0))) ((b-a+c-1).fdiv c).toNat (decide (0<c))
noncomputable def small (v:V):Bool:=bQ v.n 1000000000000
def xK (a b:V):Option (List V):=ah au (ah au (ah au (ah au
 (ah (af (vM (vN (dS a) (dS b) 1) (dS a) 1)) (af (NI (fm b.n a.n) a.n)) (ak (aG a.s b.s) 0)) (small b)) (small a)) (ak b.t 2)) (ak a.t 2)
def JC (a b c:V):Option (List V):=ah au (ah au (ah au (ah au (ah au (ah au (ah (af (vM (vN (dS a) (dS b) (dS c)) (dS a) (dS c))) au (ak c.n 0)) (small c)) (small b)) (small a)) (ak c.t 2)) (ak b.t 2)) (ak a.t 2)
def xM (args:List V):Option (List V):=match args with
 |[b]=>xK (aX 0) b
 |[a,b]=>xK a b
 |[a,b,c]=>JC a b c
 |_=>au
def EO (lt:V->V->Bool) (x:V) (l:List V):List V:=aS [x] (λy r ih=>ah (y::ih) (x::y::r) (lt x y)) l
def oA (lt:V->V->Bool) (l:List V):List V:=aS [] (λx U ih=>EO lt x ih) l
def Rx (a b:V):Bool:=NH a.l b.l
def Dc (lim:Nat) (v:V):Option Nat:=ah au (ah au (ah au (af v.n) (bI v.n lim)) (ak v.s 0)) (ak v.t 2)
def BP (l:List V):Option (List Nat):=aS (af []) (λv U ih=>aB au (λn=>aB au (λl=>af (n::l)) ih) (Dc 256 v)) l
def qt (t:Nat) (l:List V):Bool:=aS ao (λv U ih=>ah aj ih (ak v.t t)) l
def pZ (l:List V):Bool:=aS ao (λv U ih=>ah aj (ah (ah aj ih (allInts v.xs)) aj (isNil v.xs)) (ak v.t 5)) l
def uA (lt:Nat->Nat->Option Bool) (t:PySem.W.KasT (Array Nat)):Option (Array Nat):=PySem.W.KasT.rec (λa=>af a) (λi j U ih=>aB au (λb=>ih b) (lt i j)) t
def JD (l:List V):Option (List V):=ah au (aB au (λp=>af (lY (λi=>aB di (λv=>v) (sP l i)) p.toList)) (uA (λi j=>aB au (λa=>aB au (λb=>Sz a b) (sP l j)) (sP l i)) (vz (len l)))) (pZ l)
def Ry (l:List V):Option (List V):=ah au (ah (ah (ah (JD l) (af l) (bQ (len l) 1)) (af (oA Rx l)) (qt 3 l)) (af (oA wN l)) (qt 2 l)) (bI (len l) 64)
def uB (f:V->V->Bool) (x:V) (l:List V):Bool:=aS aj (λy U ih=>ah ih ao (f y x)) l
def sEq (a b:V):Bool:=qj a.l b.l
def Vy (x:V) (l:List V):Option Bool:=ah (ah au (ah au (af (uB sEq x l)) (qt 3 l)) (ak x.t 3)) (ah au (af (uB Ax x l)) (qt 2 l)) (ak x.t 2)
def EP (x:V) (l:List V):Nat->Option Nat:=aS (λU=>au) (λy U ih n=>ah (ih (aG n 1)) (af n) (qj y.l x.l)) l
def Dd (t:Nat) (l:List V):Option (List Nat):=aS (af []) (λv U ih=>ah au (aB au (λr=>af (app v.l r)) ih) (ak v.t t)) l
def pairOf (v:V):Option (V×V):=ah au (match v.xs with|[a,b]=>af (a,b)|_=>au) (ak v.t 5)
def NJ (l:List V):Nat->Option Nat:=aS (λn=>af n) (λv U ih n=>ah au (ah au (ih (aG n v.n)) (ak v.s 0)) (ak v.t 2)) l
def Gj (gt:Bool) (l:List V):V->Option V:=aS (λm=>af m) (λx U ih m=>ah au (ah (ih m) (ih x) (ah (wN x m) (wN m x) gt)) (ak x.t 2)) l
def bestOf (gt:Bool) (l:List V):Option V:=aS au (λx r U=>ah au (Gj gt r x) (ak x.t 2)) l
def yC (i:V) (n:Nat):Option Nat:=ah au (ah (ah au (af (fm n i.n)) (bQ i.n n)) (ah au (af i.n) (bI i.n n)) (ak i.s 0)) (ak i.t 2)
def bound (n d:Nat) (i:V):Option Nat:=ah (ah au (ah (af (fm n i.n)) (af (ah n i.n (bQ i.n n))) (ak i.s 0)) (ak i.t 2)) (af d) (ak i.t 0)
def JE {α:Type} (xs:List α) (lo hi:V):Option (List α):=aB au (λa=>aB au (λb=>af (yy (C9 xs a) (fm b a))) (bound (len xs) (len xs) hi)) (bound (len xs) 0 lo)
def isNone (a:V):Option Bool:=ah (ah (ah (ah (ah au (af aj) (ak a.t 6)) (af aj) (ak a.t 5)) (af aj) (ak a.t 4)) (af aj) (ak a.t 2)) (af ao) (ak a.t 0)
abbrev M (α:Type):=H->(α->H->Option Res)->Option Res
abbrev Ap:=V->List V->M V
structure XE where
 f:Ap->Env->M V
structure XT where
 f:Ap->Env->M Bool
structure XL where
 f:Ap->Env->M (List V)
structure XP where
 f:Ap->Env->M (List (V×V))
structure XA where
 f:Ap->Env->V->H->(Env->H->Option Res)->Option Res
def jump (d:Bool) (h:H) (k:H->Option Res):Option Res:=ah au (k ⟨HT.jump d h.l,cM 16384 (aG h.l.xy 1)⟩) (bQ h.n (cM 16384 (aG h.l.xy 1)))
def lift {α:Type} (x:Option α):M α:=λh k=>aB au (λa=>k a h) x
def oLe (o:O):Bool:=bQ (aG (len o.xs) (aG (len o.kvs) (aG (len o.bs) (len o.fs)))) 1000000
def new (o:O):M V:=λh k=>ah au (k (bP h.n) ⟨HT.ins o h.l h.n,aG h.n 1⟩) (oLe o)
def put (i:Nat) (o:O):M V:=λh k=>ah au (k di ⟨HT.ins o h.l i,h.n⟩) (oLe o)
def kB (l:List Nat):M V:=λh k=>ah au (k (fj l) h) (bQ (len l) 1000000)
def kS (l:List Nat):M V:=λh k=>ah au (k (vStr l) h) (bQ (len l) 1000000)
def kT (l:List V):M V:=λh k=>ah au (k (dJ l) h) (bQ (len l) 1000000)
def look (v:V):M O:=λh k=>ah au (aB au (λo=>k o h) (HT.get h.l v.n)) (ak v.t 6)
def gQ (v:V):M (List V):=λh k=>look v h λo h=>ah au (k o.xs h) (ak o.t 1)
def ER (v:V):M (List V):=λh k=>look v h λo h=>ah (ah au (k o.xs h) (ak o.t 8)) (k o.xs h) (ak o.t 1)
def items (v:V):M (List V):=λh k=>ah (look v h λo h=>ah (ah au (k (lY eB o.kvs) h) (ak o.t 2)) (k o.xs h) (ak o.t 1)) (k v.xs h) (ak v.t 5)
structure Src where
 t:Nat
 xs:List V
 i:Nat
 n:Nat
 k:Nat
 c:Nat
structure It where
 t:Nat
 a:Src
 b:Src
 n:Nat
structure XI where
 f:Ap->Env->M It
noncomputable def dQ (xs:List V):Src:=⟨0,xs,0,0,0,0⟩
noncomputable def gm (i k:Nat):Src:=⟨1,[],i,0,k,0⟩
noncomputable def rO (i n k c:Nat):Src:=⟨2,[],i,n,k,c⟩
noncomputable def gc (a:Src):It:=⟨0,a,a,0⟩
def yD (i:Nat):It:=⟨1,dQ [],dQ [],i⟩
noncomputable def vO (n:Nat) (a:Src):It:=⟨2,a,a,n⟩
def mX (a:Src) (h:H) (ke:Option Res) (ki:V->Src->Option Res):Option Res:=ah
 (aB au (λo=>ah
  (ah au (ah au (ah au (ah au (aB ke (λx=>ki x.1 (rO a.i a.n (aG a.k 1) a.c)) (sP o.kvs a.k)) (ak o.c a.c)) (ak (len o.kvs) a.n)) (ak o.t 2)) (ak a.t 2))
  (ah au (aB ke (λx=>ki x (gm a.i (aG a.k 1))) (sP o.xs a.k)) (ak o.t 1)) (ak a.t 1)) (HT.get h.l a.i))
 (aS ke (λx r U=>ki x (dQ r)) a.xs) (ak a.t 0)
def Gk (i:Nat) (h:H) (ke:H->Option Res) (ki:V->H->Option Res):Option Res:=aB au (λo=>ah au (match o.bs with
 |[a,b,c,d]=>aB au (λp=>ah au (aB au (λq=>ah au (aB (ke ⟨HT.ins qK h.l i,h.n⟩) (λx=>aB (ke ⟨HT.ins qK h.l i,h.n⟩) (λy=>ki (dJ [x,y]) ⟨HT.ins (EM a (aG b 1) c (aG d 1)) h.l i,h.n⟩) (sP q.xs d)) (sP p.xs b)) (ak q.t 1)) (HT.get h.l c)) (ak p.t 1)) (HT.get h.l a)
 |_=>au) (ak o.t 5)) (HT.get h.l i)
def vP (a:It) (h:H) (ke:H->Option Res) (ki:V->It->H->Option Res):Option Res:=ah
 (ah (mX a.a h (ke h) λx c=>ki (dJ [aX a.n,x]) (vO (aG a.n 1) c) h) (Gk a.n h ke λv h=>ki v a h) (ak a.t 1))
 (mX a.a h (ke h) λx c=>ki x (gc c) h) (ak a.t 0)
def JF (v:V):M It:=λh k=>ah (ah (ah
 (look v h λo h=>ah (ah au (k (gc (rO v.n (len o.kvs) 0 o.c)) h) (ak o.t 2)) (k (gc (gm v.n 0)) h) (ak o.t 1))
 (k (gc (dQ (lY (λc=>vStr [c]) v.l))) h) (ak v.t 3))
 (k (gc (dQ (lY aX v.l))) h) (ak v.t 4))
 (k (gc (dQ v.xs)) h) (ak v.t 5)
def truth (v:V):M Bool:=λh k=>ah (ah (ah
 (look v h λo h=>ah (ah au (ah (ah au (k (ah ao aj (isNil o.kvs)) h) (Hz 3 o.kvs)) (k (ah ao aj (isNil o.kvs)) h) (Hz 2 o.kvs)) (ak o.t 2)) (k (ah ao aj (isNil o.xs)) h) (ak o.t 1))
 (k (ah ao aj (isNil v.xs)) h) (ak v.t 5))
 (k (ah ao aj (ak v.n 0)) h) (ak v.t 2))
 (k (ah ao aj (ak v.n 0)) h) (ak v.t 1)
def with1 (args:List V) (f:V->Option Res):Option Res:=aS au (λv r U=>ah au (f v) (isNil r)) args
def with2 (args:List V) (f:V->V->Option Res):Option Res:=aS au (λv r U=>with1 r (f v)) args
def Vz (args:List V):M V:=λh k=>with1 args λv=>ah (ah (ah
 (look v h λo h=>ah (ah (ah au (k (aX (len o.bs)) h) (ak o.t 3)) (k (aX (len o.kvs)) h) (ak o.t 2)) (k (aX (len o.xs)) h) (ak o.t 1))
 (k (aX (len v.l)) h) (ak v.t 3)) (k (aX (len v.l)) h) (ak v.t 4)) (k (aX (len v.xs)) h) (ak v.t 5)
def NK (args:List V):M V:=λh k=>with1 args λv=>ah
 (look v h λo h=>ah (ah au (kB o.bs h k) (ak o.t 3)) (lift (BP o.xs) h λl h=>kB l h k) (ak o.t 1))
 (lift (Dc 1000 v) h λn h=>kB (repl n) h k) (ak v.t 2)
def SA (args:List V):M V:=λh k=>ah au (new (yx []) h k) (isNil args)
def NL (args:List V):M V:=λh k=>with1 args λv=>ah (gQ v h λxs h=>kT xs h k) (kT v.xs h k) (ak v.t 5)
def SD (args:List V):M V:=λh k=>with1 args λv=>items v h λl h=>new (bL l) h k
def De (acc x y:V):M V:=λh k=>look acc h λo h=>ah au (lift (dput x y o.kvs) h λkvs h=>put acc.n (dZ kvs (cnt o.c o.kvs kvs)) h k) (ak o.t 2)
def vQ (acc:V) (l:List (V×V)):M V:=λh k=>(aS (λh=>k acc h) (λp U ih h=>De acc p.1 p.2 h λU h=>ih h) l:H->Option Res) h
def xN (acc:V) (k:V->H->Option Res) (n:Nat):Src->H->Option Res:=gJ (λU U=>au) (λU ih a h=>mX a h (k acc h) λv c=>lift (pairOf v) h λp h=>De acc p.1 p.2 h λU h=>ih c h) n
def SE (args:List V):M V:=λh k=>with1 args λv=>look v h λo h=>ah
 (ah au (new (dZ [] 0) h λacc h=>xN acc k 2000 (gm v.n 0) h) (ak o.t 1))
 (ah au (ah au (new (dZ [] 0) h λacc h=>vQ acc o.kvs h k) (bQ (len o.kvs) 8)) (Hz 3 o.kvs)) (ak o.t 2)
def JG (args:List V):M V:=λh k=>with1 args λv=>items v h λl h=>lift (Ry l) h λl h=>new (bL l) h k
def VA (args:List V):M V:=λh k=>with1 args λv=>gQ v h λl h=>lift (NJ l 0) h λn h=>ah au (k (aX n) h) (bQ n 1000000000000)
def BQ (gt:Bool) (args:List V):M V:=λh k=>match args with
 |[v]=>ah (gQ v h λl h=>lift (bestOf gt l) h k) (lift (bestOf gt v.xs) h k) (ak v.t 5)
 |[a,b]=>lift (bestOf gt [a,b]) h k
 |_=>au
def VB (args:List V):M V:=λh k=>with1 args λv=>ah au (k (aX v.n) h) (ak v.t 2)
def VC (args:List V):M V:=λh k=>with1 args λv=>ah (ah au (k (aX v.n) h) (ak v.t 1)) (k v h) (ak v.t 2)
def VD (args:List V):M V:=λh k=>with1 args λv=>lift (Dc 128 v) h λc h=>kS [c] h k
def VE (args:List V):M V:=λh k=>with1 args λv=>ah au (match v.l with|[c]=>k (aX c) h|_=>au) (ak v.t 3)
def JH:List (Nat×(List V->M V)):=[(0,Vz),(2,NK),(3,SA),(4,NL),(5,SD),(6,SE),(8,JG),(11,VA),(12,BQ ao),(13,BQ aj),(14,VB),(15,VC),(16,VD),(17,VE)]
def BR (n:Nat) (args:List V):M V:=λh k=>aB au (λf=>f args h k) (find n JH)
def BS (v:V) (o:O) (args:List V):M V:=λh k=>with1 args λx=>ah au (put v.n (bL (app o.xs [x])) h k) (ak o.t 1)
def xO (v:V) (o:O) (args:List V):M V:=λh k=>with1 args λx=>ah (ah au (ah au (put v.n (yx (app o.bs x.l)) h k) (ak x.t 4)) (ak o.t 3))
 (gQ x h λys h=>put v.n (bL (app o.xs ys)) h k) (ak o.t 1)
def SG (_:V) (o:O) (args:List V):M V:=λh k=>with2 args λx d=>ah au (lift (iQ x o.kvs) h λr h=>aB (k d h) (λx=>k x h) r) (ak o.t 2)
def qM (v:V) (o:O) (args:List V):M V:=λh k=>with2 args λx d=>ah au
 (lift (iQ x o.kvs) h λr h=>aB (lift (dput x d o.kvs) h λkvs h=>put v.n (dZ kvs (cnt o.c o.kvs kvs)) h λU h=>k d h) (λx=>k x h) r) (ak o.t 2)
def ES (v:V) (args:List V):M V:=λh k=>with1 args λx=>ah au (ah au (ah au (lift (EP x v.xs 0) h λn h=>k (aX n) h) (qt 3 v.xs)) (ak x.t 3)) (ak v.t 5)
def Gl (v:V) (args:List V):M V:=λh k=>with1 args λx=>ah au (gQ x h λl h=>
 ah (ah au (lift (Dd 4 l) h λs h=>kB s h k) (ak v.t 4)) (lift (Dd 3 l) h λs h=>kS s h k) (ak v.t 3)) (isNil v.l)
noncomputable def Rz (_:V) (_:O) (_:List V):M V:=λU U=>au
noncomputable def RA (_:V) (_:List V):M V:=λU U=>au
def VG (x y:V):M V:=λh k=>ah (ah (ah
 (gQ x h λxs h=>gQ y h λys h=>new (bL (app xs ys)) h k)
 (ah au (ah (ah (kT (app x.xs y.xs) h k) au (isNil y.xs)) au (isNil x.xs)) (ak y.t 5)) (ak x.t 5))
 (ah au (kB (app x.l y.l) h k) (ak y.t 4)) (ak x.t 4))
 (ah au (ah (k (mj (Int.add (dS x) (dS y))) h) (k (aX (aG x.n y.n)) h) (ak (aG x.s y.s) 0)) (ak y.t 2)) (ak x.t 2)
def NN (x y:V) (f:Option Res):Option Res:=ah au (ah au (ah au (ah au f (bQ y.n 18446744073709551615)) (bQ x.n 18446744073709551615)) (ak y.t 2)) (ak x.t 2)
def JI (x y:V) (f:Option Res):Option Res:=NN x y (ah au f (ak (aG x.s y.s) 0))
def JJ (x y:V) (f:Option Res):Option Res:=ah au (ah au f (ak y.t 2)) (ak x.t 2)
def VH (x y:V):M V:=λh k=>JJ x y (ah (k (mj (Int.sub (dS x) (dS y))) h) (ah (k (qJ (fm y.n x.n)) h) (k (aX (fm x.n y.n)) h) (bQ y.n x.n)) (ak (aG x.s y.s) 0))
noncomputable def BU (x:V):Bool:=bQ x.n 18446744073709551615
def VI (x y:V):M V:=λh k=>JJ x y (ah au (ah (k (mj (Int.mul (dS x) (dS y))) h) (k (aX (cM x.n y.n)) h) (ak (aG x.s y.s) 0)) (ah (BU y) ao (BU x)))
def VJ (x y:V):M V:=λh k=>JJ x y (ah au (ah au (ah (k (aX (g7 x.n y.n)) h) au (ak y.n 0)) (ak (aG x.s y.s) 0)) (BU y))
def VK (x y:V):M V:=λh k=>JJ x y (ah (ah (k (mj (Int.fmod (dS x) (dS y))) h) (k (aX (kg x.n y.n)) h) (ak (aG x.s y.s) 0)) au (ak y.n 0))
def VL (x y:V):M V:=λh k=>JI x y (ah au (ah au (k (aX (Nat.pow x.n y.n)) h) (bI y.n 64)) (bI x.n 64))
def VM (x y:V):M V:=λh k=>JI x y (ah au (k (aX (cM x.n (Nat.pow 2 y.n))) h) (bI y.n 1000))
def VN (x y:V):M V:=λh k=>JI x y (ah au (k (aX (g7 x.n (Nat.pow 2 y.n))) h) (bI y.n 1000))
def VO (x y:V):M V:=λh k=>NN x y (ah (k (mj (Builtin.bitAnd (dS x) (dS y))) h) (k (aX (Nat.land x.n y.n)) h) (ak (aG x.s y.s) 0))
def bOr (x y:V):M V:=λh k=>JI x y (k (aX (Nat.lor x.n y.n)) h)
def Ys (x v:V):M Bool:=λh k=>ah (look v h λo h=>ah (ah au (lift (iQ x o.kvs) h λr h=>k (aB aj (λU=>ao) r) h) (ak o.t 2)) (lift (Vy x o.xs) h k) (ak o.t 1))
 (lift (Vy x v.xs) h k) (ak v.t 5)
def neg (b:Bool):Bool:=ah ao aj b
def Jq (a b:V):M Bool:=λh k=>ah (lift (oU h 60 a b) h k) (look a h λo h=>ah (lift (oU h 60 a b) h k) (look b h λo' h=>lift (Rw (oU h 60) o o') h k) (ak o.t 2)) (ak a.t 6)
def RB (a b:V):M Bool:=λh k=>Jq a b h λx h=>k (neg x) h
def cLt (a b:V):M Bool:=lift (Sz a b)
def Zj (a b:V):M Bool:=lift (Hy b a)
def cLe (a b:V):M Bool:=λh k=>lift (Sz b a) h λx h=>k (neg x) h
def cGe (a b:V):M Bool:=λh k=>lift (Hy a b) h λx h=>k (neg x) h
def cIs (a b:V):M Bool:=λh k=>ah au (lift (isNone a) h k) (ak b.t 0)
def JK (a b:V):M Bool:=λh k=>ah au (lift (isNone a) h λx h=>k (neg x) h) (ak b.t 0)
def JL (a b:V):M Bool:=λh k=>Ys a b h λx h=>k (neg x) h
def RC (v i:V):M V:=λh k=>ah
 (look v h λo h=>ah (ah au (lift (iQ i o.kvs) h λr h=>lift r h k) (ak o.t 2)) (lift (yC i (len o.xs)) h λj h=>lift (sP o.xs j) h k) (ak o.t 1))
 (lift (yC i (len v.xs)) h λj h=>lift (sP v.xs j) h k) (ak v.t 5)
def SH (v lo hi:V):M V:=λh k=>ah (ER v h λxs h=>lift (JE xs lo hi) h λl h=>new (bL l) h k) (lift (JE v.l lo hi) h λb h=>kB b h k) (ak v.t 4)
def RD (v i x:V):M V:=λh k=>look v h λo h=>ah (ah au (lift (dput i x o.kvs) h λkvs h=>put v.n (dZ kvs (cnt o.c o.kvs kvs)) h k) (ak o.t 2))
 (lift (yC i (len o.xs)) h λj h=>put v.n (bL (EN x o.xs j)) h k) (ak o.t 1)
def attr (v:V) (n:Nat):M V:=λh k=>look v h λo h=>ah au (lift (find n o.fs) h k) (ak o.t 0)
def setAt (v:V) (n:Nat) (x:V) (cs:List (Nat×Nat)):M V:=λh k=>look v h λo h=>ah au (aB au (λU=>put v.n (ux o.c (setIn n x o.fs)) h k) (find o.c cs)) (ak o.t 0)
noncomputable def fk:XE:=⟨λU U U U=>au⟩
noncomputable def xC (v:V):XE:=⟨λU U h k=>k v h⟩
def qu (x:Nat):XE:=⟨λU ρ h k=>aB au (λv=>k v h) (find x ρ.loc)⟩
def Df (x:Nat):XE:=⟨λU ρ h k=>aB au (λv=>k v h) (find x ρ.out)⟩
noncomputable def yE (f:V->V->M V) (a b:XE):XE:=⟨λr ρ h k=>a.f r ρ h λx h=>b.f r ρ h λy h=>f x y h k⟩
def RE (JM:Bool) (a b:XE):XE:=⟨λr ρ h k=>a.f r ρ h λx h=>truth x h λt h=>ah (k x h) (b.f r ρ h k) (Zh t JM)⟩
def VP (t:XT) (a b:XE):XE:=⟨λr ρ h k=>t.f r ρ h λx h=>ah (b.f r ρ h k) (a.f r ρ h k) x⟩
def BV (f:V->V->M Bool) (a b:XE):XE:=⟨λr ρ h k=>a.f r ρ h λx h=>b.f r ρ h λy h=>f x y h λt h=>k (vBool t) h⟩
noncomputable def j9:XL:=⟨λU U h k=>k [] h⟩
noncomputable def dR (e:XE) (l:XL):XL:=⟨λr ρ h k=>e.f r ρ h λv h=>l.f r ρ h λvs h=>k (v::vs) h⟩
noncomputable def kF (f:XE) (l:XL):XE:=⟨λr ρ h k=>f.f r ρ h λg h=>l.f r ρ h λvs h=>r g vs h k⟩
def BW (a:XE):XE:=⟨λr ρ h k=>a.f r ρ h λv h=>gQ v h λl h=>with1 l λv=>ah au (ah au (k (aX 1) h) (allInts v.xs)) (ak v.t 5)⟩
def BX (acc:V) (k:V->H->Option Res) (n:Nat):Nat->H->Option Res:=gJ (λU U=>au) (λU ih i h=>aB au (λo=>ah au (match o.bs with
 |[c,d]=>aB au (λq=>ah au (aS (k acc ⟨HT.ins qK h.l i,h.n⟩) (λx r U=>aB (k acc ⟨HT.ins qK h.l i,h.n⟩) (λy=>De acc x y ⟨HT.ins (uy r c (aG d 1)) h.l i,h.n⟩ λU h=>ih i h) (sP q.xs d)) o.xs) (ak q.t 1)) (HT.get h.l c)
 |_=>au) (ak o.t 7)) (HT.get h.l i)) n
def yF (a b:XE):XE:=⟨λr ρ h k=>a.f r ρ h λx h=>b.f r ρ h λy h=>ah au (gQ y h λU h=>new (uy x.xs y.n 0) h λz h=>look z h λo h=>ah au (new (dZ [] 0) h λacc h=>BX acc k 2000 z.n h) (ak o.t 7)) (ak x.t 5)⟩
def vR (o:XE) (l':XL):XE:=⟨λr ρ h k=>o.f r ρ h λov h=>look ov h λo h=>ah au (l'.f r ρ h λvs h=>lift (xM vs) h λl h=>look ov h λo h=>ah au (put ov.n (bL (app o.xs l)) h k) (ak o.t 1)) (ak o.t 1)⟩
def xJ (d:Bool) (a:XE):XE:=⟨λr ρ h k=>jump aj h λh=>a.f r ρ h λv h=>jump d h λh=>k v h⟩
structure OF where
 f:V->O->List V->M V
 ok:Nat->Bool
structure VF where
 f:V->List V->M V
 ok:Nat->Bool
def Dg (o:XE) (x:Nat) (ms:List (Nat×Nat)) (fo:OF) (fv:VF) (l:XL):XE:=⟨λr ρ h k=>o.f r ρ h λov h=>
 ah (ah au (l.f r ρ h λvs h=>fv.f ov vs h k) (fv.ok ov.t))
  (look ov h λo h=>ah (ah au (l.f r ρ h λvs h=>look ov h λo' h=>ah au (fo.f ov o' vs h k) (ak o'.t o.t)) (fo.ok o.t))
   (aB (aB au (λg=>l.f r ρ h λvs h=>r (bM g) (ov::vs) h k) (find o.c ms)) (λU=>au) (find x o.fs)) (ak o.t 0)) (ak ov.t 6)⟩
def RG (o:XE) (x:Nat):XE:=⟨λr ρ h k=>o.f r ρ h λov h=>attr ov x h k⟩
def VQ (o i:XE):XE:=⟨λr ρ h k=>o.f r ρ h λov h=>i.f r ρ h λiv h=>RC ov iv h k⟩
def SI (o lo hi:XE):XE:=⟨λr ρ h k=>o.f r ρ h λov h=>lo.f r ρ h λa h=>hi.f r ρ h λb h=>SH ov a b h k⟩
def wO (l:XL):XE:=⟨λr ρ h k=>l.f r ρ h λvs h=>new (bL vs) h k⟩
def BY (l:XL):XE:=⟨λr ρ h k=>l.f r ρ h λvs h=>kT vs h k⟩
noncomputable def VS:XP:=⟨λU U h k=>k [] h⟩
noncomputable def RH (a b:XE) (l:XP):XP:=⟨λr ρ h k=>a.f r ρ h λx h=>b.f r ρ h λy h=>l.f r ρ h λvs h=>k ((x,y)::vs) h⟩
noncomputable def VT:XP:=⟨λU U U U=>au⟩
def JN (l:XP):XE:=⟨λr ρ h k=>new (dZ [] 0) h λacc h=>l.f r ρ h λvs h=>vQ acc vs h k⟩
def turns (r:Ap) (tgt:XA) (ifs:XT) (use:Env->M V) (k:H->Option Res) (n:Nat):It->Env->H->Option Res:=
 gJ (λU U U=>au) (λU ih it ρ h=>vP it h k λv it h=>tgt.f r ρ v h λρ h=>ifs.f r ρ h λb h=>ah (ih it ρ h) (use ρ h λU h=>ih it ρ h) b) n
def compEnv (ρ:Env):Env:=⟨[],app ρ.loc ρ.out⟩
def pC (elt:XE) (r:Ap) (acc:V) (ρ:Env):M V:=λh k=>elt.f r ρ h λa h=>look acc h λo h=>ah au (put acc.n (bL (app o.xs [a])) h k) (ak o.t 1)
def VU (a b:XE) (r:Ap) (acc:V) (ρ:Env):M V:=λh k=>a.f r ρ h λx h=>b.f r ρ h λy h=>look acc h λo h=>ah au (lift (dput x y o.kvs) h λkvs h=>put acc.n (dZ kvs (cnt o.c o.kvs kvs)) h k) (ak o.t 2)
def yG (elt:XE) (tgt:XA) (it:XI) (ifs:XT):XE:=⟨λr ρ h k=>it.f r ρ h λit h=>new (bL []) h λacc h=>turns r tgt ifs (pC elt r acc) (k acc) 2000 it (compEnv ρ) h⟩
def ET (a b:XE) (tgt:XA) (it:XI) (ifs:XT):XE:=⟨λr ρ h k=>it.f r ρ h λit h=>new (dZ [] 0) h λacc h=>turns r tgt ifs (VU a b r acc) (k acc) 2000 it (compEnv ρ) h⟩
def EU (l:XL):XI:=⟨λr ρ h k=>l.f r ρ h λvs h=>lift (xM vs) h λl h=>k (gc (dQ l)) h⟩
def VW (a b:XE):XI:=⟨λr ρ h k=>a.f r ρ h λx h=>b.f r ρ h λy h=>gQ x h λU h=>gQ y h λU h=>new (EM x.n 0 y.n 0) h λz h=>look z h λo h=>ah au (k (yD z.n) h) (ak o.t 5)⟩
def RI (a:XE):XI:=⟨λr ρ h k=>a.f r ρ h λx h=>ah au (k (vO 0 (dQ x.xs)) h) (ak x.t 5)⟩
def iE (a:XE):XI:=⟨λr ρ h k=>a.f r ρ h λx h=>JF x h k⟩
noncomputable def HA:XI:=⟨λU U U U=>au⟩
def VX (t:XT):XT:=⟨λr ρ h k=>t.f r ρ h λx h=>k (neg x) h⟩
def Dh (JM:Bool) (a b:XT):XT:=⟨λr ρ h k=>a.f r ρ h λx h=>ah (k x h) (b.f r ρ h k) (Zh x JM)⟩
def VY (t a b:XT):XT:=⟨λr ρ h k=>t.f r ρ h λx h=>ah (b.f r ρ h k) (a.f r ρ h k) x⟩
noncomputable def EV (f:V->V->M Bool) (a b:XE):XT:=⟨λr ρ h k=>a.f r ρ h λx h=>b.f r ρ h λy h=>f x y h k⟩
def RJ (f g:V->V->M Bool) (a b c:XE):XT:=⟨λr ρ h k=>a.f r ρ h λx h=>b.f r ρ h λy h=>f x y h λt h=>ah (k aj h) (c.f r ρ h λz h=>g y z h k) t⟩
def tE (a:XE):XT:=⟨λr ρ h k=>a.f r ρ h λx h=>truth x h k⟩
noncomputable def qN:XT:=⟨λU U U U=>au⟩
noncomputable def jf:XT:=⟨λU U h k=>k ao h⟩
def RK (a b:XT):XT:=⟨λr ρ h k=>a.f r ρ h λx h=>ah (k aj h) (b.f r ρ h k) x⟩
def kc (x:Nat):XA:=⟨λU ρ v h k=>k (gb ρ x v) h⟩
def storeAll (xs:List Nat):List V->Env->Option Env:=aS (λvs ρ=>aS (af ρ) (λU U U=>au) vs) (λx U ih vs ρ=>aS au (λv vs U=>ih vs (gb ρ x v)) vs) xs
def Di (v:V):M (List V):=λh k=>ah (gQ v h k) (k v.xs h) (ak v.t 5)
def BZ (xs:List Nat):XA:=⟨λU ρ v h k=>Di v h λvs h=>lift (storeAll xs vs ρ) h k⟩
def RL (o:XE) (x:Nat) (cs:List (Nat×Nat)):XA:=⟨λr ρ v h k=>o.f r ρ h λov h=>setAt ov x v cs h λU h=>k ρ h⟩
def aSub (o i:XE):XA:=⟨λr ρ v h k=>o.f r ρ h λov h=>i.f r ρ h λiv h=>RD ov iv v h λU h=>k ρ h⟩
noncomputable def B0:XA:=⟨λU U U U U=>au⟩
structure XS where
 f:Ap->Env->H->(Env->H->Option Res)->(V->H->Option Res)->Option Res
noncomputable def kX:XS:=⟨λU U U U U=>au⟩
noncomputable def vS:XS:=⟨λU ρ h kn U=>kn ρ h⟩
noncomputable def fy (a b:XS):XS:=⟨λr ρ h kn kr=>a.f r ρ h (λρ h=>b.f r ρ h kn kr) kr⟩
def sJ (d:Bool) (a:XS):XS:=⟨λr ρ h kn kr=>jump aj h λh=>a.f r ρ h (λρ h=>jump d h λh=>kn ρ h) (λv h=>jump d h λh=>kr v h)⟩
noncomputable def RM (e:XE):XS:=⟨λr ρ h kn U=>e.f r ρ h λU h=>kn ρ h⟩
noncomputable def yH (e:XE):XS:=⟨λr ρ h U kr=>e.f r ρ h kr⟩
noncomputable def jq (t:XA) (e:XE):XS:=⟨λr ρ h kn U=>e.f r ρ h λv h=>t.f r ρ v h kn⟩
def Dj (t:XT) (a b:XS):XS:=⟨λr ρ h kn kr=>t.f r ρ h λx h=>ah (b.f r ρ h kn kr) (a.f r ρ h kn kr) x⟩
def forL (r:Ap) (tgt:XA) (body:XS) (kn:Env->H->Option Res) (kr:V->H->Option Res) (n:Nat):It->Env->H->Option Res:=
 gJ (λU U U=>au) (λU ih it ρ h=>vP it h (kn ρ) λv it h=>tgt.f r ρ v h λρ h=>body.f r ρ h (λρ h=>ih it ρ h) kr) n
def VZ (tgt:XA) (it:XI) (body:XS):XS:=⟨λr ρ h kn kr=>it.f r ρ h λit h=>forL r tgt body kn kr 2000 it ρ h⟩
def EW (r:Ap) (t:XT) (body:XS) (kn:Env->H->Option Res) (kr:V->H->Option Res) (n:Nat):Env->H->Option Res:=
 gJ (λU U=>au) (λU ih ρ h=>t.f r ρ h λx h=>ah (kn ρ h) (body.f r ρ h (λρ h=>ih ρ h) kr) x) n
def JO (t:XT) (body:XS):XS:=⟨λr ρ h kn kr=>EW r t body kn kr 100 ρ h⟩
def mkBin (op:Operator) (a b:XE):XE:=match op with
 | .Add=>yE VG a b
 | .Sub=>yE VH a b
 | .Mult=>yE VI a b
 | .FloorDiv=>yE VJ a b
 | .Mod=>yE VK a b
 | .Pow=>yE VL a b
 | .LShift=>yE VM a b
 | .RShift=>yE VN a b
 | .BitAnd=>yE VO a b
 | .BitOr=>yE bOr a b
 |_=>fk
structure CF where
 f:V->V->M Bool
def EX (op:CmpOp):CF:=match op with
 | .Eq=>⟨Jq⟩
 | .NotEq=>⟨RB⟩
 | .Lt=>⟨cLt⟩
 | .Gt=>⟨Zj⟩
 | .LtE=>⟨cLe⟩
 | .GtE=>⟨cGe⟩
 | .Is=>⟨cIs⟩
 | .IsNot=>⟨JK⟩
 | .In=>⟨Ys⟩
 | .NotIn=>⟨JL⟩
section
variable (G:Str->Option V) (Ms:Nat->List (Nat×Nat))
def SJ (x:Nat):OF:=ah (ah (ah (ah ⟨Rz,λU=>aj⟩ ⟨qM,λt=>ak t 2⟩ (ak x (nm "setdefault"))) ⟨SG,λt=>ak t 2⟩ (ak x (nm "get"))) ⟨xO,λt=>ah (ak t 3) ao (ak t 1)⟩ (ak x (nm "extend"))) ⟨BS,λt=>ak t 1⟩ (ak x (nm "append"))
def SK (x:Nat):VF:=ah (ah ⟨RA,λU=>aj⟩ ⟨Gl,λt=>ah (ak t 4) ao (ak t 3)⟩ (ak x (nm "join"))) ⟨ES,λt=>ak t 5⟩ (ak x (nm "index"))
def JP:Const->XE
 | .none=>xC di
 | .bool b=>xC (vBool b)
 | .int i=>xC (mj i)
 | .str s=>ah fk (xC (vStr s.cps.toList)) (bQ (len s.cps.toList) 1000000)
 | .bytes b=>ah fk (xC (fj (lY bU b))) (bQ (len b) 1000000)
 |_=>fk
def JQ (x:Str):XE:=aB fk (λv=>xC v) (G x)
def JR (names:List (Str×aN)) (x:Str):XE:=match bg x with
 |false=>fk
 |true=>match bf (nm x) names with
  |some k=>match k with
   | .local=>qu (nm x)
   | .cell=>qu (nm x)
   | .free=>Df (nm x)
   | .globalImplicit=>JQ G x
   |_=>fk
  |none=>fk
def lO (ns:List (Str×aN)):List (Str×aN)->Bool
 |[]=>ao
 |(x,k)::r=>match bg x with
  |false=>aj
  |true=>match k with
   | .free=>match bf (nm x) ns with
    |some .cell=>lO ns r
    |some .free=>lO ns r
    |_=>aj
   | .local=>lO ns r
   | .globalImplicit=>lO ns r
   |_=>aj
def sr (x:Nat) (l:List (Str×aN)):Bool:=match bf x l with
 |some _=>ao
 |none=>aj
def A0:List (Str×aN)->Bool
 |[]=>ao
 |p::r=>match sr (nm p.1) r with
  |true=>aj
  |false=>A0 r
def B3 (l:List (Str×aN)):Bool:=match sr (nm "__debug__") l with
 |true=>aj
 |false=>match sr (nm "__classdict__") l with
  |true=>aj
  |false=>A0 l
noncomputable def isFn:ScopeKind->Bool
 | .function=>ao
 |_=>aj
noncomputable def gC:List (Str×aN)->Bool
 |[]=>aj
 |p::r=>match p.2 with
  | .local=>ao
  |_=>gC r
def yI (ns:List (Str×aN)) (sc:Scope):Bool:=match lO ns sc.names with
 |true=>match isFn sc.kind with
  |true=>match gC sc.names with
   |true=>B3 sc.names
   |false=>aj
  |false=>aj
 |false=>aj
def tgtName (ns:List (Str×aN)):Expr->Option Nat
 | .Name x _=>match bg x with
  |false=>au
  |true=>match bf (nm x) ns with
   |some k=>match k with
    | .local=>af (nm x)
    | .cell=>af (nm x)
    |_=>au
   |none=>au
 |_=>au
def fV (ns:List (Str×aN)):List Expr->Option (List Nat)
 |[]=>af []
 |e::r=>match tgtName ns e with
  |some x=>match fV ns r with
   |some l=>af (x::l)
   |none=>au
  |none=>au
def NO (x:Nat) (l:List Nat):Bool:=aS aj (λy U ih=>ah ih ao (ak x y)) l
def g9:List Nat->Bool
 |[]=>ao
 |x::r=>match NO x r with
  |true=>aj
  |false=>g9 r
def lP (ns:List (Str×aN)) (e:Expr):XA:=match e with
 | .Tuple es _ _=>match fV ns es with
  |some l=>match g9 l with
   |true=>BZ l
   |false=>B0
  |none=>B0
 |e=>match tgtName ns e with
  |some x=>kc x
  |none=>B0
noncomputable def isSlice:Expr->Bool
 | .Slice .. =>ao
 |_=>aj
noncomputable def jr:Expr->Bool
 | .ListComp .. =>ao
 | .SetComp .. =>ao
 | .DictComp .. =>ao
 |_=>aj
def nD (t e:Expr):Bool:=match t with
 | .Tuple .. =>match e with
  | .Tuple vs _ _=>ah ao (vs.all (foldedForSure 8)) (vs.all (constantsAlone 8))
  |_=>ao
 | .Starred .. =>aj
 |_=>ao
noncomputable def kH:Expr->Bool
 | .Set .. =>ao
 |_=>aj
def lS (e:Expr):Bool:=match e with
 | .Call f _ _ _=>match f with
  | .Name id _=>ah ao aj (ak (nm id) (nm "super"))
  |_=>ao
 |_=>ao
noncomputable def iM:Expr->Bool
 | .Tuple .. =>ao
 |_=>aj
noncomputable def br:Expr->Bool
 | .Starred .. =>ao
 |_=>aj
def SM (ns:List (Str×aN)):Expr->Option Nat
 | .Name x _=>match bg x with
  |true=>match bf (nm x) ns with
   |some k=>match k with
    | .globalImplicit=>match G x with
     |some v=>ah au (af v.n) (ak v.t 9)
     |none=>au
    |_=>au
   |none=>au
  |false=>au
 |_=>au
def jO (ns:List (Str×aN)) (n:Nat) (e:Expr):Bool:=aB aj (λm=>ak m n) (SM G ns e)
def Gm (f:Expr->XE):List Expr->XL
 |[]=>j9
 |e::r=>dR (f e) (Gm f r)
def mkPairs (f:Expr->XE):List (Option Expr)->List Expr->XP
 |[],[]=>VS
 |k::ks,e::es=>match k with
  |some k=>RH (f k) (f e) (mkPairs f ks es)
  |none=>VT
 |_,_=>VT
noncomputable def lT:List (Option Expr)->List Expr->Bool
 |[],[]=>ao
 |k::ks,_::es=>match k with
  |some _=>lT ks es
  |none=>aj
 |_,_=>aj
def Gn (f:Expr->XE):Option Expr->XE
 |none=>xC di
 |some e=>f e
def A1 (ns:List (Str×aN)) (f:Expr->XE) (e:Expr):XI:=match e with
 | .Call g args kws _=>match kws with
  |[]=>match args.any br with
   |true=>HA
   |false=>match jO G ns 1 g with
    |true=>EU (Gm f args)
    |false=>match jO G ns 9 g with
     |true=>match args with
      |[a,b]=>VW (f a) (f b)
      |_=>HA
     |false=>match jO G ns 10 g with
      |true=>match args with
       |[a]=>RI (f a)
       |_=>HA
      |false=>iE (f e)
  |_=>HA
 |_=>iE (f e)
def pairsOk (ns:List (Str×aN)) (t e:Expr):Bool:=match e with
 | .Call g _ _ _=>match jO G ns 9 g with
  |true=>iM t
  |false=>match jO G ns 10 g with
   |true=>iM t
   |false=>ao
 | .Set .. =>aj
 |_=>ao
def inner (ns:List (Str×aN)) (n:Nat) (e:Expr):Option (List Expr):=match e with
 | .Call g args kws _=>match kws with
  |[]=>match args.any br with
   |true=>au
   |false=>match jO G ns n g with
    |true=>af args
    |false=>au
  |_=>au
 |_=>au
def RN (ns:List (Str×aN)) (f:Expr->XE) (g:Expr) (args:List Expr):XE:=match args with
 |[a]=>match jO G ns 0 g with
  |true=>match inner G ns 7 a with
   |some [a]=>BW (f a)
   |_=>kF (f g) (Gm f args)
  |false=>match jO G ns 6 g with
   |true=>match inner G ns 9 a with
    |some [a,b]=>yF (f a) (f b)
    |_=>kF (f g) (Gm f args)
   |false=>kF (f g) (Gm f args)
 |_=>kF (f g) (Gm f args)
def HB (f:Expr->XE) (o:Expr) (x:Nat) (args:List Expr):XE:=Dg (f o) x (Ms x) (SJ x) (SK x) (Gm f args)
def RO (ns:List (Str×aN)) (f:Expr->XE) (o:Expr) (m:Str) (args:List Expr):XE:=match ak (nm m) (nm "extend") with
 |true=>match args with
  |[a]=>match inner G ns 1 a with
   |some as=>vR (f o) (Gm f as)
   |none=>HB Ms f o (nm m) args
  |_=>HB Ms f o (nm m) args
 |false=>HB Ms f o (nm m) args
mutual
def cU:Nat->List (Str×aN)->Expr->XE
 |0,_,_=>fk
 |n+1,ns,e=>match e with
  | .Name x _=>JR G ns x
  | .Constant c _ _=>JP c
  | .BinOp a op b _=>mkBin op (cU n ns a) (cU n ns b)
  | .UnaryOp op a _=>match op with
   | .USub=>match a with
    | .Constant c _ _=>match c with
     | .int i=>xC (mj (-i))
     |_=>fk
    |_=>fk
   |_=>fk
  | .BoolOp op es _=>match es with
   |[a,b]=>RE (match op with| .And=>ao| .Or=>aj) (cU n ns a) (cU n ns b)
   |_=>fk
  | .IfExp t a b _=>VP (oB n ns t) (cU n ns a) (cU n ns b)
  | .Compare a ops es _=>match ops with
   |[op]=>match es with
    |[b]=>match kH b with
     |true=>fk
     |false=>BV (EX op).f (cU n ns a) (cU n ns b)
    |_=>fk
   |_=>fk
  | .Call f args kws p=>match kws with
   |[]=>match args.any br with
    |true=>fk
    |false=>match f with
     | .Attribute o m ap=>match bg m with
      |true=>match lS o with
       |true=>match ak ap.endLine p.line with
        |true=>match bI (len args) 30 with
         |true=>RO G Ms ns (cU n ns) o m args
         |false=>fk
        |false=>fk
       |false=>fk
      |false=>fk
     |f=>RN G ns (cU n ns) f args
   |_=>fk
  | .Attribute o a _=>match bg a with
   |true=>match lS o with
    |true=>RG (cU n ns o) (nm a)
    |false=>fk
   |false=>fk
  | .Subscript o i _=>match i with
   | .Slice lo hi st _=>match st with
    |none=>SI (cU n ns o) (Gn (cU n ns) lo) (Gn (cU n ns) hi)
    |some _=>fk
   |i=>VQ (cU n ns o) (cU n ns i)
  | .List es _=>match es.any br with
   |true=>fk
   |false=>wO (Gm (cU n ns) es)
  | .Tuple es _ _=>match es.any br with
   |true=>fk
   |false=>BY (Gm (cU n ns) es)
  | .Dict ks es _=>match bI (len ks) 16 with
   |true=>match lT ks es with
    |true=>JN (mkPairs (cU n ns) ks es)
    |false=>fk
   |false=>fk
  | .ListComp elt gens sc _=>match gens with
   |[⟨tgt,it,ifs,a⟩]=>match Int.decEq a 0 with
    | .isTrue _=>match yI ns sc with
     |true=>match pairsOk G ns tgt it with
      |true=>yG (cU n sc.names elt) (lP sc.names tgt) (A1 G ns (cU n ns) it) (uC n sc.names ifs)
      |false=>fk
     |false=>fk
    | .isFalse _=>fk
   |_=>fk
  | .DictComp x y gens sc _=>match gens with
   |[⟨tgt,it,ifs,a⟩]=>match Int.decEq a 0 with
    | .isTrue _=>match yI ns sc with
     |true=>match pairsOk G ns tgt it with
      |true=>ET (cU n sc.names x) (cU n sc.names y) (lP sc.names tgt) (A1 G ns (cU n ns) it) (uC n sc.names ifs)
      |false=>fk
     |false=>fk
    | .isFalse _=>fk
   |_=>fk
  |_=>fk
def oB:Nat->List (Str×aN)->Expr->XT
 |0,_,_=>qN
 |n+1,ns,e=>match e with
  | .UnaryOp op a p=>match op with
   | .Not=>VX (oB n ns a)
   |op=>tE (cU n ns (.UnaryOp op a p))
  | .BoolOp op es _=>EY n ns (match op with| .And=>ao| .Or=>aj) es
  | .IfExp t a b _=>VY (oB n ns t) (oB n ns a) (oB n ns b)
  | .Compare a ops es _=>match ops with
   |[op]=>match es with
    |[b]=>match kH b with
     |true=>qN
     |false=>EV (EX op).f (cU n ns a) (cU n ns b)
    |_=>qN
   |[op,Zk]=>match es with
    |[b,c]=>match kH b,kH c with
     |false,aj=>RJ (EX op).f (EX Zk).f (cU n ns a) (cU n ns b) (cU n ns c)
     |_,_=>qN
    |_=>qN
   |_=>qN
  |e=>tE (cU n ns e)
def EY:Nat->List (Str×aN)->Bool->List Expr->XT
 |0,_,_,_=>qN
 |n+1,ns,b,es=>match es with
  |[]=>qN
  |e::r=>match r with
   |[]=>oB n ns e
   |r=>Dh b (oB n ns e) (EY n ns b r)
def uC:Nat->List (Str×aN)->List Expr->XT
 |0,_,_=>qN
 |n+1,ns,es=>match es with
  |[]=>jf
  |e::r=>RK (oB n ns e) (uC n ns r)
end
def Dk (ns:List (Str×aN)) (e:Expr):XA:=match e with
 | .Attribute o a _=>match bg a with
  |true=>RL (cU G Ms 30 ns o) (nm a) (Ms (aG (cM (nm a) 128) 1))
  |false=>B0
 | .Subscript o i _=>match isSlice i with
  |true=>B0
  |false=>aSub (cU G Ms 30 ns o) (cU G Ms 30 ns i)
 |e=>lP ns e
mutual
def Dl:Nat->List (Str×aN)->Stmt->XS
 |0,_,_=>kX
 |n+1,ns,s=>match s with
  | .Expr e _=>match jr e with
   |true=>kX
   |false=>RM (cU G Ms 30 ns e)
  | .Return e _=>yH (Gn (cU G Ms 30 ns) e)
  | .Assign ts e _=>match ts with
   |[t]=>match nD t e with
    |true=>jq (Dk G Ms ns t) (cU G Ms 30 ns e)
    |false=>kX
   |_=>kX
  | .If t a b _=>Dj (oB G Ms 30 ns t) (qO n ns a) (qO n ns b)
  | .For t it body els _=>match els with
   |[]=>match pairsOk G ns t it with
    |true=>VZ (lP ns t) (A1 G ns (cU G Ms 30 ns) it) (qO n ns body)
    |false=>kX
   |_=>kX
  | .While t body els _=>match els with
   |[]=>JO (oB G Ms 30 ns t) (qO n ns body)
   |_=>kX
  |_=>kX
def qO:Nat->List (Str×aN)->List Stmt->XS
 |0,_,_=>kX
 |n+1,ns,ss=>match ss with
  |[]=>vS
  |s::r=>fy (Dl n ns s) (qO n ns r)
end
end
section
variable (G:Str->Option V) (Ms:Nat->List (Nat×Nat))
def SN (f:Expr):Bool:=match f with
 | .Attribute _ m _=>ak (nm m) (nm "told")
 | .Name x _=>ah (ak (nm x) (nm "tuple")) ao (ak (nm x) (nm "layout_told"))
 |_=>aj
noncomputable def isDone (s:Stmt):Bool:=match s with
 | .If .. =>ao
 | .Assign ts _ _=>match ts with
  |[t]=>match t with
   | .Subscript .. =>ao
   |_=>aj
  |_=>aj
 |_=>aj
def nH:Nat->List (Str×aN)->Expr->XE
 |0,_,_=>fk
 |n+1,ns,e=>match e with
  | .Tuple es _ _=>match es.any br with
   |true=>fk
   |false=>BY (Gm (nH n ns) es)
  | .List es _=>match es.any br with
   |true=>fk
   |false=>wO (Gm (nH n ns) es)
  | .Compare a ops es _=>match ops with
   |[op]=>match es with
    |[b]=>match kH b with
     |true=>fk
     |false=>BV (EX op).f (nH n ns a) (nH n ns b)
    |_=>fk
   |_=>fk
  | .Call f args kws p=>xJ (SN f) (cU G Ms 30 ns (.Call f args kws p))
  |e=>cU G Ms 30 ns e
def JS (ns:List (Str×aN)) (e:Expr):XE:=match e with
 | .ListComp elt gens sc _=>match gens with
  |[⟨tgt,it,ifs,a⟩]=>match Int.decEq a 0 with
   | .isTrue _=>match yI ns sc with
    |true=>match pairsOk G ns tgt it with
     |true=>yG (nH G Ms 30 sc.names elt) (lP sc.names tgt) (A1 G ns (cU G Ms 30 ns) it) (uC G Ms 30 sc.names ifs)
     |false=>fk
    |false=>fk
   | .isFalse _=>fk
  |_=>fk
 |_=>fk
def NP (ns:List (Str×aN)) (e:Expr):XT:=match e with
 | .Compare a ops es _=>match ops with
  |[op]=>match es with
   |[b]=>match kH b with
    |true=>qN
    |false=>EV (EX op).f (nH G Ms 30 ns a) (nH G Ms 30 ns b)
   |_=>qN
  |_=>qN
 |_=>qN
def EZ (ns:List (Str×aN)) (e:Expr):XT:=match e with
 | .BoolOp op es _=>match es with
  |[a,b]=>Dh (match op with| .And=>ao| .Or=>aj) (NP G Ms ns a) (NP G Ms ns b)
  |_=>qN
 | .Compare a ops es p=>NP G Ms ns (.Compare a ops es p)
 |e=>oB G Ms 30 ns e
noncomputable def xP:Expr->Bool
 | .Call .. =>ao
 |_=>aj
noncomputable def E0:Expr->Bool
 | .ListComp .. =>ao
 |_=>aj
def JT (ns:List (Str×aN)) (e:Expr):XE:=match xP e with
 |true=>cU G Ms 30 ns e
 |false=>nH G Ms 30 ns e
def JU (ns:List (Str×aN)) (e:Expr):XE:=match E0 e with
 |true=>JS G Ms ns e
 |false=>match jr e with
  |true=>fk
  |false=>JT G Ms ns e
noncomputable def NQ:Expr->Bool
 | .Attribute .. =>ao
 |_=>aj
def JV (ns:List (Str×aN)) (e:Expr):XE:=match e with
 | .Call f args kws p=>match kws with
  |[]=>match args.any br with
   |true=>fk
   |false=>match NQ f with
    |true=>cU G Ms 30 ns (.Call f args [] p)
    |false=>kF (cU G Ms 30 ns f) (Gm (nH G Ms 30 ns) args)
  |_=>fk
 |e=>nH G Ms 30 ns e
def E1:XS:=⟨λU ρ h kn U=>jump aj h λh=>jump aj h λh=>kn ρ h⟩
noncomputable def JW:Expr->Bool
 | .Subscript .. =>ao
 |_=>aj
def JX (ns:List (Str×aN)) (t e:Expr):XE:=match JW t with
 |true=>match xP e with
  |true=>xJ ao (cU G Ms 30 ns e)
  |false=>fk
 |false=>JU G Ms ns e
def JY (ns:List (Str×aN)) (s:Stmt):XS:=match s with
 | .Assign ts e _=>match ts with
  |[t]=>match JW t with
   |true=>match xP e with
    |true=>match nD t e with
     |true=>jq (Dk G Ms ns t) (xJ ao (cU G Ms 30 ns e))
     |false=>kX
    |false=>kX
   |false=>kX
  |_=>kX
 |s=>Dl G Ms 100 ns s
def JZ (ns:List (Str×aN)) (a:List Stmt):XS:=match a with
 |[s]=>fy (JY G Ms ns s) vS
 |_=>kX
def E2 (ns:List (Str×aN)) (s:Stmt):XS:=match s with
 | .Return e _=>match e with
  |some e=>yH (JV G Ms ns e)
  |none=>kX
 | .Assign ts e _=>match ts with
  |[t]=>match nD t e with
   |true=>jq (Dk G Ms ns t) (JX G Ms ns t e)
   |false=>kX
  |_=>kX
 | .If t a b _=>match b with
  |[]=>Dj (EZ G Ms ns t) (JZ G Ms ns a) E1
  |_=>kX
 |s=>Dl G Ms 100 ns s
def J3 (ns:List (Str×aN)):List Stmt->XS
 |[]=>vS
 |s::r=>fy (sJ (isDone s) (E2 G Ms ns s)) (J3 ns r)
end
def V0 (f:Expr->XE) (e:Expr):XE:=match e with
 | .Lambda _ _ _ pos=>xC (NG (aG (cM pos.line 4096) pos.col))
 |e=>f e
def qP (G:Str->Option V) (Ms:Nat->List (Nat×Nat)) (ns:List (Str×aN)) (b:List Stmt):XS:=match b with
 |[.Return (af (.Dict ks vs _)) _]=>match bI (len ks) 16 with
  |true=>match lT ks vs with
   |true=>fy (yH (JN (mkPairs (V0 (cU G Ms 30 ns)) ks vs))) vS
   |false=>kX
  |false=>kX
 |b=>qO G Ms 100 ns b
structure Fn where
 params:List Nat
 Dm:List V
 body:XS
 prim:Nat
structure Lm where
 params:List Nat
 body:XE
structure B4 where
 lam:Nat->Option Lm
 fn:Nat->Option Fn
 init:Nat->Option Nat
def nI (d:List V) (xs:List Nat):List V->Option (List (Nat×V)):=aS (λvs=>ah au (af []) (isNil vs))
 (λx r ih vs=>aS
  (ah au (aB au (λv=>aB au (λl=>af ((x,v)::l)) (ih [])) (sP d (fm (len d) (aG (len r) 1)))) (bQ (aG (len r) 1) (len d)))
  (λv vs U=>aB au (λl=>af ((x,v)::l)) (ih vs)) vs) xs
def Zl (T:B4) (r:Ap) (a:Nat) (args:List V):M V:=λh k=>aB au (λF=>ah
 (with2 args λa w=>r w [a,bM F.prim,aX 0] h k)
 (aB au (λl=>F.body.f r ⟨l,[]⟩ h (λU h=>k di h) k) (nI F.Dm F.params args)) (ak F.prim 0)) (T.fn a)
def SO (T:B4) (r:Ap) (a:Nat) (args:List V):M V:=λh k=>lift (T.init a) h λf h=>new (ux a []) h λx h=>r (bM f) (x::args) h λv h=>ah au (k x h) (ak v.t 0)
def V1 (T:B4) (r:Ap) (j:Nat) (args:List V):M V:=λh k=>lift (T.lam j) h λL h=>lift (nI [] L.params args) h λb h=>L.body.f r ⟨b,[]⟩ h k
def apply (T:B4) (r:Ap) (f:V) (args:List V):M V:=λh k=>ah (ah (ah (ah au (V1 T r f.n args h k) (ak f.t 10)) (SO T r f.n args h k) (ak f.t 8)) (BR f.n args h k) (ak f.t 9)) (Zl T r f.n args h k) (ak f.t 7)
def run (T:B4) (n:Nat):Ap:=gJ (λU U U U=>au) (λU ih=>apply T ih) n
end
set_option backward.match.sparseCases true
theorem dK {a:Type} {x} {r} (e:(ah au x b:Option a)=af r):b=ao/\x=af r:=by
 induction b using zB with
 |false=>exact fn e
 |true=>exact⟨rfl,e⟩
theorem su {a:Type} {x y} {r} {p:Prop} (e:(ah x y b:Option a)=af r) (t:b=ao->y=af r->p) (f:b=aj->x=af r->p):p:=by
 induction b using zB with
 |false=>exact f rfl e
 |true=>exact t rfl e
theorem pS {b c:Type} {o} {f:c->Option b} {r} (e:(aB au f o:Option b)=af r):∃a,o=af a/\f a=af r:=by
 induction o using zO with
 |none=>exact fn e
 |some a=>exact bW a rfl e
theorem aH {a b:Nat} (e:ak a b=ao):a=b:=cz e
theorem fS {a b:Nat} (e:ak a b=aj):a≠b:=λh=>by rw [h,fq] at e;exact ft e
theorem bC (e:lift x h k=af r):∃a,x=af a/\k a h=af r:=pS e
theorem eU x p (l:List (Nat×α)):find x (p::l)=if x=p.1 then af p.2 else find x l:=by
 refine(?_:(ah (find x l) (af p.2) (ak x p.1):Option α)=_)
 induction e:ak x p.1 using zB with
 |true=>exact cR (if_pos (aH e)) rfl
 |false=>exact cR (if_neg (fS e)) rfl
theorem HD x (v:α):setIn x v []=[(x,v)]:=rfl
theorem yJ x v p (l:List (Nat×α)):setIn x v (p::l)=if x=p.1 then(x,v)::l else p::setIn x v l:=by
 refine(?_:(ah (p::setIn x v l) ((x,v)::l) (ak x p.1):List (Nat×α))=_)
 induction e:ak x p.1 using zB with
 |true=>exact cR (if_pos (aH e)) rfl
 |false=>exact cR (if_neg (fS e)) rfl
theorem jP (x y) v (l:List (Nat×α)):find y (setIn x v l)=if y=x then af v else find y l:=by
 induction l with
 |nil=>exact cR (HD ..) (cR (eU ..) rfl)
 |cons p l a=>
  refine cR (yJ ..) ?_;by_cases h:x=p.1
  .refine cR (if_pos h) (cR (eU ..) (cR (eU ..) ?_));by_cases hy:y=x
   .simp [hy]
   .rw [if_neg hy,if_neg hy,if_neg (by refine cL h ?_;exact hy)]
  .refine cR (if_neg h) (cR (eU ..) (cR (eU ..) (cR a ?_)));by_cases hy:y=p.1
   .rw [if_pos hy,if_neg (by refine cR hy ?_;exact λe=>h e.symm),if_pos hy]
   .exact cR (if_neg hy) (cR (if_neg hy) rfl)
theorem mD (x y:List α):app x y=x++y:=by
 induction x with
 |nil=>rfl
 |cons a x b=>show a::app x y=_;refine cR b ?_;rfl
theorem Dn x (l m:List (Nat×α)):find x (app l m)=(find x l).or (find x m):=by
 induction l with
 |nil=>rfl
 |cons p l a=>
  refine(?_:find x (p::app l m)=_);refine cR (eU ..) (cR (eU ..) (cR a ?_));split<;>rfl
theorem len_eq (x:List α):len x=x.length:=by
 induction x with
 |nil=>rfl
 |cons a x b=>show aG (len x) 1=_;refine cR b ?_;rfl
theorem mE (x:List α) i:sP x i=x[i]? :=by
 induction x generalizing i with
 |nil=>rfl
 |cons a x b=>
  induction i using zN with
  |zero=>rfl
  |succ i=>show sP x i=_;refine cR (b ..) ?_;rfl
theorem HE v (x:List α) i:EN v x i=x.set i v:=by
 induction x generalizing i with
 |nil=>rfl
 |cons a x b=>
  induction i using zN with
  |zero=>rfl
  |succ i=>show a::EN v x i=_;refine cR (b ..) ?_;rfl
theorem p5 (f:α->β) x:lY f x=x.map f:=by
 induction x with
 |nil=>rfl
 |cons a x b=>show f a::lY f x=_;refine cR b ?_;rfl
theorem Dp (x:List α) i:yy x i=x.take i:=by
 induction x generalizing i with
 |nil=>simp [yy]
 |cons a x b=>
  induction i using zN with
  |zero=>rfl
  |succ i=>show a::yy x i=_;refine cR (b ..) ?_;rfl
theorem Dq (x:List α) i:C9 x i=x.drop i:=by
 induction x generalizing i with
 |nil=>simp [C9]
 |cons a x b=>
  induction i using zN with
  |zero=>rfl
  |succ i=>show C9 x i=_;refine cR (b ..) ?_;rfl
theorem TR.get_nil i:TR.nil.get i=none:=rfl
theorem TR.get_node v (l r) i:(TR.node v l r).get i=if i=0 then v else if i %2=0 then r.get ((i-1)/2) else l.get ((i-1)/2):=by
 refine(?_:(ah (ah (l.get ((i-1)/2)) (r.get ((i-1)/2)) (ak (i %2) 0)) v (ak i 0):Option O)=_)
 induction e:ak i 0 using zB with
 |true=>exact cR (if_pos (aH e)) rfl
 |false=>
  refine cR (if_neg (fS e)) ?_
  induction a:ak (i %2) 0 using zB with
  |true=>exact cR (if_pos (aH a)) rfl
  |false=>exact cR (if_neg (fS a)) rfl
theorem TR.J4 o (n i):TR.one o (n+1) i=if i=0 then .node (af o) .nil .nil else if i %2=0 then .node au .nil (TR.one o n ((i-1)/2)) else .node au (TR.one o n ((i-1)/2)) .nil:=by
 refine(?_:(ah (ah (.node au (TR.one o n ((i-1)/2)) .nil) (.node au .nil (TR.one o n ((i-1)/2))) (ak (i %2) 0)) (.node (af o) .nil .nil) (ak i 0):TR)=_)
 induction e:ak i 0 using zB with
 |true=>exact cR (if_pos (aH e)) rfl
 |false=>
  refine cR (if_neg (fS e)) ?_
  induction a:ak (i %2) 0 using zB with
  |true=>exact cR (if_pos (aH a)) rfl
  |false=>exact cR (if_neg (fS a)) rfl
theorem TR.ins_node o v (l r) i:TR.ins o (.node v l r) i=if i=0 then .node (af o) l r else if i %2=0 then .node v l (TR.ins o r ((i-1)/2)) else .node v (TR.ins o l ((i-1)/2)) r:=by
 refine(?_:(ah (ah (.node v (TR.ins o l ((i-1)/2)) r) (.node v l (TR.ins o r ((i-1)/2))) (ak (i %2) 0)) (.node (af o) l r) (ak i 0):TR)=_)
 induction e:ak i 0 using zB with
 |true=>exact cR (if_pos (aH e)) rfl
 |false=>
  refine cR (if_neg (fS e)) ?_
  induction a:ak (i %2) 0 using zB with
  |true=>exact cR (if_pos (aH a)) rfl
  |false=>exact cR (if_neg (fS a)) rfl
theorem NR {α} {p q} [Decidable p] [Decidable q] {a b:α} (h:p↔q):(if p then a else b)=if q then a else b:=by
 by_cases k:p
 .exact cR (if_pos k) (cR (if_pos (h.mp k)) rfl)
 .exact cR (if_neg k) (cR (if_neg λt=>k (h.mpr t)) rfl)
theorem Gp (p:a %2=b %2) (h:a/2=b/2):a=b:=cL (rL a 2) (cL (rL b 2) (cR p (cR h rfl)))
theorem V2 (p:(a+1) %2=0):a %2=1:=(BH a).resolve_left λq=>by rw [Nat.add_mod,q] at p;exact absurd p (by decide)
theorem V3 (p:¬(a+1) %2=0):a %2=0:=(BH a).resolve_right λq=>p (cR (Nat.add_mod ..) (cR q rfl))
theorem V4:∀{i j:Nat} (hi:¬i=0) (c:¬j=0) (p:i %2=0) (q:j %2=0),((j-1)/2=(i-1)/2)↔(j=i)
 |0,_,hi,_,_,_=>(hi rfl).elim
 |_,0,_,c,_,_=>(c rfl).elim
 |a+1,b+1,_,_,p,q=>⟨λh=>congrArg (·+1) (Gp ((V2 q).trans (V2 p).symm) h),λh=>cR h rfl⟩
theorem V5:∀{i j:Nat} (p:¬i %2=0) (q:¬j %2=0),((j-1)/2=(i-1)/2)↔(j=i)
 |0,_,p,_=>(p rfl).elim
 |_,0,_,q=>(q rfl).elim
 |a+1,b+1,p,q=>⟨λh=>congrArg (·+1) (Gp ((V3 q).trans (V3 p).symm) h),λh=>cR h rfl⟩
theorem RP (p:i %2=0) (q:¬j %2=0):¬j=i:=λh=>q (h▸p)
theorem uD {i} (hi:¬i=0) (h:if i %2=0 then l'=l/\∀j,r'.get j=if j=(i-1)/2 then x else r.get j else r'=r/\∀j,l'.get j=if j=(i-1)/2 then x else l.get j) j:
 (TR.node v l' r').get j=if j=i then x else(TR.node v l r).get j:=by
 refine cR (TR.get_node ..) (cR (TR.get_node ..) ?_);by_cases a:j=0
 .exact cR (if_pos a) (cR (if_pos a) (cR (if_neg λq=>hi (q.symm.trans a)) rfl))
 .refine cR (if_neg a) (cR (if_neg a) ?_);by_cases p:i %2=0
  .rw [if_pos p] at h;by_cases q:j %2=0
   .exact cR (if_pos q) (cR (if_pos q) (cR (h.2 ..) (cR (NR (V4 hi a p q)) rfl)))
   .exact cR (if_neg q) (cR (if_neg q) (cR h.1 (cR (if_neg (RP p q)) rfl)))
  .rw [if_neg p] at h;by_cases q:j %2=0
   .exact cR (if_pos q) (cR (if_pos q) (cR h.1 (cR (if_neg λt=>RP q p t.symm) rfl)))
   .exact cR (if_neg q) (cR (if_neg q) (cR (h.2 ..) (cR (NR (V5 p q)) rfl)))
theorem Dr {i:Nat} (hi:i=0) (j:Nat):(TR.node x l r).get j=if j=i then x else(TR.node v l r).get j:=by
 refine cR (TR.get_node ..) (cR (TR.get_node ..) (cR hi ?_));by_cases a:j=0
 .exact cR (if_pos a) (cR (if_pos a) rfl)
 .exact cR (if_neg a) (cR (if_neg a) (cR (if_neg a) rfl))
theorem Ds j:(TR.node au .nil .nil).get j=none:=by
 refine cR (TR.get_node ..) (cR (TR.get_nil ..) ?_);by_cases b:j=0
 .exact cR (if_pos b) rfl
 .exact cR (if_neg b) (cR (ite_self ..) rfl)
theorem TR.NS o:∀n i,∃x:Option O,(x=af o\/x=au)/\∀j,(TR.one o n i).get j=if j=i then x else none:=by
 intro n
 induction n with
 |zero=>
  intro i;exact bW au (.inr rfl) (λj=>(ite_self au).symm)
 |succ n a=>
  intro i;refine aL (a ((i-1)/2)) λx h hx=>cR (TR.J4 ..) ?_;by_cases hi:i=0
  .exact cR (if_pos hi) (bW _ (.inl rfl) (λj=>(Dr (v:=au) hi j).trans (cR (Ds ..) rfl)))
  .refine cR (if_neg hi) (bW x hx (λj=> ?_));have e:=Ds j;by_cases p:i %2=0
   .refine cR (if_pos p) ?_;exact(uD (l:= .nil) (r:= .nil) (x:=x) hi (cR (if_pos p) (⟨rfl,h⟩)) j).trans (cR e rfl)
   .refine cR (if_neg p) ?_;exact(uD (l:= .nil) (r:= .nil) (x:=x) hi (cR (if_neg p) (⟨rfl,h⟩)) j).trans (cR e rfl)
theorem TR.uE o:∀t i,∃x:Option O,(x=af o\/x=au)/\∀j,(TR.ins o t i).get j=if j=i then x else t.get j:=by
 intro t
 induction t with
 |nil=>exact λi=>TR.NS o 30 i
 |node v l r a b=>
  intro i;refine cR (TR.ins_node ..) ?_;by_cases hi:i=0
  .refine cR (if_pos hi) ?_;exact bW _ (.inl rfl) (Dr hi)
  .refine cR (if_neg hi) ?_;by_cases p:i %2=0
   .exact cR (if_pos p) (aL (b ((i-1)/2)) λx h hx=>bW x hx (uD hi (cR (if_pos p) (⟨rfl,h⟩))))
   .exact cR (if_neg p) (aL (a ((i-1)/2)) λx h hx=>bW x hx (uD hi (cR (if_neg p) (⟨rfl,h⟩))))
theorem HT.get_eq (t:HT) i:t.get i=if i/16384=t.xy then TR.get t.cur (i %16384) else TR.get (t.old (i/16384)) (i %16384):=by
 refine(?_:(ah (TR.get (t.old (i/16384)) (i %16384)) (TR.get t.cur (i %16384)) (ak (i/16384) t.xy):Option O)=_)
 induction e:ak (i/16384) t.xy using zB with
 |true=>exact cR (if_pos (aH e)) rfl
 |false=>exact cR (if_neg (fS e)) rfl
theorem J5 f j t i:upd f j t i=if i=j then t else f i:=by
 refine(?_:(ah (f i) t (ak i j):TR)=_)
 induction e:ak i j using zB with
 |true=>exact cR (if_pos (aH e)) rfl
 |false=>exact cR (if_neg (fS e)) rfl
theorem HT.SP o t i:HT.ins o t i=if i/16384=t.xy then⟨t.old,TR.ins o t.cur (i %16384),t.xy⟩ else⟨upd t.old (i/16384) (TR.ins o (t.old (i/16384)) (i %16384)),t.cur,t.xy⟩:=by
 refine(?_:(ah ⟨upd t.old (i/16384) (TR.ins o (t.old (i/16384)) (i %16384)),t.cur,t.xy⟩ ⟨t.old,TR.ins o t.cur (i %16384),t.xy⟩ (ak (i/16384) t.xy):HT)=_)
 induction e:ak (i/16384) t.xy using zB with
 |true=>exact cR (if_pos (aH e)) rfl
 |false=>exact cR (if_neg (fS e)) rfl
theorem yK (h:j/16384=i/16384):(j %16384=i %16384)↔(j=i):=⟨λq=>(rL j 16384).symm.trans ((congr (congrArg (λa b=>16384*a+b) h) q).trans (rL i 16384)),λq=>cR q rfl⟩
theorem HT.uE o t i:∃x:Option O,(x=af o\/x=au)/\∀j,(HT.ins o t i).get j=if j=i then x else t.get j:=by
 refine cR (HT.SP ..) ?_;by_cases hi:i/16384=t.xy
 .refine cR (if_pos hi) (aL (TR.uE o t.cur (i %16384)) λx h hx=>bW x hx (λj=>(cR (HT.get_eq ..) (cR (HT.get_eq ..) ?_))));by_cases a:j/16384=t.xy
  .exact cR (if_pos a) (cR (if_pos a) (cR (h ..) (cR (NR (yK (a.trans hi.symm))) rfl)))
  .rw [if_neg a,if_neg a,if_neg λq=>a (by exact cR q (cR hi rfl))]
 .refine cR (if_neg hi) (aL (TR.uE o (t.old (i/16384)) (i %16384)) λx h hx=>bW x hx (λj=>(cR (HT.get_eq ..) (cR (HT.get_eq ..) ?_))));by_cases a:j/16384=t.xy
  .rw [if_pos a,if_pos a,if_neg λq=>hi (by exact cL q (cR a rfl))]
  .refine cR (if_neg a) (cR (if_neg a) ((?_:TR.get (upd _ _ _ _) _=_)));refine cR (J5 ..) ?_;by_cases b:j/16384=i/16384
   .exact cR (if_pos b) (cR (h ..) (cR (NR (yK b)) (cR b rfl)))
   .rw [if_neg b,if_neg λq=>b (by exact cR q rfl)]
theorem HT.get_ins t {i j} (e:(HT.ins o t i).get j=af o'):(j=i/\o'=o)\/(j≠i/\t.get j=af o'):=by
 refine aL (HT.uE o t i) λx h hx=> ?_;rw [h] at e;by_cases q:j=i
 .rw [if_pos q] at e;exact .inl ⟨q,hx.elim (λhx=>aF (e.symm.trans hx)) λhx=>fn (hx.symm.trans e)⟩
 .rw [if_neg q] at e;exact .inr ⟨q,e⟩
theorem HT.vU t (a:j≠i) (e:t.get j=af o'):(HT.ins o t i).get j=af o':=by
 refine aL (HT.uE o t i) λx h hx=>cR (h ..) (cR (if_neg a) ?_);exact e
theorem HT.J6 {t:HT} (e:(t.jump d).get i=af o):t.get i=af o:=by
 rw [HT.get_eq] at e⊢;have e:(if i/16384=t.xy+1 then TR.get .nil (i %16384) else TR.get (upd t.old t.xy (ah t.cur .nil d) (i/16384)) (i %16384))=af o:=e;by_cases h1:i/16384=t.xy+1
 .rw [if_pos h1] at e;exact fn e
 .rw [if_neg h1,J5] at e;by_cases h:i/16384=t.xy
  .rw [if_pos h] at e⊢
   induction d using zB with
   |false=>exact e
   |true=>exact fn e
  .rw [if_neg h] at e⊢;exact e
theorem lC (h:qL (c::r)=ao):c<128/\2<c/\qL r=true:=by
 have h:(ah aj (ah aj (qL r) (bI 2 c)) (bI c 128):Bool)=true:=h
 induction h1:bI c 128 using zB with
 |false=>rw [h1] at h;exact ff h
 |true=>
  rw [h1] at h
  induction h2:bI 2 c using zB with
  |false=>rw [h2] at h;exact ff h
  |true=>rw [h2] at h;exact iU (cH.mp h1) (cH.mp h2) h
theorem digit_eq (a:c<128) (b:d<128) (e:c+128*m=d+128*n):m=n/\c=d:=
 have h:=(yj a).symm.trans (((Nat.add_mul_mod_self_left c 128 m).symm.trans (congrArg (· %128) e)).trans ((Nat.add_mul_mod_self_left d 128 n).trans (yj b)))
 ⟨Nat.eq_of_mul_eq_mul_left (by decide) (Nat.add_left_cancel (h▸e:d+128*m=d+128*n)),h⟩
theorem Dt (a:2<c) (e:c+128*m=0):False:=by lia
theorem NU:∀a b,qL a=ao->qL b=ao->JA a=JA b->a=b:=by
 intro a
 induction a with
 |nil=>
  intro b _ hb e;rcases b with _|⟨c,r⟩
  .rfl
  .exact(Dt (lC hb).2.1 (m:=JA r) e.symm).elim
 |cons c r g=>
  intro b f hb e;rcases b with _|⟨d,q⟩
  .exact(Dt (lC f).2.1 (m:=JA r) e).elim
  exact f7 (digit_eq (m:=JA r) (n:=JA q) (lC f).1 (lC hb).1 e) λh1 h2=>cR h2 (cR (g q (lC f).2.2 (lC hb).2.2 h1) rfl)
theorem gR (hx:bg x=ao) (hy:bg y=ao) (e:nm x=nm y):x=y:=by
 obtain⟨x⟩:=x;obtain⟨y⟩:=y;exact congrArg Str.mk (Array.toList_inj.mp (NU _ _ hx hy e))
set_option backward.match.sparseCases false
structure dw where
 prog:Program
 w:World
 h₀:Heap
 tabs:List Addr
 lam:Nat->mu->Prop
 fld:Addr->Str->Prop
 ql:Addr->Nat->Nat->Option Str
 jL:List (Str×aN)->Option (Addr×Str)
structure Wd where
 ρ:Nat->Addr
 role:Addr->Option Nat
 ua:Nat->Nat
noncomputable def oE (n:Nat):Value:=match n with
 |0=> .builtin "len"|1=> .type "range"|2=> .type "bytes"|3=> .type "bytearray"|4=> .type "tuple"|5=> .type "list"|6=> .type "dict"|7=> .type "set"|8=> .builtin "sorted"
 |9=> .type "zip"|10=> .type "enumerate"|11=> .builtin "sum"|12=> .builtin "max"|13=> .builtin "min"|14=> .builtin "abs"|15=> .type "int"|16=> .builtin "chr"|17=> .builtin "ord"
 |_=> .none
noncomputable abbrev gf (items:Array Value) (ep:Nat):Obj:={cls:= .type "tuple",data:= .seq items ep}
noncomputable abbrev gn (items:Array Value) (ep:Nat):Obj:={cls:= .type "list",data:= .seq items ep}
noncomputable abbrev cJ (es:Array aV) (ep:Nat):Obj:={cls:= .type "dict",data:= .dict es ep}
noncomputable abbrev gV (b:Array UInt8):Obj:={cls:= .type "bytearray",data:= .bytearray b 0}
noncomputable abbrev qQ (c dx:Addr):Obj:={cls:= .ref c,dict:=af dx,data:= .plain}
noncomputable def strAt:Option Value->Bool
 |some (.str ..)=>ao
 |_=>aj
def d9 (o:Obj):Bool:=match o.data with
 | .seq .. =>ao
 | .func _=>ao
 | .fields vs=>strAt vs[1]?
 |_=>aj
theorem vV (a:o.data= .fields vs) (h:vs[1]? =af (.str q t)):d9 o=true:=by
 unfold d9;refine cR a ?_;dsimp only;refine cR h ?_;rfl
section
variable (X:dw) (g:Heap) (w:Wd) (n:Nat)
mutual
inductive VR:V->Value->Prop where
 |none:VR di .none
 |bool (b:Bool):VR (vBool b) (.bool b)
 |nat (k:Nat) (t:Tok):VR (aX k) (.int (aZ k) t)
 |neg (k:Nat) (t:Tok):VR (qJ (k+1)) (.int (Int.negSucc k) t)
 |str (l:List Nat) (t:Tok) (hn:l.length<=1000000):VR (vStr l) (.str ⟨l.toArray⟩ t)
 |bytes (b:Array UInt8) (t:Tok) (hn:b.size<=1000000):VR (fj (b.toList.map bU)) (.bytes b t)
 |tup (xs:List V) (a:Addr) (items:Array Value) (ep:Nat) (hr:w.role a=oM) (ht:a∉X.tabs) (hg:g.get? a=af (gf items ep)) (hn:items.size<=1000000) (hs:ef xs items.toList):VR (dJ xs) (.ref a)
 |ref (i:Nat) (hi:i<n):VR (bP i) (.ref (w.ρ i))
 |fn (a:Addr):VR (bM a) (.ref a)
 |cls (a:Addr):VR (je a) (.ref a)
 |bi (k:Nat):VR (BN k) (oE k)
 |lam (k:Nat) (a:Addr) (o:Obj) (fd:mu) (c:Addr) (hr:w.role a=oM) (ht:a∉X.tabs) (hg:g.get? a=af o) (hd:o.data= .func fd) (hc:fd.code= .ref c) (hrc:w.role c=oM) (htc:c∉X.tabs) (hrec:g.CodeRec (.ref c) fd.qualname) (hl:X.lam k fd):VR (NG k) (.ref a)
inductive ef:List V->List Value->Prop where
 |nil:ef [] []
 |cons (v:V) (x:Value) (vs:List V) (xs:List Value) (hv:VR v x) (hs:ef vs xs):ef (v::vs) (x::xs)
end
end
structure oV (X:dw) (g:Heap) (w:Wd) (n:Nat) (g':Heap) (w':Wd) (n':Nat):Prop where
 oi:n<=n'
 ρ:∀i,i<n->w'.ρ i=w.ρ i
 ua:∀i,i<n->w'.ua i=w.ua i
 fix:∀a o,w.role a=au->a∉X.tabs->d9 o=ao->g.get? a=af o->w'.role a=au/\g'.get? a=af o
section
variable {X:dw} {g g':Heap} {w w':Wd} {n n':Nat}
theorem VR.mono (k:oV X g w n g' w' n') (h:VR X g w n v x):VR X g' w' n' v x:=
 VR.rec (motive_1:=λv x m=>VR X g' w' n' v x) (motive_2:=λvs xs m=>ef X g' w' n' vs xs)
  .none (λb=> .bool b) (λk t=> .nat k t) (λk t=> .neg k t) (λl t hn=> .str l t hn) (λb t hn=> .bytes b t hn)
  (λxs a items ep r ht u hn m y=>let⟨p,q⟩:=k.fix a _ r ht rfl u; .tup xs a items ep p ht q hn y)
  (λi hi=>k.ρ i hi▸VR.ref i (aQ hi k.oi)) (λa=> .fn a) (λa=> .cls a) (λk=> .bi k)
  (λj a o fd c r ht u B E z d f hl=>by
   refine aC (k.fix a o r ht (by unfold d9;exact cR B rfl) u) λq p=>pg f λc' C vs t D e h1 h2=> ?_;cases e;exact aC (k.fix c C z d (vV h2 D) h1) λG I=> .lam j a o fd c p ht q B E I d (uh c C vs t rfl G h2 D) hl)
  .nil (λv x vs xs m m y A=> .cons v x vs xs y A) h
theorem ef.mono (k:oV X g w n g' w' n') (h:ef X g w n vs xs):ef X g' w' n' vs xs:=by
 induction vs generalizing xs with
 |nil=>cases h;exact .nil
 |cons v vs a=>cases h with|cons _ x _ xs hv b=>exact .cons _ _ _ _ (hv.mono k) (a b)
theorem ef.length (h:ef X g w n vs xs):vs.length=xs.length:=by
 induction vs generalizing xs with
 |nil=>cases h;rfl
 |cons v vs c=>cases h with|cons _ x _ xs hv d=>exact(λ{a b}=>Iff.mpr Nat.succ_inj) (c d)
theorem ef.append (h:ef X g w n vs xs) (h':ef X g w n us ys):ef X g w n (vs++us) (xs++ys):=by
 induction vs generalizing xs with
 |nil=>cases h;exact h'
 |cons v vs a=>cases h with|cons _ x _ xs hv b=>exact .cons _ _ _ _ hv (a b)
theorem ef.get (h:ef X g w n vs xs) {i:Nat} (e:vs[i]? =af v):∃x,xs[i]? =af x/\VR X g w n v x:=by
 induction vs generalizing xs i with
 |nil=>exact fn e
 |cons u vs a=>
  cases h with
  |cons _ x _ xs hv b=>
   induction i using zN with
   |zero=>injection e with e;subst e;exact bW x rfl hv
   |succ i=>exact a b e
theorem ef.get_none (h:ef X g w n vs xs) {i:Nat} (e:vs[i]? =au):xs[i]? =none:=by
 rw [jF] at e⊢;refine cL h.length ?_;exact e
theorem ef.set (h:ef X g w n vs xs) i (hv:VR X g w n v x):ef X g w n (vs.set i v) (xs.set i x):=by
 induction vs generalizing xs i with
 |nil=>cases h;exact .nil
 |cons u vs b=>
  cases h with
  |cons _ y _ ys hu a=>
   induction i using zN with
   |zero=>exact .cons _ _ _ _ hv a
   |succ i=>exact .cons _ _ _ _ hu (b a i)
theorem ef.take (h:ef X g w n vs xs) i:ef X g w n (vs.take i) (xs.take i):=by
 induction vs generalizing xs i with
 |nil=>cases h;simpa using ef.nil
 |cons u vs a=>
  cases h with
  |cons _ y _ ys hu b=>
   induction i using zN with
   |zero=>exact .nil
   |succ i=>exact .cons _ _ _ _ hu (a b i)
theorem ef.drop (h:ef X g w n vs xs) i:ef X g w n (vs.drop i) (xs.drop i):=by
 induction vs generalizing xs i with
 |nil=>cases h;simpa using ef.nil
 |cons u vs b=>
  cases h with
  |cons _ y _ ys hu a=>
   induction i using zN with
   |zero=>exact .cons _ _ _ _ hu a
   |succ i=>exact b a i
end
inductive iR {α β:Type} (R:α->β->Prop):List α->List β->Prop where
 |nil:iR R [] []
 |cons {a:α} {b:β} {l:List α} {m:List β} (h:R a b) (t:iR R l m):iR R (a::l) (b::m)
theorem iR.mono {R c:α->β->Prop} (k:∀a b,R a b->c a b) (h:iR R l m):iR c l m:=by
 induction h with
 |nil=>exact .nil
 |cons h _ d=>exact .cons (k _ _ h) d
theorem iR.length (h:iR R l m):l.length=m.length:=by
 induction h with
 |nil=>rfl
 |cons _ _ c=>exact(λ{a b}=>Iff.mpr Nat.succ_inj) c
theorem iR.append {l l'} {m m'} (h:iR R l m) (h':iR R l' m'):iR R (l++l') (m++m'):=by
 induction h with
 |nil=>exact h'
 |cons x _ a=>exact .cons x a
theorem iR.get {l:List α} {m:List β} (h:iR R l m) {i:Nat} (e:l[i]? =af a):∃b,m[i]? =af b/\R a b:=by
 induction h generalizing i with
 |nil=>exact fn e
 |cons x _ c=>
  induction i using zN with
  |zero=>injection e with e;subst e;exact bW _ rfl x
  |succ i=>exact c e
theorem iR.SQ {l:List α} {m:List β} (h:iR R l m) (hb:b∈m):∃a∈l,R a b:=by
 induction h with
 |nil=>cases hb
 |cons x _ c=>
  rcases aT.mp hb with rfl|hb
  .exact bW _ aE x
  .refine dM (c hb) λa d r=> ?_;exact bW a (aD _ d) r
structure vW (X:dw) (g:Heap) (w:Wd) (n:Nat) (p:Nat×V) (e:aV):Prop where
 key:∃x t,e.key= .str x t/\bg x=ao/\nm x=p.1
 val:VR X g w n p.2 e.val
abbrev lU (X:dw) (g:Heap) (w:Wd) (n:Nat) (fs:List (Nat×V)) (es:List aV):Prop:=iR (vW X g w n) fs es
def hashOf (X:dw) (v:V):Int:=if v.t=2 then hashInt (dS v) else if v.t=5 then tupleKeyHash (intKind X.prog X.w) (v.xs.map dS) else if v.t=4 then W.hashW X.w.params (.bytes (v.l.map r9)) else hashStr X.w ⟨v.l.toArray⟩
structure qS (X:dw) (g:Heap) (w:Wd) (n:Nat) (p:V×V) (e:aV):Prop where
 key:VR X g w n p.1 e.key
 val:VR X g w n p.2 e.val
 hash:e.hash=hashOf X p.1
structure gS (X:dw) (g:Heap) (w:Wd) (n:Nat) (kvs:List (V×V)) (es:List aV):Prop where
 all:iR (qS X g w n) kvs es
 kind:∃t,∀p∈kvs,p.1.t=t/\isKey p.1=ao
 nodup:(kvs.map eB).Nodup
inductive Rep (X:dw) (g:Heap) (w:Wd) (n i:Nat):O->Prop where
 |list (xs:List V) (items:Array Value) (ep:Nat) (hr:w.role (w.ρ i)=af i) (hg:g.get? (w.ρ i)=af (gn items ep)) (hn:items.size<=1000000) (hs:ef X g w n xs items.toList):Rep X g w n i (bL xs)
 |dict (kvs:List (V×V)) (es:Array aV) (ep:Nat) (hr:w.role (w.ρ i)=af i) (hg:g.get? (w.ρ i)=af (cJ es ep)) (hn:es.size<=1000000) (hd:gS X g w n kvs es.toList) (c:Nat) (hv:ep=w.ua i+c):Rep X g w n i (dZ kvs c)
 |E3 (b:Array UInt8) (hr:w.role (w.ρ i)=af i) (hg:g.get? (w.ρ i)=af (gV b)) (hn:b.size<=1000000):Rep X g w n i (yx (b.toList.map bU))
 |inst (c:Addr) (fs:List (Nat×V)) (dx:Addr) (es:Array aV) (ep:Nat) (hr:w.role (w.ρ i)=af i) (hrd:w.role dx=af i) (hne:dx≠w.ρ i) (hg:g.get? (w.ρ i)=af (qQ c dx))
  (hgd:g.get? dx=af (cJ es ep)) (hf:lU X g w n fs es.toList) (hz:es.size<=1000000) (hfl:∀x,bg x=ao->find (nm x) fs≠au->X.fld c x):Rep X g w n i (ux c fs)
 |zip (j1 k1 j2 k2:Nat) (TI TO i1 i2:Addr) (a b:Value) (hr:w.role (w.ρ i)=af i) (r1:w.role TI=af i) (r2:w.role TO=af i) (r3:w.role i1=af i) (r4:w.role i2=af i) (D:TI≠TO/\TI≠w.ρ i/\TO≠w.ρ i/\i1≠i2) (hj:j1<n/\j2<n/\j1≠i/\j2≠i)
  (hz:IsZip g (w.ρ i) TI TO .none) (h1:IsPair g TI (.ref i1) (.ref i2)) (h2:IsPair g TO a b) (h3:g.IsListIter i1 (w.ρ j1) k1) (h4:g.IsListIter i2 (w.ρ j2) k2):Rep X g w n i (EM j1 k1 j2 k2)
 |HF (xs:List V) (j2 k2:Nat) (TI TO i1 i2 t:Addr) (items:Array Value) (ep m:Nat) (a b v f:Value) (hr:w.role (w.ρ i)=af i) (r1:w.role TI=af i) (r2:w.role TO=af i) (r3:w.role i1=af i) (r4:w.role i2=af i) (D:TI≠TO/\TI≠w.ρ i/\TO≠w.ρ i/\i1≠i2) (hj:j2<n/\j2≠i)
  (hz:g.get? (w.ρ i)=af {cls:= .type "zip",data:= .fields #[v,f,.bool aj,.ref TI,.ref TO]}) (h1:IsPair g TI (.ref i1) (.ref i2)) (h2:IsPair g TO a b) (ht:w.role t=au/\t∉X.tabs) (hg:g.get? t=af (gf items ep)) (h3:g.IsTupleIter i1 t m) (hs:ef X g w n xs (items.toList.drop m)) (h4:g.IsListIter i2 (w.ρ j2) k2)
  (hv:(v= .none/\f= .bool aj)\/∃(T:Addr) (fb:Bool) (its:Array Value) (Vj:Nat),v=rawInt (T:Int)/\f= .bool fb/\w.role T=au/\T∉X.tabs/\g.get? T=af (gf its Vj)):Rep X g w n i (uy xs j2 k2)
 |junk (hr:w.role (w.ρ i)=af i):Rep X g w n i qK
 |fix (xs:List V) (items:Array Value) (ep:Nat) (hr:w.role (w.ρ i)=au) (ht:w.ρ i∉X.tabs) (hg:g.get? (w.ρ i)=af (gn items ep)) (hn:items.size<=1000000) (hs:ef X g w n xs items.toList):Rep X g w n i (yw xs)
structure bw (X:dw):Prop
section
variable {X:dw} {g g':Heap} {w w':Wd} {n n':Nat}
theorem vW.mono (k:oV X g w n g' w' n') (h:vW X g w n p e):vW X g' w' n' p e:=⟨h.key,h.val.mono k⟩
theorem qS.mono (k:oV X g w n g' w' n') (h:qS X g w n p e):qS X g' w' n' p e:=⟨h.key.mono k,h.val.mono k,h.hash⟩
theorem gS.mono (k:oV X g w n g' w' n') (h:gS X g w n kvs es):gS X g' w' n' kvs es:=⟨h.all.mono λa a=>qS.mono k,h.kind,h.nodup⟩
theorem Rep.keep (ax:bw X) (k:oV X g w n g' w' n') (hi:i<n) (own:∀a,w.role a=af i->w'.role a=af i) (d:∀a o,w.role a=af i->g.get? a=af o->g'.get? a=af o) (h:Rep X g w n i o):Rep X g' w' n' i o:=by
 have e:=k.ρ i hi
 induction h using Mine.Rep.casesOn with
 |list xs items ep j l hn x=>exact .list xs items ep (e▸own _ j) (e▸d _ _ j l) hn (x.mono k)
 |dict G I ep j l hn hd c hv=>exact .dict G I ep (e▸own _ j) (e▸d _ _ j l) hn (hd.mono k) c (cR (k.ua i hi) hv)
 |E3 b' j l hn=>exact .E3 b' (e▸own _ j) (e▸d _ _ j l) hn
 |inst c fs dx I ep j y J l K hf hz L=>exact .inst c fs dx I ep (e▸own _ j) (own _ y) (e▸J) (e▸d _ _ j l) (d _ _ y K) (hf.mono λU U=>vW.mono k) hz L
 |zip j1 k1 z M N O P Q a b j A B C E D p hz h1 h2 r u=>
  refine aL r λR r S=>aL u λV u W=> ?_;exact .zip j1 k1 z M N O P Q a b (e▸own _ j) (own _ A) (own _ B) (own _ C) (own _ E) (e▸D) (iU (aQ p.1 k.oi) (aQ p.2.1 k.oi) p.2.2) (e▸d _ _ j hz) (d _ _ A h1) (d _ _ B h2)
   (bW R (d _ _ C S) ((k.ρ j1 p.1).symm▸r)) (bW V (d _ _ E W) ((k.ρ z p.2.1).symm▸u))
 |HF xs z M N O P Q t items ep m a b v f j A B C E D p hz h1 h2 ht l r x u hv=>
  refine aL r λR r S=>aL u λV u W=>aC (k.fix t _ ht.1 ht.2 rfl l) λY Z=> ?_;refine .HF xs z M N O P Q t items ep m a b v f (e▸own _ j) (own _ A) (own _ B) (own _ C) (own _ E) (e▸D) ⟨aQ p.1 k.oi,p.2⟩ (e▸d _ _ j hz) (d _ _ A h1) (d _ _ B h2) ⟨Z,ht.2⟩ Y
   (bW R (d _ _ C S) r) (x.mono k) (bW V (d _ _ E W) ((k.ρ z p.1).symm▸u)) (hv.imp (λq=>q) λqq=> ?_)
  obtain⟨T,fb,its,Vj,q1,q2,q3,q4,q5⟩:=qq;exact aC (k.fix T _ q3 q4 rfl q5) λu2 u1=>⟨T,fb,its,Vj,q1,q2,u1,q4,u2⟩
 |junk j=>exact .junk (e▸own _ j)
 |fix xs items ep j ht l hn x=>
  exact aC (k.fix _ _ j ht rfl l) λY Z=> .fix xs items ep (e▸Z) (e▸ht) (e▸Y) hn (x.mono k)
theorem Rep.role (h:Rep X g w n i o) (a:o.t≠8):w.role (w.ρ i)=af i:=by induction h using Mine.Rep.casesOn<;>first|assumption|exact absurd rfl a
end
structure Gq (X:dw) (g:Heap) (w:Wd) (P:Addr):Prop where
 low:P<X.h₀.objs.size
 tab:∃ps,g.get? P=af ⟨.none,au,.fields ps,#[]⟩/\ni ps.toList/\∀pos q cv,X.ql P pos.line pos.col=af q->codeAmong pos ps.toList=af cv->∃c,cv= .ref c/\w.role c=au/\c∉X.tabs/\g.CodeRec (.ref c) q
theorem Gq.keep (h:Gq X g w P) (k:oV X g w n g' w' n') (l:∀o,P<X.h₀.objs.size->g.get? P=af o->g'.get? P=af o):Gq X g' w' P:=by
 obtain⟨a,m,h1,h2,p⟩:=h;refine⟨a,m,l _ a h1,h2,λpos q r u v=> ?_⟩;refine Sx (p pos q r u v) λc d=> ?_;subst d;intro x ht b;refine pg b λc' f vs t i e y j=> ?_;cases e;exact aC (k.fix c f x ht (vV j i) y) λz A=>⟨c,rfl,A,ht,c,f,vs,t,rfl,z,j,i⟩
structure St (X:dw) (w:Wd) (h:H) (s:Shared):Prop where
 rep:∀i o,h.l.get i=af o->i<h.n/\Rep X s.heap w h.n i o
 lim:∀a i,w.role a=af i->i<h.n/\X.h₀.objs.size<=a/\a<s.heap.objs.size
 base:∀a o,X.h₀.get? a=af o->a∉X.tabs->s.heap.get? a=af o
 size:X.h₀.objs.size<=s.heap.objs.size
 tab:∀P∈X.tabs,Gq X s.heap w P
structure Ext (X:dw) (F:Addr->Prop) (w:Wd) (n:Nat) (s:Shared) (w':Wd) (n':Nat) (s':Shared):Prop where
 size:s.heap.objs.size<=s'.heap.objs.size
 oi:n<=n'
 ρ:∀i,i<n->w'.ρ i=w.ρ i
 ua:∀i,i<n->w'.ua i=w.ua i
 role:∀a,a<s.heap.objs.size->w'.role a=w.role a
 old:∀a o,w.role a=au->a∉X.tabs->¬F a->s.heap.get? a=af o->s'.heap.get? a=af o
 gens:s'.gens=s.gens
 os:s'.os=s.os
abbrev cV:Addr->Prop:=λU=>False
section
variable {X:dw} {F:Addr->Prop} {w w' w'':Wd} {n n' n'':Nat} {s s' s'':Shared}
theorem Ext.refl:Ext X F w n s w n s:=⟨bu _,bu _,λa a=>rfl,λa a=>rfl,λa a=>rfl,λa a a a a e=>e,rfl,rfl⟩
theorem Ext.trans (x:Ext X F w n s w' n' s') (y:Ext X F w' n' s' w'' n'' s''):Ext X F w n s w'' n'' s'':=
 ⟨aI x.size y.size,aI x.oi y.oi,λi hi=>(y.ρ i (aQ hi x.oi)).trans (x.ρ i hi),λi hi=>(y.ua i (aQ hi x.oi)).trans (x.ua i hi),
  λa b=>(y.role a (aQ b x.size)).trans (x.role a b),
  λa o h1 h2 c e=>y.old a o ((x.role a (bk e)).trans h1) h2 c (x.old a o h1 h2 c e),y.gens.trans x.gens,y.os.trans x.os⟩
theorem Ext.weaken (x:Ext X F w n s w' n' s') (k:∀a,F a->F' a):Ext X F' w n s w' n' s':=
 ⟨x.size,x.oi,x.ρ,x.ua,x.role,λa o h1 h2 b e=>x.old a o h1 h2 (λh=>b (k a h)) e,x.gens,x.os⟩
theorem Ext.keep (x:Ext X F w n s w' n' s') (k:∀a o,F a->s.heap.get? a=af o->d9 o=aj):oV X s.heap w n s'.heap w' n':=
 ⟨x.oi,x.ρ,x.ua,λa o h1 h2 b e=>⟨(x.role a (bk e)).trans h1,x.old a o h1 h2 (λc=>by rw [k a o c e] at b;exact ff b) e⟩⟩
theorem Ext.dW (x:Ext X cV w n s w' n' s'):oV X s.heap w n s'.heap w' n':=x.keep λa a h=>h.elim
end
section
variable {X:dw} {F:Addr->Prop} {w:Wd} {h:H} {s:Shared}
theorem St.grow (l:bw X) (f:St X w h s) {s'} (b:s.heap.objs.size<=s'.heap.objs.size) (hF:∀a o,F a->s.heap.get? a=af o->d9 o=aj) (d:∀a,F a->w.role a=au/\X.h₀.objs.size<=a)
 (old:∀a o,¬F a->s.heap.get? a=af o->s'.heap.get? a=af o) (j:s'.gens=s.gens) (os:s'.os=s.os):St X w h s'/\Ext X F w h.n s w h.n s':=by
 have x:Ext X F w h.n s w h.n s':=⟨b,bu _,λc c=>rfl,λc c=>rfl,λc c=>rfl,λa o c c m e=>old a o m e,j,os⟩;refine⟨⟨λi o e=> ?_,λa i e=> ?_,λa o e ht=> ?_,aI f.size b,λP p=>(f.tab P p).keep (x.keep hF) λo hl e=>old P o (λk=>absurd hl (bD.mpr (d P k).2)) e⟩,x⟩
 .refine aC (f.rep i o e) λr hi=>⟨hi, ?_⟩;have q:∀a,w.role a=af i->¬F a:=λa h1 h2=>by rw [(d a h2).1] at h1;exact fn h1
  exact r.keep l (x.keep hF) hi (λc h=>h) λa o h1 e=>old a o (q a h1) e
 .refine eY (f.lim a i e) λt u a3=> ?_;exact iU u t (aQ a3 b)
 .exact old a o (λk=>absurd (bk e) (bD.mpr (d a k).2)) (f.base a o e ht)
end
section
variable {X:dw} {w:Wd} {h:H} {s:Shared}
theorem St.put (u:bw X) (d:St X w h s) (hi:h.l.get i=af o) (c:s'.heap.objs.size=s.heap.objs.size) (old:∀a m,w.role a≠af i->s.heap.get? a=af m->s'.heap.get? a=af m)
 (p:s'.gens=s.gens) (os:s'.os=s.os) (r:oV X s.heap w h.n s'.heap w h.n->Rep X s'.heap w h.n i o'):
 St X w ⟨HT.ins o' h.l i,h.n⟩ s'/\Ext X cV w h.n s w h.n s':=by
 have x:Ext X cV w h.n s w h.n s':=⟨cX c.symm,bu _,λf f=>rfl,λf f=>rfl,λf f=>rfl,λa o h1 f f e=>old a o (cR h1 (λh=>fn h)) e,p,os⟩;have k:=x.dW;refine⟨⟨λj v e=> ?_,λa j e=> ?_,λa m e ht=> ?_,aI d.size (cX c.symm),λP y=>(d.tab P y).keep k λo hl e=>old P o (λz=>absurd hl (bD.mpr (d.lim P i z).2.1)) e⟩,x⟩
 .rcases HT.get_ins _ e with⟨rfl,rfl⟩|⟨q,e⟩
  .exact⟨(d.rep _ _ hi).1,r k⟩
  .exact aC (d.rep j v e) λA t=>⟨t,A.keep u k t (λf h=>h) λa m h1 e=>old a m (cR h1 (λh=>q (aF h))) e⟩
 .refine eY (d.lim a j e) λB C a3=> ?_;exact iU C B (c▸a3)
 .refine old a m (λh1=> ?_) (d.base a m e ht);exact absurd (bk e) (bD.mpr (d.lim a i h1).2.1)
theorem St.new (B:bw X) (f:St X w h s) {o:O} {b:Addr} {own:Addr->Bool} (hb:own b=ao) {s':Shared} (c:s.heap.objs.size<=s'.heap.objs.size) (d:∀a,own a=ao->s.heap.objs.size<=a/\a<s'.heap.objs.size)
 (old:∀a m,s.heap.get? a=af m->s'.heap.get? a=af m) (q:s'.gens=s.gens) (os:s'.os=s.os) (v:Nat) (w':Wd) (C:w'=⟨λi=>if i=h.n then b else w.ρ i,λa=>if own a=ao then af h.n else w.role a,λi=>if i=h.n then v else w.ua i⟩)
 (r:oV X s.heap w h.n s'.heap w' (h.n+1)->w'.role b=af h.n->w'.ρ h.n=b->w'.ua h.n=v->Rep X s'.heap w' (h.n+1) h.n o):
 St X w' ⟨HT.ins o h.l h.n,h.n+1⟩ s'/\Ext X cV w h.n s w' (h.n+1) s':=by
 subst C;have t:∀a,a<s.heap.objs.size->own a≠true:=λa z h1=>absurd z (bD.mpr (d a h1).1);have x:Ext X cV w h.n s ⟨λi=>if i=h.n then b else w.ρ i,λa=>if own a=ao then af h.n else w.role a,λi=>if i=h.n then v else w.ua i⟩ (h.n+1) s':=
  ⟨c,gU _,λi hi=>if_neg (cj hi),λi hi=>if_neg (cj hi),λa z=>if_neg (t a z),λa o u u u e=>old a o e,q,os⟩
 have k:=x.dW;refine⟨⟨λj D e=> ?_,λa j e=> ?_,λa m e ht=>old a m (f.base a m e ht),aI f.size c,λP E=>(f.tab P E).keep k λo u e=>old P o e⟩,x⟩
 .rcases HT.get_ins _ e with⟨rfl,rfl⟩|⟨G,e⟩
  .exact⟨bN _,r k (if_pos hb) (if_pos rfl) (if_pos rfl)⟩
  .refine aC (f.rep j D e) λI A=>⟨cK A,I.keep B k A (λa h1=> ?_) λa m u e=>old a m e⟩;refine(?_:(if own a=ao then af h.n else w.role a)=af j);refine cR (if_neg (t a (f.lim a j h1).2.2)) ?_;exact h1
 .have p:(if own a=ao then af h.n else w.role a)=af j:=e;by_cases y:own a=ao
  .rw [if_pos y] at p;injection p with p;subst p
   exact iU (bN _) (aI f.size (d a y).1) ((d a y).2)
  .rw [if_neg y] at p;exact eY (f.lim a j p) λJ K a3=>iU (cK K) J (aQ a3 c)
end
set_option backward.match.sparseCases true
def VRk (X:dw) (g:Heap) (w:Wd) (n:Nat) (v:V) (y:Value):Nat->Prop
 |0=>y= .none
 |1=>∃b,y= .bool b/\v.n=ah 0 1 b
 |2=>∃t,y= .int (dS v) t/\((v.s=0/\dS v=aZ v.n)\/(v.s=1/\0<v.n/\dS v= -(v.n:Int)))
 |3=>∃t,y= .str ⟨v.l.toArray⟩ t/\v.l.length<=1000000
 |4=>∃b t,y= .bytes b t/\v.l=b.toList.map bU/\b.size<=1000000
 |5=>∃a items ep,y= .ref a/\w.role a=au/\a∉X.tabs/\g.get? a=af (gf items ep)/\items.size<=1000000/\ef X g w n v.xs items.toList
 |6=>y= .ref (w.ρ v.n)/\v.n<n
 |_=>True
def V6 (X:dw) (g:Heap) (w:Wd) (n i:Nat) (o:O):Nat->Prop
 |0=>∃dx es ep,w.role (w.ρ i)=af i/\w.role dx=af i/\dx≠w.ρ i/\g.get? (w.ρ i)=af (qQ o.c dx)/\g.get? dx=af (cJ es ep)/\lU X g w n o.fs es.toList/\es.size<=1000000/\∀x,bg x=ao->find (nm x) o.fs≠au->X.fld o.c x
 |1=>∃items ep,w.role (w.ρ i)=af i/\g.get? (w.ρ i)=af (gn items ep)/\items.size<=1000000/\ef X g w n o.xs items.toList
 |2=>∃es ep,w.role (w.ρ i)=af i/\g.get? (w.ρ i)=af (cJ es ep)/\es.size<=1000000/\gS X g w n o.kvs es.toList/\ep=w.ua i+o.c
 |3=>∃b,w.role (w.ρ i)=af i/\g.get? (w.ρ i)=af (gV b)/\b.size<=1000000/\o.bs=b.toList.map bU
 |8=>∃items ep,w.role (w.ρ i)=au/\w.ρ i∉X.tabs/\g.get? (w.ρ i)=af (gn items ep)/\items.size<=1000000/\ef X g w n o.xs items.toList
 |_=>True
section
variable {X:dw} {g:Heap} {w:Wd} {n i:Nat} {v:V} {y:Value} {o:O}
theorem VR.inv (h:VR X g w n v y):VRk X g w n v y v.t:=by
 induction h using Mine.VR.casesOn with
 |none=>exact rfl
 |bool b=>exact bW b rfl rfl
 |nat k t=>exact bW t rfl (.inl ⟨rfl,rfl⟩)
 |neg k t=>exact bW t rfl (.inr (iU rfl (jG k) rfl))
 |str l t hn=>exact bW t rfl hn
 |bytes b t hn=>exact jV b t rfl rfl hn
 |tup xs a items ep c ht d hn e=>exact⟨a,items,ep,rfl,c,ht,d,hn,e⟩
 |ref i hi=>exact⟨rfl,hi⟩
 |_=>exact trivial
theorem Rep.inv (h:Rep X g w n i o):V6 X g w n i o o.t:=by
 induction h using Mine.Rep.casesOn with
 |list xs items ep a d hn e=>exact lA items ep a d hn e
 |dict p f ep a d hn q c hv=>exact lN f ep a d hn q hv
 |E3 b a d hn=>exact qG b a d hn rfl
 |inst c u r f ep a j k d l s hz m=>exact⟨r,f,ep,a,j,k,d,l,s,hz,m⟩
 |fix xs items ep a ht d hn e=>exact lN items ep a ht d hn e
 |_=>exact trivial
theorem VR.at_ (h:VR X g w n v y) (e:v.t=t):VRk X g w n v y t:=e▸h.inv
theorem Rep.at_ (h:Rep X g w n i o) (e:o.t=t):V6 X g w n i o t:=e▸h.inv
theorem VR.cS (h:VR X g w n v y) (e:ak v.t 2=ao):∃t,y= .int (dS v) t:=let⟨t,q,_⟩:=h.at_ (aH e);⟨t,q⟩
theorem VR.E4 (h:VR X g w n v y) (e:ak v.t 2=ao):(v.s=0/\dS v=aZ v.n)\/(v.s=1/\0<v.n/\dS v= -(v.n:Int)):=let⟨_,_,q⟩:=h.at_ (aH e);q
theorem VR.p6 (h:VR X g w n v y) (e:v.t=3):∃t,y= .str ⟨v.l.toArray⟩ t/\v.l.length<=1000000:=h.at_ e
theorem VR.jI (h:VR X g w n v y) (e:v.t=4):∃b t,y= .bytes b t/\v.l=b.toList.map bU/\b.size<=1000000:=h.at_ e
theorem VR.g6 (h:VR X g w n v y) (e:v.t=5):∃a items ep,y= .ref a/\w.role a=oM/\a∉X.tabs/\g.get? a=af (gf items ep)/\items.size<=1000000/\ef X g w n v.xs items.toList:=h.at_ e
theorem VR.er (h:VR X g w n v y) (e:v.t=6):y= .ref (w.ρ v.n)/\v.n<n:=h.at_ e
theorem Rep.lV (h:Rep X g w n i o) (e:o.t=1):∃items ep,w.role (w.ρ i)=af i/\g.get? (w.ρ i)=af (gn items ep)/\items.size<=1000000/\ef X g w n o.xs items.toList:=h.at_ e
theorem Rep.kI (h:Rep X g w n i o) (e:o.t=2):∃a ep,w.role (w.ρ i)=af i/\g.get? (w.ρ i)=af (cJ a ep)/\a.size<=1000000/\gS X g w n o.kvs a.toList/\ep=w.ua i+o.c:=h.at_ e
theorem Rep.Gr (h:Rep X g w n i o) (e:o.t=3):∃b,w.role (w.ρ i)=af i/\g.get? (w.ρ i)=af (gV b)/\b.size<=1000000/\o.bs=b.toList.map bU:=h.at_ e
def canon (v:V):V:=ah (ah (ah (ah v (dJ v.xs) (ak v.t 5)) (fj v.l) (ak v.t 4)) (vStr v.l) (ak v.t 3)) (mj (dS v)) (ak v.t 2)
theorem VR.canon (h:VR X g w n v y):v=Mine.canon v:=by induction h using Mine.VR.casesOn<;>rfl
theorem VR.J8 (h:VR X g w n v y) (e:v.t=5):v=dJ v.xs:=h.canon.trans (by unfold Mine.canon;exact cR e rfl)
theorem VR.J9 (h:VR X g w n v y) (e:v.t=2):v=mj (dS v):=h.canon.trans (by unfold Mine.canon;exact cR e rfl)
theorem VR.Ka (h:VR X g w n v y) (e:v.t=3):v=vStr v.l:=h.canon.trans (by unfold Mine.canon;exact cR e rfl)
theorem VR.Du (h:VR X g w n v y) (e:v.t=4):v=fj v.l:=h.canon.trans (by unfold Mine.canon;exact cR e rfl)
theorem Rep.eqs (h:Rep X g w n i o):(o.t=1->o=bL o.xs)/\(o.t=2->o=dZ o.kvs o.c):=by
 induction h using Mine.Rep.casesOn with
 |list=>exact⟨λa=>rfl,λq=>absurd q (aY rfl:¬(1:Nat)=2)⟩
 |dict=>exact⟨λq=>absurd q (Nat.add_one_add_one_ne_one:¬(2:Nat)=1),λa=>rfl⟩
 |_=>exact⟨λq=>nn q rfl,λq=>nn q rfl⟩
theorem ef.cons_of (h:ef X g w n (v::vs) ys):∃y zs,ys=y::zs/\VR X g w n v y/\ef X g w n vs zs:=by
 cases h with
 |cons _ y _ zs a b=>exact jV y zs rfl a b
theorem ef.nil_of (h:ef X g w n [] ys):ys=[]:=by cases h;rfl
end
set_option backward.match.sparseCases false in
theorem RS {a:Type} {F:Str->Pos->Option a} {e:Expr} {r:a} (h:(match e with| .Name x p=>F x p|_=>au)=af r):∃x p,e= .Name x p/\F x p=af r:=by
 induction e using aR with
 |Name x p=>exact nv x p rfl h
 |_=>exact fn h
theorem ef.tC (h:ef X g w n [v] ys):∃y,ys=[y]/\VR X g w n v y:=let⟨y,_,e,a,b⟩:=h.cons_of;(bW y (b.nil_of▸e) a)
theorem ef.vX (h:ef X g w n [u,v] ys):∃y z,ys=[y,z]/\VR X g w n u y/\VR X g w n v z:=let⟨y,_,e,a,b⟩:=h.cons_of;let⟨z,f,c⟩:=b.tC;(jV y z (f▸e) a c)
theorem tC {F:V->Option Res} (e:(match vs with|[v]=>F v|_=>au)=af res):∃v,vs=[v]/\F v=af res:=by
 induction vs using zL with
 |nil=>exact fn e
 |cons v l=>
  induction l using zL with
  |nil=>exact bW v rfl e
  |cons=>exact fn e
theorem vX {F:V->V->Option Res} (e:(match vs with|[u,v]=>F u v|_=>au)=af res):∃u v,vs=[u,v]/\F u v=af res:=by
 induction vs using zL with
 |nil=>exact fn e
 |cons u l=>
  induction l using zL with
  |nil=>exact fn e
  |cons v l=>
   induction l using zL with
   |nil=>exact nv u v rfl e
   |cons=>exact fn e
theorem Kc {M} {Q:α->Shared->Prop} (h:∀a,Q a s):wpAny M A (pure a) Q E s:=av (h a)
end
section
open PyProof.Rows PySem.Calls
noncomputable def oG:List String:=["bytearray.__contains__","bytearray.__mod__","bytearray.__rmod__","_struct.pack_into.held","bytearray.find.held"]++Builtin.Bytes.decodersThatHold
def yL (c:Code):Bool:=match c with
 | .builtin id _=> !(oG.contains id)
 |_=>ao
def Kd (l:List (Code×Pos)):Prop:=∀x∈l,yL x.1=ao
def Clean (Γ:Ctx):Prop:=yL Γ.code=ao/\Kd Γ.below
def cG {α:Type} (M:Model) (A:Around) (t:Sem α) (Q:α->Shared->Prop) (E:Value->Shared->Prop) (s:Shared):Prop:=
 ∀Γ p,Γ.In A->Clean Γ->Sem.wp M Γ t (λa U s'=>Q a s') (λe U s'=>E e s') p s
def codeN (M:Model) (A:Around) (c:Code) (R:Result->Shared->Prop) (s:Shared):Prop:=
 ∀Γ p,Γ.code=c->Γ.Below A->Kd Γ.below->wpCode M Γ R p s
section
variable {α β:Type} {M:Model} {A:Around} {E:Value->Shared->Prop} {s:Shared}
theorem eT {Q:α->Shared->Prop} (h:wpAny M A t Q E s):cG M A t Q E s:=λb p a c=>h b p a
theorem aO {Q:α->Shared->Prop} (h:Q a s):cG M A (pure a) Q E s:=eT (av h)
theorem aW {Q c:α->Shared->Prop} {E'} (h:cG M A t Q E s) (f:∀a s,Q a s->c a s) (g:∀e s,E e s->E' e s):cG M A t c E' s:=
 λd p b i=>pO M d t (λa j s=>f a s) (λe j s=>g e s) p s (h d p b i)
theorem ay {f:α->Sem β} (h:cG M A m (λa s'=>cG M A (f a) Q E s') E s):cG M A (m>>=f) Q E s:=λc p b d=>by
 exact cR (Sem.wp_bind' ..) (pO M c m (λa g s' h'=>h' c g b d) (λe e e h'=>h') p s (h c p b d))
theorem jW {Q:α->Shared->Prop} (h:cG M A m Q (λe s'=>cG M A (k e) (λb c=>E e c) E s') s):cG M A (m.onRaise k) Q E s:=λd p a f=>by
 exact cR (Sem.wp_onRaise ..) (pO M d m (λb b b h'=>h') (λe g s' h'=>h' d g a f) p s (h d p a f))
theorem qT {Q:Except Value α->Shared->Prop} (h:cG M A m (λa=>Q (.ok a)) (λe=>Q (.error e)) s):cG M A m.attempt Q E s:=λc p b d=>by
 refine cR (Sem.wp_attempt ..) ?_;exact h c p b d
theorem bh {Q:α->Shared->Prop} (h:cG M A m Q E s):cG M A (holding vs m) Q E s:=λb p a c=>by
 refine cR (Sem.wp_holding ..) ?_;exact h b p a c
theorem oH {Q} (h:cG M A m Q E s):cG M A (operate vs m) Q E s:=λb p a c=>by
 refine cR (Sem.wp_operate ..) ?_;exact h b p a c
theorem bG (h:Q () s):cG M A (standAt pos) Q E s:=eT (xF h)
theorem pD (h:Q () s):cG M A (rule tag) Q E s:=eT (fh h)
theorem nc {Q:α->Shared->Prop} (e:m=pure a) (h:Q a s):cG M A m Q E s:=cR e (aO h)
theorem iN (h:codeN M A c R s) (d:∀r s,R r s->R' r s):codeN M A c R' s:=λe p f a b=>wpCode_mono d (h e p f a b)
theorem Zm:au≠af byPass:=λh=>fn h
theorem Gs (g:codeN M (A.mark h) c (λr s'=>match r with| .ok f=>Q f s'| .error e=>E e s') s) (b:h≠af byPass):cG M A (PySem.run c h) Q E s:=
 λi p d a=>by
  refine cR (Sem.wp_run ..) (g _ p rfl (d.enter c h p b) λx hx=> ?_);rcases aT.mp hx with rfl|hx
  .exact a.1
  .exact a.2 x hx
theorem B5 (d:codeN M A c (λr s'=>match r with| .ok (.ret v)=>Q v s'| .ok _=>False| .error e=>E e s') s):cG M A (runValue c) Q E s:=λf p b a=>by
 refine cR (Sem.wp_runValue ..) (d _ p rfl (b.enter c au p (by intro x;exact fn x)) λx hx=> ?_);rcases aT.mp hx with rfl|hx
 .exact a.1
 .exact a.2 x hx
theorem nJ (a:codeN M A (.call f ⟨pos,kw⟩) (λr s'=>match r with| .ok (.ret v)=>Q v s'| .ok _=>False| .error e=>E e s') s):cG M A (call f pos kw) Q E s:=B5 a
theorem dP {c:Code} {R:Result->Shared->Prop} (d:yL c=ao)
 (h:cG M (A.under c) (M.den c) (λa s'=>match a with| .done f=>R (.ok f) s'| .again c'=>c'.quiet=ao/\codeN M A c' R s') (λe s'=>R (.error e) s') s):codeN M A c R s:=λg p i b hb=>by
 rw [wpCode_iff_wp,i];refine pO M g _ (λa k s' h'=> ?_) (λj j j h'=>h') p s (h g p (i▸b.in) ⟨i▸d,hb⟩)
 induction a using PySem.Fin.casesOn with
 |done f=>exact h'
 |again c'=>exact⟨h'.1,h'.2 (g.goto c') k rfl (b.goto c') hb⟩
theorem yM (b:codeN M (A.mark h) c (λr s'=>match r with| .ok f=>Q f s'| .error _=>False) s) (a:h≠af byPass):cG M A (runOwn c env h) Q E s:=by
 refine jW (Gs (iN b λr s' q=> ?_) a)
 induction r using Except.casesOn with
 |ok f=>exact q
 |error e=>exact q.elim
theorem rQ {Q:α->Shared->Prop} (h:cG M A m Q (λa a=>False) s):cG M A (m.onRaise λx=>do wH x env;oN x) Q E s:=
 jW (aW h (λa a q=>q) λa a f=>f.elim)
theorem iW [Decidable b] {x y} {Q:α->Shared->Prop} (h1:b->cG M A x Q E s) (h2:¬b->cG M A y Q E s):cG M A (if b then x else y) Q E s:=by
 split
 .exact h1 ‹_›
 .exact h2 ‹_›
theorem Nv {Q:β->Shared->Prop} (h:∀{Q:α->Shared->Prop},Q a s'->wpAny M A m Q E s) (c:cG M A (k a) Q E s'):cG M A (m>>=k) Q E s:=ay (eT (h c))
theorem Nx {a:α} {Q:β->Shared->Prop} (c:cG M A (k a) Q E s):cG M A (pure a>>=k) Q E s:=ay (aO c)
theorem V7 {Q:α->Shared->Prop} (h:¬c) (k:cG M A b Q E s):cG M A (@ite _ c d a b) Q E s:=cR (if_neg h) k
theorem V8 {Q:α->Shared->Prop} (k:cG M A b Q E s):cG M A (@ite _ (aj=ao) d a b) Q E s:=V7 bZ k
theorem Gu {t:Sem α} {Q:α->Shared->Prop} (h:cG M A t Q (λa a=>False) s):cG M A t Q E s:=aW h (λa a q=>q) λa a f=>f.elim
end
section
variable {M:Model} {A:Around} {E:Value->Shared->Prop} {s:Shared} {env:dB} {prog:Program} {w:World}
theorem HG {l op r pos} (h:cG M A (eval l env) (λa c=>cG M A (eval r env) (λb d=>cG M A (binaryOp op a b) Q E d) E c) E s):cG M A (eval (.BinOp l op r pos) env) Q E s:=ay (aW h (λa c e=>ay (bh (aW e (λb d f=>ay (bG (oH f))) λg g x=>x))) λg g x=>x)
theorem B6 {l op r pos} (h:cG M A (eval l env) (λa c=>cG M A (eval r env) (λb d=>cG M A (compareOp op a b) Q E d) E c) E s) (hm:qA op r=aj):cG M A (eval (.Compare l [op] [r] pos) env) Q E s:=by
 refine ay (aW h (λa c e=>ay (bh ?_)) λg g x=>x);exact cR (markedBehindIn_of_false hm) (aW e (λb d f=>ay (bG (oH f))) λg g x=>x)
theorem sy {l op r pos whole}
 (h:cG M A (eval l env) (λa d=>cG M A (eval r env) (λb e=>cG M A (compareOp op a b) (λc f=>cG M A (truthy c) Q E f) E e) E d) E s) (hm:qA op r=aj):cG M A (isTrue (.Compare l [op] [r] pos) env whole) Q E s:=by
 refine ay (aW h (λa d g=>ay (bh ?_)) λi i x=>x);exact cR (markedBehindIn_of_false hm) (aW g (λb e j=>ay (bG (ay (oH (aW j (λc f k=>bh k) λi i x=>x))))) λi i x=>x)
theorem yN (h:cG M A (isTrue x env (eval x env)) (λb a=>Q (!b) a) E s):cG M A (isTrue (.UnaryOp .Not x pos) env whole) Q E s:=ay (aW h (λb a c=>aO c) λd d x=>x)
theorem HJ {Q} (h:cG M A (isTrue test env (eval test env)) (λb a=>if b then cG M A (eval body env) Q E a else cG M A (eval orelse env) Q E a) E s):cG M A (eval (.IfExp test body orelse pos) env) Q E s:=by
 refine ay (aW h (λb a c=> ?_) λd d x=>x);rcases b<;>exact c
theorem uF (h:cG M A (allTrue op values env) Q E s):cG M A (isTrue (.BoolOp op values pos) env whole) Q E s:=cR (arm_isTrue_BoolOp ..) h
theorem mF {e pos} (h:cG M A (eval e env) (λv=>Q (.ret v)) E s):cG M A (exec (.Return (af e) pos) env) Q E s:=ay (bG (ay (aW h (λv b a=>aO a) λc c x=>x)))
theorem SR {test body orelse pos} (h:cG M A (isTrue test env (eval test env)) (λb a=>if b then cG M A (execs body env) Q E a else cG M A (execs orelse env) Q E a) E s):cG M A (exec (.If test body orelse pos) env) Q E s:=by
 refine ay (bG (ay (aW h (λb d c=> ?_) λe e x=>x)));rcases b<;>exact c
theorem kJ {b rest} {Q} (h:cG M A (exec b env) (λf s'=>match f with| .next=>cG M A (execs rest env) Q E s'|f=>Q f s') E s):cG M A (execs (b::rest) env) Q E s:=by
 refine ay (aW h (λf c a=> ?_) λd d x=>x)
 induction f using PySem.Flow.casesOn with
 |next=>exact a
 |_=>exact aO a
theorem Ke {e pos} (h:cG (model prog w) A (eval e env) (λa=>Q .next) E s) (hi:interactive env=aj) (b:swapsWith e au pos.line env=pure aj):cG (model prog w) A (exec (.Expr e pos) env) Q E s:=cR (exec_Expr env e pos hi b) (ay (bG (ay (aW h (λv s' h'=>eT (wpAny_dropValue h')) λa a x=>x))))
theorem HK {test body orelse pos} (h:codeN M A (.whileLoop test body orelse env) (λr s'=>match r with| .ok f=>Q f s'| .error _=>False) s):cG M A (exec (.While test body orelse pos) env) Q E s:=ay (bG (yM (h:=au) h Zm))
theorem NV {target iter body orelse pos}
 (h:cG M A (eval iter env) (λx a=>cG M A (pyIter x) (λg b=>codeN M A (.forLoop target g body orelse env) (λr s'=>match r with| .ok f=>Q f s'| .error _=>False) b) E a) E s)
 (i:∀x,foldedSetIterable iter env x=pure x):cG M A (exec (.For target iter body orelse pos) env) Q E s:=by
 refine ay (bG (ay (aW h (λx a c=> ?_) λe e x=>x)));exact ay (nc (i x) (ay (bG (ay (bh (aW c (λg b d=>yM (h:=au) d Zm) λe e x=>x))))))
theorem HL {lower upper step}
 (h:cG M A (evalPart lower env) (λl b=>cG M A (evalPart upper env) (λu c=>cG M A (evalPart step env) (λi a=>
  Q (.ref a.heap.objs.size) {a with heap:=a.heap.push {cls:= .type "slice",data:= .fields #[l,u,i]}}) E c) E b) E s):cG M A (eval (.Slice lower upper step p) env) Q E s:=by
 refine ay (aW h (λl b d=>ay (bh (aW d (λu c e=>ay (bh (aW e (λi a f=> ?_) λg g x=>x))) λg g x=>x))) λg g x=>x);exact eT (dY f)
theorem Dv (h:cG (model prog w) A (execs stmts env) (λf s'=>R (.ok f) s') (λa a=>False) s):codeN (model prog w) A (.block stmts env) R s:=dP rfl (ay (rQ (aW h (λf s' h'=>aO h') λa a h'=>h')))
theorem tD {body} (h:cG (model prog w) (A.deeper env) (execs body env) (λf s'=>R (.ok (.ret (match f with| .ret v=>v|_=> .none))) s') (λa a=>False) s):codeN (model prog w) A (.func body env) R s:=by
 refine dP rfl (ay (eT (vA (ay (jW (aW h (λf s' h'=> ?_) λa a h'=>h'.elim))))));rcases f<;>exact aO h'
theorem yO (h:cG (model prog w) (A.deeper env) (eval e env) (λv s'=>R (.ok (.ret v)) s') (λa a=>False) s):codeN (model prog w) A (.expr e env) R s:=dP rfl (ay (eT (vA (ay (jW (aW h (λv s' h'=>aO h') λa a h'=>h'.elim))))))
end
end
section
structure fL (n b:Nat) (A:Around):Prop where
 handled:A.handled=au
 units:A.units+200*n+b+400<=9900
 depth:A.depth+4*n<=690
theorem fL.less (x:fL n b A) (h:b'<=b):fL n b' A:=⟨x.handled,aI (Nat.add_le_add_right (jM h _) _) x.units,x.depth⟩
theorem fL.u {n b k:Nat} (x:fL n b A) (h:bQ k 400=ao):A.units+k<=9900:=aI (Nat.add_le_add (aI (d8 _ _) (d8 _ _)) (aA h)) x.units
theorem cl (h:a+m<=9900) (hk:bI k m=ao):a+k<cLine:=aQ (Nat.add_lt_add_left (aA hk) a) h
theorem fL.c (x:fL n b A) (h:bI k 400=ao):A.units+k<cLine:=cl (x.u rfl) h
theorem SS (h:a+200*(n+1)+0+400<=9900) (c:j+b<=200):a+j+200*n+b+400<=9900:=by
 rw [Nat.mul_succ,Nat.add_zero,<-j3 a (200*n) 200] at h;rw [Nat.add_right_comm a j,j3 _ j b];exact aI (Nat.add_le_add_right (jM c _) 400) h
theorem Kg (h:a+4*(n+1)<=690) (c:j<=4):a+j+4*n<=690:=by
 rw [Nat.mul_succ,<-j3] at h;exact cR (Nat.add_right_comm ..) (aI (jM c _) h)
theorem fL.next (x:fL (n+1) 0 A) (c:A'.handled=A.handled) (hu:A'.units=A.units+j) (e:j+b<=200) (f:A'.depth=A.depth+d) (a:bQ d 4=ao):fL n b A':=
 ⟨c.trans x.handled,cR hu (SS x.units e),cR f (Kg x.depth (aA a))⟩
structure jQ (X:dw) (G:Str->Option V):Prop where
 load:∀(w:Wd) (h:H) (s:Shared),St X w h s->∀x v,bg x=ao->G x=af v->∃mg mb y,s.heap.Ns mainNs mg/\s.heap.Ns builtinsNs mb/\(mg x=af y\/(mg x=au/\mb x=af y))/\∀n,VR X s.heap w n v y
structure eW (X:dw) (env:dB) (ns:List (Str×aN)) (ρ:Env) (w:Wd) (n:Nat) (s:Shared):Prop where
 fn:env.scope.kind= .function
 glob:env.globals=mainNs
 blt:env.builtins=builtinsNs
 kind:∀x k,bg x=ao->bf (nm x) ns=af k->match k with
  | .local=>env.kindOf x=af .local
  | .cell=>env.kindOf x=af .cell
  | .free=>env.kindOf x=af .cell\/env.kindOf x=af .free
  | .globalImplicit=>env.kindOf x=af .globalImplicit
  |_=>True
 cls:∀x k,bf (nm x) ns=af k->(x==("__classdict__":Str))=aj
 Gv:∀x k,bf (nm x) ns=af k->(x==("__debug__":Str))=aj
 loc:∃m,s.heap.Ns env.locals m/\∀x v,bg x=ao->bf (nm x) ns=af .local->find (nm x) ρ.loc=af v->∃y,m x=af y/\VR X s.heap w n v y
 Dw:w.role env.locals=au/\X.h₀.objs.size<=env.locals/\env.locals∉X.tabs
 cell:∀x,bg x=ao->(bf (nm x) ns=af .cell\/bf (nm x) ns=af .free)->∃c ov,env.cells.lookup x=af c/\w.role c=au/\X.h₀.objs.size<=c/\c∉X.tabs/\s.heap.IsCell c ov
 wQ:∀x v c,bg x=ao->bf (nm x) ns=af .cell->find (nm x) ρ.loc=af v->env.cells.lookup x=af c->∃y,s.heap.IsCell c (af y)/\VR X s.heap w n v y
 wR:∀x v c,bg x=ao->bf (nm x) ns=af .free->find (nm x) ρ.out=af v->env.cells.lookup x=af c->∃y,s.heap.IsCell c (af y)/\VR X s.heap w n v y
 apart:∀x y c,env.cells.lookup x=af c->env.cells.lookup y=af c->x=y
 locs:∀y v,find y ρ.loc=af v->bf y ns=af .local\/bf y ns=af .cell
 outs:∀y v,find y ρ.out=af v->bf y ns≠af .cell
 NW:gC ns=aj->∀c q,X.jL ns=af (c,q)->env.code= .ref c/\env.qual=q
section
variable {X:dw} {env:dB} {ns:List (Str×aN)} {ρ:Env} {w w':Wd} {n n':Nat} {s s':Shared}
theorem uG {h h':Heap} {a} {m} (x:h.Ns a m) (k:∀o,h.get? a=af o->h'.get? a=af o):h'.Ns a m:=let⟨o,es,ep,e,r⟩:=x;⟨o,es,ep,k o e,r⟩
theorem ia {h h':Heap} (x:h.IsCell c v) (k:∀o,h.get? c=af o->h'.get? c=af o):h'.IsCell c v:=let⟨o,e,d⟩:=x;(bW o (k o e) d)
theorem eW.ext (e:eW X env ns ρ w n s) (x:Ext X cV w n s w' n' s'):eW X env ns ρ w' n' s':=by
 have k:=x.dW;have d:∀a,w.role a=au->a∉X.tabs->∀o,s.heap.get? a=af o->s'.heap.get? a=af o:=λa h1 h2 o f=>x.old a o h1 h2 (λh=>h) f;refine aL e.loc λm hv hm=> ?_;have hl:=e.Dw;refine⟨e.fn,e.glob,e.blt,e.kind,e.cls,e.Gv,(bW m (uG hm (d _ hl.1 hl.2.2)) (λy v h1 h2 f=> ?_)),⟨?_,hl.2⟩,λy h1 h2=> ?_,λy v c h1 h2 f j=> ?_,λy v c h1 h2 f j=> ?_,e.apart,e.locs,e.outs,e.NW⟩
 .refine dM (hv y v h1 h2 f) λz hz l=> ?_;exact bW z hz (l.mono k)
 .exact(x.role _ hm.lt).trans hl.1
 .exact Hx (e.cell y h1 h2) λc t p g a3 i q=>lN c t p ((x.role _ q.lt).trans g) a3 i (ia q (d _ g i))
 .refine aL (e.wQ y v c h1 h2 f j) λz l hz=>Hx (e.cell y h1 (.inl h2)) λc' t p g a3 i q=> ?_;injection j.symm.trans p with hq;subst hq
  exact bW z (ia hz (d _ g i)) (l.mono k)
 .refine aL (e.wR y v c h1 h2 f j) λz l hz=>Hx (e.cell y h1 (.inr h2)) λc' t p g a3 i q=> ?_;injection j.symm.trans p with hq;subst hq
  exact bW z (ia hz (d _ g i)) (l.mono k)
end
section
variable {X:dw}
theorem rS:Ext X F w m s w m {s with toks:=s.toks+1}:=⟨bu _,bu _,λa a=>rfl,λa a=>rfl,λa a=>rfl,λa a a a a e=>e,rfl,rfl⟩
theorem St.tok (x:St X w h s):St X w h {s with toks:=s.toks+1}:=⟨x.rep,x.lim,x.base,x.size,x.tab⟩
end
def Goes {α:Type} (P:Wd->Nat->Shared->α->Value->Prop) (X:dw) (w:Wd) (m:Nat) (s:Shared) (k:α->H->Option Res) (res:Res) (Q:Value->Shared->Prop):Prop:=
 ∀w' h' s' v y,St X w' h' s'->Ext X cV w m s w' h'.n s'->P w' h'.n s' v y->k v h'=af res->Q y s'
abbrev PV (X:dw):Wd->Nat->Shared->V->Value->Prop:=λw n s v y=>VR X s.heap w n v y
section
variable {X:dw} {w w':Wd} {h h':H} {m m':Nat} {s s':Shared} {res:Res} {Q:Value->Shared->Prop}
theorem Goes.ext (g:Goes P X w m s k res Q) (x:Ext X cV w m s w' m' s'):Goes P X w' m' s' k res Q:=
 λe f i v y a b c d=>g e f i v y a (x.trans b) c d
theorem Goes.tok (g:Goes (PV X) X w h.n s k res Q) (a:St X w h s) (c:VR X s.heap w h.n v y) (e:k v h=af res):Q y {s with toks:=s.toks+1}:=
 g w h _ v y a.tok rS c e
theorem Goes.here {k:α->H->Option Res} (g:Goes P X w h.n s k res Q) (a:St X w h s) (c:P w h.n s v y) (e:k v h=af res):Q y s:=
 g w h s v y a .refl c e
end
def cQ (X:dw) (r:Ap) (n b:Nat) (ns:List (Str×aN)) (e:XE) (x:Expr):Prop:=
 ∀A,fL n b A->∀env ρ w h s,St X w h s->eW X env ns ρ w h.n s->∀k res,e.f r ρ h k=af res->∀Q:Value->Shared->Prop,
  Goes (PV X) X w h.n s k res Q->cG (model X.prog X.w) A (eval x env) Q (λU U=>False) s
section
variable {X:dw} {r:Ap} {n b:Nat} {ns:List (Str×aN)}
theorem cQ.bad x:cQ X r n b ns fk x:=λa a a a a a a a a a a e=>fn e
theorem cQ.loc x p (hx:bg x=ao) (hk:bf (nm x) ns=af .local\/bf (nm x) ns=af .cell):cQ X r n b ns (qu (nm x)) (.Name x p):=by
 intro A _ env ρ w h s f he k res e Q g;refine dM (pS e) λv hv e=> ?_;rcases hk with hk|hk
 .exact aL he.loc λm a hm=>aL (a x v hx hk hv) λy d hy=>eT (wpAny_Name (wpAny_loadName_local he.fn (he.kind x _ hx hk) hm hy (g w h s v y f .refl d e)) (he.Gv x _ hk))
 .exact ny (he.cell x hx (.inl hk)) λc j l i=>aL (he.wQ x v c hx hk hv i) λy d hy=>eT (wpAny_Name (wpAny_loadName_cell he.fn (he.kind x _ hx hk) i hy (g w h s v y f .refl d e)) (he.Gv x _ hk))
theorem cQ.free x p (hx:bg x=ao) (hk:bf (nm x) ns=af .free):cQ X r n b ns (Df (nm x)) (.Name x p):=by
 intro A _ env ρ w h s f he k res e Q g;refine dM (pS e) λv hv e=>ny (he.cell x hx (.inr hk)) λc j l d=>aL (he.wR x v c hx hk hv d) λy i hy=> ?_;rcases he.kind x _ hx hk with a|a
 .exact eT (wpAny_Name (wpAny_loadName_cell he.fn a d hy (g w h s v y f .refl i e)) (he.Gv x _ hk))
 .exact eT (wpAny_Name (wpAny_loadName_free he.fn a d hy (g w h s v y f .refl i e) (he.cls x _ hk)) (he.Gv x _ hk))
theorem cQ.glob (f:jQ X G) x p (hx:bg x=ao) (hk:bf (nm x) ns=af .globalImplicit) v (g:G x=af v):cQ X r n b ns (xC v) (.Name x p):=by
 intro A _ env ρ w h s d he k res e Q i;obtain⟨l,o,y,h1,h2,a,j⟩:=f.load w h s d x v hx g;refine eT (wpAny_Name ?_ (he.Gv x _ hk));unfold loadName;simp only [Env.blockKind,he.fn,he.kind x _ hx hk,ScopeKind.isAnnotationScope,Bool.false_and,iS,if_false];have hq:=i w h s v y d .refl (j _) e;rcases a with a|⟨a,c⟩
 .exact Calls.loadGlobal_global (he.glob▸h1) a hq
 .exact Calls.loadGlobal_builtin (he.glob▸h1) a (he.blt▸h2) c hq
set_option tactic.hygienic true in
theorem cQ.name (a:jQ X G) x p:cQ X r n b ns (JR G ns x) (.Name x p):=by
 unfold JR;split
 .exact .bad _
 .rename_i hx;split
  .rename_i k hk
   induction k using dN with
   |«local»=>exact .loc x p hx (.inl hk)
   |cell=>exact .loc x p hx (.inr hk)
   |free=>exact .free x p hx hk
   |globalImplicit=>
    refine(?_:cQ X r n b ns (JQ G x) _);unfold JQ
    induction c:G x using zO with
    |none=>exact .bad _
    |some v=>exact .glob a x p hx hk v c
   |globalExplicit=>exact .bad _
  .exact .bad _
end
end
section
open PyProof.Rows
section
variable {X:dw} {w w':Wd} {h h':H} {m m':Nat} {s s':Shared} {res:Res} {Q:Value->Shared->Prop}
theorem VR.mj i t:VR X g w n (mj i) (.int i t):=by
 induction i using Int.casesOn with
 |ofNat k=>exact .nat k t
 |negSucc k=>exact .neg k t
theorem VR.Kh t (e:i=j):VR X g w n (Mine.mj i) (.int j t):=e▸VR.mj i t
theorem VR.aX {k:Nat} t (e:(k:Int)=j):VR X g w n (Mine.aX k) (.int j t):=by subst e;exact .nat k t
theorem VR.qJ {k:Nat} t (hk:0<k) (e: -(k:Int)=j):VR X g w n (Mine.qJ k) (.int j t):=by
 obtain⟨k,rfl⟩:∃a,k=a+1:=⟨k-1,by lia⟩;subst e;have: -((k+1:Nat):Int)=Int.negSucc k:=Int.neg_ofNat_succ k;refine cR this ?_;exact .neg k t
end
def qU (X:dw) (b:Nat) (f:V->V->M V) (op:Operator):Prop:=
 ∀A n,fL n b A->∀w h s,St X w h s->∀u v x y,VR X s.heap w h.n u x->VR X s.heap w h.n v y->∀k res,f u v h k=af res->∀Q,Goes (PV X) X w h.n s k res Q->wpAny (model X.prog X.w) A (binaryOp op x y) Q (λU U=>False) s
section
variable {X:dw} {b:Nat}
theorem A2 (e:NN x y f=af r):ak x.t 2=ao/\ak y.t 2=ao/\x.n<=18446744073709551615/\y.n<=18446744073709551615/\f=af r:=by
 unfold NN at e;exact aC (dK e) λe a=>aC (dK e) λe b=>aC (dK e) λe c=>f7 (dK e) λd e=>AY a b (aA c) (aA d) e
theorem rU (e:JJ x y f=af r):ak x.t 2=ao/\ak y.t 2=ao/\f=af r:=aC (dK e) λe a=>f7 (dK e) λb e=>iU a b e
theorem jg {a b:Nat} (e:ak (aG a b) 0=ao):a=0/\b=0:=by have:a+b=0:=aH e;lia
theorem rV (h:v.n<=18446744073709551615):(dS v).natAbs<2^64:=by
 unfold dS
 induction ak v.s 0 using zB with
 |true=>show(aZ v.n).natAbs<_;simp;exact xr h
 |false=>show(Int.negOfNat v.n).natAbs<_;refine cR Int.negOfNat_eq ?_;simp;exact xr h
theorem eZ (h:v.s=0):dS v=(v.n:Int):=by unfold dS;refine cR h ?_;rfl
theorem NX:qU X b VH .Sub:=by
 intro A n _ w h s c u v x y hu hv k res e Q d;refine iL (rU e) λe g i=>fB (hu.cS g) λt a=> ?_;subst a;refine fB (hv.cS i) λq a=> ?_;subst a;refine sub_int ?_
 induction hz:ak (aG u.s v.s) 0 using zB with
 |false=>
  rw [hz] at e;exact d.tok c (VR.Kh _ rfl) e
 |true=>
  rw [hz] at e;refine f7 (jg hz) λj l=>cR (eZ j) (cR (eZ l) ?_)
  induction hl:bQ v.n u.n using zB with
  |true=>
   have f:k (aX (fm u.n v.n)) h=af res:=by simpa only [hl] using e
   exact d.tok c (VR.aX _ (by have:=aA hl;show((u.n-v.n:Nat):Int)=_;exact Int.ofNat_sub this)) f
  |false=>
   have f:k (qJ (fm v.n u.n)) h=af res:=by simpa only [hl] using e
   have o:¬v.n<=u.n:=λp=>by rw [Nat.ble_eq.mpr p] at hl;exact ft hl
   exact d.tok c (VR.qJ _ (by show 0<v.n-u.n;lia) (by show-((v.n-u.n:Nat):Int)=_;lia)) f
theorem V9 (h:c.natAbs<2^64):IntMulOk a c:=IntMulOk.of_right (intBits_le_64 (by lia) (by lia))
theorem NY:qU X b VI .Mult:=by
 intro A n _ w h s d u v x y hu hv k res e Q f;refine iL (rU e) λe i j=>aC (dK e) λe g=>fB (hu.cS i) λt a=> ?_;subst a;refine fB (hv.cS j) λp a=> ?_;subst a;have c:IntMulOk (dS u) (dS v):=by
  induction hb:BU u using zB with
  |true=>
   have:=rV (aA hb);exact IntMulOk.of_left (intBits_le_64 (by lia) (by lia))
  |false=>
   rw [hb] at g;exact V9 (rV (aA g))
 refine PyProof.Rows.mul_int ?_ c
 induction hz:ak (aG u.s v.s) 0 using zB with
 |false=>
  rw [hz] at e;exact f.tok d (VR.Kh _ rfl) e
 |true=>
  rw [hz] at e;exact f7 (jg hz) λl o=>f.tok d (VR.aX _ (by refine cR (eZ l) (cR (eZ o) ?_);show((u.n*v.n:Nat):Int)=_;exact Int.natCast_mul (V.n u) (V.n v))) e
end
section
variable {X:dw} {b:Nat}
theorem rW (e:JI x y f=af r):ak x.t 2=ao/\ak y.t 2=ao/\x.n<=18446744073709551615/\y.n<=18446744073709551615/\x.s=0/\y.s=0/\f=af r:=vL (A2 e) λe a b c d=>f7 (dK e) λz e=>f7 (jg z) λg h=>⟨a,b,c,d,g,h,e⟩
theorem HM (h:a<=18446744073709551615):a.log2<9000:=by
 refine aQ (m:=64) ?_ (aA rfl);rcases Nat.eq_zero_or_pos a with rfl|hp
 .decide
 .exact(Nat.log2_lt (iw hp)).mpr (xr h)
theorem nez {a:Nat} (e:(ah k au (ak a 0):Option Res)=af r):a≠0/\k=af r:=by
 induction hz:ak a 0 using zB with
 |true=>rw [hz] at e;exact fn e
 |false=>rw [hz] at e;exact⟨fS hz,e⟩
theorem NZ:qU X b VJ .FloorDiv:=by
 intro A n _ w h s c u v x y hu hv k res e Q d;refine iL (rU e) λe f g=>aC (dK e) λe i=>aC (dK e) λe z=>f7 (jg z) λj l=>aC (nez e) λe hz=>fB (hu.cS f) λt a=> ?_;subst a;refine fB (hv.cS g) λm a=> ?_;subst a;refine cR (eZ j) (cR (eZ l) (floordiv_int ((λ{n}=>Iff.mpr Int.ofNat_ne_zero) hz) ?_ (.inl (oO (HM (aA i))))));exact d.tok c (VR.aX _ (by show((u.n/v.n:Nat):Int)=_;refine cR (oQ _ (cC (V.n v))) ?_;rfl)) e
theorem N1:qU X b VK .Mod:=by
 intro A n _ w h s f u v x y hu hv k res e Q g;refine iL (rU e) λe j i=>aC (nez e) λe hz=>fB (hu.cS j) λt a=> ?_;subst a;refine fB (hv.cS i) λo a=> ?_;subst a;have d:dS v≠0:=by
  rcases hv.E4 i with⟨_,q⟩|⟨_,p,q⟩
  .refine cR q ?_;simp;exact hz
  .refine cR q ?_;lia
 refine mod_int' d ?_
 induction c:ak (aG u.s v.s) 0 using zB with
 |false=>
  rw [c] at e;exact g.tok f (VR.Kh _ rfl) e
 |true=>
  rw [c] at e;exact f7 (jg c) λl m=>g.tok f (VR.aX _ (by refine cR (eZ l) (cR (eZ m) ?_);show((u.n %v.n:Nat):Int)=_;refine cR (Int.fmod_eq_emod_of_nonneg _ (cC (V.n v))) ?_;rfl)) e
theorem N2:qU X b VL .Pow:=by
 intro A n _ w h s d u v x y hu hv k res e Q f;refine ow (rW e) λe g i j p l c=>aC (dK e) λe q=>aC (dK e) λe m=>fB (hu.cS g) λt a=> ?_;subst a;refine fB (hv.cS i) λr a=> ?_;subst a;have o:=cH.mp m;refine pow_int_small (cR (eZ c) (cC (V.n v))) (by refine cR (eZ c) ?_;lia) (rV j) ?_;exact f.tok d (VR.aX _ (by refine cR (eZ l) (cR (eZ c) ?_);show((u.n^v.n:Nat):Int)=_;exact Int.natCast_pow (V.n u) (V.n v))) e
theorem N3:qU X b VM .LShift:=by
 intro A n _ w h s d u v x y hu hv k res e Q f;refine ow (rW e) λe g i j p l c=>aC (dK e) λe m=>fB (hu.cS g) λt a=> ?_;subst a;refine fB (hv.cS i) λq a=> ?_;subst a;have o:=cH.mp m;refine lshift_int_small (cR (eZ c) (cC (V.n v))) (by refine cR (eZ c) ?_;lia) (rV j) ?_;exact f.tok d (VR.aX _ (by refine cR (eZ l) (cR (eZ c) ?_);show((u.n*2^v.n:Nat):Int)=_;simp)) e
theorem N4:qU X b VN .RShift:=by
 intro A n _ w h s d u v x y hu hv k res e Q f;refine ow (rW e) λe g i l m j c=>aC (dK e) λe o=>fB (hu.cS g) λt a=> ?_;subst a;refine fB (hv.cS i) λp a=> ?_;subst a;refine rshift_int (cR (eZ c) (cC (V.n v))) (f.tok d (VR.aX _ ?_) e);refine cR (eZ j) (cR (eZ c) ((?_:((u.n/2^v.n:Nat):Int)=_)));have:(2:Int)^(Int.toNat (v.n:Int))=((2^v.n:Nat):Int):=rfl;refine cR this (cR (oQ _ (cC _)) ?_);rfl
theorem N5:qU X b VO .BitAnd:=by
 intro A n _ w h s d u v x y hu hv k res e Q f;refine vL (A2 e) λe g i m o=>fB (hu.cS g) λt a=> ?_;subst a;refine fB (hv.cS i) λp a=> ?_;subst a;refine and_int ?_
 induction c:ak (aG u.s v.s) 0 using zB with
 |false=>
  rw [c] at e;exact f.tok d (VR.Kh _ rfl) e
 |true=>
  rw [c] at e;exact f7 (jg c) λj l=>f.tok d (VR.aX _ (by refine cR (eZ j) (cR (eZ l) (cR (bitAnd_pp (cC (V.n u)) (cC (V.n v))) ?_));rfl)) e
theorem Kl (hx:0<=x) (hy:0<=y):Builtin.bitOr x y=((x.toNat|||y.toNat:Nat):Int):=by
 unfold Builtin.bitOr;exact cR (bitAnd_nn (λh=>bitNot_nonneg.mp h hx) (λh=>bitNot_nonneg.mp h hy)) (cR (bitNot_bitNot ..) (cR (bitNot_bitNot ..) (cR (bitNot_bitNot ..) rfl)))
theorem SV:qU X b bOr .BitOr:=by
 intro A n _ w h s c u v x y hu hv k res e Q d;refine ow (rW e) λe f g l m i j=>fB (hu.cS f) λt a=> ?_;subst a;refine fB (hv.cS g) λo a=> ?_;subst a;exact or_int (d.tok c (VR.aX _ (by refine cR (eZ i) (cR (eZ j) (cR (Kl (cC (V.n u)) (cC (V.n v))) ?_));rfl)) e)
end
end
section
open PyProof.Rows PySem.Calls
theorem tF (a b):qj a b=decide (a=b):=by
 induction a generalizing b with
 |nil=>induction b using zL<;>rfl
 |cons c r f=>
  induction b using zL with
  |nil=>rfl
  |cons d q=>
   refine(?_:(ah aj (qj r q) (ak c d):Bool)=_)
   induction hb:ak c d using zB with
   |true=>exact(f q).trans (decide_eq_decide.mpr ⟨λe=>by rw [aH hb,e],λe=>(List.cons.inj e).2⟩)
   |false=>exact(decide_eq_false λe=>fS hb (List.cons.inj e).1).symm
theorem Km {m k:Nat} (h:0<k):aZ m≠-(k:Int):=by
 induction k using zN with
 |zero=>exact absurd h (j4 0)
 |succ k=>exact λe=>Int.noConfusion e
theorem yP {a b:Nat} (h:a=b):ak a b=true:=h▸fq a
theorem N6 {d:Decidable p} (h:c=ao↔p):c=decide p:=by
 induction c using zB with
 |true=>exact(decide_eq_true (h.mp rfl)).symm
 |false=>exact(decide_eq_false λe=>ff (h.mpr e)).symm
theorem tH (ha:VR X g w n a x) (hb:VR X g w n b y) (ea:ak a.t 2=ao) (eb:ak b.t 2=ao):Ax a b=decide (dS a=dS b):=by
 refine N6 ?_;unfold Ax;rcases ha.E4 ea with⟨p,q⟩|⟨p,z,q⟩<;>rcases hb.E4 eb with⟨p',q'⟩|⟨p',z',q'⟩<;>refine cR p (cR p' (cR q (cR q' ?_)))
 .exact⟨λh=>congrArg aZ (aH h),λh=>yP (Int.ofNat.inj h)⟩
 .exact⟨λh=>ff h,λh=>absurd h (Km z')⟩
 .exact⟨λh=>ff h,λh=>absurd h.symm (Km z)⟩
 .exact⟨λh=>congrArg (λn:Nat=> -(n:Int)) (aH h),λh=>yP (Int.ofNat.inj (Int.neg_inj.mp h))⟩
structure KD (X:dw) where
 K:Type
 dec:DecidableEq K
 knd:KeyKind X.prog X.w K
 t:Nat
 of:V->K
 is:∀{g w n v y},VR X g w n v y->v.t=t->knd.is (of v) y=ao
 hash:∀{g w n v y},VR X g w n v y->v.t=t->knd.hash (of v)=hashOf X v
 BO:∀{g w n a b x y},VR X g w n a x->VR X g w n b y->a.t=t->b.t=t->Mine.BO a b=af (decide (of a=of b))
 inj:∀{g w n a b x y},VR X g w n a x->VR X g w n b y->a.t=t->b.t=t->of a=of b->a=b
instance KD.acw {X:dw} (kd:KD X):DecidableEq kd.K:=kd.dec
theorem yQ (e:BO a b=af c):a.t=b.t:=aH (dK e).1
section
variable {X:dw} (kd:KD X) {g:Heap} {w:Wd} {n:Nat}
structure uH (p:V×V) (q:kd.K×Value):Prop where
 key:kd.of p.1=q.1
 t:p.1.t=kd.t
 kr:∃y,VR X g w n p.1 y
 val:VR X g w n p.2 q.2
variable {kd}
theorem gS.pairs (d:gS X g w n i j) (ht:∀p∈i,p.1.t=kd.t):∃f:List (kd.K×Value),iR (uH kd (g:=g) (w:=w) (n:=n)) i f/\Pairs kd.knd j f/\(∀e∈j,∃k,kd.knd.is k e.key=ao/\e.hash=kd.knd.hash k):=by
 have o:=d.all;clear d
 induction o with
 |nil=>exact f5 [] .nil .nil (λe he=>(aU he).elim)
 | @cons p e l m h t ih=>
  refine cI (ih λp hp=>ht p (aD _ hp)) λf c a b=> ?_;have hp:=ht p aE;have hi:=kd.is h.key hp;refine f5 ((kd.of p.1,e.val)::f) (.cons ⟨rfl,hp,⟨_,h.key⟩,h.val⟩ a) (.cons hi rfl b) (λq he=> ?_);rcases aT.mp he with rfl|he
  .exact bW _ hi (h.hash.trans (kd.hash h.key hp).symm)
  .exact c q he
theorem uH.keys (h:iR (uH kd (g:=g) (w:=w) (n:=n)) kvs Jr):Jr.map (·.1)=kvs.map (λp=>kd.of p.1):=by
 induction h with
 |nil=>rfl
 |cons h _ a=>simp [a,h.key]
end
def yR (X:dw):KD X where
 K:=Int
 dec:=inferInstance
 knd:=intKind X.prog X.w
 t:=2
 of:=dS
 is:=λhv ht=>fB (hv.cS (yP ht)) λu hq=>cR hq (intKind_is X.prog X.w _ u)
 hash:=λU ht=>by unfold hashOf;exact cR (if_pos ht) rfl
 BO:=λha hb ta tb=>by
  refine cL (tH ha hb (yP ta) (yP tb)) ?_;unfold Mine.BO;exact cR ta (cR tb rfl)
 inj:=λha hb ta tb e=>(ha.J9 ta).trans ((congrArg mj e).trans (hb.J9 tb).symm)
noncomputable def Dy (X:dw):KD X where
 K:=Str
 dec:=inferInstance
 knd:=strKind X.prog X.w
 t:=3
 of:=λv=>⟨v.l.toArray⟩
 is:=λhv ht=>dM (hv.p6 ht) λu hq U=>cR hq (strKind_is X.prog X.w _ u)
 hash:=λU ht=>by unfold hashOf;exact cR ht rfl
 BO:=λha hb ta tb=>by
  unfold Mine.BO;refine cR ta (cR tb ?_);exact congrArg af ((tF ..).trans (decide_eq_decide.mpr ⟨λe=>cR e rfl,λe=>congrArg (λs:Str=>s.cps.toList) e⟩))
 inj:=λha hb ta tb e=>(ha.Ka ta).trans ((congrArg (λs:Str=>vStr s.cps.toList) e).trans (hb.Ka tb).symm)
theorem RT (l:List UInt8):(l.map bU).map r9=l:=by simp [Function.comp_def]
theorem p7 (h:VR X g w n v y) (e:v.t=4):v.l=(v.l.map r9).map bU:=vK (h.jI e) λb a a q a=>cR q (congrArg (sI bU) (RT b.toList).symm)
noncomputable def B7 (X:dw):KD X where
 K:=List UInt8
 dec:=inferInstance
 knd:=W.bytesKind X.prog X.w
 t:=4
 of:=λv=>v.l.map r9
 is:=λhv ht=>vK (hv.jI ht) λb t hq q U=>cR hq (cR q (cR (RT b.toList) (PySem.W.bytesKind_is X.prog X.w b.toList t)))
 hash:=λU ht=>by unfold hashOf;exact cR ht rfl
 BO:=λha hb ta tb=>by
  unfold Mine.BO;refine cR ta (cR tb ?_);exact congrArg af ((tF ..).trans (decide_eq_decide.mpr ⟨λe=>congrArg (sI r9) e,λe=>(p7 ha ta).trans ((congrArg (sI bU) e).trans (p7 hb tb).symm)⟩))
 inj:=λha hb ta tb e=>(ha.Du ta).trans ((congrArg (λl=>fj (l.map bU)) e|>λq=>(congrArg fj (p7 ha ta)).trans (q.trans (congrArg fj (p7 hb tb)).symm)).trans (hb.Du tb).symm)
section
variable {X:dw} {kd:KD X} {g:Heap} {w:Wd} {n:Nat}
theorem A3 (e:iQ k []=af o):o=none:=aC (dK e) λe a=>(aF e).symm
theorem p8 (e:iQ k (p::m)=af o):∃c,BO k p.1=af c/\((c=ao/\o=af p.2)\/(c=aj/\iQ k m=af o)):=by
 refine aL (pS (show(aB au (λb=>ah (iQ k m) (af (af p.2)) b) (BO k p.1):Option (Option V))=af o from e)) λc e a=>bW c a ?_
 induction c using zB with
 |true=>exact .inl ⟨rfl,(aF e).symm⟩
 |false=>exact .inr ⟨rfl,e⟩
theorem B8 {K} [DecidableEq K] q l (k:K):valueAt (q::l) k=if q.1=k then af q.2 else valueAt l k:=by
 unfold valueAt;by_cases h:q.1=k<;>simp [h]
theorem Kn (hk:VR X g w n k y) (ht:k.t=kd.t) (hm:iR (uH kd (g:=g) (w:=w) (n:=n)) m Jr):
 ∀{o},iQ k m=af o->match o with
  |none=>valueAt Jr (kd.of k)=au
  |some u=>∃z,valueAt Jr (kd.of k)=af z/\VR X g w n u z:=by
 induction hm with
 |nil=>intro o e;cases A3 e;rfl
 | @cons p q m Jr h t ih=>
  intro o e;refine aL (p8 e) λc e f=>fB h.kr λi b=> ?_;have hq:=kd.BO hk b ht h.t;rw [f] at hq;have a:=aF hq;refine cR (B8 ..) (cL h.key ?_);rcases e with⟨d,rfl⟩|⟨d,e⟩
  .rw [d] at a;have:kd.of k=kd.of p.1:=of_decide_eq_true a.symm;exact cR (if_pos this.symm) (bW q.2 rfl h.val)
  .rw [d] at a;have:kd.of k≠kd.of p.1:=of_decide_eq_false a.symm;exact cR (if_neg λe=>this e.symm) (ih e)
theorem SW (h:iR (uH kd (g:=g) (w:=w) (n:=n)) a Jr):∀p∈a,∃y,VR X g w n p.1 y:=by
 induction h with
 |nil=>intro p hp;nomatch hp
 |cons h _ b=>
  intro p hp;rcases aT.mp hp with rfl|hp
  .exact h.kr
  .exact b p hp
theorem gS.dictOf (h:g.get? a=af (cJ es ep)) (d:gS X g w n b es.toList) (ht:∀p∈b,p.1.t=kd.t):
 ∃Jr:List (kd.K×Value),iR (uH kd (g:=g) (w:=w) (n:=n)) b Jr/\g.DictOf kd.knd a Jr:=by
 refine cI (d.pairs (kd:=kd) ht) λJr i h1 h2=>⟨Jr,h1,_,es,ep,h,(iU rfl rfl rfl),rfl,λe he=>i e (mw.mpr he),h2,(cR (uH.keys h1) ?_)⟩;have c:∀p∈b,∀q∈b,kd.of p.1=kd.of q.1->p.1=q.1:=by
  intro p hp q hq e;exact fB (SW h1 p hp) λy hy=>fB (SW h1 q hq) λz hz=>kd.inj hy hz (ht p hp) (ht q hq) e
 have f:=d.nodup;clear h1 h2 i h d
 induction b with
 |nil=>exact iF
 |cons p m j=>
  rw [dG,gv] at f⊢;refine⟨λhp=> ?_,j (λp hp=>ht p (aD _ hp)) (λp hp q hq=>c p (aD _ hp) q (aD _ hq)) f.2⟩;exact aL (gG.mp hp) λq e hq=>f.1 (gG.mpr (bW q hq (c q (aD _ hq) p aE e)))
end
end
section
open PyProof.Rows PySem.Calls PySem.SeqAt
set_option backward.match.sparseCases false
theorem E5 (e:∀f t,x≠.float f t) (c:x=y->b=ao) (h:RcAt A s x y b):EqAt A s x y b:=λprog w E Q hq=>by
 refine bO (tZ (λd=> ?_) (λg=> ?_))
 .rw [c (eq_of_beq d)] at hq;exact aq (fh (av hq))
 .rcases x<;>first|exact absurd rfl (e _ _)|exact aq (h prog w E _ (gH hq))
theorem B9 b t c u:RcNeAt A s (.bytes b t) (.bytes c u) (!(b.toList==c.toList)):=λd d d d h=>W.ne_bytes h
theorem E6 b t c u:RcAt A s (.bytes b t) (.bytes c u) (b.toList==c.toList):=λd d d d h=>W.eq_bytes h
structure vY (A:Around) (s:Shared) (x y:Value) (t:Bool):Prop where
 eq:EqAt A s x y t
 rc:RcAt A s x y t
 ne:RcNeAt A s x y (!t)
 same:x=y->t=ao
theorem vY.of_rc (d:∀f t,x≠.float f t) (c:x=y->t=ao) (h:RcAt A s x y t) (h':RcNeAt A s x y (!t)):vY A s x y t:=⟨E5 d c h,h,h',c⟩
section
variable {X:dw} {w:Wd} {n:Nat} {s:Shared}
theorem IsTuple.of {items} {g:Heap} (c:g.get? a=af (gf items ep)):g.IsTuple a items:=f9 _ c rfl ep rfl
theorem IsList.of {items} {g:Heap} (c:g.get? a=af (gn items ep)):g.IsList a items:=f9 _ c rfl ep rfl
theorem Gw (hx:ef X s.heap w n vs xs) (hy:ef X s.heap w n us ys)
 (o:∀a b x y t,VR X s.heap w n a x->VR X s.heap w n b y->f a b=af t->vY A s x y t):
 ∀{t},uz f vs us=af t->∃e:Nat->Bool,(∀j h1 (h2:j<ys.length),vY A s xs[j] ys[j] (e j))/\t=((List.range (min xs.length ys.length)).all e&&xs.length==ys.length):=by
 induction vs generalizing us xs ys with
 |nil=>
  intro t e;cases hx;cases hy with
  |nil=>injection e with e;subst e;exact bW (λc=>ao) (λj h1=>absurd h1 (kh _)) rfl
  |cons u y us ys hu C=>injection e with e;subst e;exact bW (λc=>true) (λj h1=>absurd h1 (kh _)) (by show(false:Bool)=_;exact rfl)
 |cons v vs p=>
  intro t e;cases hx with
  |cons _ x _ xs hv d=>
   cases hy with
   |nil=>injection e with e;subst e;exact bW (λc=>true) (λj c h2=>absurd h2 (kh _)) rfl
   |cons u y us ys hu g=>
    refine aL (pS (show(aB none (λt=>aB none (λu=>some (ah false u t)) (uz f vs us)) (f v u):Option Bool)=some t from e)) λi e q=>aL (pS e) λr e z=>dM (p d g z) λB k l=>bW (λj=>match j with|0=>i|j+1=>B j) (λj h1 h2=> ?_) ?_
    .induction j using zN with
     |zero=>exact o _ _ _ _ _ hv hu q
     |succ j=>exact k j (k7 h1) (k7 h2)
    .have ht:t=(i&&r):=by
      have:=aF e;refine cL this ?_;rcases i<;>rfl
     refine cR ht (cR l (cR (Nat.succ_min_succ (fT xs) (fT ys)) (cR List.range_succ_eq_map (cR iz (cR List.all_map ?_)))));simp only [Function.comp_def,iG,Bool.and_assoc];congr 2;simp
end
section
variable {X:dw} {w:Wd} {h:H} {s:Shared}
noncomputable def Zn:Value->Bool
 | .float .. =>ao
 |_=>aj
theorem vY.ints {i j} {t u} (d:VR X g w n a (.int i t)) (hb:VR X g w n b (.int j u)) (e:ak a.t 2=ao) (f:ak b.t 2=ao):vY A s (.int i t) (.int j u) (Ax a b):=by
 refine fB (d.cS e) λc h1=>fB (hb.cS f) λc h2=> ?_;injection h1 with h1 _
 injection h2 with h2 _
 exact cR h1 (cR h2 (cR (tH d hb e f) (.of_rc (λc c h=>(by injection h)) (λh=>by injection h with h1;exact beq_int_true h1) (RcAt.int_int _ _ _ _) (RcNeAt.int_int _ _ _ _))))
end
section
variable {X:dw} {w:Wd} {h:H} {s:Shared}
theorem SX {A:Around} (c:A.units+k+200<=9900):A.units<cLine:=iX (d8 _ k) (cl (k:=0) c rfl)
theorem so {p:α->Prop} (e:af a=af b) (k:p a):p b:=aF e▸k
theorem vY.diff {x y} (c:Zn x=aj) (d:x≠y) (h:RcAt A s x y aj) (h':RcNeAt A s x y ao):vY A s x y false:= .of_rc (λf f e=>by rw [e] at c;exact ft c) (λe=>absurd e d) h h'
theorem Gx {f:Nat->Bool} {xs ys:Array Value} (c:∀j h1 (h2:j<ys.toList.length),vY A s xs.toList[j] ys.toList[j] (f j)) j h1 (h2:j<ys.size):EqAt A s xs[j] ys[j] (f j):=by
 have q:=(c j h1 h2).eq;simp only [Array.getElem_toList] at q;exact q
theorem eq_self {xs:Array Value} (d:∀j (h1:j<xs.toList.length) h2,vY A s xs.toList[j] xs.toList[j] (f j)):((List.range (min xs.toList.length xs.toList.length)).all f&&xs.toList.length==xs.toList.length)=true:=by
 simp only [Nat.min_self,beq_self_eq_true,Bool.and_true,aK,List.mem_range];exact λj c=>(d j c c).same rfl
theorem Ko {g:Heap} {o o':Obj} {items items2} {ep Kp} (h1:g.get? a=af {o with data:= .seq items ep}) (h2:g.get? a=af {o' with data:= .seq items2 Kp}):items=items2:=by
 injection (congrArg Obj.data (aF (h1.symm.trans h2)))
section
variable {m:Nat} {A:Around} (hu:A.units<cLine) (elems:∀a b x y t,VR X s.heap w h.n a x->VR X s.heap w h.n b y->oU h m a b=af t->vY A.in1 s x y t)
include hu elems
theorem Kq {items items2} (hl:s.heap.get? l=af (gf items ep)) (hb:s.heap.get? b=af (gf items2 Kp)) (hx:ef X s.heap w h.n xs items.toList) (hy:ef X s.heap w h.n ys items2.toList) (e:uz (oU h m) xs ys=af t):
 vY A s (.ref l) (.ref b) t:=by
 refine dM (Gw (A:=A.in1) hx hy elems e) λf d ht=>cR ht (.of_rc (λg g h=>(by injection h)) (λc=> ?_) (by simpa using RcAt.tuples (e:=f) (IsTuple.of hl) (IsTuple.of hb) hu (Gx d)) (by simpa using RcNeAt.tuples (e:=f) (IsTuple.of hl) (IsTuple.of hb) hu (Gx d)));injection c with c
 rw [c] at hl;have q:=Ko (o:=gf items ep) (o':=gf items2 Kp) hl hb;subst q;exact eq_self d
theorem HN {items items2} (i:s.heap.get? l=af (gn items ep)) (c:s.heap.get? b=af (gn items2 Kp)) (hx:ef X s.heap w h.n xs items.toList) (hy:ef X s.heap w h.n ys items2.toList)
 (e:(ah (af aj) (uz (oU h m) xs ys) (ak (len xs) (len ys)):Option Bool)=af t):vY A s (.ref l) (.ref b) t:=by
 have j:l=b->items=items2:=λq=>by
  rw [q] at i;exact Ko (o:=gn items ep) (o':=gn items2 Kp) i c
 rw [len_eq,len_eq,hx.length,hy.length,aM,aM] at e
 induction hl:ak items.size items2.size using zB with
 |false=>
  rw [hl] at e;have g:=fS hl;exact so e (.diff rfl (λq=>by injection q with q;exact g (congrArg fG (j q))) (RcAt.lists_lengths (IsList.of i) (IsList.of c) (bne_iff_ne.mpr g) hu) (RcNeAt.lists_lengths (IsList.of i) (IsList.of c) (bne_iff_ne.mpr g) hu))
 |true=>
  rw [hl] at e;have d:=aH hl;refine dM (Gw (A:=A.in1) hx hy elems e) λf p ht=> ?_;have k:t=(List.range items.size).all f:=cR ht (cR aM (cR aM (cL d (cR (Nat.min_self ..) (cR (beq_self_eq_true ..) (cR (Bool.and_true ..) rfl))))));refine cR k (.of_rc (λr r h=>(by injection h)) (λq=> ?_) (RcAt.lists (e:=f) (IsList.of i) (IsList.of c) d hu (Gx p)) (RcNeAt.lists (e:=f) (IsList.of i) (IsList.of c) d hu (Gx p)));injection q with q
  have:=j q;subst this;exact cL k (cR ht (eq_self p))
omit hu elems in
theorem VR.Kr (e:af (ak (ah 0 1 a) (ah 0 1 b))=af t):vY A s (.bool a) (.bool b) t:=so (p:=λt=>vY A s (.bool a) (.bool b) t) ((congrArg af (by rcases a<;>rcases b<;>rfl)).trans e) (.of_rc (λc c h=>(by injection h)) (λh=>by injection h with h;refine cR h ?_;exact beq_self_eq_true b) (RcAt.bool_bool _ _) (RcNeAt.bool_bool _ _))
omit hu elems in
theorem VR.N7 (e:af (qj l l')=af t):vY A s (.str ⟨l.toArray⟩ u) (.str ⟨l'.toArray⟩ u') t:=by
 refine so (p:=λt=>vY A s (.str ⟨l.toArray⟩ u) (.str ⟨l'.toArray⟩ u') t) ((congrArg af (show((⟨l.toArray⟩:Str)==⟨l'.toArray⟩)=qj l l' from by refine cR (tF ..) ?_;by_cases h:l=l'<;>simp [h])).trans e) ?_;exact .of_rc (λc c h=>(by injection h)) (λh=>by injection h with h _;refine cR h ?_;exact beq_self_eq_true _) (RcAt.str_str _ _ _ _) (RcNeAt.str_str _ _ _ _)
omit hu elems in
theorem VR.eq_bytes {u u'} (e:af (qj (b.toList.map bU) (b'.toList.map bU))=af t):vY A s (.bytes b u) (.bytes b' u') t:=by
 have q:(b.toList==b'.toList)=qj (b.toList.map bU) (b'.toList.map bU):=by
  have:(b.toList.map bU=b'.toList.map bU)↔b.toList=b'.toList:=⟨λh=>List.map_inj_right (λc c h=>UInt8.toNat_inj.mp h)|>.mp h,λh=>cR h rfl⟩;refine cR (tF ..) ?_;by_cases h:b.toList=b'.toList
  .refine cR (decide_eq_true (this.mpr h)) (cR h ?_);exact beq_self_eq_true _
  .refine cR (decide_eq_false λh'=>h (this.mp h')) ?_;exact beq_eq_false_iff_ne.mpr h
 exact so (p:=λt=>vY A s (.bytes b u) (.bytes b' u') t) ((congrArg af q).trans e) (.of_rc (λc c h=>(by injection h)) (λh=>by injection h with h _;refine cR h ?_;exact beq_self_eq_true _) (E6 _ _ _ _) (B9 _ _ _ _))
theorem Wa (hb:VR X s.heap w h.n b y) (e:oU h (m+1) di b=af t):vY A s .none y t:=by
 induction hb using Mine.VR.casesOn with
 |none=>exact so e (.of_rc (λc c h=>(by injection h)) (λc=>rfl) RcAt.none_none RcNeAt.none_none)
 |nat k u=>exact so e (.diff rfl (λh=>(by injection h)) (RcAt.none_int _ _) (RcNeAt.none_int _ _))
 |neg k u=>exact so e (.diff rfl (λh=>(by injection h)) (RcAt.none_int _ _) (RcNeAt.none_int _ _))
 |tup xs a items ep f ht d hn hv=>exact so e (.diff rfl (λh=>(by injection h)) (RcAt.none_tuple (IsTuple.of d) hu) (RcNeAt.none_tuple (IsTuple.of d) hu))
 |_=>exact fn e
theorem RU (d:VR X s.heap w h.n ⟨2,c,k,[],[]⟩ (.int i u)) {y} {t} (hb:VR X s.heap w h.n b y) (e:oU h (m+1) ⟨2,c,k,[],[]⟩ b=af t):vY A s (.int i u) y t:=by
 induction hb using Mine.VR.casesOn with
 |none=>exact so e (.diff rfl (λh=>(by injection h)) (RcAt.int_none _ _) (RcNeAt.int_none _ _))
 |nat k u=>exact so e (.ints d (.nat k u) rfl rfl)
 |neg k u=>exact so e (.ints d (.neg k u) rfl rfl)
 |tup xs a items ep g ht f hn hv=>exact so e (.diff rfl (λh=>(by injection h)) (RcAt.int_tuple _ _ (IsTuple.of f) hu) (RcNeAt.int_tuple _ _ (IsTuple.of f) hu))
 |_=>exact fn e
theorem Wb {items:Array Value} (c:s.heap.get? a=af (gf items ep)) (hv:ef X s.heap w h.n xs items.toList) {t:Bool} (hb:VR X s.heap w h.n b y) (e:oU h (m+1) (dJ xs) b=af t):vY A s (.ref a) y t:=by
 induction hb using Mine.VR.casesOn with
 |none=>exact so e (.diff rfl (λh=>(by injection h)) (RcAt.tuple_none (IsTuple.of c) hu) (RcNeAt.tuple_none (IsTuple.of c) hu))
 |nat k u=>exact so e (.diff rfl (λh=>(by injection h)) (RcAt.tuple_int _ _ (IsTuple.of c) hu) (RcNeAt.tuple_int _ _ (IsTuple.of c) hu))
 |neg k u=>exact so e (.diff rfl (λh=>(by injection h)) (RcAt.tuple_int _ _ (IsTuple.of c) hu) (RcNeAt.tuple_int _ _ (IsTuple.of c) hu))
 |tup ys b d i j l f o g=>exact Kq hu elems c f hv g e
 |_=>exact fn e
theorem Wc (k:St X w h s) (hb:VR X s.heap w h.n b y) (e:oU h (m+1) (bP i) b=af t):vY A s (.ref (w.ρ i)) y t:=by
 induction hb using Mine.VR.casesOn with
 |ref j C=>
  exact aL (pS (show(aB au (λx=>aB au (λy=>Zi (oU h m) x y) (HT.get h.l j)) (HT.get h.l i):Option Bool)=af t from e)) λp e q=>aL (pS e) λr e u=>aC (dK e) λe v=>aC (dK e) λe o=>jH ((k.rep i p q).2.lV (aH o)) λitems ep z d d hv=>jH ((k.rep j r u).2.lV ((aH v).symm.trans (aH o))) λc B f d d g=>HN hu elems z f hv g e
 |_=>exact fn e
theorem Ks (d:St X w h s) (f:VR X s.heap w h.n a x) (hb:VR X s.heap w h.n b y) (e:oU h (m+1) a b=af t):vY A s x y t:=by
 induction f using Mine.VR.casesOn with
 |none=>exact Wa hu elems hb e
 |bool a=>
  induction hb using Mine.VR.casesOn with
  |bool b=>exact VR.Kr e
  |_=>exact fn e
 |nat k u=>exact RU hu elems (.nat k u) hb e
 |neg k u=>exact RU hu elems (.neg k u) hb e
 |str l u hn=>
  induction hb using Mine.VR.casesOn with
  |str o g c=>exact VR.N7 e
  |_=>exact fn e
 |bytes b u hn=>
  induction hb using Mine.VR.casesOn with
  |bytes p g c=>exact VR.eq_bytes e
  |_=>exact fn e
 |tup xs a items ep q ht j hn hv=>exact Wb hu elems j hv hb e
 |ref i hi=>exact Wc hu elems d hb e
 |_=>exact fn ((show oU h (m+1) _ b=au from by induction hb using Mine.VR.casesOn<;>rfl).symm.trans e)
end
theorem Ku (d:St X w h s):∀m A,A.units+m+200<=9900->∀a b x y t,VR X s.heap w h.n a x->VR X s.heap w h.n b y->oU h m a b=af t->vY A s x y t:=by
 intro m
 induction m with
 |zero=>
  intro _ _ _ _ _ _ _ _ _ e;exact fn e
 |succ m f=>
  intro A c _ _ _ _ _ g hb e;exact Ks (SX c) (f A.in1 ((congrArg (·+200<=9900) (Nat.succ_add A.units m)).mpr c)) d g hb e
end
end
section
open PyProof.Rows PySem.Calls
def sQ (X:dw) (w:Wd) (m:Nat) (s:Shared) (k:Bool->H->Option Res) (res:Res) (Q:Bool->Shared->Prop):Prop:=
 ∀w' h' s' c,St X w' h' s'->Ext X cV w m s w' h'.n s'->k c h'=af res->Q c s'
def Kv (X:dw) (w:Wd) (m:Nat) (s:Shared) (k:List V->H->Option Res) (res:Res) (Q:List Value->Shared->Prop):Prop:=
 ∀w' h' s' vs ys,St X w' h' s'->Ext X cV w m s w' h'.n s'->ef X s'.heap w' h'.n vs ys->k vs h'=af res->Q ys s'
def jX (X:dw) (r:Ap) (n b:Nat) (ns:List (Str×aN)) (t:XT) (x:Expr):Prop:=
 ∀A,fL n b A->∀env ρ w h s,St X w h s->eW X env ns ρ w h.n s->∀k res,t.f r ρ h k=af res->∀Q:Bool->Shared->Prop,sQ X w h.n s k res Q->cG (model X.prog X.w) A (isTrue x env (eval x env)) Q (λU U=>False) s
def nK (X:dw) (b:Nat) (f:V->V->M Bool) (op:CmpOp):Prop:=
 ∀A n,fL n b A->∀w h s,St X w h s->∀u v x y,VR X s.heap w h.n u x->VR X s.heap w h.n v y->∀k res,f u v h k=af res->∀Q:Value->Shared->Prop,sQ X w h.n s k res (λc=>Q (.bool c))->wpAny (model X.prog X.w) A (compareOp op x y) Q (λU U=>False) s
def Kw (X:dw) (b:Nat):Prop:=
 ∀A n,fL n b A->∀w h s,St X w h s->∀v x,VR X s.heap w h.n v x->∀k res,truth v h k=af res->∀Q:Bool->Shared->Prop,sQ X w h.n s k res Q->wpAny (model X.prog X.w) A (truthy x) Q (λU U=>False) s
def Ay (X:dw) (r:Ap) (n b:Nat) (ns:List (Str×aN)) (l:XL) (xs:List Expr):Prop:=
 ∀A,fL n b A->∀env ρ w h s,St X w h s->eW X env ns ρ w h.n s->∀k res,l.f r ρ h k=af res->∀pos (Q:List Value->Shared->Prop),Kv X w h.n s k res Q->cG (model X.prog X.w) A (spliced (backTo pos (starEach xs env))) Q (λU U=>False) s
section
variable {X:dw} {r:Ap} {n b:Nat} {ns:List (Str×aN)} {w w':Wd} {h h':H} {m m':Nat} {s s':Shared} {res:Res}
theorem sQ.ext (g:sQ X w m s k res Q) (x:Ext X cV w m s w' m' s'):sQ X w' m' s' k res Q:=λd f i c a b e=>g d f i c a (x.trans b) e
theorem cQ.const c z p:cQ X r n b ns (JP c) (.Constant c z p):=by
 intro A _ env ρ w h s d he k res e Q g
 induction c using lJ with
 |none=>exact λa a a a=>g.here d .none e
 |bool c=>exact λa a a a=>g.here d (.bool c) e
 |int i=>exact λa a a a=>g.tok d (VR.mj i s.toks) e
 |str x=>
  have e:(ah fk (xC (vStr x.cps.toList)) (bQ (len x.cps.toList) 1000000):XE).f r ρ h k=af res:=e
  induction hl:bQ (len x.cps.toList) 1000000 using zB with
  |false=>rw [hl] at e;exact fn e
  |true=>
   rw [hl] at e;have e:=e;have hn:=aA hl;rw [len_eq] at hn;exact λa a a a=>g.tok d (y:= .str x s.toks) (VR.str x.cps.toList s.toks hn) e
 |bytes x=>
  have e:(ah fk (xC (fj (lY bU x))) (bQ (len x) 1000000):XE).f r ρ h k=af res:=e
  induction hl:bQ (len x) 1000000 using zB with
  |false=>rw [hl] at e;exact fn e
  |true=>
   rw [hl] at e;have e:k (fj (lY bU x)) h=af res:=e;have hn:=aA hl;rw [len_eq] at hn;rw [p5] at e;exact λa a a a=>g.tok d (y:= .bytes x.toArray s.toks) (VR.bytes x.toArray s.toks hn) e
 |_=>exact fn e
theorem cQ.bin (j:qU X b f op) pos (hx:cQ X r n b ns x l) (hy:cQ X r n b ns y r'):cQ X r n b ns (yE f x y) (.BinOp l op r' pos):=by
 intro A a env ρ w h s o he k res e Q p;exact HG (hx A a env ρ w h s o he _ res e _ λq h1 t u z c g hu B=>(hy A a env ρ q h1 t c (he.ext g) _ res B _ λC h2 D v E d i hv F=>eT (j A n a C h2 D d u v z E (hu.mono i.dW) hv k res F Q (p.ext (g.trans i)))))
theorem cQ.cmp (p:nK X b f op) pos (hm:qA op r'=aj) (hx:cQ X r n b ns x l) (hy:cQ X r n b ns y r'):cQ X r n b ns (BV f x y) (.Compare l [op] [r'] pos):=by
 intro A a env ρ w h s q he k res e Q t;refine B6 (hx A a env ρ w h s q he _ res e _ λz h1 B u C d j hu D=> ?_) hm;exact hy A a env ρ z h1 B d (he.ext j) _ res D _ λE h2 F v G g o hv I=>eT (p A n a E h2 F g u v C G (hu.mono o.dW) hv _ res I Q λJ K L c i M N=>(t J K L _ _ i ((j.trans o).trans M) (.bool c) N))
theorem jX.cmp (p:nK X b f op) pos (hm:qA op r'=aj) (hx:cQ X r n b ns x l) (hy:cQ X r n b ns y r'):jX X r n b ns (EV f x y) (.Compare l [op] [r'] pos):=by
 intro A a env ρ w h s q he k res e Q t;refine sy (hx A a env ρ w h s q he _ res e _ λz h1 B u C d j hu D=> ?_) hm;exact hy A a env ρ z h1 B d (he.ext j) _ res D _ λE h2 F v G g o hv I=>eT (p A n a E h2 F g u v C G (hu.mono o.dW) hv _ res I _ λJ K L c i M N=>(eT<|gH (t J K L c i ((j.trans o).trans M) N)))
theorem neg_eq c:neg c= !c:=by rcases c<;>rfl
theorem jX.not pos (hx:jX X r n b ns t x):jX X r n b ns (VX t) (.UnaryOp .Not x pos):=by
 intro A f env ρ w h s g he k res e Q i;refine yN (hx A f env ρ w h s g he _ res e _ λj h1 l c d o a=> ?_);have a:k (neg c) h1=af res:=a;rw [neg_eq] at a;exact i j h1 l _ d o a
theorem cQ.ite pos (ht:jX X r n b ns t te) (hx:cQ X r n b ns x a) (hy:cQ X r n b ns y c):cQ X r n b ns (VP t x y) (.IfExp te a c pos):=by
 intro A g env ρ w h s p he k res e Q i;refine HJ (ht A g env ρ w h s p he _ res e _ λj h1 l c d f o=> ?_)
 induction c using zB with
 |true=>exact hx A g env ρ j h1 l d (he.ext f) k res o Q (i.ext f)
 |false=>exact hy A g env ρ j h1 l d (he.ext f) k res o Q (i.ext f)
theorem jX.ofE (f:Kw X b) (hx:cQ X r n b ns x a) (hi:∀env,isTrue a env (eval a env)=(do let v<-eval a env;standAt a.pos;holding [v] (truthy v))):jX X r n b ns (tE x) a:=by
 intro A d env ρ w h s g he k res e Q i;exact cR (hi ..) (ay (hx A d env ρ w h s g he _ res e _ λj h1 l u o c p hu q=>(ay (bG (bh (eT (f A n d j h1 l c u o hu k res q Q (i.ext p))))))))
theorem Ay.nil:Ay X r n b ns j9 []:=by
 intro A _ env ρ w h s a he k res e pos Q c;exact aO (c w h s [] [] a .refl .nil e)
theorem Ay.cons (f:br a=aj) (hx:cQ X r n b ns x a) (hl:Ay X r n b ns l as):Ay X r n b ns (dR x l) (a::as):=by
 intro A o env ρ w h s t he k res e pos Q y;have d:starEach (a::as) env=(aj,eval a env)::starEach as env:=by rcases a<;>first|rfl|exact ft f
 refine cR d ((?_:cG _ _ (eval a env>>=λv=>pure [v]>>=λc=>holding c (spliced (backTo pos (starEach as env)))>>=λr=>pure (c++r)) _ _ s));exact ay (hx A o env ρ w h s t he _ res e _ λz h1 B u G g p hu C=>(ay (aO (ay (bh (hl A o env ρ z h1 B g (he.ext p) _ res C pos _ λD h2 E vs ys i q j F=>aO (y D h2 E _ _ i (p.trans q) (.cons _ _ _ _ (hu.mono q.dW) j) F)))))))
end
end
section
open PyProof.Rows PySem.Calls PySem.SeqAt
section
variable {X:dw} {w:Wd} {h:H} {s:Shared} {A:Around}
theorem N8 {kd:KD X} {kb} (hm:iR (uH kd (g:=s.heap) (w:=w) (n:=n)) m kb)
 (k:∀a b x y t,VR X s.heap w n a x->VR X s.heap w n b y->f a b=af t->vY A s x y t) {ka} (hk:iR (uH kd (g:=s.heap) (w:=w) (n:=n)) kvs ka):
 ∀{t},JB f m kvs=af t->W.KeqHits A s kb ka t:=by
 induction hk with
 |nil=>intro t e;injection e with hq;subst hq;exact .nil
 | @cons p q l l' hp _ ih=>
  intro t e;refine aL (pS (show(aB au (λo=>aB (af aj) (λu=>aB au (λt=>aB au (λu=>af (ah aj u t)) (JB f m l)) (f p.2 u)) o) (iQ p.1 m):Option Bool)=af t from e)) λo e r=>fB hp.kr λy hy=> ?_;have hd:=Kn hy hp.t hm r;obtain⟨qk,E⟩:=q;have c:kd.of p.1=qk:=hp.key
  induction o using zO with
  |none=>
   injection e with hq;subst hq
   rw [c] at hd;exact .miss hd
  |some u=>
   refine dM hd λz hz v=> ?_;rw [c] at hz;refine aL (pS e) λd e B=>aL (pS e) λC e D=> ?_;have ht:t=(d&&C):=by have:=aF e;refine cL this ?_;rcases d<;>rfl
   exact cR ht (.hit hz (k _ _ _ _ _ hp.val v B).eq (ih D))
theorem uI (e:Hz t kvs=ao) (d:gS X s.heap w n kvs es):∀p∈kvs,p.1.t=t:=by
 induction kvs using zL with
 |nil=>intro p hp;nomatch hp
 |cons q l=>
  refine fB d.kind λc a=> ?_;intro p hp;exact cR ((a p hp).1) (cL ((a q aE).1) (cR (aH e) rfl))
theorem jJ {a i:Nat} (hs:St X w h s) (hbase:10<=X.h₀.objs.size) (hr:w.role a=af i):(a==k9)=false:=by
 have:=(hs.lim a i hr).2.1;have h1:a≠1:=by lia
 exact beq_eq_false_iff_ne.mpr h1
section
variable (hs:St X w h s) (hbase:10<=X.h₀.objs.size) (hA:A.units+300<=9900) {i j:Nat} {kvs E7:List (V×V)} {es Wf:Array aV} {ep Kp:Nat} (hr:w.role (w.ρ i)=af i) (hg:s.heap.get? (w.ρ i)=af (cJ es ep)) (hd:gS X s.heap w h.n kvs es.toList)
 (hr2:w.role (w.ρ j)=af j) (N9:s.heap.get? (w.ρ j)=af (cJ Wf Kp)) (hd2:gS X s.heap w h.n E7 Wf.toList) (kd:KD X) (h1:∀p∈kvs,p.1.t=kd.t) (h2:∀p∈E7,p.1.t=kd.t) {t:Bool}
include hs hbase hA hr hg hd hr2 N9 hd2 h1 h2
theorem Dz (e:(ah (af aj) (JB (oU h 60) E7 kvs) (ak (len kvs) (len E7)):Option Bool)=af t):
 (Q (.bool t) s->wpAny (model X.prog X.w) A (compareOp .Eq (.ref (w.ρ i)) (.ref (w.ρ j))) Q (λa a=>False) s)/\(Q (.bool (!t)) s->wpAny (model X.prog X.w) A (compareOp .NotEq (.ref (w.ρ i)) (.ref (w.ρ j))) Q (λa a=>False) s):=by
 have hu:A.units<cLine:=aQ (show A.units<9900 by exact Nat.lt_of_add_right_lt hA) (of_decide_eq_true rfl);refine aL (hd.dictOf (kd:=kd) hg h1) λd g k=>aL (hd2.dictOf (kd:=kd) N9 h2) λf l o=> ?_;have c:∀v,(d.length=f.length->W.KeqHits A.in1 s f d v)->(d.length==f.length&&v)=t->_:=λv hv hb=>
  (⟨λq=>W.keq_eq (jJ hs hbase hr) (jJ hs hbase hr2) g l hu hv (cR hb q),λq=>W.keq_ne (jJ hs hbase hr) (jJ hs hbase hr2) g l hu hv (cR hb q)⟩:
   (Q (.bool t) s->wpAny (model X.prog X.w) A (compareOp .Eq (.ref (w.ρ i)) (.ref (w.ρ j))) Q (λa a=>False) s)/\(Q (.bool (!t)) s->wpAny (model X.prog X.w) A (compareOp .NotEq (.ref (w.ρ i)) (.ref (w.ρ j))) Q (λa a=>False) s))
 rw [len_eq,len_eq,k.length,o.length] at e;refine su e (λhl e=> ?_) λhl e=> ?_
 .exact c t (λa=>N8 (kd:=kd) (A:=A.in1) o (Ku hs 60 A.in1 (aI (jM (m:=300) (n:=261) (aA rfl) A.units) hA)) k e) (cR (aH hl) (cR (beq_self_eq_true ..) rfl))
 .exact c ao (λq=>absurd q (fS hl)) (cR (beq_eq_false_iff_ne.mpr (fS hl)) (aF e))
end
theorem xQ (hd:gS X s.heap w n kvs es) (hd2:gS X s.heap w n E7 Wf) (q:(ah aj (Hz k E7) (Hz k kvs):Bool)=ao):(∀p∈kvs,p.1.t=k)/\(∀p∈E7,p.1.t=k):=⟨uI (bT q).1 hd,uI (bT q).2 hd2⟩
theorem SY (hbase:10<=X.h₀.objs.size) (hs:St X w h s) (hA:A.units+300<=9900) (hi:h.l.get i=af o) (f:h.l.get j=af o') (ht:o.t=2) (e:Rw (oU h 60) o o'=af t):
 (Q (.bool t) s->wpAny (model X.prog X.w) A (compareOp .Eq (.ref (w.ρ i)) (.ref (w.ρ j))) Q (λa a=>False) s)/\(Q (.bool (!t)) s->wpAny (model X.prog X.w) A (compareOp .NotEq (.ref (w.ρ i)) (.ref (w.ρ j))) Q (λa a=>False) s):=by
 refine aC (dK e) λe c=>iV ((hs.rep i o hi).2.kI ht) λes ep a hr hg hn hd=>iV ((hs.rep j o' f).2.kI (aH c)) λWf Kp a hr2 N9 g hd2=>su e (λh2 e=> ?_) λa e=> ?_
 .exact Dz hs hbase hA hr hg hd hr2 N9 hd2 (yR X) (xQ hd hd2 h2).1 (xQ hd hd2 h2).2 e
 .exact aC (dK e) λe d=>Dz hs hbase hA hr hg hd hr2 N9 hd2 (Dy X) (xQ hd hd2 d).1 (xQ hd hd2 d).2 e
end
section
variable {X:dw} {b:Nat}
theorem dj (e:look v h k=af r):v.t=6/\∃o,h.l.get v.n=af o/\k o h=af r:=aC (dK e) λe a=>dM (pS e) λo c d=>yp (aH a) o c d
theorem Gy (hbase:10<=X.h₀.objs.size) (hA:fL n b A) (hs:St X w h s) (hu:VR X s.heap w h.n u x) (hv:VR X s.heap w h.n v y)
 (e:Jq u v h k=af res):∃t,k t h=af res/\∀Q:Value->Shared->Prop,(Q (.bool t) s->wpAny (model X.prog X.w) A (compareOp .Eq x y) Q (λc c=>False) s)/\(Q (.bool (!t)) s->wpAny (model X.prog X.w) A (compareOp .NotEq x y) Q (λc c=>False) s):=by
 have z:A.units+400<=9900:=hA.u rfl;have a:lift (oU h 60 u v) h k=af res->∃t,k t h=af res/\∀Q:Value->Shared->Prop,(Q (.bool t) s->wpAny (model X.prog X.w) A (compareOp .Eq x y) Q (λc c=>False) s)/\(Q (.bool (!t)) s->wpAny (model X.prog X.w) A (compareOp .NotEq x y) Q (λc c=>False) s):=by
  intro e;refine dM (bC e) λt f g=> ?_;have r:=Ku hs 60 A (by lia) u v x y t hu hv f;exact bW t g (λQ=>⟨λq=>r.rc X.prog X.w _ Q q,λq=>r.ne X.prog X.w _ Q q⟩)
 unfold Jq at e
 induction l:ak u.t 6 using zB with
 |false=>rw [l] at e;exact a e
 |true=>
  rw [l] at e;refine dD (dj e) λo e c B=> ?_
  induction h2:ak o.t 2 using zB with
  |false=>simp only [h2] at e;exact a e
  |true=>
   simp only [h2] at e;refine dD (dj e) λo' e m p=>dM (bC e) λt f g=>f7 (hu.er (aH l)) λd=> ?_;subst d;intro _;refine f7 (hv.er m) λd=> ?_;subst d;intro _;exact bW t g (λQ=>SY hbase hs (by lia) B p (aH h2) f)
theorem S0 (hbase:10<=X.h₀.objs.size):nK X b Jq .Eq:=by
 intro A n hA w h s hs u v x y hu hv k res e Q a;exact aL (Gy hbase hA hs hu hv e) λt q c=>(q Q).1 (a w h s t hs .refl c)
theorem S1 (hbase:10<=X.h₀.objs.size):nK X b RB .NotEq:=by
 intro A n hA w h s hs u v x y hu hv k res e Q c;refine aL (Gy hbase hA hs hu hv e) λt q a=> ?_;rw [neg_eq] at a;exact(q Q).2 (c w h s _ hs .refl a)
theorem tL (l:VR X g w n a x) (m:VR X g w n c y) (o:ak a.t 2=ao) (r:ak c.t 2=ao):wN a c=decide (dS a<dS c):=by
 have d:∀q:Bool,(q=ao↔dS a<dS c)->q=decide (dS a<dS c):=λq h=>by
  induction q using zB with
  |true=>exact(decide_eq_true (h.mp rfl)).symm
  |false=>exact(decide_eq_false λe=>ff (h.mpr e)).symm
 refine d _ ?_;unfold wN;rcases l.E4 o with⟨p,q⟩|⟨p,z,q⟩<;>rcases m.E4 r with⟨f,k⟩|⟨f,u,k⟩<;>refine cR p (cR f (cR q (cR k ?_)))
 .show bI a.n c.n=ao↔_;refine cR cH ?_;simp
 .show aj=ao↔_;simp<;>lia
 .show ao=ao↔_;simp<;>lia
 .show bI c.n a.n=ao↔_;refine cR cH ?_;lia
theorem Ky:∀a c:List Nat,NH a c=decide (a<c):=by
 intro a
 induction a with
 |nil=>
  intro c
  induction c using zL<;>rfl
 |cons a r d=>
  intro c;rcases c with _|⟨c,q⟩
  .rfl
  refine(?_:(ah (bI a c) (NH r q) (ak a c):Bool)=_)
  induction hb:ak a c using zB with
  |true=>
   have:=aH hb;refine cL this ((?_:NH r q=_));refine cR (d q) ?_;simp [List.cons_lt_cons_iff]
  |false=>
   refine(?_:bI a c=_);rw [Bool.eq_iff_iff,cH,decide_eq_true_iff,List.cons_lt_cons_iff]
   constructor
   .exact λh=> .inl h
   .rintro(h|⟨h,_⟩)
    .exact h
    .exact absurd h (fS hb)
end
end
section
section
variable {M:Model} {A:Around} {α:Type} {a b:Sem α} {Q:α->Shared->Prop} {E:Value->Shared->Prop} {s:Shared}
end
end
section
open PyProof.Rows PySem.Calls PySem.SeqAt
structure Kz (X:dw) (A:Around) (s:Shared) (x y:Value) (t:Bool):Prop where
 lt:∀Q:Value->Shared->Prop,Q (.bool t) s->wpAny (model X.prog X.w) A (compareOp .Lt x y) Q (λU U=>False) s
 gt:∀Q:Value->Shared->Prop,Q (.bool t) s->wpAny (model X.prog X.w) A (compareOp .Gt y x) Q (λU U=>False) s
 le:∀Q:Value->Shared->Prop,Q (.bool (!t)) s->wpAny (model X.prog X.w) A (compareOp .LtE y x) Q (λU U=>False) s
 ge:∀Q:Value->Shared->Prop,Q (.bool (!t)) s->wpAny (model X.prog X.w) A (compareOp .GtE x y) Q (λU U=>False) s
section
variable {X:dw} {w:Wd} {h:H} {s:Shared}
theorem E8 (a b:Int):decide (a<=b)= !decide (b<a):=(decide_eq_decide.mpr ko.symm).trans decide_not
theorem Kz.ints:Kz X A s (.int a t) (.int c u) (decide (a<c)) where
 lt:=λQ q=>lt_int q
 gt:=λQ q=>gt_int q
 le:=λQ q=>le_int (cR (E8 ..) q)
 ge:=λQ q=>ge_int (cR (E8 ..) q)
end
section
variable {X:dw} {w:Wd} {h:H} {s:Shared}
theorem Kz.strs {a c:List Nat}:Kz X A s (.str ⟨a.toArray⟩ t) (.str ⟨c.toArray⟩ u) (decide (a<c)) where
 lt:=λQ q=>PySem.P.lt_str q
 gt:=λQ q=>PySem.P.gt_str q
 le:=λQ q=>PySem.P.le_str q
 ge:=λQ q=>PySem.P.ge_str q
theorem uJ (e:xA [] y=af t):y=[]/\t=false:=by
 induction y using zL with
 |nil=>exact⟨rfl,(aF e).symm⟩
 |cons b y=>exact fn e
theorem rX (e:xA (a::x) y=af t):∃b c,y=b::c/\ak a.t 2=ao/\ak b.t 2=ao/\((Ax a b=ao/\xA x c=af t)\/(Ax a b=aj/\t=wN a b)):=by
 induction y using zL with
 |nil=>exact fn e
 |cons b y=>
  have e:(ah au (ah au (ah (ah au (ah au (af (wN a b)) (allInts y)) (allInts x)) (xA x y) (Ax a b)) (ak b.t 2)) (ak a.t 2):Option Bool)=af t:=e;refine aC (dK e) λe h1=>aC (dK e) λe h2=>lA b y rfl h1 h2 ?_
  induction hq:Ax a b using zB with
  |true=>rw [hq] at e;exact .inl ⟨rfl,e⟩
  |false=>
   rw [hq] at e;exact .inr ⟨rfl,(aF ((dK ((dK e).2)).2)).symm⟩
theorem DA {dn:Value->σ} {D:List V->List V->Prop}
 (r:∀u v Q,wpAny (model prog wd) A (eqBool u v) (λc s'=>ah (wpAny (model prog wd) A (richCompare op u v) (λz=>Q (.done (dn z))) E s') (Q (.yield r0) s') c) E s->wpAny (model prog wd) A (f (u,v) r0) Q E s)
 (B:∀ys,D [] ys->R r0 s)
 (i:∀p x ys,D (p::x) ys->∃q y,ys=q::y/\ak p.t 2=ao/\ak q.t 2=ao/\(Ax p q=Ax q p->(Ax p q=ao/\D x y)\/(Ax p q=aj/\∀t u,wN p q=decide (dS p<dS q)->wN q p=decide (dS q<dS p)->wpAny (model prog wd) A (richCompare op (.int (dS p) t) (.int (dS q) u)) (λz=>R (dn z)) E s))):
 ∀{xs ys} {g e},ef X s.heap w n xs g->ef X s.heap w n ys e->D xs ys->wpAny (model prog wd) A (forIn (g.zip e) r0 f) R E s:=by
 intro xs
 induction xs with
 |nil=>
  intro ys g e hx hy d;exact cR hx.nil_of (av (B ys d))
 |cons p x F=>
  intro ys g e hx hy d;refine sO (i p x ys d) λq y C j k c=> ?_;subst C;refine vK hx.cons_of λa l G o hl=>vK hy.cons_of λb m I hb hm=>fB (o.cS j) λJ h1=>fB (hb.cS k) λK h2=>cR G (cR I (cR h1 (cR h2 (cR (dO ..) (aq (r _ _ _ ((vY.ints (A:=A) (h1▸o) (h2▸hb) j k).eq prog wd _ _ ?_)))))));rcases c ((tH o hb j k).trans ((decide_eq_decide.mpr ⟨gA,gA⟩).trans (tH hb o k j).symm)) with⟨hq,d⟩|⟨hq,c⟩
  .exact cR hq (F hl hm d)
  .exact cR hq (fX (c J K (tL o hb j k) (tL hb o k j)) (λz s' h=>av h) λL L h=>h)
theorem ef.sizes {items a:Array Value} (c:ef X g w n xs items.toList) (d:ef X g w n ys a.toList) (h:xs.length=ys.length):items.size=a.size:=(c.length.symm.trans h).trans d.length
theorem DB {prog:Program} {j:World} {A:Around} {E:Value->Shared->Prop} {P:PySem.Fin->Shared->Prop} {a b:Addr} {items d:Array Value} {ep g:Nat} {xs ys:List V} {n:Nat} {t:Bool}
 (hx:s.heap.get? a=af (gf items ep)) (hy:s.heap.get? b=af (gf d g)) (l:ef X s.heap w n xs items.toList) (m:ef X s.heap w n ys d.toList) (e:xA xs ys=af t) (i:xs.length=ys.length)
 (h:P (.done (.ret (.bool t))) s):wpAny (model prog j) A (Builtin.«tuple.__lt__» ⟨[.ref a,.ref b],[]⟩) P E s:=by
 refine(?_:wpAny _ _ (isInstance (.ref b) (.type "tuple")>>=_) _ _ s);refine bq (fH (T:="tuple") (bW _ hy rfl) isSubtype_tuple_tuple) (Nu (bq (pT hx rfl) (bq (pT hy rfl) (aq (DA (op:= .Lt) (D:=λx y=>xA x y=af t) (dn:=λz=>(af (.done (.ret z)),())) ?_ (λy e=> ?_) (λp x y e=> ?_) l m e)))))
 .exact λu v Q h=>aq (fX h (λc s' q=>by
   induction c using zB with
   |true=>exact av q
   |false=>exact aq (fh (aq (fX q (λz o h=>av h) λf f h=>h)))) λf f h=>h)
 .exact av (cR (l.sizes m i) ((congrArg (λc=>P (.done (.ret (.bool c))) s) ((decide_eq_false (j4 _)).trans (uJ e).2.symm)).mpr h))
 .exact sO (rX e) λq y h1 r B c=>lA q y h1 r B (λf=>c.imp (λh=>h) λk=>⟨k.1,λC u h1 f=>lt_int (prog:=prog) (w:=j) (A:=A) (cL h1 (cL k.2 (av h)))⟩)
theorem DC {items items2}
 (hx:s.heap.get? a=af (gf items ep)) (hy:s.heap.get? b=af (gf items2 Kp)) (i:ef X s.heap w n xs items.toList) (j:ef X s.heap w n ys items2.toList) (e:xA ys xs=af t) (g:xs.length=ys.length)
 (h:P (.done (.ret (.bool (!t)))) s):wpAny (model prog wd) A (Builtin.«tuple.__le__» ⟨[.ref a,.ref b],[]⟩) P E s:=by
 refine(?_:wpAny _ _ (isInstance (.ref b) (.type "tuple")>>=_) _ _ s);refine bq (fH (T:="tuple") (bW _ hy rfl) isSubtype_tuple_tuple) (Nu (bq (pT hx rfl) (bq (pT hy rfl) (aq (DA (op:= .LtE) (D:=λx y=>xA y x=af t) (dn:=λz=>(af (.done (.ret z)),())) ?_ (λy e=> ?_) (λp x y e=> ?_) i j e)))))
 .exact λu v Q h=>aq (fX h (λc s' q=>by
   induction c using zB with
   |true=>exact av q
   |false=>exact aq (fh (aq (fX q (λz l h=>av h) λf f h=>h)))) λf f h=>h)
 .refine av (cR (i.sizes j g) ?_);have ht:t=false:=by
   induction y using zL with
   |nil=>exact(uJ e).2
   |cons q y=>exact Sw (rX e) λb m c=>(List.cons_ne_nil _ _ c.1.symm).elim
  exact(congrArg (λc=>P (.done (.ret (.bool c))) s) ((decide_eq_true (bu _)).trans (congrArg (!·) ht.symm))).mpr h
 .induction y using zL with
  |nil=>exact(List.cons_ne_nil _ _ (uJ e).1).elim
  |cons q y=>
   refine sO (rX e) λb m h1 o r c=> ?_;injection h1 with h1 h2
   subst h1;subst h2;exact lA q y rfl r o (λd=>c.imp (λh=>⟨d.trans h.1,h.2⟩) λk=>⟨d.trans k.1,λB u f h2=>le_int (prog:=prog) (w:=wd) (A:=A) (cR (E8 ..) (cL h2 (cL k.2 (av h))))⟩)
end
section
variable {X:dw} {w:Wd} {h:H} {s:Shared} {b:Nat}
theorem Ca (hu:VR X g w n u x) (hv:VR X g w n v y) (e:Hy u v=af t):Kz X A s x y t:=by
 refine aC (dK e) λe ht=> ?_;have ht:=aH ht
 induction h2:ak u.t 2 using zB with
 |true=>
  rw [h2] at e;injection e with hq;subst hq
  have c:ak v.t 2=true:=cL ht h2;refine fB (hu.cS h2) λd a=> ?_;subst a;refine fB (hv.cS c) λd a=> ?_;subst a;exact cR (tL hu hv h2 c) .ints
 |false=>
  rw [h2] at e;refine aC (dK e) λe f=> ?_;injection e with e;subst e
  exact dM (hu.p6 (aH f)) λk i d=>dM (hv.p6 (ht.symm.trans (aH f))) λl j d=>cR i (cR j (cR (Ky ..) .strs))
theorem KA (z:A.units+300<=9900) {x y} (hu:VR X s.heap w n u x) (hv:VR X s.heap w n v y) (e:Sz u v=af t):
 (∀Q:Value->Shared->Prop,Q (.bool t) s->wpAny (model X.prog X.w) A (compareOp .Lt x y) Q (λf f=>False) s)/\(∀Q:Value->Shared->Prop,Q (.bool (!t)) s->wpAny (model X.prog X.w) A (compareOp .LtE y x) Q (λf f=>False) s):=by
 have i:A.units<cLine:=aQ (show A.units<9900 by exact Nat.lt_of_add_right_lt z) (of_decide_eq_true rfl);have d:Hy u v=af t->(∀Q:Value->Shared->Prop,Q (.bool t) s->wpAny (model X.prog X.w) A (compareOp .Lt x y) Q (λf f=>False) s)/\(∀Q:Value->Shared->Prop,Q (.bool (!t)) s->wpAny (model X.prog X.w) A (compareOp .LtE y x) Q (λf f=>False) s):=
  λe=>let r:=Ca (A:=A) (s:=s) hu hv e;⟨r.lt,r.le⟩
 refine aC (dK e) λe ht=> ?_
 induction h2:ak u.t 2 using zB with
 |true=>rw [h2] at e;exact d (by unfold Hy;refine cR ht (cR h2 ?_);exact e)
 |false=>
  rw [h2] at e
  induction m:ak u.t 3 using zB with
  |true=>
   rw [m] at e;exact d (by unfold Hy;refine cR ht (cR h2 (cR m ?_));exact e)
  |false=>
   rw [m] at e;refine aC (dK e) λe o=>f7 (dK e) λhl e=> ?_;have hl:=aH hl;rw [len_eq,len_eq] at hl;refine Zf (hu.g6 (aH o)) λa items ep B f f j f p=>Zf (hv.g6 ((aH ht).symm.trans (aH o))) λc l C D f f g f k=>cR B (cR D ⟨λQ q=> ?_,λQ q=> ?_⟩)
   .exact wpAny_richCompare_same_room (op:= .Lt) (T:="tuple") (bW _ j rfl) (bW _ g rfl) PySem.F.slot_tuple_lt
     (bH PySem.F.slot_tuple_lt (T:="tuple") (bW _ j rfl) PySem.F.entry_tuple_lt (DB j g p k e hl (f5 _ rfl (λe=>(by injection e)) q)) (PySem.F.args_tuple_lt_2 _ _)) i
   .exact wpAny_richCompare_same_room (op:= .LtE) (T:="tuple") (bW _ g rfl) (bW _ j rfl) PySem.F.slot_tuple_le
     (bH PySem.F.slot_tuple_le (T:="tuple") (bW _ g rfl) PySem.F.entry_tuple_le (DC g j k p e hl.symm (f5 _ rfl (λe=>(by injection e)) q)) (PySem.F.args_tuple_le_2 _ _)) i
theorem S2:nK X b cLt .Lt:=by
 intro A n a w h s c u v x y hu hv k res e Q d;exact dM (bC e) λt f g=>(KA (a.u rfl) hu hv f).1 Q (d w h s t c .refl g)
theorem S3:nK X b cLe .LtE:=by
 intro A n c w h s d u v x y hu hv k res e Q f;refine aL (bC e) λt a g=> ?_;rw [neg_eq] at a;exact(KA (c.u rfl) hv hu g).2 Q (f w h s _ d .refl a)
theorem S4:nK X b Zj .Gt:=by
 intro A n g w h s a u v x y hu hv k res e Q c;exact dM (bC e) λt d f=>(Ca (A:=A) (s:=s) hv hu d).gt Q (c w h s t a .refl f)
theorem S5:nK X b cGe .GtE:=by
 intro A n g w h s c u v x y hu hv k res e Q d;refine aL (bC e) λt a f=> ?_;rw [neg_eq] at a;exact(Ca (A:=A) (s:=s) hu hv f).ge Q (d w h s _ c .refl a)
end
section
variable {X:dw} {b:Nat}
theorem A4 (hu:VR X g w n u x) (e:isNone u=af t):plainIs x .none=ao/\(x==dX)=t:=by
 induction hu using Mine.VR.casesOn with
 |none=>injection e with hq;subst hq;exact⟨rfl,rfl⟩
 |nat k u=>injection e with hq;subst hq;exact⟨rfl,rfl⟩
 |neg k u=>injection e with hq;subst hq;exact⟨rfl,rfl⟩
 |bytes c u hn=>injection e with hq;subst hq;exact⟨rfl,rfl⟩
 |tup xs a items ep d ht f hn h=>injection e with hq;subst hq;exact⟨rfl,rfl⟩
 |ref i hi=>injection e with hq;subst hq;exact⟨rfl,rfl⟩
 |_=>exact fn e
theorem none_of (hu:VR X g w n u x) (e:ak u.t 0=ao):x= .none:=by
 induction hu using Mine.VR.casesOn with
 |none=>rfl
 |_=>exact nn (aH e) rfl
theorem S6:nK X b cIs .Is:=by
 intro A n i w h s a u v x y hu hv k res e Q c;refine aC (dK e) λe d=>aL (bC e) λt f g=> ?_;cases none_of hv d;exact aC (A4 hu g) λq p=>wpAny_is_plain p (cR q (c w h s t a .refl f))
theorem HO:nK X b JK .IsNot:=by
 intro A n i w h s c u v x y hu hv k res e Q d;refine aC (dK e) λe f=>aL (bC e) λt a g=> ?_;cases none_of hv f;refine aC (A4 hu g) λq p=> ?_;rw [neg_eq] at a;exact wpAny_isNot_plain p (cR q (d w h s _ c .refl a))
theorem St.toks (x:St X w h s) t:St X w h {s with toks:=t}:=⟨x.rep,x.lim,x.base,x.size,x.tab⟩
theorem pG t:Ext X F w m s w m {s with toks:=t}:=⟨bu _,bu _,λa a=>rfl,λa a=>rfl,λa a=>rfl,λa a a a a e=>e,rfl,rfl⟩
theorem yS (l:List α):(ah ao aj (isNil l):Bool)= !l.isEmpty:=by rcases l<;>rfl
theorem Wg {a c:Type} {xs:List a} {ys:List c} (h:xs.length=ys.length):(!xs.isEmpty)= !ys.isEmpty:=by
 rcases xs<;>rcases ys<;>first|rfl|exact absurd h (aY rfl)
theorem RW {a:Type} {xs:List V} {items:Array a} (h:xs.length=items.toList.length):(!xs.isEmpty)= !items.isEmpty:=cR (Wg h) (cR Array.isEmpty_toList rfl)
theorem Gz (a:10<=X.h₀.objs.size) (g:St X w h s) (j:w.role (w.ρ i)=af i) (k:s.heap.get? (w.ρ i)=af (cJ es ep)) (hn:es.size<=1000000) (e:gS X s.heap w h.n c es.toList)
 (kd:KD X) (h1:∀p∈c,p.1.t=kd.t) (q:∀t,Q (ah ao aj (isNil c)) {s with toks:=t}):wpAny (model X.prog X.w) A (truthy (.ref (w.ρ i))) Q (λl l=>False) s:=by
 refine aL (e.dictOf (kd:=kd) k h1) λo m f=> ?_;have d:c.length=es.size:=cR e.all.length (cR aM rfl);refine wpAny_truthy_dict (jJ g a j) m (by refine cL f.length (cR d ?_);lia) ?_;refine cL (Wg f.length) (cL (yS ..) ?_);exact q _
theorem E9 (d:10<=X.h₀.objs.size):Kw X b:=by
 intro A n C w h s m v x hv k res e Q z;have g:∀{c t},k c h=af res->Q c {s with toks:=t}:=λ{c t} e=>z w h _ c (m.toks t) (pG t) e;have f:∀{c},k c h=af res->Q c s:=λ{c} e=>z w h s c m .refl e
 induction hv using Mine.VR.casesOn with
 |bool c=>
  refine gH (f ?_);rcases c<;>exact e
 |nat i u=>
  refine truthy_int (f ?_);refine cR (show((aZ i !=0):Bool)=ah ao aj (ak i 0) by rcases i<;>rfl) ?_;exact e
 |neg i u=>exact truthy_int (f e)
 |tup xs a items ep q ht j hn y=>
  have e:k (ah ao aj (isNil xs)) h=af res:=e;rw [yS,RW y.length] at e;exact truthy_tuple (f9 _ j rfl ep rfl) (by lia) (g e)
 |ref i hi=>
  refine dD (dj (show look (bP i) h (λo h=>ah (ah au (ah (ah au (k (ah ao aj (isNil o.kvs)) h) (Hz 3 o.kvs)) (k (ah ao aj (isNil o.kvs)) h) (Hz 2 o.kvs)) (ak o.t 2)) (k (ah ao aj (isNil o.xs)) h) (ak o.t 1))=af res from e)) λo e l B=> ?_;have r:=(m.rep i o B).2;refine su e (λh1 e=> ?_) λl e=> ?_
  .refine jH (r.lV (aH h1)) λitems ep j l hn hv=> ?_;rw [yS,RW hv.length] at e;exact wpAny_truthy_list (IsList.of j) (by lia) (g e)
  exact aC (dK e) λe h2=>iV (r.kI (aH h2)) λD ep l q j hn p=>su e (λh2 e=>Gz d m q j hn p (yR X) (uI h2 p) λl=>g e) λl e=>(let⟨h3,e⟩:=dK e;Gz d m q j hn p (Dy X) (uI h3 p) λl=>g e)
 |_=>exact Mine.fn e
end
set_option backward.match.sparseCases false
section
variable {X:dw} {w:Wd} {s:Shared} {n:Nat}
noncomputable def Yt (i:Int):Value->Bool
 | .int j _=>j==i
 |_=>aj
noncomputable def Vk (x:Str):Value->Bool
 | .str y _=>y==x
 |_=>aj
theorem yT f (x y) l:uB f x (y::l)=(f y x||uB f x l):=by
 refine(?_:(ah (uB f x l) ao (f y x):Bool)=_);rcases f y x<;>rfl
theorem vZ (e:qt t (y::l)=ao):y.t=t/\qt t l=true:=by
 have e:(ah aj (qt t l) (ak y.t t):Bool)=true:=e
 induction h:ak y.t t using zB with
 |false=>rw [h] at e;exact ff e
 |true=>rw [h] at e;exact⟨aH h,e⟩
theorem any_ints (hu:VR X s.heap w n u (.int (dS u) tk)) (h2:ak u.t 2=ao) (g:ef X s.heap w n xs ys) (b:qt 2 xs=ao):
 (∀y∈ys,EqAt A s y (.int (dS u) tk) (Yt (dS u) y))/\ys.any (Yt (dS u))=uB Ax u xs:=by
 induction xs generalizing ys with
 |nil=>cases g;exact⟨λy hy=>((aU hy).elim),rfl⟩
 |cons v xs i=>
  cases g with
  |cons _ y _ ys hv c=>
   refine aC (vZ b) λb d=>f7 (i c b) λj k=> ?_;have a:ak v.t 2=true:=cR d rfl;refine fB (hv.cS a) λe f=> ?_;subst f;refine⟨λy hy=> ?_, ?_⟩
   .rcases aT.mp hy with rfl|hy
    .exact EqAt.int_int _ _ _ _
    .exact j y hy
   .refine cR gg (cR (yT ..) (cR k (cR (tH hv hu a h2) ?_)));have:Yt (dS u) (.int (dS v) e)=decide (dS v=dS u):=by
     by_cases h:dS v=dS u<;>exact rfl
    exact cR this rfl
theorem KC (f:ef X s.heap w n xs ys) (c:qt 3 xs=ao):
 (∀y∈ys,EqAt A s y (.str ⟨l.toArray⟩ tk) (Vk ⟨l.toArray⟩ y))/\ys.any (Vk ⟨l.toArray⟩)=uB sEq (vStr l) xs:=by
 induction xs generalizing ys with
 |nil=>cases f;exact⟨λy hy=>((aU hy).elim),rfl⟩
 |cons v xs g=>
  cases f with
  |cons _ y _ ys hv d=>
   refine aC (vZ c) λc e=>f7 (g d c) λi j=> ?_
   induction hv using Mine.VR.casesOn with
   |str a b k=>
    refine⟨λy hy=> ?_, ?_⟩
    .rcases aT.mp hy with rfl|hy
     .exact EqAt.str_str _ _ _ _
     .exact i y hy
    .refine cR gg (cR (yT ..) (cR j ((?_:(Vk ⟨l.toArray⟩ (.str ⟨a.toArray⟩ b)||_)=(qj a l||_)))));refine cR (tF ..) ?_;have:Vk ⟨l.toArray⟩ (.str ⟨a.toArray⟩ b)=decide (a=l):=by
      by_cases h:a=l<;>simp [Vk,h]
     exact cR this rfl
   |_=>exact nn e rfl
theorem KG (hu:VR X s.heap w n u x) (c:ef X s.heap w n xs ys) (e:Vy u xs=af t):∃f:Value->Bool,(∀y∈ys,EqAt A s y x (f y))/\ys.any f=t:=by
 have e:(ah (ah au (ah au (af (uB sEq u xs)) (qt 3 xs)) (ak u.t 3)) (ah au (af (uB Ax u xs)) (qt 2 xs)) (ak u.t 2):Option Bool)=af t:=e
 induction h2:ak u.t 2 using zB with
 |true=>
  rw [h2] at e;refine aC (dK e) λe a=> ?_;injection e with e;subst e
  refine fB (hu.cS h2) λtk b=> ?_;subst b;exact⟨Yt (dS u),any_ints hu h2 c a⟩
 |false=>
  rw [h2] at e;refine aC (dK e) λe d=>aC (dK e) λe a=> ?_;injection e with e;subst e
  induction hu using Mine.VR.casesOn with
  |str l tk hn=>exact⟨Vk ⟨l.toArray⟩,KC c a⟩
  |_=>exact nn (aH d) rfl
end
set_option backward.match.sparseCases true
section
variable {X:dw} {w:Wd} {h:H} {s:Shared} {b:Nat}
theorem lZ (c:St X w h s) {a:Addr} (d:s.heap.objs.size<=a):w.role a=none:=by
 induction e:w.role a using zO with
 |none=>rfl
 |some i=>exact absurd (c.lim a i e).2.2 (bD.mpr d)
theorem St.junk (d:bw X) (f:St X w h s) o t:St X w h {s with heap:=s.heap.push o,toks:=t}/\Ext X cV w h.n s w h.n {s with heap:=s.heap.push o,toks:=t}:=
 f.grow d (F:=cV) (by simp) (λc c h=>h.elim) (λc h=>h.elim) (λa g c e=>az _ e) rfl rfl
theorem St.push (d:bw X) (f:St X w h s) ob o t (g:ob.isFreed=aj)
 v (r:∀c,oV X s.heap w h.n (s.heap.push ob) c (h.n+1)->c.role (c.ρ h.n)=af h.n->(s.heap.push ob).get? (c.ρ h.n)=af ob->c.ua h.n=v->Rep X (s.heap.push ob) c (h.n+1) h.n o):
 ∃c,St X c ⟨HT.ins o h.l h.n,h.n+1⟩ {s with heap:=s.heap.push ob,toks:=t}/\Ext X cV w h.n s c (h.n+1) {s with heap:=s.heap.push ob,toks:=t}/\c.ρ h.n=s.heap.objs.size:=by
 have q:=f.new d (o:=o) (b:=s.heap.objs.size) (own:=λa=>a==s.heap.objs.size) (ReflBEq.rfl) (s':={s with heap:=s.heap.push ob,toks:=t}) (by simp)
  (λa i=>by have:a=s.heap.objs.size:=(by simpa using i);subst this;simp) (λa j e=>az _ e) rfl rfl v _ rfl (λk h1 h2 m=>r _ k (cR h2 h1) (cR h2 (aJ _ g)) m)
 exact f5 _ q.1 q.2 (if_pos rfl)
theorem St.newList (d:bw X) (e:St X w h s) (hv:ef X s.heap w h.n xs ys) (hz:ys.length<=1000000) t:
 ∃c,St X c ⟨HT.ins (bL xs) h.l h.n,h.n+1⟩ {s with heap:=s.heap.push (gn ys.toArray 0),toks:=t}/\Ext X cV w h.n s c (h.n+1) {s with heap:=s.heap.push (gn ys.toArray 0),toks:=t}/\c.ρ h.n=s.heap.objs.size:=
 e.push d _ _ t rfl 0 λc k h1 h2 f=> .list xs ys.toArray 0 h1 h2 hz (by simpa using hv.mono k)
theorem St.newTuple (f:bw X) (e:St X w h s) (d:∀a∈X.tabs,a<X.h₀.objs.size) (hv:ef X s.heap w h.n xs ys) (hz:ys.length<=1000000) t:
 St X w h {s with heap:=s.heap.push (gf ys.toArray 0),toks:=t}/\Ext X cV w h.n s w h.n {s with heap:=s.heap.push (gf ys.toArray 0),toks:=t}/\VR X (s.heap.push (gf ys.toArray 0)) w h.n (dJ xs) (.ref s.heap.objs.size):=by
 refine aC (e.junk f (gf ys.toArray 0) t) λc a=>iU a c (.tup xs _ ys.toArray 0 (lZ e (bu _)) (λhm=> ?_) (aJ _ rfl) hz (by simpa using hv.mono c.dW));exact absurd (d _ hm) (bD.mpr e.size)
end
section
variable {X:dw} {r:Ap} {n b:Nat} {ns:List (Str×aN)}
theorem nM (e:oLe (bL xs)=ao):xs.length<=1000000:=len_eq xs▸(iY (aA e):len xs<=1000000)
theorem bx:1000000<=jn:=by decide
theorem cQ.list (o:bw X) pos (hl:Ay X r n b ns l xs):cQ X r n b ns (wO l) (.List xs pos):=by
 intro A p env ρ w h s q he k res e Q t;refine ay (bG (ay (hl A p env ρ w h s q he _ res e pos _ λx h1 i vs ys c u hv d=>(aC (dK d) λd hz=> ?_))));have a:=hv.length▸(nM hz);refine jz (c.newList o hv a i.toks) λj f v g=>eT (dY ?_ (by have:=bx;show ys.toArray.size<=jn;simp;exact aI a this));have m:VR X (i.heap.push (gn ys.toArray 0)) j (h1.n+1) (bP h1.n) (.ref (j.ρ h1.n)):= .ref h1.n (bN _);rw [g] at m;exact t _ _ _ _ _ f (u.trans v) m d
theorem cQ.tuple (j:bw X) (c:∀a∈X.tabs,a<X.h₀.objs.size) z pos (hl:Ay X r n b ns l xs):cQ X r n b ns (BY l) (.Tuple xs z pos):=by
 intro A m env ρ w h s o he k res e Q p;refine ay (bG (ay (hl A m env ρ w h s o he _ res e pos _ λx h1 q vs ys f t hv g=>(f7 (dK g) λhz g=> ?_))));have hz:=aA hz;rw [len_eq] at hz;have d:=hv.length▸hz;refine eY (f.newTuple j c hv d q.toks) λu i v=>eT (dY ?_ (by have:=bx;show ys.toArray.size<=jn;simp;exact aI d this));exact p _ _ _ _ _ i (t.trans u) v g
end
section
variable {X:dw} {b:Nat}
theorem fO (e:gQ v h k=af r):v.t=6/\∃o,h.l.get v.n=af o/\o.t=1/\k o.xs h=af r:=dD (dj e) λo e a c=>f7 (dK e) λt e=>C6 a o c (aH t) e
theorem DE (e:ER v h k=af r):v.t=6/\∃o,h.l.get v.n=af o/\(o.t=1\/o.t=8)/\k o.xs h=af r:=by
 refine dD (dj e) λo e c d=> ?_
 induction h1:ak o.t 1 using zB with
 |true=>rw [h1] at e;exact C6 c o d (.inl (aH h1)) e
 |false=>
  rw [h1] at e;exact f7 (dK e) λf e=>C6 c o d (.inr (aH f)) e
theorem St.listAt (hs:St X w h s) (c:h.l.get i=af o) (ht:o.t=1):∃items ep,s.heap.get? (w.ρ i)=af (gn items ep)/\items.size<=1000000/\ef X s.heap w h.n o.xs items.toList/\w.role (w.ρ i)=af i:=sO ((hs.rep i o c).2.lV ht) λitems ep d e hn hv=>lA items ep e hn hv d
theorem St.S7 (hs:St X w h s) (d:h.l.get i=af o) (ht:o.t=1\/o.t=8):∃items ep,s.heap.get? (w.ρ i)=af (gn items ep)/\items.size<=1000000/\ef X s.heap w h.n o.xs items.toList:=by
 rcases ht with ht|ht
 .exact sO (hs.listAt d ht) λitems ep a b c e=>jV items ep a b c
 .obtain⟨items,ep,_,_,a,b,c⟩:=(hs.rep i o d).2.at_ ht;exact jV items ep a b c
section
variable (ax:bw X) (htab:∀a∈X.tabs,a<X.h₀.objs.size) {A:Around} {w:Wd} {h:H} {s:Shared} (hs:St X w h s) {u v:V} {x y:Value} (hu:VR X s.heap w h.n u x) (hv:VR X s.heap w h.n v y) {k:V->H->Option Res} {res:Res} {Q:Value->Shared->Prop} (hQ:Goes (PV X) X w h.n s k res Q)
include hs hu hv hQ
theorem Wh (h2:ak u.t 2=ao) (e:(ah au (ah (k (mj (Int.add (dS u) (dS v))) h) (k (aX (aG u.n v.n)) h) (ak (aG u.s v.s) 0)) (ak v.t 2):Option Res)=af res):wpAny (model X.prog X.w) A (binaryOp .Add x y) Q (λd d=>False) s:=by
 refine aC (dK e) λe f=>fB (hu.cS h2) λt h1=>fB (hv.cS f) λj c=>cR h1 (cR c (PyProof.Rows.add_int (su e (λhz e=> ?_) λd e=>hQ.tok hs (VR.Kh _ rfl) e)));exact f7 (jg hz) λg i=>hQ.tok hs (VR.aX _ (by refine cR (eZ g) (cR (eZ i) ?_);rfl)) e
theorem Wi (j:ak u.t 4=ao) (e:(ah au (kB (app u.l v.l) h k) (ak v.t 4):Option Res)=af res):wpAny (model X.prog X.w) A (binaryOp .Add x y) Q (λm m=>False) s:=by
 refine aC (dK e) λe n=>ou (hu.jI (aH j)) λc t o h1 q=>ou (hv.jI (aH n)) λd g p f r=> ?_;have hb:app u.l v.l=(c++d).toList.map bU:=by refine cR (mD ..) (cR o (cR p ?_));simp
 rw [hb] at e;refine f7 (dK e) λhz e=> ?_;have hz:(c++d).size<=1000000:=by simpa [len_eq] using aA hz
 exact cR h1 (cR f (W.KBy.add_bytes (cL vC (aI hz bx)) λg i=>hQ w h _ _ _ (hs.toks i) (pG i) (VR.bytes (c++d) g hz) e))
omit hs hu hv hQ in
theorem not_nil {items:Array Value} (hv:ef X g w n xs items.toList) (h:isNil xs=aj):¬items.isEmpty=true:=λq=>by
 have e:xs.length=0:=by refine cR hv.length (cR aM ?_);simpa [Array.isEmpty] using q
 rw [iH.mp e] at h;exact ft h
include ax htab
theorem Wj (p:ak u.t 5=ao) (e:(ah au (ah (ah (kT (app u.xs v.xs) h k) au (isNil v.xs)) au (isNil u.xs)) (ak v.t 5):Option Res)=af res):wpAny (model X.prog X.w) A (binaryOp .Add x y) Q (λc c=>False) s:=by
 refine aC (dK e) λe q=>fF (hu.g6 (aH p)) λa items ep r h1 c c hn d=>fF (hv.g6 (aH q)) λE i z j l c c B f=>cR h1 (cR l (su e (λc e=>fn e) λC e=>su e (λc e=>fn e) λD e=>f7 (dK e) λhz e=> ?_));have hz:=aA hz;have g:=d.append f;rw [mD] at hz e;rw [len_eq,g.length,<-fN,aM] at hz;refine PySem.P.add_tuple r j (not_nil d C) (not_nil f D) ?_ (cL vC (aI hz bx));refine iL (hs.newTuple ax htab g (cL fN (cR aM hz)) s.toks) λm n o=> ?_;rw [<-fN,sd] at n o m;exact hQ _ _ _ _ _ n o m e
omit htab
theorem Wk (e:gQ u h (λxs h=>gQ v h λys h=>new (bL (app xs ys)) h k)=af res):wpAny (model X.prog X.w) A (binaryOp .Add x y) Q (λf f=>False) s:=by
 refine gO (fO e) λo e q r t=>gO (fO e) λo' e z g B=>cR ((hu.er q).1) (cR ((hv.er z).1) (sO (hs.listAt r t) λitems ep C hn i f=>sO (hs.listAt g B) λd D j E l f=>aC (dK e) λe hz=> ?_));have hz:=nM hz;have c:=i.append l;rw [mD] at hz e;rw [c.length,<-fN,aM] at hz;refine jz (hs.newList ax c (cL fN (cR aM hz)) s.toks) λG m p F=> ?_;rw [<-fN,sd] at m p;exact PySem.P.add_list C j (hQ _ _ _ _ _ m p (F▸VR.ref h.n (bN _)) e) (cL vC (aI hz bx))
end
theorem Oa (ax:bw X) (htab:∀a∈X.tabs,a<X.h₀.objs.size):qU X b VG .Add:=λA n g w h s hs u v x y hu hv k res e Q hQ=>
 su e (λh2 e=>Wh hs hu hv hQ h2 e) λc e=>su e (λd e=>Wi hs hu hv hQ d e) λc e=>su e (λf e=>Wj ax htab hs hu hv hQ f e) λc e=>Wk ax hs hu hv hQ e
end
noncomputable def KH:BoolOp->Bool
 | .And=>ao
 | .Or=>aj
section
variable {X:dw} {r:Ap} {n b:Nat} {ns:List (Str×aN)}
theorem cQ.bool (C:Kw X b) op pos (hx:cQ X r n b ns x a) (hy:cQ X r n b ns y c):cQ X r n b ns (RE (KH op) x y) (.BoolOp op [a,c] pos):=by
 intro A i env ρ w h s D he k res e Q j;refine ay (hx A i env ρ w h s D he _ res e _ λE h1 F u q v B hu G=>(ay (bG (ay (bh (eT (C A n i E h1 F v u q hu _ res G _ λl h2 m t d z o=> ?_)))))));have f:=(he.ext B).ext z;have g:=hu.mono z.dW;have p:=B.trans z;rcases op<;>rcases t
 .exact aO (j l h2 m u q d p g o)
 .exact hy A i env ρ l h2 m d f k res o Q (j.ext p)
 .exact hy A i env ρ l h2 m d f k res o Q (j.ext p)
 .exact aO (j l h2 m u q d p g o)
def tM (X:dw) (r:Ap) (n b:Nat) (ns:List (Str×aN)) (op:BoolOp) (t:XT) (xs:List Expr):Prop:=
 ∀A,fL n b A->∀env ρ w h s,St X w h s->eW X env ns ρ w h.n s->∀k res,t.f r ρ h k=af res->∀Q:Bool->Shared->Prop,sQ X w h.n s k res Q->cG (model X.prog X.w) A (allTrue op xs env) Q (λU U=>False) s
theorem tM.one (hx:jX X r n b ns t x):tM X r n b ns op t [x]:=by
 intro A d env ρ w h s f he k res e Q g;refine ay (hx A d env ρ w h s f he k res e _ λi h1 j c a l m=> ?_);have q:=g i h1 j c a l m;rcases op<;>rcases c<;>exact aO q
theorem tM.more (hx:jX X r n b ns t x) (f:tM X r n b ns op u (y::xs)):tM X r n b ns op (Dh (KH op) t u) (x::y::xs):=by
 intro A m env ρ w h s o he k res e Q g;refine ay (hx A m env ρ w h s o he _ res e _ λi h1 j c a d l=> ?_);rcases op<;>rcases c
 .exact aO (g i h1 j _ a d l)
 .exact f A m env ρ i h1 j a (he.ext d) k res l Q (g.ext d)
 .exact f A m env ρ i h1 j a (he.ext d) k res l Q (g.ext d)
 .exact aO (g i h1 j _ a d l)
theorem jX.bools pos (hx:tM X r n b ns op t xs):jX X r n b ns t (.BoolOp op xs pos):=by
 intro A a env ρ w h s c he k res e Q d;exact uF (hx A a env ρ w h s c he k res e Q d)
theorem jX.ite {te a c} pos (ht:jX X r n b ns t te) (hx:jX X r n b ns u a) (hy:jX X r n b ns v c):jX X r n b ns (VY t u v) (.IfExp te a c pos):=by
 intro A g env ρ w h s o he k res e Q i;refine ay (ht A g env ρ w h s o he _ res e _ λj h1 l q d f m=> ?_)
 induction q using zB with
 |true=>exact hx A g env ρ j h1 l d (he.ext f) k res m Q (i.ext f)
 |false=>exact hy A g env ρ j h1 l d (he.ext f) k res m Q (i.ext f)
end
section
variable {X:dw} {w:Wd} {h:H} {s:Shared}
theorem tN (e:iQ u b=af o) (d:gS X g w n b es):∀p∈b,p.1.t=u.t:=by
 induction b using zL with
 |nil=>intro p hp;nomatch hp
 |cons q l=>
  refine aL (p8 e) λc j i=>fB d.kind λk f=> ?_;intro p hp;exact cR ((f p hp).1) (cL ((f q aE).1) (cR (yQ i) rfl))
def S8 (X:dw) (g:Heap) (w:Wd) (n:Nat) (r:Option Value):Option V->Prop
 |none=>r=au
 |some v=>∃z,r=af z/\VR X g w n v z
end
section
variable {X:dw} {w:Wd} {h:H} {s:Shared}
def InR (X:dw) (A:Around) (s:Shared) (x y:Value) (t:Bool) (s':Shared):Prop:=
 ∀Q:Value->Shared->Prop,(Q (.bool t) s'->wpAny (model X.prog X.w) A (compareOp .In x y) Q (λU U=>False) s)/\(Q (.bool (!t)) s'->wpAny (model X.prog X.w) A (compareOp .NotIn x y) Q (λU U=>False) s)
theorem xR (items:Array Value) f:items.any f=items.toList.any f:=by simp
theorem KI {items} (c:s.heap.get? a=af (gn items ep)) (hu:VR X s.heap w h.n u x) (hv:ef X s.heap w h.n xs items.toList) (e:Vy u xs=af t):InR X A s x (.ref a) t s:=by
 intro Q;refine dM (KG (A:=A.in1) hu hv e) λf b ht=> ?_;have hl:s.heap.IsList a items:=f9 _ c rfl _ rfl;refine⟨λq=>in_listAt f hl (λy hy=>b y (rM hy)) ?_,λq=>notIn_listAt f hl (λy hy=>b y (rM hy)) ?_⟩
 .refine cR (xR ..) (cR ht ?_);exact q
 .refine cR (xR ..) (cR ht ?_);exact q
theorem Ob {items} (c:s.heap.get? a=af (gf items ep)) (hu:VR X s.heap w h.n u x) (hv:ef X s.heap w h.n xs items.toList) (e:Vy u xs=af t):InR X A s x (.ref a) t s:=by
 intro Q;refine dM (KG (A:=A.in1) hu hv e) λf b ht=> ?_;have hl:s.heap.IsTuple a items:=f9 _ c rfl _ rfl;refine⟨λq=>in_tupleAt f hl (λy hy=>b y (rM hy)) ?_,λq=>notIn_tupleAt f hl (λy hy=>b y (rM hy)) ?_⟩
 .refine cR (xR ..) (cR ht ?_);exact q
 .refine cR (xR ..) (cR ht ?_);exact q
end
section
variable {X:dw} {w:Wd} {g:Heap} {n:Nat}
theorem jY:∀{xs},allInts xs=ao->∀v∈xs,v.t=2:=by
 intro xs
 induction xs with
 |nil=>
  intro _;exact λv hv=>(aU hv).elim
 |cons c l b=>
  intro e;have e:(ah aj (allInts l) (ak c.t 2):Bool)=true:=e
  induction a:ak c.t 2 using zB with
  |false=>rw [a] at e;exact ff e
  |true=>
   rw [a] at e;intro v hv;rcases aT.mp hv with rfl|hv
   .exact aH a
   .exact b e v hv
theorem itemsAre (b:∀v∈xs,v.t=2) (h:ef X g w n xs ys):ItemsAre (intKind X.prog X.w) (xs.map dS) ys:=by
 induction xs generalizing ys with
 |nil=>cases h;exact .nil
 |cons c l d=>
  cases h with
  |cons _ y _ ys hv e=>exact .cons ((yR X).is hv (b c aE)) (d (λv hv=>b v (aD _ hv)) e)
theorem Cb (hu:VR X g w n u x) (ht:u.t=5) (b:allInts u.xs=ao):∃a,x= .ref a/\IsTupleKey (intKind X.prog X.w) g (u.xs.map dS) a:=by
 induction hu using Mine.VR.casesOn with
 |tup xs a items ep e hm c hn d=>exact⟨a,rfl,_,items,ep,c,rfl,rfl,itemsAre (jY b) d⟩
 |_=>exact nn ht rfl
theorem KJ:∀{b} {c} {x y},ef X g w n a x->ef X g w n b y->Gi a b=af c->c=decide (a.map dS=b.map dS):=by
 induction a with
 |nil=>
  intro b c x y _ _ e;rcases b with _|⟨b,f⟩
  .injection e with e;subst e;rfl
  .exact fn e
 |cons a l i=>
  intro b c x y hx hy e;rcases b with _|⟨b,f⟩
  .exact fn e
  refine vK hx.cons_of λd d d j hl=>vK hy.cons_of λd d d hb h=> ?_;have e:(ah au (ah au (ah (ah au (ah au (af aj) (allInts f)) (allInts l)) (Gi l f) (Ax a b)) (ak b.t 2)) (ak a.t 2):Option Bool)=af c:=e;refine aC (dK e) λe m=>aC (dK e) λe o=> ?_;have k:=tH j hb m o
  induction hn:Ax a b using zB with
  |true=>
   rw [hn] at e k;refine cR (i hl h e) ?_;simp [show dS a=dS b from of_decide_eq_true k.symm]
  |false=>
   rw [hn] at e k;refine aC (dK e) λe d=>aC (dK e) λe d=> ?_;injection e with e;subst e
   simp [show ¬dS a=dS b from of_decide_eq_false k.symm]
end
section
variable {X:dw} {w:Wd} {g:Heap} {n:Nat}
theorem GA:∀{a b} {x y},ef X g w n a x->ef X g w n b y->(∀v∈a,v.t=2)->(∀v∈b,v.t=2)->a.map dS=b.map dS->a=b:=by
 intro a
 induction a with
 |nil=>
  intro b _ _ _ _ _ _ e;rcases b with _|⟨_,_⟩
  .rfl
  .injection e
 |cons a l f=>
  intro b _ _ c hb h1 h2 e;rcases b with _|⟨b,k⟩
  .injection e
  refine vK c.cons_of λx xs h c hl=>vK hb.cons_of λy ys h hb d=> ?_;injection e with i j
  exact cR ((yR X).inj c hb (h1 a aE) (h2 b aE) i) (cR (f hl d (λv hv=>h1 v (aD _ hv)) (λv hv=>h2 v (aD _ hv)) j) rfl)
theorem xS (e:isKey a=ao):a.t=2\/a.t=3\/a.t=4\/(a.t=5/\allInts a.xs=ao):=by
 have e:(ah (ah (ah (ah aj (allInts a.xs) (ak a.t 5)) ao (ak a.t 4)) ao (ak a.t 3)) ao (ak a.t 2):Bool)=true:=e
 induction h2:ak a.t 2 using zB with
 |true=>exact .inl (aH h2)
 |false=>
  rw [h2] at e
  induction c:ak a.t 3 using zB with
  |true=>exact .inr (.inl (aH c))
  |false=>
   rw [c] at e
   induction d:ak a.t 4 using zB with
   |true=>exact .inr (.inr (.inl (aH d)))
   |false=>
    rw [d] at e
    induction b:ak a.t 5 using zB with
    |true=>rw [b] at e;exact .inr (.inr (.inr ⟨aH b,e⟩))
    |false=>rw [b] at e;exact ff e
theorem yU:∀{a b} {c},Gi a b=af c->(∀v∈a,v.t=2)/\(∀v∈b,v.t=2):=by
 intro a
 induction a with
 |nil=>
  intro b c e
  induction b using zL with
  |nil=>exact⟨λf h=>((aU h).elim),λf h=>((aU h).elim)⟩
  |cons=>exact fn e
 |cons a l i=>
  intro b c e;rcases b with _|⟨b,j⟩
  .exact fn e
  refine aC (dK e) λe k=>aC (dK e) λe m=> ?_;have d:(∀v∈l,v.t=2)/\(∀v∈j,v.t=2):=by
   induction hn:Ax a b using zB with
   |true=>rw [hn] at e;exact i e
   |false=>
    rw [hn] at e;exact aC (dK e) λe o=>aC (dK e) λe p=>⟨jY o,jY p⟩
  refine⟨λv hv=> ?_,λv hv=> ?_⟩
  .rcases aT.mp hv with rfl|hv
   .exact aH k
   .exact d.1 v hv
  .rcases aT.mp hv with rfl|hv
   .exact aH m
   .exact d.2 v hv
theorem keq_eq {x y} (k:VR X g w n a x) (hb:VR X g w n b y) (e:BO a b=af c):c=ao↔a=b:=by
 have hk:=yQ e;have f:∀kd:KD X,kd.t=a.t->(c=ao↔a=b):=by
  intro kd ht;have q:=kd.BO k hb ht.symm (hk.symm.trans ht.symm);have q:af c=af (decide (kd.of a=kd.of b)):=cL q e.symm;have q:=aF q;refine⟨λh=> ?_,λh=> ?_⟩
  .rw [h] at q;exact kd.inj k hb ht.symm (hk.symm.trans ht.symm) (of_decide_eq_true q.symm)
  .rw [h] at q;refine cR q ?_;simp
 refine aC (dK e) λe d=>su e (λh2 d=>f (yR X) (aH h2).symm) λd e=>su e (λm d=>f (Dy X) (aH m).symm) λd e=>su e (λo d=>f (B7 X) (aH o).symm) λd e=> ?_;clear f;refine f7 (dK e) λi e=> ?_;have i:=aH i;refine fF (k.g6 i) λd d d d d d d d l=>fF (hb.g6 (hk.symm.trans i)) λd d d d d d d d j=> ?_;have q:=KJ l j e;refine f7 (yU e) λp r=>⟨λh=> ?_,λh=> ?_⟩
 .rw [h] at q;exact cR (k.J8 i) (cR (hb.J8 (hk.symm.trans i)) (cR (GA l j p r (of_decide_eq_true q.symm)) rfl))
 .refine cR q (cR h ?_);exact decide_eq_true rfl
theorem Fb (hu:VR X g w n u x) (hk:∀p∈a,∃y,VR X g w n p.1 y) (e:iQ u a=af o):
 (o=au/\∀p∈a,p.1≠u)\/∃(j:Nat) (v:V),o=af v/\a[j]? =af (u,v):=by
 induction a with
 |nil=>exact .inl ⟨A3 e,λp hp=>(aU hp).elim⟩
 |cons p l d=>
  refine aL (p8 e) λc e f=>fB (hk p aE) λy hy=> ?_;have q:=keq_eq hu hy f;rcases e with⟨rfl,rfl⟩|⟨rfl,e⟩
  .refine .inr (nv 0 p.2 rfl ?_);refine cR (q.mp rfl) ?_;rfl
  .rcases d (λp hp=>hk p (aD _ hp)) e with⟨h1,h2⟩|⟨j,v,h1,h2⟩
   .refine .inl ⟨h1,λi b=> ?_⟩;rcases aT.mp b with rfl|b
    .exact λh=>ff (q.mpr h.symm)
    .exact h2 i b
   .exact .inr (nv (j+1) v h1 h2)
theorem KL (e:dput k v []=af d):isKey k=ao/\d=[(k,v)]:=aC (dK e) λe a=>⟨a,(aF e).symm⟩
theorem HP (e:dput k v (p::r)=af d):∃c,BO k p.1=af c/\((c=ao/\d=(p.1,v)::r)\/(c=aj/\∃f,dput k v r=af f/\d=p::f)):=by
 refine aL (pS (show(aB au (λb=>ah (aB au (λh=>af (p::h)) (dput k v r)) (af ((p.1,v)::r)) b) (BO k p.1):Option (List (V×V)))=af d from e)) λc e i=>bW c i ?_
 induction c using zB with
 |true=>exact .inl ⟨rfl,(aF e).symm⟩
 |false=>
  exact aL (pS e) λf e j=> .inr (yp rfl f j ((aF e).symm))
theorem v7 (hu:VR X g w n u x) {a} (hk:∀p∈a,∃y,VR X g w n p.1 y) {d} (e:dput u v a=af d):
 (iQ u a=af au/\(∀p∈a,p.1≠u)/\d=a++[(u,v)])\/∃j i,iQ u a=af (af i)/\a[j]? =af (u,i)/\d=a.set j (u,v):=by
 induction a generalizing d with
 |nil=>
  refine aC (KL e) λk=> ?_;subst k;intro h1;refine .inl (iU ?_ (λp hp=>((aU hp).elim)) rfl);refine(?_:(ah au (af au) (isKey u):Option (Option V))=_);exact cR h1 rfl
 |cons p l s=>
  refine aL (HP e) λc e r=>fB (hk p aE) λy hy=> ?_;have q:=keq_eq hu hy r;have m:iQ u (p::l)=(ah (iQ u l) (af (af p.2)) c:Option (Option V)):=by
   refine(?_:(aB au (λb=>ah (iQ u l) (af (af p.2)) b) (BO u p.1):Option (Option V))=_);exact cR r rfl
  rcases e with⟨rfl,rfl⟩|⟨rfl,A,t,rfl⟩
  .refine .inr (jV 0 p.2 m ?_ ?_)
   .refine cR (q.mp rfl) ?_;rfl
   .refine cR (q.mp rfl) ?_;rfl
  .rcases s (λp hp=>hk p (aD _ hp)) t with⟨o,h1,rfl⟩|⟨j,i,o,h1,rfl⟩
   .refine .inl (iU (m.trans o) (λz f=> ?_) rfl);rcases aT.mp f with rfl|f
    .exact λh=>ff (q.mpr h.symm)
    .exact h1 z f
   .exact .inr (jV (j+1) i (m.trans o) h1 rfl)
theorem iR.SW (h:iR (qS X g w n) a es):∀p∈a,∃y,VR X g w n p.1 y:=by
 induction h with
 |nil=>intro p hp;nomatch hp
 |cons h _ b=>
  intro p hp;rcases aT.mp hp with rfl|hp
  .exact⟨_,h.key⟩
  .exact b p hp
theorem DF {a:List (V×V)} (hn:(a.map eB).Nodup) {i j:Nat} (hi:a[i]? =af (u,v)) (d:a[j]? =af (u,v')):i=j:=by
 have b:(a.map eB)[i]? =af u:=by refine cR kY (cR hi ?_);rfl
 have c:(a.map eB)[j]? =af u:=by refine cR kY (cR d ?_);rfl
 exact(List.getElem?_inj (cg.mp b).1 hn).mp (b.trans c.symm)
end
structure Oc (X:dw) (g:Heap) (w:Wd) (n:Nat) (p:V×V) (q:List Int×Addr×Value):Prop where
 key:p.1.xs.map dS=q.1
 kr:VR X g w n p.1 (.ref q.2.1)
 is:(tupleKind (intKind X.prog X.w)).is g q.1 q.2.1
 val:VR X g w n p.2 q.2.2
section
variable {X:dw} {w:Wd} {n:Nat} {s:Shared}
theorem xT (hu:VR X s.heap w n u x) (hk:isKey u=ao):∃d,∀t {A} {E} {Q},A.units<cLine->Q (hashOf X u) {s with toks:=t+d}->
 wpAny (model X.prog X.w) A (pyHash x) Q E {s with toks:=t}:=by
 have b:∀kd:KD X,kd.t=u.t->∃d,∀t {A} {E} {Q},A.units<cLine->Q (hashOf X u) {s with toks:=t+d}->
  wpAny (model X.prog X.w) A (pyHash x) Q E {s with toks:=t}:=λkd ht=>⟨1,λt A E Q i q=>kd.knd.pyHash (s:={s with toks:=t}) (kd.is hu ht.symm) (cR (kd.hash hu ht.symm) q)⟩
 rcases xS hk with h|h|h|⟨h,f⟩
 .exact b (yR X) h.symm
 .exact b (Dy X) h.symm
 .exact b (B7 X) h.symm
 .refine dM (Cb hu h f) λa c=> ?_;subst c;intro k;refine⟨(tupleKind (intKind X.prog X.w)).draws (u.xs.map dS),λt A E Q g q=>(tupleKind (intKind X.prog X.w)).pyHash (s:={s with toks:=t}) g k ?_⟩;have e:hashOf X u=(tupleKind (intKind X.prog X.w)).hash (u.xs.map dS):=by unfold hashOf;rw [if_neg (by refine cR h ?_;exact aY rfl),if_pos h];rfl
  refine cL e ?_;exact q
theorem l0 (e:iQ u kvs=af o) (hu:VR X g w n u x) (d:gS X g w n kvs es):isKey u=true:=by
 induction kvs using zL with
 |nil=>exact(dK e).1
 |cons p l=>
  refine aL (p8 e) λc f b=> ?_;have ht:=yQ b;refine fB d.kind λt h=> ?_;have hp:=(h p aE).2;unfold isKey at hp⊢;refine cR ht (aC (dK b) λb f=> ?_);rw [ht] at b
  induction h2:ak p.1.t 2 using zB with
  |true=>rfl
  |false=>
   induction i:ak p.1.t 3 using zB with
   |true=>rfl
   |false=>
    induction j:ak p.1.t 4 using zB with
    |true=>rfl
    |false=>
     rw [h2,i,j] at b;refine f7 (dK b) λk b=>cR k ((?_:allInts u.xs=ao));have q:=(yU b).1;revert q;generalize u.xs=l';intro q
     induction l' with
     |nil=>rfl
     |cons a r m=>
      refine(?_:(ah aj (allInts r) (ak a.t 2):Bool)=ao);exact cR (q a aE) (m λv hv=>q v (aD _ hv))
theorem gS.tups (d:gS X g w n f es) (ht:∀p∈f,p.1.t=5):∃xs,iR (Oc X g w n) f xs/\es=xs.map (entryOfKey (tupleKind (intKind X.prog X.w))):=by
 have i:=d.all;have hk:=let⟨_,h⟩:=d.kind;λp hp=>(h p hp).2;clear d
 induction i with
 |nil=>exact bW [] .nil rfl
 | @cons p e l m h t ih=>
  refine aL (ih (λp hp=>ht p (aD _ hp)) λp hp=>hk p (aD _ hp)) λxs j=> ?_;subst j;intro h1;have o:=ht p aE;have i:allInts p.1.xs=true:=by
   rcases xS (hk p aE) with h|h|h|⟨_,i⟩
   .lia
   .lia
   .lia
   .exact i
  have c:=h.key;refine aL (Cb c o i) λa k hx=> ?_;rw [hx] at c;refine bW ((p.1.xs.map dS,a,e.val)::xs) (.cons ⟨rfl,c,k,h.val⟩ h1) ?_;obtain⟨q,r,b⟩:=e;have u:hashOf X p.1=tupleKeyHash (intKind X.prog X.w) (p.1.xs.map dS):=by unfold hashOf;rw [if_neg (by refine cR o ?_;exact aY rfl),if_pos o]
  cases hx;refine congrArg (· ::_) ((?_:DictEntry.mk q _ b=⟨_,_,b⟩));refine cR (show q=hashOf X p.1 from(h.hash)) (cR u ?_);rfl
theorem GB {x y} (j:VR X g w n a x) (hb:VR X g w n b y) (h1:a.t=5) (h2:b.t=5) (l:isKey a=ao) (m:isKey b=ao) (e:a.xs.map dS=b.xs.map dS):a=b:=by
 have d:∀{c},c.t=5->isKey c=ao->∀v∈c.xs,v.t=2:=λh i=>by
  rcases xS i with h'|h'|h'|⟨_,j⟩
  .lia
  .lia
  .lia
  .exact jY j
 induction j using Mine.VR.casesOn with
 |tup xs a items ep B hm C hn o=>
  induction hb using Mine.VR.casesOn with
  |tup p D f q r u z A k=>exact cR (GA o k (d h1 l) (d h2 m) e) rfl
  |_=>exact nn h2 rfl
 |_=>exact nn h1 rfl
theorem Oc.keys (h:iR (Oc X g w n) kvs xs):xs.map (·.1)=kvs.map (λp=>p.1.xs.map dS):=by
 induction h with
 |nil=>rfl
 |cons h _ a=>simp [a,h.key]
theorem KN {K:Type} {f:V->K} {b:List (V×V)} (d:(b.map eB).Nodup) (c:∀p∈b,∀q∈b,f p.1=f q.1->p.1=q.1):(b.map λp=>f p.1).Nodup:=by
 induction b with
 |nil=>exact iF
 |cons p m g=>
  rw [dG,gv] at d⊢;refine⟨λhp=> ?_,g d.2 (λp hp q hq=>c p (aD _ hp) q (aD _ hq))⟩;exact dM (gG.mp hp) λq hq e=>d.1 (gG.mpr (bW q hq (c q (aD _ hq) p aE e)))
theorem xU (Z:s.heap.get? a=af (cJ es ep)) (g:gS X s.heap w n c es.toList)
 (hu:VR X s.heap w n u x) (e:iQ u c=af o) (hA:A.units<cLine) t
 (qn:o=au->(∀p∈c,p.1≠u)->Q au {s with toks:=t}) (qs:∀j v,o=af v->c[j]? =af (u,v)->Q (af j) {s with toks:=t}):
 wpAny (model X.prog X.w) A (dictFind a x (hashOf X u)) Q E {s with toks:=t}:=by
 have H:=g.all.SW;have G:=Fb hu H e;have O:=l0 e hu g;have I:∀r:Option Nat,(r=au->∀p∈c,p.1≠u)->(∀j,r=af j->∃v,c[j]? =af (u,v))->Q r {s with toks:=t}:=by
  intro r h1 h2
  induction r using zO with
  |none=>
   have h1:=h1 rfl;rcases G with⟨a,b⟩|⟨j,v,a,b⟩
   .exact qn a b
   .exact absurd rfl (h1 _ (cY b))
  |some j=>
   refine fB (h2 j rfl) λv hv=> ?_;rcases G with⟨_,b⟩|⟨j',v',a',b⟩
   .exact absurd rfl (b _ (cY hv))
   .have:=DF g.nodup hv b;subst this;have:=aF (hv.symm.trans b);cases this;exact qs _ _ a' hv
 have J:∀kd:KD X,kd.t=u.t->wpAny (model X.prog X.w) A (dictFind a x (hashOf X u)) Q E {s with toks:=t}:=by
  intro kd ht;have hk:∀p∈c,p.1.t=kd.t:=λp hp=>(tN e g p hp).trans ht.symm;refine cL (kd.hash hu ht.symm) (cI (g.pairs (kd:=kd) hk) λJr h3 h1 h2=>wpAny_dictFind_of (s:={s with toks:=t}) (kd.is hu ht.symm) Z rfl (λe he=>h3 e (mw.mpr he)) (I _ (λh p hp=> ?_) λj h=> ?_))
  .rw [Array.findIdx?_eq_none_iff] at h;obtain⟨i,hi,K⟩:=nj hp;refine dM (g.all.get (i:=i) (a:=p) (cR (bB hi) (cR K rfl))) λd C D=> ?_;intro l;have q:=kd.is D.key (hk p hp);rw [l] at q;have:=h d (mw.mp (cY C));rw [q] at this;exact ft this
  .obtain⟨P,hi,_⟩:=Array.findIdx?_eq_some_iff_getElem.mp h;have hl:j<c.length:=cR g.all.length P;refine aL (g.all.get (i:=j) (a:=c[j]) (bB hl)) λd D C=> ?_;have R:es[j]=d:=by rw [bz,oR P] at C;exact aF C
   rw [R] at hi;have m:=hk c[j] (l7 hl);have q:=kd.is D.key m;have:=kd.inj hu D.key ht.symm m (kd.knd.inj _ _ _ hi q);exact⟨c[j].2,by exact cR (bB hl) (cR this rfl)⟩
 rcases xS O with h|h|h|⟨h,ha⟩
 .exact J (yR X) h.symm
 .exact J (Dy X) h.symm
 .exact J (B7 X) h.symm
 .have hk:∀p∈c,p.1.t=5:=λp hp=>(tN e g p hp).trans h;have B:=let⟨_,h⟩:=g.kind;λp hp=>(h p hp).2;refine aL (g.tups hk) λxs h2 h1=>dM (Cb hu h ha) λb S=> ?_;subst S;intro k;have e1:hashOf X u=(tupleKind (intKind X.prog X.w)).hash (u.xs.map dS):=by unfold hashOf;rw [if_neg (by refine cR h ?_;exact aY rfl),if_pos h];rfl
  refine cR e1 ?_;have T:∀(j:Nat) p,xs[j]? =af (u.xs.map dS,p)->∃v,c[j]? =af (u,v):=by
   intro j p N;have hl:j<c.length:=cR h1.length ((cg.mp N).1);refine dM (h1.get (i:=j) (a:=c[j]) (bB hl)) λq L F=> ?_;cases aF (N.symm.trans L);have m:=l7 hl;have:=GB hu F.kr h (hk _ m) O (B _ m) F.key.symm;exact⟨c[j].2,by refine cR (bB hl) ?_;exact cR (show c[j]=(c[j].1,c[j].2) from rfl) (cL this rfl)⟩
  have V:∀p∈c,p.1=u->∃(j:Nat) (q:Addr×Value),xs[j]? =af (u.xs.map dS,q):=by
   intro p hp l;obtain⟨i,hi,K⟩:=nj hp;refine dM (h1.get (i:=i) (a:=p) (cR (bB hi) (cR K rfl))) λq L F=> ?_;exact Vh i q.2 (cR L (cL l (cR F.key rfl)))
  refine wpAny_dictFind_heap (s:={s with toks:=t}) (xs:=xs) (knd:=tupleKind (intKind X.prog X.w)) hA k Z rfl h2 (λq hq=> ?_) ?_ (λW=>I au (λU p hp l=> ?_) λj h=>fn h) λj p N=>I (af j) (λh=>sn h) λj' M=>by injection M with M;subst M;exact T j p N
  .refine dM (h1.SQ hq) λp U hp=> ?_;exact hp.is
  .have nd:=g.nodup;have Y:∀p∈c,∀q∈c,p.1.xs.map dS=q.1.xs.map dS->p.1=q.1:=λp hp q hq e=>by
    exact fB (H p hp) λy hy=>fB (H q hq) λz hz=>GB hy hz (hk p hp) (hk q hq) (B p hp) (B q hq) e
   exact cR (Oc.keys h1) (KN (f:=λv=>v.xs.map dS) nd Y)
  .exact Sw (V p hp l) λj q N=>W j q N
end
section
variable {X:dw} {w:Wd} {h:H} {s:Shared}
theorem Fc (f:s.heap.get? a=af (cJ es ep)) (b:gS X s.heap w n kvs es.toList)
 (hu:VR X s.heap w n u x) (e:iQ u kvs=af o) (g:A.units<cLine)
 (q:∀t r,S8 X s.heap w n r o->Q r {s with toks:=t}):wpAny (model X.prog X.w) A (dictGet a x) Q E s:=by
 refine fB (xT hu (l0 e hu b)) λd i=> ?_;unfold dictGet
 try with_reducible refine bO ?_
 refine aq (i s.toks g (aq (xU f b hu e g _ (λc m=> ?_) λj v c k=> ?_)))
 .exact av (q _ _ (cR c rfl))
 .refine dM (b.all.get k) λl h1 h2=>aq (gI (s:={s with toks:=s.toks+d}) f rfl (av (q _ _ (cR c (bW l.val ?_ h2.val)))));refine cL bz (cR h1 ?_);rfl
theorem uK (g:(a==k9)=aj) (d:s.heap.get? a=af (cJ es ep)) (i:gS X s.heap w n kvs es.toList)
 (hu:VR X s.heap w n u x) (e:iQ u kvs=af o) (j:A.units+1<cLine)
 (q:∀t,Q o.isSome {s with toks:=t}):wpAny (model X.prog X.w) A (contains (.ref a) x) Q E s:=by
 have b:s.TypeIs (.ref a) "dict":=bW _ d rfl;unfold contains
 try with_reducible refine bO ?_
 refine bq (bV b yk.lookup) ((?_:wpAny _ _ (if(af (t6 "dict.__contains__")==af dX)=ao then _ else _) _ E s));rw [if_neg (by refine cR (beq_builtin_none ..) ?_;exact bZ)];refine aq (wpAny_callSpecialUnlessNone?_slot (name:=bY "__contains__") b yk
  (bH yk b entry_dict_contains ?_ (args_dict_contains _ _)))
 refine(?_:wpAny _ _ (dictGet a x>>=_) _ _ s);refine aq (Fc d i hu e (A:=A.in1) j λt r f=> ?_)
 induction o using zO with
 |some v=>
  refine dM f λz c=> ?_;subst c;intro _;exact av (bW _ rfl (gH (q t)))
 |none=>
  refine cR f ((?_:wpAny _ _ (Builtin.Dict.pendingKey? a x>>=_) _ _ _));exact aq (wpAny_pendingKey_other g (av (bW _ rfl (gH (q t)))))
theorem Od (d:s.heap.get? a=af (cJ es ep)) (f:gS X s.heap w n kvs es.toList)
 (hu:VR X s.heap w n u x) (e:iQ u kvs=af (af v)) (g:A.units+1<cLine)
 (q:∀t z,VR X s.heap w n v z->Q z {s with toks:=t}):wpAny (model X.prog X.w) A (getItem (.ref a) x) Q E s:=by
 have b:s.TypeIs (.ref a) "dict":=bW _ d rfl;unfold getItem
 try with_reducible refine bO ?_
 refine bq (Am b rfl) ?_;refine aq (dU (name:=bY "__getitem__") b Ao
  (bH Ao b entry_dict_getitem ?_ (args_dict_getitem _ _)))
 refine(?_:wpAny _ _ (dictGet a x>>=_) _ _ s);refine aq (Fc d f hu e (A:=A.in1) g λt r i=> ?_);refine dM i λz c=> ?_;subst c;intro j;exact av (bW z rfl (av (q t z j)))
theorem t8 {o:O} (h:o.t=k) (hk:ak k 8=aj):o.t≠8:=λe=>nn (h.symm.trans e) hk
theorem St.turn (d:bw X) (b:St X w h s) (hi:h.l.get i=af o) F t
 (r:oV X s.heap w h.n (s.heap.update (w.ρ i) F) w h.n->w.role (w.ρ i)=af i->Rep X (s.heap.update (w.ρ i) F) w h.n i o') (f:o.t≠8):
 St X w ⟨HT.ins o' h.l i,h.n⟩ {s with heap:=s.heap.update (w.ρ i) F,toks:=t}/\Ext X cV w h.n s w h.n {s with heap:=s.heap.update (w.ρ i) F,toks:=t}:=by
 have c:=(b.rep i o hi).2.role f;exact b.put d hi (s':={s with heap:=s.heap.update (w.ρ i) F,toks:=t}) (Heap.size_after_update s.1 (Wd.ρ w i) F) (λa j g e=>(dF _ _ (λhe=>g (by refine cL he ?_;exact c))).trans e) rfl rfl λk=>r k c
theorem HQ {f:Array aV} (c:gS X g w n kvs f.toList) (hv:VR X g w n v y) (a:kvs[j]? =af (u,v0)):
 gS X g w n (kvs.set j (u,v)) (f.modify j λe=>{e with val:=y}).toList:=by
 refine dM (c.all.get a) λz h1 h2=> ?_;have k:=(cg.mp a).1;have d:iR (qS X g w n) (kvs.set j (u,v)) (f.toList.modify j λe=>{e with val:=y}):=by
  have x:=c.all;clear c h1 h2;generalize f.toList=el at x⊢
  induction x generalizing j with
  |nil=>exact fn a
  | @cons p q l m hp hl ih=>
   induction j using zN with
   |zero=>injection a with a;subst a;exact .cons ⟨hp.key,hv,hp.hash⟩ hl
   |succ j=>exact .cons hp (ih a (k7 k))
 have b:(kvs.set j (u,v)).map eB=kvs.map eB:=by
  refine cR List.map_set (List.ext_getElem? λi=>cR (List.getElem?_set) ?_);split
  .rename_i o;subst o;simp [kY,a];exact(cg.mp a).1
  .rfl
 refine⟨by simpa using d, ?_,b▸c.nodup⟩;refine fB c.kind λt ht=>⟨t,λp hp=> ?_⟩;have r:=b▸gG.mpr (bW p hp rfl);refine dM (gG.mp r) λq hq e=>cL e ?_;exact ht q hq
theorem A5 {j:Array aV} (d:gS X g w n c j.toList) (hu:VR X g w n u x) (hv:VR X g w n v y) (e:iQ u c=af au) (f:∀p∈c,p.1≠u):
 gS X g w n (c++[(u,v)]) (j.push ⟨hashOf X u,x,y⟩).toList:=by
 refine⟨?_,⟨u.t,λp hp=> ?_⟩, ?_⟩
 .exact cR o7 (d.all.append (.cons ⟨hu,hv,rfl⟩ .nil))
 .rcases m6.mp hp with hp|hp
  .exact fB d.kind λt ht=>⟨tN e d p hp,(ht p hp).2⟩
  .rw [eE] at hp;exact cR hp (⟨rfl,l0 e hu d⟩)
 .rw [j5,List.nodup_append];refine iU d.nodup (by simp) (λa k b hb=> ?_);simp only [dG,List.map_nil,eE] at hb;refine cR hb ?_;refine aL (gG.mp k) λp i=> ?_;subst i;intro hp;exact f p hp
theorem Fd c (old new):cnt c old new=c+(new.length-old.length):=by
 have h:∀l:List (V×V),(aS 0 (λa a b=>aG b 1) l:Nat)=l.length:=λl=>len_eq l;unfold cnt;refine cR (h ..) (cR (h ..) ?_);rfl
theorem GC (G:bw X) (z:St X w h s) (hi:h.l.get i=af (dZ kvs c)) (hu:VR X s.heap w h.n u x) (hv:VR X s.heap w h.n v y) (e:dput u v kvs=af d) (hn:d.length<=1000000)
 (I:A.units<cLine) t
 (q:∀s',St X w ⟨HT.ins (dZ d (cnt c kvs d)) h.l i,h.n⟩ s'->Ext X cV w h.n s w h.n s'->Q () s'):wpAny (model X.prog X.w) A (dictSetHashed (w.ρ i) x (hashOf X u) y) Q E {s with toks:=t}:=by
 refine aC (z.rep i _ hi) λr L=> ?_;cases r with
 |dict _ g ep o f hz b _ a=>
  unfold dictSetHashed
  try with_reducible refine bO ?_
  rcases(v7 hu b.all.SW e) with⟨p,B,rfl⟩|⟨j,M,p,J,rfl⟩
  .refine aq (xU f b hu p I t (λK K=> ?_) λj v h=>fn h);refine aq (fh (wpAny_updateDictKeys (s:={s with toks:=t}) (hz:=aI hz bx) f rfl ?_));have C:(g.push ⟨hashOf X u,x,y⟩).size<=1000000:=by
    have:=b.all.length;rw [dc] at hn;simp at hn this⊢;lia
   have m:=z.turn G hi (Obj.mapDictKeys λg=>g.push ⟨hashOf X u,x,y⟩) t (o':=dZ (kvs++[(u,v)]) (cnt c kvs (kvs++[(u,v)]))) (λk o=> .dict _ _ (ep+1) o (bE _ f rfl) C ((A5 b hu hv p B).mono k) _ (by refine cR (Fd ..) (cR dc (cR a ?_));simp;exact rfl)) (aY rfl);exact q _ m.1 m.2
  .refine aq (xU f b hu p I t (λh K=>sn h) λN O h D=> ?_);have F:=DF b.nodup J D;subst F;refine aq (fh (aq (wpAny_updateDict (s:={s with toks:=t}) f rfl (vA ?_))));have m:=z.turn G hi (Obj.mapDict λg=>g.modify j λe=>{e with val:=y}) t (o':=dZ (kvs.set j (u,v)) (cnt c kvs (kvs.set j (u,v)))) (λk o=> .dict _ _ ep o (bE _ f rfl) (by simpa using hz) ((HQ b hv J).mono k) _ (by refine cR (Fd ..) (cR List.length_set (cR a ?_));lia)) (aY rfl);exact q _ m.1 m.2
theorem Fe (e:dput u v kvs=af d) (hu:VR X g w n u x) (a:gS X g w n kvs es):isKey u=true:=by
 rcases v7 hu a.all.SW e with⟨b,_,_⟩|⟨j,c,b,_,_⟩<;>exact l0 b hu a
theorem Ff (f:bw X) (a:St X w h s) (hi:h.l.get i=af (dZ kvs c)) (hu:VR X s.heap w h.n u x) (hv:VR X s.heap w h.n v y) (e:dput u v kvs=af d) (hn:d.length<=1000000)
 (b:A.units<cLine)
 (q:∀s',St X w ⟨HT.ins (dZ d (cnt c kvs d)) h.l i,h.n⟩ s'->Ext X cV w h.n s w h.n s'->Q () s'):wpAny (model X.prog X.w) A (dictSet (w.ρ i) x y) Q E s:=by
 refine aC (a.rep i _ hi) λr g=> ?_;cases r with
 |dict _ m ep o p hz j=>
  refine fB (xT hu (Fe e hu j)) λt k=> ?_;unfold dictSet
  try with_reducible refine bO ?_
  exact aq (k s.toks b (GC f a hi hu hv e hn b _ q))
theorem Fg (j:bw X) (g:St X w h s) (hi:h.l.get i=af (dZ kvs c)) (hu:VR X s.heap w h.n u x) (hv:VR X s.heap w h.n v y) (e:dput u v kvs=af d) (hn:d.length<=1000000)
 (k:A.units+1<cLine)
 (q:∀s',St X w ⟨HT.ins (dZ d (cnt c kvs d)) h.l i,h.n⟩ s'->Ext X cV w h.n s w h.n s'->Q () s'):wpAny (model X.prog X.w) A (setItem (.ref (w.ρ i)) x y) Q E s:=by
 have f:s.TypeIs (.ref (w.ρ i)) "dict":=by
  refine aC (g.rep i _ hi) λr m=> ?_;cases r with
  |dict _ p ep t o hz z=>exact bW _ o rfl
 unfold setItem
 try with_reducible refine bO ?_
 refine bq (Am f rfl) ?_;refine aq (dU (name:=bY "__setitem__") f slot_dict_setitem
  (bH slot_dict_setitem f entry_dict_setitem ?_ (args_dict_setitem _ _ _)))
 refine bq (m7 f) ((?_:wpAny _ _ (dictSet (w.ρ i) x y>>=_) _ _ s));exact aq (Ff j g hi hu hv e hn (A:=A.in1) k λs' a b=>av (bW .none rfl (av (q s' a b))))
end
section
variable {X:dw} {w:Wd} {h:H} {s:Shared} {b:Nat}
theorem KO (j:10<=X.h₀.objs.size) (d:St X w h s) (F:A.units+200<=9900) (hu:VR X s.heap w h.n u x) (hv:VR X s.heap w h.n v y) (e:Ys u v h k=af res)
 :(sQ X w h.n s k res (λc=>Q (.bool c))->wpAny (model X.prog X.w) A (compareOp .In x y) Q (λf f=>False) s)/\(sQ X w h.n s k res (λc=>Q (.bool (!c)))->wpAny (model X.prog X.w) A (compareOp .NotIn x y) Q (λf f=>False) s):=by
 have z:A.units+1<cLine:=cl F rfl;refine su e (λG e=> ?_) λf e=> ?_
 .refine dM (bC e) λt m r=>fF (hv.g6 (aH G)) λa items ep p hy f f hn l=> ?_;have q:=λQ=>Ob (A:=A) p hu l m Q;exact cR hy (⟨λg=>(q Q).1 (g w h s t d .refl r),λg=>(q Q).2 (g w h s t d .refl r)⟩)
 refine dD (dj e) λo e I B=>cR ((hv.er I).1) (su e (λh1 e=> ?_) λf e=> ?_)
 .refine dM (bC e) λt m r=>jH ((d.rep _ o B).2.lV (aH h1)) λitems ep p C hn l=> ?_;have q:=λQ=>KI (A:=A) p hu l m Q;exact⟨λg=>(q Q).1 (g w h s t d .refl r),λg=>(q Q).2 (g w h s t d .refl r)⟩
 refine aC (dK e) λe h2=>aL (bC e) λD e m=>iV ((d.rep _ o B).2.kI (aH h2)) λJ ep f C p hn E=> ?_;have i:=jJ d j C;have e:k D.isSome h=af res:=by rcases D<;>exact e
 exact⟨λg=>aq (uK (A:=A) i p E hu m z λt=>av (g w h _ _ (d.toks t) (pG t) e)),
  λg=>aq (uK (A:=A) i p E hu m z λt=>av (g w h _ _ (d.toks t) (pG t) e))⟩
theorem S9 (a:10<=X.h₀.objs.size):nK X b Ys .In:=by
 intro A n c w h s d u v x y hu hv k res e Q f;exact(KO a d (c.u rfl) hu hv e).1 f
theorem HR (d:10<=X.h₀.objs.size):nK X b JL .NotIn:=by
 intro A n f w h s g u v x y hu hv k res e Q i;refine(KO d g (f.u rfl) hu hv (k:=λx h=>k (neg x) h) e).2 λj h' s' c a b l=> ?_;have:=i j h' s' (neg c) a b l;rw [neg_eq] at this;exact this
theorem DG (hv:VR X g w m i x) (hn:n<=1000000) (e:yC i n=af j):
 ∃tk,x= .int (dS i) tk/\vn (dS i)=ao/\ -(2^63)<=dS i/\dS i<2^63/\wI (dS i) n=af j/\j<n:=by
 refine aC (dK e) λe h2=>fB (hv.cS h2) λtk c=> ?_;subst c;refine bW tk rfl ?_;rcases hv.E4 h2 with⟨p,q⟩|⟨p,z,q⟩
 .rw [p] at e;refine aC (dK e) λe d=> ?_;injection e with e;subst e
  have f:=cH.mp d;refine cR (show dS i=(i.n:Int) from q) (AY (fitsIndex_of (cC (V.n i)) (by lia)) (Int.neg_ofNat_le_natCast (2^63) (V.n i)) (by lia) ?_ f);exact seqIndex_of (cC (V.n i)) (by lia)
 .rw [p] at e;refine aC (dK e) λe d=> ?_;injection e with e;subst e
  have a:=aA d;refine cR q (AY (fitsIndex_neg (by lia) (by lia)) (by lia) (by lia) ?_ (by show n-i.n<n;exact Nat.sub_lt_self z a));exact cR (seqIndex_neg (by lia) (by lia)) (congrArg af (congrArg Int.toNat ((Int.add_comm (-(i.n:Int)) n).trans (Int.ofNat_sub a).symm)))
theorem A6 (e:wI k n=af j):(0<=k/\k<n/\j=k.toNat)\/(k<0/\ -(n:Int)<=k/\j=(k+n).toNat):=by
 by_cases h:k<0
 .by_cases h2: -(n:Int)<=k
  .rw [seqIndex_neg h h2] at e;exact .inr (iU h h2 ((aF e).symm))
  .unfold wI at e;simp only [h,if_true] at e;rw [if_neg (by simp only [aP,decide_eq_true_eq];lia)] at e;exact fn e
 .by_cases h2:k<n
  .rw [seqIndex_of ((λ{a b}=>Iff.mp ko) h) h2] at e;exact .inl (iU ((λ{a b}=>Iff.mp ko) h) h2 ((aF e).symm))
  .unfold wI at e;simp only [h,if_false] at e;rw [if_neg (by simp only [aP,decide_eq_true_eq];exact(λ{a b}=>Iff.mpr not_and) λa=>h2)] at e;exact fn e
theorem RX {items:Array Value} (c:ef X g w n xs items.toList) (hn:items.size<=1000000) (hu:VR X g w n u x) (i:yC u (len xs)=af j) (k:sP xs j=af z):
 ∃tk zz,x= .int (dS u) tk/\ -(2^63)<=dS u/\dS u<2^63/\wI (dS u) items.size=af j/\items[j]? =af zz/\VR X g w n z zz:=by
 rw [len_eq,c.length,aM] at i;obtain⟨tk,e,_,h1,h2,l,m⟩:=DG hu hn i;rw [mE] at k;refine dM (c.get k) λzz d f=> ?_;rw [bz] at d;exact⟨tk,zz,e,h1,h2,l,d,f⟩
theorem KQ (l:St X w h s) (J:A.units+200<=9900) (hv:VR X s.heap w h.n v y) (hu:VR X s.heap w h.n u x) (e:RC v u h k=af res):
 (s.TypeIs y "tuple"\/s.TypeIs y "list"\/s.TypeIs y "dict")/\∀{Q},Goes (PV X) X w h.n s k res Q->wpAny (model X.prog X.w) A (getItem y x) Q (λf f=>False) s:=by
 refine su (show(ah (look v h λo h=>ah (ah au (lift (iQ u o.kvs) h λr h=>lift r h k) (ak o.t 2)) (lift (yC u (len o.xs)) h λj h=>lift (sP o.xs j) h k) (ak o.t 1))
  (lift (yC u (len v.xs)) h λj h=>lift (sP v.xs j) h k) (ak v.t 5):Option Res)=af res from e) (λK e=> ?_) λf e=> ?_
 .refine aL (bC e) λj e C=>dM (bC e) λz D m=>fF (hv.g6 (aH K)) λa items ep g hy f f hn i=> ?_;obtain⟨tk,p,hx,h1,h2,E,c,d⟩:=RX i hn hu C D;exact cR hy (cR hx (⟨.inl (bW _ g rfl),λB=>getItem_tuple (f9 _ g rfl _ rfl) h1 h2 E c (B w h s z p l .refl d m)⟩))
 refine dD (dj e) λo e L G=>cR ((hv.er L).1) (su e (λh1 e=> ?_) λf e=> ?_)
 .refine aL (bC e) λj e C=>dM (bC e) λz D m=>jH ((l.rep _ o G).2.lV (aH h1)) λitems ep g f hn i=> ?_;obtain⟨tk,p,hx,h1,h2,E,c,d⟩:=RX i hn hu C D;have hl:s.heap.IsList (w.ρ v.n) items:=f9 _ g rfl _ rfl;refine cR hx (⟨.inr (.inl (bW _ g rfl)),λB=> ?_⟩);rcases A6 E with⟨F,I,q⟩|⟨F,I,q⟩
  .exact wpAny_getItem_list hl F h2 (q▸c) (B w h s z p l .refl d m)
  .exact wpAny_getItem_list_neg hl F I h1 (q▸c) (B w h s z p l .refl d m)
 exact aC (dK e) λe h2=>dM (bC e) λO C e=>aL (bC e) λz m hz=>iV ((l.rep _ o G).2.kI (aH h2)) λP ep f f g hn M=>⟨.inr (.inr (bW _ g rfl)),λB=>Od g M hu (hz▸C) (cl J rfl) λt p N=>B w h _ z p (l.toks t) (pG t) N m⟩
end
end
section
open PyProof.Rows PySem.Calls PySem.SeqAt PySem.W
noncomputable def KR (K:Frag) (c:Addr) (x:Str):Bool:=findIn K (.ref c) x==af au&&findIn K (.ref c) "__getattribute__"==af (af (.builtin "object.__getattribute__"))&&findIn K (.ref c) "__setattr__"==af (af (.builtin "object.__setattr__"))&&plainOver K c&&(clsIn K c).any (·.hasDict)
def Fi (X:dw) (F:Frag):Prop:=∀a o,F.lookup a=af o->X.h₀.get? a=af o/\a∉X.tabs
theorem Fi.In (f:Fi X F) (b:St X w h s):F.In s.heap:=λa o e=>b.base a o (f a o e).1 (f a o e).2
structure Js (X:dw) (K:Frag):Prop where
 fld:∀c x,X.fld c x->∃F,Fi X F/\KR F c x=ao
structure Zo (K:Frag) (c:Addr) (x:Str):Prop where
 none:findIn K (.ref c) x=af .none
 ga:findIn K (.ref c) "__getattribute__"=af (af (.builtin "object.__getattribute__"))
 sa:findIn K (.ref c) "__setattr__"=af (af (.builtin "object.__setattr__"))
 plain:plainOver K c=ao
 dict:(clsIn K c).any (·.hasDict)=ao
theorem Js.Wl {K} (a:Js X K) (h:X.fld c x):∃F,Fi X F/\Zo F c x:=by
 refine aL (a.fld c x h) λF e hF=> ?_;unfold KR at e;simp only [aP,beq_iff_eq] at e;exact⟨F,hF,e.1.1.1.1,e.1.1.1.2,e.1.1.2,e.1.2,e.2⟩
section
variable {X:dw} {g:Heap} {w:Wd} {n:Nat}
theorem A7 (x y) t:(Value.str y t).isStr x=decide (y=x):=by
 by_cases h:y=x<;>exact rfl
theorem wU (d:lU X g w n fs l) (hx:bg x=ao):
 (∀v,find (nm x) fs=af v->∃e,l.find? (·.key.isStr x)=af e/\VR X g w n v e.val)/\(find (nm x) fs=au->l.find? (·.key.isStr x)=au)/\l.any (·.refKey)=false:=by
 induction d with
 |nil=>exact iU (λv e=>(fn e)) (λm=>rfl) rfl
 | @cons p e fs l hp _ ih=>
  refine ku hp.key λy t hn hk hy=>Rt ih λf i j=> ?_;have c:e.key.isStr x=decide (y=x):=cR hk (A7 x y t);refine cR (eU ..) (cR (List.find?_cons) ?_);have k:e.refKey=false:=by unfold DictEntry.refKey;exact cR hk rfl
  refine iU (λv a=> ?_) (λa=> ?_) (cR gg (cR k (cR j rfl)))
  .by_cases h:nm x=p.1
   .rw [if_pos h] at a;injection a with a;subst a
    have b:=gR hy hx (hn.trans h.symm);exact cR c (cR (decide_eq_true b) (bW e rfl hp.val))
   .rw [if_neg h] at a;have b:¬y=x:=λq=>h (cL q hn);exact cR c (cR (decide_eq_false b) (f v a))
  .by_cases h:nm x=p.1
   .rw [if_pos h] at a;exact sn a
   .rw [if_neg h] at a;have b:¬y=x:=λq=>h (cL q hn);exact cR c (cR (decide_eq_false b) (i a))
theorem GD (a:lU X g w n fs es.toList) (hx:bg x=ao):
 (∀v,find (nm x) fs=af v->∃y,lookIn x (cJ es ep)=af (af y)/\VR X g w n v y)/\(find (nm x) fs=au->lookIn x (cJ es ep)=af au):=by
 refine Rt (wU a hx) λb c d=>⟨λv e=> ?_,λe=> ?_⟩
 .refine dM (b v e) λf h1 h2=>bW f.val ?_ h2;refine(?_:(match es.toList.find? (·.key.isStr x) with|some e=>af (af e.val)|none=>if es.toList.any (·.refKey) then au else af au)=_);exact cR h1 rfl
 .refine(?_:(match es.toList.find? (·.key.isStr x) with|some e=>af (af e.val)|none=>if es.toList.any (·.refKey) then au else af au)=_);refine cR (c e) (cR d ?_);rfl
theorem HS k:handedIn (oE k)=true:=if h:k<18 then(by decide+kernel:∀k,k<18->handedIn (oE k)=ao) k h else iZ (mq h)▸(rfl:handedIn (oE (k-18+18))=ao)
theorem VR.handed (h:VR X g w n v x):handedIn x=true:=by
 induction h using Mine.VR.casesOn<;>first|rfl|exact HS _
end
section
variable {X:dw} {K:Frag} {w:Wd} {h:H} {s:Shared}
theorem St.Fj (d:St X w h s) (e:h.l.get i=af o) (ht:o.t=0):∃a b ep,w.role (w.ρ i)=af i/\w.role a=af i/\a≠w.ρ i/\s.heap.get? (w.ρ i)=af (qQ o.c a)/\s.heap.get? a=af (cJ b ep)/\
 lU X s.heap w h.n o.fs b.toList/\b.size<=1000000/\∀x,bg x=ao->find (nm x) o.fs≠au->X.fld o.c x:=(d.rep i o e).2.at_ ht
theorem rY (h1:g.get? a=af (qQ c dx)) (h2:g.get? dx=af (cJ es ep)):InstAt g a (qQ c dx) c (af (cJ es ep)):=⟨h1,rfl,rfl,h2⟩
theorem Oe (l:Js X K) (b:St X w h s) (hv:VR X s.heap w h.n v y) {x} (hx:bg x=ao) (e:attr v (nm x) h k=af res)
 (m:Goes (PV X) X w h.n s k res Q):wpAny (model X.prog X.w) A (getAttr y x expr) Q (λa a=>False) s:=by
 refine dD (dj e) λo e p r=>aC (dK e) λe t=>dM (bC e) λz hz e=>f7 (hv.er p) λc=> ?_;subst c;intro _;refine pX (b.Fj r (aH t)) λI i ep d a a a u f B a=>dM ((GD (ep:=ep) B hx).1 z hz) λJ C j=>aL (l.Wl (d x hx (cR hz (λq=>sn q)))) λa F hF=>dM (any_some F.dict) λD E G=>get_value (hF.In b) (rY u f) F.ga ?_ j.handed (m.tok b j e);unfold findObj;refine cR E (cR F.none ((?_:((W.ownOf D (af (cJ i ep)) x).bind _)=_)));unfold W.ownOf;refine cR G (cR (if_pos rfl) ((?_:((lookIn x (cJ i ep)).bind _)=_)));refine cR C ?_;rfl
theorem lU.set (o:lU X g w n fs es.toList) (hx:bg x=ao) (hu:VR X g w n u z) hh t ep:
 ∃c f,Obj.putName x hh (.str x t) z (cJ es ep)=cJ c f/\lU X g w n (setIn (nm x) u fs) c.toList/\c.size=(setIn (nm x) u fs).length:=by
 have k:(∃j,es.findIdx? (·.key.isStr x)=af j/\lU X g w n (setIn (nm x) u fs) (es.toList.modify j λe=>{e with val:=z}))\/
  (es.findIdx? (·.key.isStr x)=au/\lU X g w n (setIn (nm x) u fs) (es.toList++[⟨hh,.str x t,z⟩])):=by
  have hl:es.findIdx? (·.key.isStr x)=es.toList.findIdx? (·.key.isStr x):=by obtain⟨l⟩:=es;exact List.findIdx?_toArray (λm=>Value.isStr (DictEntry.key m) x) l
  refine cR hl ?_;generalize es.toList=l at o
  induction o with
  |nil=>exact .inr ⟨rfl,.cons ⟨(jV x t rfl hx rfl),hu⟩ .nil⟩
  | @cons p e fs l hp hr ih=>
   refine ku hp.key λy r hn hk hy=> ?_;have v:e.key.isStr x=decide (y=x):=cR hk (A7 x y r);refine cR (yJ ..) (cR (List.findIdx?_cons) (cR v ?_));by_cases h:nm x=p.1
   .have d:=gR hy hx (hn.trans h.symm);exact cR (if_pos h) (cR (decide_eq_true d) (.inl (bW 0 rfl (.cons ⟨(jV y r hk hy (hn.trans h.symm)),hu⟩ hr))))
   .have d:¬y=x:=λq=>h (cL q hn);refine cR (if_neg h) (cR (decide_eq_false d) ?_);rcases ih with⟨j,a,b⟩|⟨a,b⟩
    .refine cR a ?_;exact .inl (bW (j+1) rfl (.cons hp b))
    .refine cR a ?_;exact .inr ⟨rfl,.cons hp b⟩
 refine cR Obj.putName_eq ?_;rcases k with⟨j,a,b⟩|⟨a,b⟩
 .refine jV (es.modify j λe=>{e with val:=z}) ep ?_ (by simpa using b) ?_
  .refine(?_:(match es.findIdx? (·.key.isStr x) with|some i=>_|none=>_)=_);exact cR a rfl
  .have:=b.length;refine cR this ?_;simp
 .refine jV (es.push ⟨hh,.str x t,z⟩) (ep+1) ?_ (by simpa using b) ?_
  .refine(?_:(match es.findIdx? (·.key.isStr x) with|some i=>_|none=>_)=_);exact cR a rfl
  .have:=b.length;refine cR this ?_;simp
theorem Tc {c:Addr} {fs} (e:oLe (ux c fs)=ao):fs.length<=1000000:=len_eq fs▸(fZ (fZ (fZ (aA e))):len fs<=1000000)
theorem Fl (Z:bw X) (kx:Js X K) (M:St X w h s) (hv:VR X s.heap w h.n v y) (hx:bg x=ao) (hu:VR X s.heap w h.n u z) (N:∀c,find c cs≠au->X.fld c x)
 (e:setAt v (nm x) u cs h k=af res)
 (hQ:∀h' s',St X w h' s'->h'.n=h.n->Ext X cV w h.n s w h.n s'->k di h'=af res->Q () s'):wpAny (model X.prog X.w) A (setAttr y x z) Q (λI I=>False) s:=by
 refine dD (dj e) λo e h6 V=>aC (dK e) λe h0=>aL (pS e) λq1 e f=>aC (dK e) λe O=>f7 (hv.er h6) λP=> ?_;subst P;intro _;refine pX (M.Fj V (aH h0)) λj J ep R hr l m L d W hz=> ?_;have p:=N o.c (cR f (λq=>sn q));refine aL (kx.Wl p) λI F hF=> ?_;have S:=hF.In M;refine set_plain S (rY L d) F.sa (osa_open (s:={s with toks:=s.toks+1}) (r:=au) S (rY L d) F.plain (by unfold takerIn;refine cR F.none ?_;rfl) λb=> ?_);refine dM (any_some F.dict) λcd hc T=>bp (aq (aq (wpAny_loadPart (s:={s with toks:=s.toks+1}) L (aq ((looks_clsIn (h:=s.heap) S hc).at (cR T (av (a:=af j) (bp (aq (aq (aq (BI (av (aq (wpAny_mkText (bq (wpAny_loadPart d) (vK (W.set hx hu (nT X.w.params x) (s.toks+1) ep) λt B h1 h2 h3=> ?_)))))))))))))))));dsimp only;rw [aRefKeyMayBeTheName_at,show(!J.any (·.key.isStr x)&&J.any (·.refKey))=aj by exact cR (show J.any (·.refKey)=J.toList.any (·.refKey) by exact gA Array.any_toList) (cR ((wU W hx).2.2) (cR (Bool.and_false ..) rfl))];have C:(s.heap.update j (Obj.putName x (nT X.w.params x) (.str x (s.toks+1)) z)).get? j=af (cJ t B):=by
  refine cL h1 ?_;exact bE _ d (cR h1 rfl)
 have D:=Tc O;refine wpAny_updatePart d (bq (BJ C (pastItsLine_dict (cR h3 (aI D (aI bx (gU _)))))) (av ?_));have E:=M.put Z V (o':=ux o.c (setIn (nm x) u o.fs)) (s':={s with heap:=s.heap.update j (Obj.putName x (nT X.w.params x) (.str x (s.toks+1)) z),toks:=s.toks+2}) (Heap.size_after_update s.1 j (Obj.putName x (nT (World.params (dw.w X)) x) (Value.str x (Shared.toks s+1)) z))
  (λa ob ha e=>(dF _ _ (λhe=>ha (by refine cL he ?_;exact l))).trans e) rfl rfl λkk=>
   .inst o.c _ j t B hr l m ((dF _ _ m).trans L) C (h2.mono λI I=>vW.mono kk) (by lia) λY G i=>by
    rw [jP] at i;by_cases hq:nm Y=nm x
    .refine cR (gR G hx hq) ?_;exact p
    .rw [if_neg hq] at i;exact R Y G i
 exact hQ _ _ E.1 rfl E.2 e
end
section
variable {M:Model} {A:Around} {E:Value->Shared->Prop} {s:Shared} {env:dB}
theorem Cc {id} (e:lS (.Call (.Name id np) args kws cp)=ao):(id !=("super":Str))=true:=by
 have e:(ah ao aj (ak (nm id) (nm "super")):Bool)=true:=e
 induction h:ak (nm id) (nm "super") using zB with
 |true=>rw [h] at e;exact ff e
 |false=>rw [bne_iff_ne];intro q;exact fS h (by rw [q])
theorem KU o:(∃id d pos,o= .Call (.Name id d) [] [] pos)\/∀c env t,attributeBase o c env t=t:=by
 induction o using aR with
 |Call f args e pos=>
  induction f using aR with
  |Name id d=>
   induction args using zL with
   |nil=>
    induction e using zL with
    |nil=>exact .inl ⟨id,d,pos,rfl⟩
    |cons=>exact .inr λa a a=>rfl
   |cons=>exact .inr λa a a=>rfl
  |_=>exact .inr λa a a=>rfl
 |_=>exact .inr λa a a=>rfl
theorem Og (hn:lS o=ao) attr t:attributeBase o attr env t=t\/attributeBase o attr env t=t>>=pure:=by
 rcases KU o with⟨id,a,pos,e⟩|e
 .have q:=Cc (e▸hn);refine cR e ?_;unfold attributeBase;dsimp only;rw [q,nU,nU,nU,if_pos rfl]
  first|exact .inl rfl|exact .inr rfl
 .exact .inl (e _ _ _)
end
section
variable {prog:Program} {w:World} {A:Around} {E:Value->Shared->Prop} {s:Shared}
theorem Cd {T id} (f:s.TypeIs o T) (hl:typeLookup (.type T) "__getitem__"=pure (af (.builtin id))) (j:isSlice slice=aj) (h:wpAny (model prog w) A (getItem o i) Q E s):
 wpAny (model prog w) A (subscriptTail value slice o i) Q E s:=by
 have hs:subscripted slice aj o i=operate [o,i] (getItem o i):=by rcases slice<;>first|rfl|exact ft j
 refine aq (bq (bV f hl) ?_);have d:wpAny (model prog w) A (subscripted slice aj o i) (λr a=>wpAny (model prog w) A (letTemporaryGo value o r>>=λe=>pure r) Q E a) E s:=by
  refine cR hs ?_;exact wpAny_operating (fX h (λr a c=>aq (vD (av c))) λe e x=>x)
 exact av (aq d)
theorem GF {lo hi} {T id} (f:s.TypeIs o T) (hl:typeLookup (.type T) "__getitem__"=pure (af (.builtin id))) (h:wpAny (model prog w) A (getItem o i) Q E s):
 wpAny (model prog w) A (subscriptTail value (.Slice lo hi au p) o i) Q E s:=by
 have hs:∀b,subscripted (.Slice lo hi au p) b o i=operate [i,o] (getItem o i):=λd=>rfl;refine aq (bq (bV f hl) ?_);have e:wpAny (model prog w) A (subscripted (.Slice lo hi au p) aj o i) (λr a=>wpAny (model prog w) A (letTemporaryGo value o r>>=λd=>pure r) Q E a) E s:=by
  refine cR (hs ..) ?_;exact wpAny_operating (fX h (λr a c=>aq (vD (av c))) λd d x=>x)
 exact av (aq e)
end
def Td (X:dw) (r:Ap) (n b:Nat) (ns:List (Str×aN)) (e:XE) (x:Option Expr):Prop:=
 ∀A,fL n b A->∀env ρ w h s,St X w h s->eW X env ns ρ w h.n s->∀k res,e.f r ρ h k=af res->∀Q:Value->Shared->Prop,
  Goes (PV X) X w h.n s k res Q->cG (model X.prog X.w) A (evalPart x env) Q (λU U=>False) s
def Az (env:dB) (ns:List (Str×aN)):Addr->Prop:=λa=>a=env.locals\/∃x,bg x=ao/\bf (nm x) ns=af .cell/\env.cells.lookup x=af a
def qV (X:dw) (r:Ap) (n b:Nat) (ns:List (Str×aN)) (a:XA) (t:Expr):Prop:=
 ∀A,fL n b A->∀env ρ w h s,St X w h s->eW X env ns ρ w h.n s->∀v y,VR X s.heap w h.n v y->∀kn res,a.f r ρ v h kn=af res->∀Q:Unit->Shared->Prop,
  (∀ρ' w' h' s',St X w' h' s'->eW X env ns ρ' w' h'.n s'->Ext X (Az env ns) w h.n s w' h'.n s'->kn ρ' h'=af res->Q () s')->cG (model X.prog X.w) A (assign t env y) Q (λU U=>False) s
section
variable {X:dw} {K:Frag} {r:Ap} {n b:Nat} {ns:List (Str×aN)} {w:Wd} {h:H} {s:Shared}
theorem Td.none:Td X r n b ns (xC di) .none:=λA a env ρ w h s hs he k res e Q hQ=>aO (hQ.here hs .none e)
theorem Td.some (h:cQ X r n b ns e x):Td X r n b ns e (.some x):=h
theorem KV {M} {attr} (hn:lS o=ao) (h:cG M A t Q E s):cG M A (attributeBase o attr env t) Q E s:=by
 rcases Og hn attr t with e|e<;>refine cR e ?_
 .exact h
 .exact ay (aW h (λa a q=>aO q) λa a x=>x)
theorem yV {M}
 (h:cG M A (eval value env) (λo a=>cG M A (eval slice env) (λi c=>cG M A (subscriptTail value slice o i) Q E c) E a) E s):cG M A (eval (.Subscript value slice pos) env) Q E s:=ay (aW h (λo a d=>ay (bh (aW d (λi c e=>ay (bG e)) λf f x=>x))) λf f x=>x)
theorem cQ.attr (d:Js X K) pos (hx:bg x=ao) (hn:lS v=ao) (f:cQ X r n b ns o v):cQ X r n b ns (RG o (nm x)) (.Attribute v x pos):=by
 intro A i env ρ w h s hs he k res e Q hQ;exact ay (KV hn (f A i env ρ w h s hs he _ res e _ λB h1 C u u' a j hu l=>(ay (bG (ay (bh (eT (Oe d a hu hx l λm h2 p z z' c q hz t=>(ay (eT (vD (aO (hQ m h2 p _ _ c (j.trans q) hz t)))))))))))))
theorem cQ.sub pos (a:isSlice j=aj) (p:cQ X r n b ns o v) (hi:cQ X r n b ns i j):cQ X r n b ns (VQ o i) (.Subscript v j pos):=by
 intro A c env ρ w h s hs he k res e Q hQ;refine yV (p A c env ρ w h s hs he _ res e _ λt h1 x u u' d l hu B=>(hi A c env ρ t h1 x d (he.ext l) _ res B _ λG h2 I z z' f m hz C=>aC (KQ f (A:=A) (c.u rfl) (hu.mono m.dW) hz C) λD F=> ?_));have q:=D (hQ.ext (l.trans m));rcases F with T|T|T
 .exact eT (Cd T slot_tuple_getitem.lookup a q)
 .exact eT (Cd T slot_list_getitem.lookup a q)
 .exact eT (Cd T Ao.lookup a q)
theorem uL (hv:VR X g w m i y) (e:bound n d i=af a):∃k,IsPart y k/\k.elim d (clipAt n)=a:=by
 have e:(ah (ah au (ah (af (fm n i.n)) (af (ah n i.n (bQ i.n n))) (ak i.s 0)) (ak i.t 2)) (af d) (ak i.t 0):Option Nat)=af a:=e
 induction c:ak i.t 0 using zB with
 |true=>
  rw [c] at e;cases none_of hv c;exact bW au .none (aF e)
 |false=>
  rw [c] at e;refine aC (dK e) λe h2=>fB (hv.cS h2) λtk f=> ?_;subst f;refine bW (af (dS i)) (.int _ _) ?_;rcases hv.E4 h2 with⟨p,q⟩|⟨p,z,q⟩
  .rw [p] at e;refine cR q ((?_:clipAt n (i.n:Int)=a));refine cR (clipAt_nat ..) ?_
   induction hb:bQ i.n n using zB with
   |true=>
    rw [hb] at e;have:=aA hb;have:=aF e;lia
   |false=>
    rw [hb] at e;have j:¬i.n<=n:=λq=>by rw [l8 q] at hb;exact ft hb
    have:=aF e;lia
  .rw [p] at e;refine cR q ((?_:clipAt n (-(i.n:Int))=a));exact cR (clipAt_neg n i.n z) (aF e)
theorem A8 {lo hi} {l} (e:JE xs lo hi=af l):∃a c,bound xs.length 0 lo=af a/\bound xs.length xs.length hi=af c/\l=(xs.drop a).take (c-a):=by
 refine aL (pS e) λa e d=>aL (pS e) λc e f=> ?_;rw [len_eq] at d f;rw [Dq,Dp] at e;exact jV a c d f ((aF e).symm)
theorem uM (e:kB l h k=af res):l.length<=1000000/\k (fj l) h=af res:=by
 refine f7 (dK e) λa e=> ?_;have:=aA a;rw [len_eq] at this;exact⟨this,e⟩
section
variable {w:Wd} {h:H} {s:Shared} {A:Around} {k:V->H->Option Res} {res:Res} {Q:Value->Shared->Prop} {u y z:V} {u' y' z':Value} {g g':Heap} {v v':Wd} {n n':Nat} {sl:Addr} (hs:St X w h s) (hu:VR X s.heap w h.n u u') (hy:VR X g v n y y') (hz:VR X g' v' n' z z') (hsl:s.heap.IsSliceOf sl y' z' .none) (hQ:Goes (PV X) X w h.n s k res Q)
include hs hu hy hz hsl hQ
theorem Te (h4:ak u.t 4=ao) (e:lift (JE u.l y z) h (λb h=>kB b h k)=af res):wpAny (model X.prog X.w) A (getItem u' (.ref sl)) Q (λU U=>False) s/\s.TypeIs u' "bytes":=by
 refine dM (bC e) λl e4 e5=>ku (A8 e4) λa c el b1 b2=>f7 (uM e5) λhz5 e5=>ou (hu.jI (aH h4)) λbs tk hul hu' hn=> ?_;have hl:u.l.length=bs.size:=cR hul (cR (eF ..) (cR aM rfl));rw [hl] at b1 b2;refine aL (uL hy b1) λk1 q1 p1=>aL (uL hz b2) λk2 q2 p2=> ?_;have hpk:(KBy.picked bs k1 k2).toList.map bU=l:=by
  have q:=KBc.ints_picked (b:=bs) rfl k1 k2;rw [KBw.ints_length,q1,q2] at q;have q:(KBy.picked bs k1 k2).toList.map (λc:UInt8=>(c.toNat:Int))=((bs.toList.map λc:UInt8=>(c.toNat:Int)).drop a).take (c-a):=q;have hm:∀l:List UInt8,l.map (λc:UInt8=>(c.toNat:Int))=(l.map bU).map (λn:Nat=>(n:Int)):=λl=>by simp
  rw [hm,hm,<-List.map_drop,<-List.map_take,<-hul] at q;exact cR el ((List.map_inj_right (λx y e=>Int.ofNat.inj e)).mp q)
 rw [<-hpk] at e5;refine cR hu' ?_;exact⟨getItem_meets (j6 _ _ _) rfl FB.slot_bytes_getitem FB.entry_bytes_getitem (FB.args_bytes_getitem_2 _ _) (KBc.meets_slice2 bs tk _ p1 p2)
  (iU hsl (aI (KBc.size_picked_le bs _ _) (aI hn bx)) (λt' kk=>hQ w h _ _ _ (hs.toks kk) (pG kk) (VR.bytes _ t' (aI (KBc.size_picked_le bs _ _) hn)) e5)),j6 _ _ _⟩
theorem Tf (B:bw X) (e:ER u h (λxs h=>lift (JE xs y z) h λl h=>new (bL l) h k)=af res):wpAny (model X.prog X.w) A (getItem u' (.ref sl)) Q (λC C=>False) s/\s.TypeIs u' "list":=by
 refine gO (DE e) λT f D j F=>dM (bC f) λl G f=>aC (dK f) λf d=> ?_;have d:=nM d;refine vK (hs.S7 j F) λitems ep I hn i=>ku (A8 G) λa c J p t=> ?_;rw [i.length,aM] at p t;refine aL (uL hy p) λW L N=>aL (uL hz t) λY O P=> ?_;have x:s.heap.IsList (w.ρ u.n) items:=f9 _ I rfl _ rfl;have hv:=(i.drop a).take (c-a);rw [J] at d f;refine cR ((hu.er D).1) (⟨wpAny_getItem_list_slice x hsl N P .none (λq=>fn q) ?_ (aI hn bx),x.typeIs⟩);exact cR (slicePick_plain ..) (cR L (cR O (jz (hs.newList B hv (cL hv.length d) s.toks) λR m S o=>(hQ R _ _ _ _ m S (o▸VR.ref h.n (bN _)) f))))
end
theorem cQ.cut (ax:bw X) {lo hi} (p pos) (ho:cQ X r n b ns o v) (hi':Td X r n b ns i lo) (hj':Td X r n b ns j hi):cQ X r n b ns (SI o i j) (.Subscript v (.Slice lo hi au p) pos):=by
 intro A hA env ρ w h s hs he k res e Q hQ;refine yV (ho A hA env ρ w h s hs he _ res e _ λw1 h1 s1 u u' hs1 x1 hu e1=>HL (hi' A hA env ρ w1 h1 s1 hs1 (he.ext x1) _ res e1 _ λw2 h2 s2 y y' hs2 x2 hy e2=>hj' A hA env ρ w2 h2 s2 hs2 ((he.ext x1).ext x2) _ res e2 _ λw3 h3 s3 z z' Jt x3 hz e3=>aO (aC (Jt.junk ax {cls:= .type "slice",data:= .fields #[y',z',.none]} s3.toks) λx4 Vl=> ?_)));have hu4:=((hu.mono x2.dW).mono x3.dW).mono x4.dW;have hsl:=Heap.IsSliceOf.new s3.heap y' z' .none;have hQ4:=hQ.ext (((x1.trans x2).trans x3).trans x4);refine su e3 (λh4 e=> ?_) λU e=> ?_
 .exact f7 (Te (A:=A) Vl hu4 hy hz hsl hQ4 h4 e) λq t=>eT (GF t FB.slot_bytes_getitem.lookup q)
 .exact f7 (Tf (A:=A) Vl hu4 hy hz hsl hQ4 ax e) λq t=>eT (GF t slot_list_getitem.lookup q)
end
section
variable {X:dw} {K:Frag} {r:Ap} {n b:Nat} {ns:List (Str×aN)} {w:Wd} {h:H} {s:Shared} {env:dB} {ρ:Env}
theorem uN {g:Heap} (x:g.Ns a m) (e:g.get? a=af o):d9 o=false:=by
 obtain⟨o',f,ep,c,d,_⟩:=x;injection e.symm.trans c with hq;subst hq
 unfold d9;exact cR d rfl
theorem yW {g:Heap} (x:g.IsCell a v) (e:g.get? a=af o):d9 o=false:=by
 refine dM x λo' c d=> ?_;injection e.symm.trans c with hq;subst hq
 unfold d9;exact cR d rfl
theorem qW {g:Heap} (x:g.Ns a m) (y:g.IsCell a v):False:=by
 obtain⟨o,i,ep,e,d,_⟩:=x;refine dM y λo' f c=> ?_;injection e.symm.trans f with hq;subst hq
 rw [d] at c;injection c
theorem yX (V:bw X) (W:St X w h s) (he:eW X env ns ρ w h.n s) (hx:bg x=ao) (hk:bf (nm x) ns=af .local\/bf (nm x) ns=af .cell) (hv:VR X s.heap w h.n v y)
 (Y:∀s',St X w h s'->eW X env ns (gb ρ (nm x) v) w h.n s'->Ext X (Az env ns) w h.n s w h.n s'->Q () s'):wpAny (model X.prog X.w) A (storeName env x y) Q E s:=by
 refine aL he.loc λm J hm=> ?_;have G:∀y u,find y (gb ρ (nm x) v).loc=af u->bf y ns=af .local\/bf y ns=af .cell:=λy u h=>by
  have h:find y (setIn (nm x) v ρ.loc)=af u:=h;rw [jP] at h;by_cases hq:y=nm x
  .refine cR hq ?_;exact hk
  .rw [if_neg hq] at h;exact he.locs y u h
 rcases hk with hk|hk
 .refine wpAny_storeName_local (he.kind x _ hx hk) hm (λh' D p=> ?_) (cR he.fn rfl);have d:∀a,a≠env.locals->∀o,s.heap.get? a=af o->h'.get? a=af o:=λa g o e=>(p.2 a g).trans e;have t:∀a o,a=env.locals->s.heap.get? a=af o->d9 o=false:=λa o g e=>by subst g;exact uN hm e
  refine aC (W.grow V (F:=λa=>a=env.locals) (s':={s with heap:=h',toks:=s.toks+1}) (cX p.1.symm) t (λa g=>by subst g;exact⟨he.Dw.1,he.Dw.2.1⟩) (λa o g e=>d a g o e) rfl rfl) λL R=> ?_;have k:=L.keep t;have I:∀{c M},s.heap.IsCell c M->c≠env.locals:=λZ hq=>by subst hq;exact qW hm Z
  refine Y _ R ⟨he.fn,he.glob,he.blt,he.kind,he.cls,he.Gv,(bW _ D (λz u h1 h2 f=> ?_)),he.Dw,λz h1 h2=> ?_,λz u c h1 h2 f C=> ?_,λz u c h1 h2 f C=> ?_,he.apart,G,he.outs,he.NW⟩ (L.weaken λa g=> .inl g)
  .have f:find (nm z) (setIn (nm x) v ρ.loc)=af u:=f;rw [jP] at f;by_cases hq:nm z=nm x
   .rw [if_pos hq] at f;injection f with f;subst f
    exact bW y (if_pos (gR h1 hx hq)) (hv.mono k)
   .rw [if_neg hq] at f;exact aL (J z u h1 h2 f) λB j i=>bW B ((if_neg λe=>hq (by exact cR e rfl)).trans i) (j.mono k)
  .exact Hx (he.cell z h1 h2) λc M i j a3 O P=>lN c M i j a3 O (ia P (d _ (I P)))
  .have f:find (nm z) (setIn (nm x) v ρ.loc)=af u:=f;rw [jP,if_neg (λhq=>by rw [hq,hk] at h2;cases h2)] at f;exact aL (he.wQ z u c h1 h2 f C) λB j i=>bW B (ia i (d _ (I i))) (j.mono k)
  .exact aL (he.wR z u c h1 h2 f C) λB j i=>bW B (ia i (d _ (I i))) (j.mono k)
 .refine Hx (he.cell x hx (.inl hk)) λl S N c2 c3 c4 T=>wpAny_storeName_cell he.fn (he.kind x _ hx hk) N T (λh' D p=> ?_);have d:∀a,a≠l->∀o,s.heap.get? a=af o->h'.get? a=af o:=λa g o e=>(p.2 a g).trans e;have t:∀a o,a=l->s.heap.get? a=af o->d9 o=false:=λa o g e=>by subst g;exact yW T e
  refine aC (W.grow V (F:=λa=>a=l) (s':={s with heap:=h'}) (cX p.1.symm) t (λa g=>by subst g;exact⟨c2,c3⟩) (λa o g e=>d a g o e) rfl rfl) λL R=> ?_;have k:=L.keep t;refine Y _ R ⟨he.fn,he.glob,he.blt,he.kind,he.cls,he.Gv,(bW m (uG hm (d _ λq=>qW hm (q▸T))) (λz u h1 h2 f=> ?_)),he.Dw,λz h1 h2=> ?_,λz u c h1 h2 f C=> ?_,λz u c h1 h2 f C=> ?_,he.apart,G,he.outs,he.NW⟩
   (L.weaken λa g=> .inr (f5 x hx hk (g▸N)))
  .have f:find (nm z) (setIn (nm x) v ρ.loc)=af u:=f;rw [jP,if_neg (λhq=>by rw [hq,hk] at h2;cases h2)] at f;exact aL (J z u h1 h2 f) λB j i=>bW B i (j.mono k)
  .refine Hx (he.cell z h1 h2) λc M i j a3 O P=> ?_;by_cases hq:c=l
   .subst hq;exact lN c _ i j a3 O D
   .exact lN c M i j a3 O (ia P (d _ hq))
  .have f:find (nm z) (setIn (nm x) v ρ.loc)=af u:=f;rw [jP] at f;by_cases hq:nm z=nm x
   .rw [if_pos hq] at f;injection f with f;subst f
    cases gR h1 hx hq;injection C.symm.trans N with hq;subst hq
    exact bW y D (hv.mono k)
   .rw [if_neg hq] at f;exact aL (he.wQ z u c h1 h2 f C) λB j i=>bW B (ia i (d _ λe=>hq (cR (he.apart z x c C (e▸N)) rfl))) (j.mono k)
  .exact aL (he.wR z u c h1 h2 f C) λB j i=>bW B (ia i (d _ λe=>by rw [he.apart z x c C (e▸N),hk] at h2;cases h2)) (j.mono k)
theorem qV.loc (f:bw X) x p (hx:bg x=ao) (hk:bf (nm x) ns=af .local\/bf (nm x) ns=af .cell):qV X r n b ns (kc (nm x)) (.Name x p):=by
 intro A j env ρ w h s g he v y hv k res e Q i;exact eT (aq (xF (wpAny_bindName (yX f g he hx hk hv λs' a c d=>i _ w h s' a c d e))))
theorem qV.bad t:qV X r n b ns B0 t:=λc c c c c c c c c c c c c c e=>fn e
theorem Az.fixed (he:eW X env ns ρ w h.n s):∀a o,Az env ns a->s.heap.get? a=af o->d9 o=false:=by
 intro a o f e;rcases f with rfl|⟨x,h1,h2,g⟩
 .refine aL he.loc λm d hm=> ?_;exact uN hm e
 .refine Hx (he.cell x h1 (.inl h2)) λc k i d d d j=> ?_;injection g.symm.trans i with hq;subst hq
  exact yW j e
theorem qV.attr (k:bw X) (l:Js X K) p (hx:bg x=ao) (d:∀c,find c cs≠au->X.fld c x) (m:cQ X r n b ns o t):qV X r n b ns (RL o (nm x) cs) (.Attribute t x p):=by
 intro A q env ρ w h s z he v y hv G res e Q B;refine ay (bh (m A q env ρ w h s z he _ res e _ λC h1 I u J f g hu D=>(ay (bG (ay (bh (eT (Fl k l f hu hx (hv.mono g.dW) d D λh2 E i hn j F=>(eT<|wpAny_release (B ρ C h2 E i (hn▸(he.ext g).ext j) (hn▸(g.trans j).weaken λa h=>h.elim) F))))))))))
theorem Fo {items} (hl:s.heap.IsList l items) (c:vn k=ao) (a:wI k items.size=af j) (p:j<items.size)
 (m:Q () {s with heap:=s.heap.update l (eG (·.setIfInBounds j v))}):wpAny (model X.prog X.w) A (setItem (.ref l) (.int k t) v) Q E s:=by
 refine Ru (id hl) λo u e x f=> ?_;have d:=oR p;unfold setItem
 try with_reducible refine bO ?_
 refine bq (Am hl.typeIs rfl) ?_;refine aq (dU (name:=bY "__setitem__") hl.typeIs slot_list_setitem
  (bH slot_list_setitem hl.typeIs entry_list_setitem ?_ (args_list_setitem _ _ _)))
 refine(?_:wpAny _ _ (Builtin.List.listSubscript? (.int k t)>>=_) _ _ s);refine bq (wpAny_listSubscript_int c) ?_
 induction k using Int.casesOn with
 |ofNat i=>
  have g:i=j:=by
   rcases A6 a with⟨_,_,q⟩|⟨q,_,_⟩
   .exact q.symm
   .exact absurd q (ko.mpr (cC i))
  subst g;refine aq (aq (wpAny_seqItemAt e f (av (cR d ((?_:wpAny _ _ (setSeqItemAt l i v>>=_) _ _ s))))));exact bq (wpAny_setSeqItemAt e f) (aq (av (av ⟨.none,rfl,av m⟩)))
 |negSucc i=>
  refine aq (aq ((?_:wpAny _ _ (se (.ref l)>>=_) _ _ s)));refine aq (dz e f (av (av (cR a ?_))));simp only [Option.bind_some,d,Option.map_some];exact bq (wpAny_setSeqItemAt e f) (aq (av (av ⟨.none,rfl,av m⟩)))
theorem qX (e:oLe (dZ d c)=ao):d.length<=1000000:=len_eq d▸(iY (fZ (aA e)):len d<=1000000)
theorem KW (t:bw X) (p:St X w h s) (F:A.units+200<=9900) (hv:VR X s.heap w h.n v y) (hi:VR X s.heap w h.n i j) (hu:VR X s.heap w h.n u z) (e:RD v i u h k=af res)
 (x:∀h' s',St X w h' s'->h'.n=h.n->Ext X cV w h.n s w h.n s'->k di h'=af res->Q () s'):wpAny (model X.prog X.w) A (setItem y j z) Q (λB B=>False) s:=by
 refine dD (dj e) λo e G q=>cR ((hv.er G).1) ?_;have f:=(p.rep _ o q).2;refine su e (λh1 e=> ?_) λB e=> ?_
 .refine aL (bC e) λl e m=>aC (dK e) λe hz=>jH (f.lV (aH h1)) λitems ep C D hn g=> ?_;rw [len_eq,g.length,aM] at m;obtain⟨tk,I,J,O,P,L,M⟩:=DG hi hn m;rw [HE] at e;refine cR I (Fo (f9 _ C rfl _ rfl) J L M ?_);have E:=p.turn t q (eG (·.setIfInBounds l z)) s.toks (o':=bL (o.xs.set l u)) (λN D=> .list _ (items.setIfInBounds l z) _ D (bE _ C rfl) (by simpa using hn) (by simpa using (g.set l hu).mono N)) (t8 (aH h1) rfl);exact x _ _ E.1 rfl E.2 e
 .exact aC (dK e) λe h2=>aL (bC e) λd e m=>aC (dK e) λe hz=>Fg t p ((f.eqs.2 (aH h2))▸q) hi hu m (qX hz) (cl F rfl) λs' a c=>x _ s' a rfl c e
theorem qV.sub (q:bw X) p (x:cQ X r n b ns o t) (hi:cQ X r n b ns i j):qV X r n b ns (aSub o i) (.Subscript t j p):=by
 intro A f env ρ w h s B he v y hv N res e Q C;exact ay (bh (x A f env ρ w h s B he _ res e _ λD h1 E u O g c hu F=>(ay (bh (hi A f env ρ D h1 E g (he.ext c) _ res F _ λG h2 P z R k d hz I=>(ay (bG (ay (bh (eT (KW q k (f.u rfl) (hu.mono d.dW) hz ((hv.mono c.dW).mono d.dW) I λJ L l hn m M=>(eT<|wpAny_release (C ρ G J L l (hn▸((he.ext c).ext d).ext m) (hn▸((c.trans d).trans m).weaken λa h=>h.elim) M)))))))))))))
end
end
section
theorem v8 {M} (h:Runs M Γ p t fs s e s'):s.heap.objs.size<=s'.heap.objs.size:=by
 induction h<;>(try simp only [Shared.setGen,bJ,jB] at*)<;>lia
theorem Ce {M} (h:Returns M Γ p s r s'):s.heap.objs.size<=s'.heap.objs.size:=v8 h
theorem Fq {M} (h:Wakes M Γ p g r s res s'):s.heap.objs.size<=s'.heap.objs.size:=by
 unfold Wakes at h;split at h
 .exact h.elim
 .split at h
  .refine uo h λe₁ s₁ qY=> ?_;subst qY;intro hr _ _;exact(v8 hr:(s.setGen g .running).heap.objs.size<=s₁.heap.objs.size)
  .refine cR h.2 ?_;exact bu _
  .refine cR h.2 ?_;exact bu _
 .refine uo h λe₁ s₁ qY=> ?_;subst qY;intro hr _ _;exact(v8 hr:(s.setGen g .running).heap.objs.size<=s₁.heap.objs.size)
 .refine cR h.2 ?_;exact bu _
 .refine cR h.2 ?_;exact bu _
theorem Oh M Γ n t:∀(Q:α->Pos->Shared->Prop) E p s,n<=s.heap.objs.size->Sem.wp M Γ t Q E p s->
 Sem.wp M Γ t (λa d s'=>n<=s'.heap.objs.size/\Q a d s') (λe d s'=>n<=s'.heap.objs.size/\E e d s') p s:=by
 induction t with
 |pure a=>intro Q E p s hn h;exact⟨hn,h⟩
 |raise e=>intro Q E p s hn h;exact⟨hn,h⟩
 |unsupported _=>intro Q E p s _ h;exact h
 |finish _=>intro Q E p s _ h;exact h
 |rule _ k b=>intro Q E p s hn h;exact b () Q E p s hn h
 |«at» d k b=>intro Q E p s hn h;exact b () Q E d s hn h
 |load a _ k b=>intro Q E p s hn h;refine dM h λo l h=> ?_;exact bW o l (b o Q E p s hn h)
 |update a _ f k b=>intro Q E p s hn h;exact⟨h.1,b () Q E p _ (cR (jB ..) hn) h.2⟩
 |loadIfAlive a k b=>intro Q E p s hn h;exact b _ Q E p s hn h
 |point _ k b=>intro Q E p s hn h;exact b () Q E p s hn h
 |register _ _=>intro Q E p s _ h;exact h
 |alloc o k b=>intro Q E p s hn h;exact b _ Q E p _ (cR (bJ ..) (xu hn)) h
 |fresh k b=>intro Q E p s hn h;exact b _ Q E p _ hn h
 |ask k b=>intro Q E p s hn h;exact b _ Q E p s hn h
 |choose u m k b=>intro Q E p s hn h;exact⟨h.1,b _ Q E p _ hn h.2⟩
 |os q _ k b=>intro Q E p s hn h;exact b _ Q E p _ hn h
 |call c x _ _ k b=>intro Q E p s hn h;refine ny h λr s' h i=> ?_;exact nv r s' i (b r Q E p s' (aI hn (Ce i)) h)
 |handled own k b=>intro Q E p s hn h;exact b _ Q E p s hn h
 |genState g k b=>intro Q E p s hn h;refine dM h λv w h=> ?_;exact bW v w (b _ Q E p s hn h)
 |newGen c k b=>intro Q E p s hn h;exact b _ Q E p _ hn h
 |resume g r _ k b=>intro Q E p s hn h;refine ny h λres s' h j=> ?_;exact nv res s' j (b res Q E p s' (aI hn (Fq j)) h)
 |yield _ _ _ _=>intro Q E p s _ h;exact h
 |stack k b=>intro Q E p s hn h;exact b _ Q E p s hn h
 |fork _ _=>intro Q E p s _ h;exact h
 |thread k b=>intro Q E p s hn h;exact b _ Q E p s hn h
 |await _ _ _ _ _=>intro Q E p s _ h;exact h
section
variable {α:Type} {M:Model} {A:Around} {s:Shared}
theorem bX {t:Sem α} {Q:α->Shared->Prop} {E:Value->Shared->Prop} (h:wpAny M A t (λa s'=>s.heap.objs.size<=s'.heap.objs.size->Q a s') E s):wpAny M A t Q E s:=
 λc p d=>pO M c t (λb b b x=>x.2 x.1) (λb b b x=>x.2) p s (Oh M c _ t _ _ p s (bu _) (h c p d))
end
end
section
open PyProof.Rows PySem.Calls PySem.SeqAt PySem.W
section
variable {X:dw} {K:Frag} {r:Ap} {n b:Nat} {ns:List (Str×aN)} {w:Wd} {h:H} {s:Shared} {env:dB} {ρ:Env}
theorem St.i7 (f:bw X) (g:St X w h s) (c:s.heap.objs.size<=h'.objs.size) (old:∀a o,s.heap.get? a=af o->h'.get? a=af o):
 St X w h {s with heap:=h',toks:=tk}/\Ext X cV w h.n s w h.n {s with heap:=h',toks:=tk}:=
 g.grow f (F:=cV) c (λd d h=>h.elim) (λd h=>h.elim) (λa o d e=>old a o e) rfl rfl
theorem wV (q:bw X) (g:St X w h s) (u:A.handled=au) (hv:VR X s.heap w h.n v y) (e:Di v h k=af res):
 ∃vs,k vs h=af res/\∀{Q} {E},(∀ys s',St X w h s'->Ext X cV w h.n s w h.n s'->ef X s'.heap w h.n vs ys->Q ys s')->wpAny (model X.prog X.w) A (unpackItems y vs.length au) Q E s:=by
 have e:(ah (gQ v h k) (k v.xs h) (ak v.t 5):Option Res)=af res:=e
 induction i:ak v.t 5 using zB with
 |true=>
  rw [i] at e
  induction hv using Mine.VR.casesOn with
  |tup xs a items ep B hm j hn c=>
   refine bW xs e (λ{Q E} l=> ?_);have hl:xs.length=items.size:=by refine cR c.length ?_;simp
   exact cR hl (bX (wpAny_unpackItems_tuple u (f9 _ j rfl _ rfl) λh' he d=>(aC (g.i7 q (tk:=s.toks) d λa o e=>he a o (cj (bk e)) e) λf m=>l _ _ m f (c.mono f.dW))))
  |_=>exact nn (aH i) rfl
 |false=>
  rw [i] at e;obtain⟨x,o,z,h1,e⟩:=fO e;refine f7 (hv.er x) λp=> ?_;subst p;intro _;refine sO (g.listAt z h1) λitems ep j hn c C=>bW o.xs e (λ{Q E} l=> ?_);have hl:o.xs.length=items.size:=by refine cR c.length ?_;simp
  exact cR hl (bX (kun_itemsOf u (f9 _ j rfl _ rfl) λh' he d=>(aC (g.i7 q (tk:=s.toks) d λa o e=>he a o (cj (bk e)) e) λf m=>l _ _ m f (c.mono f.dW))))
theorem mY (h:tgtName ns e=af x):∃y p,e= .Name y p/\bg y=ao/\x=nm y/\(bf (nm y) ns=af .local\/bf (nm y) ns=af .cell):=by
 unfold tgtName at h;refine ny (RS h) λy p h he=> ?_
 induction hy:bg y using zB with
 |false=>rw [hy] at h;exact fn h
 |true=>
  rw [hy] at h
  induction hk:bf (nm y) ns using zO with
  |none=>rw [hk] at h;exact fn h
  |some k=>
   rw [hk] at h
   induction k using dN with
   |«local»=>exact lA y p he hy ((aF h).symm) (.inl hk)
   |cell=>exact lA y p he hy ((aF h).symm) (.inr hk)
   |_=>exact fn h
theorem lW (e:storeAll (x::l) vs ρ=af ρ'):∃v us,vs=v::us/\storeAll l us (gb ρ x v)=af ρ':=by
 induction vs using zL with
 |nil=>exact fn e
 |cons v us=>exact nv v us rfl e
theorem oW (h:fV ns (e::es)=af l):∃x l',tgtName ns e=af x/\fV ns es=af l'/\l=x::l':=by
 unfold fV at h
 induction hx:tgtName ns e using zO with
 |none=>rw [hx] at h;exact fn h
 |some x=>
  induction hl:fV ns es using zO with
  |none=>rw [hx,hl] at h;exact fn h
  |some l'=>rw [hx,hl] at h;exact jV x l' rfl rfl ((aF h).symm)
theorem mG (e:storeAll l vs ρ=af ρ'):l.length=vs.length:=by
 induction l generalizing vs ρ with
 |nil=>
  induction vs using zL with
  |nil=>rfl
  |cons v us=>exact fn e
 |cons x l c=>
  refine Hw (lW e) λv us a=> ?_;subst a;intro e;simp [c e]
theorem AA:∀{f} {l},fV ns f=af l->(assignEach f env).length=l.length/\(assignEach f env).findIdx? (·.1)=none:=by
 intro f
 induction f with
 |nil=>
  intro l h;injection h with hq;subst hq;exact⟨rfl,rfl⟩
 |cons e f i=>
  intro l h;refine ku (oW h) λx j d=> ?_;subst d;intro hx hl;refine yt (mY hx) λy p d g=> ?_;subst d;subst g;intro hy hk;refine aC (i hl) λc a=>⟨by exact(λ{a b}=>Iff.mpr Nat.succ_inj) a,(cR (List.findIdx?_cons) ?_)⟩;simp [c]
theorem DH (u:bw X):∀{i} {l} {vs} {ys} {ρ g} {s} {Q},fV ns i=af l->ef X s.heap w h.n vs ys->St X w h s->eW X env ns ρ w h.n s->storeAll l vs ρ=af g->
 (∀s',St X w h s'->eW X env ns g w h.n s'->Ext X (Az env ns) w h.n s w h.n s'->Q () s')->wpAny (model X.prog X.w) A (assignInOrder ((assignEach i env).map (·.2)) ys) Q (λB B=>False) s:=by
 intro i
 induction i with
 |nil=>
  intro l vs ys ρ g s Q ht hv j he e k;injection ht with hq;subst hq
  cases hv with
  |nil=>injection e with hq;subst hq;exact av (k s j he .refl)
  |cons=>exact fn e
 |cons t i C=>
  intro l vs ys ρ g s Q ht hv j he e k;refine ku (oW ht) λx F f=> ?_;subst f;intro hx hl;refine yt (mY hx) λy p f m=> ?_;subst f;subst m;intro hy hk;refine Hw (lW e) λv us f=> ?_;subst f;intro e;cases hv with
  |cons _ z _ G hv o=>
   exact aq (bO (aq (xF (wpAny_bindName (yX u j he hy hk hv λs' a c d=>(C hl (o.mono (d.keep (Az.fixed he))) a c e λq D c' E=>k q D c' (d.trans E)))))))
theorem qV.tup (i:bw X) (ht:fV ns es=af l) z p:qV X r n b ns (BZ l) (.Tuple es z p):=by
 intro A m env ρ w h s o he v y hv E res e Q t;refine aL (wV i o m.handled hv e) λvs hu e=>dM (bC e) λu j x=>aC (AA (env:=env) ht) λc a=>(?_:cG _ _ (standAt p>>=λB=>unpack y (assignEach es env)) _ _ s);refine eT (bq xF ?_);unfold unpack;exact cR a (cR c (cR (mG j) (aq (bO (hu λys s' d k f=>(DH i ht f d (he.ext k) j λg C c' D=>t _ w h g C c' ((k.weaken λB q=>q.elim).trans D) x))))))
end
abbrev qZ (M:Model) (fv:Value) (g:Heap):Prop:=∃k,(k=Keeper.frame\/k=Keeper.machine\/k=Keeper.boundFrame)/\Looks M g (keeperOf fv) k
def RV (Q:Value->Shared->Prop):Result->Shared->Prop:=λr s=>match r with| .ok (.ret v)=>Q v s|_=>False
structure Cf (X:dw) (r:Ap) (n:Nat):Prop where
 call:∀A,fL n 0 A->∀w h s,St X w h s->∀f fv,VR X s.heap w h.n f fv->∀vs ys,ef X s.heap w h.n vs ys->∀k res,r f vs h k=af res->∀Q:Value->Shared->Prop,
  Goes (PV X) X w h.n s k res Q->cG (model X.prog X.w) A (call fv ys) Q (λU U=>False) s
 kept:∀w h s,St X w h s->∀f fv,VR X s.heap w h.n f fv->∀vs k res,r f vs h k=af res->qZ (model X.prog X.w) fv s.heap
 fn:∀A,fL n 0 A->∀w h s,St X w h s->∀a vs ys,ef X s.heap w h.n vs ys->∀k res,r (bM a) vs h k=af res->∀Q:Value->Shared->Prop,
  Goes (PV X) X w h.n s k res Q->codeN (model X.prog X.w) A (.call (.ref a) ⟨ys,[]⟩) (RV Q) s
section
variable {X:dw} {K:Frag} {r:Ap} {n b:Nat} {ns:List (Str×aN)} {w:Wd} {h:H} {s:Shared} {env:dB} {ρ:Env}
theorem lD:∀{xs},xs.any br=aj->(backTo pos (starEach xs env)).any (·.1)=false:=by
 intro xs
 induction xs with
 |nil=>
  intro _;exact rfl
 |cons a d e=>
  intro h;rw [gg,jv] at h;have c:starEach (a::d) env=(aj,eval a env)::starEach d env:=by
   rcases a<;>first|rfl|exact ft (h.1)
  refine cR c ((?_:(aj||(backTo pos (starEach d env)).any (·.1))=aj));refine cR (e h.2) ?_;rfl
theorem l5 {M} (hp:args.any (·.1)=aj) (h:cG M A (spliced args) (λvs s'=>Q ⟨vs,[]⟩ s') E s):cG M A (evalArgs f ao args []) Q E s:=by
 induction args using zL with
 |nil=>
  refine ay (aW h (λvs s' h'=> ?_) λc c x=>x);exact Nx (bh (ay (aO (ay (aO (aO h'))))))
 |cons a l=>
  obtain⟨e,t⟩:=a;have d:e=false:=by
   rw [gg,jv] at hp;exact hp.1
  subst d;refine ay (aW h (λvs s' h'=> ?_) λc c x=>x);exact bh (ay (aO (ay (aO (aO h')))))
theorem KX {M} {A} {E} {s} {vs} {m} {Q:α->Shared->Prop} (h:cG M A m Q E s):cG M A (m.keep vs) Q E s:=λc p a d=>cR (Sem.wp_keep ..) (h c p a d)
theorem pH {M} (hp:args.any (·.1)=aj)
 (h:cG M A (evalArgs f ao args []) (λa s₁=>qZ M f s₁.heap/\cG M A (call f (first++a.pos) a.kw) Q E s₁) E s):cG M A (callWith pos f first args []) Q E s:=by
 refine ay (bh (aW h (λa s₁ e=>ay (bG ?_)) λg g x=>x));obtain⟨⟨k,hk,L⟩,h2⟩:=e;refine cR (show(args.any (·.1)||([]:List (Option Str×Sem Value)).any (·.1.isNone))=aj from by rw [hp];rfl) ?_;have c:∀{t},cG M A t Q E s₁->cG M A (t>>=λr=>holding [r] point>>=λg=>pure r) Q E s₁:=
  λht=>ay (aW ht (λr i j=>ay (bh (eT (vA (aO j))))) λg g x=>x)
 have d (l:Value):cG M A (callMarked l f (first++a.pos) a.kw) Q E s₁:=by unfold callMarked;exact KX h2
 refine Nv (L.here) ?_;rcases hk with rfl|rfl|rfl<;>dsimp only<;>first|exact c h2|(split<;>first|exact c h2|exact c (d _))
theorem DI (hl:Ay X r n b ns l args) (a:args.any br=aj) (d:fL n b A) (g:St X w h s) (he:eW X env ns ρ w h.n s) pos
 (e:l.f r ρ h k=af res) (i:Kv X w h.n s k res (λys s'=>qZ (model X.prog X.w) fv s'.heap/\cG (model X.prog X.w) A (call fv (first++ys)) Q (λc c=>False) s')):
 cG (model X.prog X.w) A (callWith pos fv first (backTo pos (starEach args env)) []) Q (λc c=>False) s:=by
 have hp:=lD (env:=env) (pos:=pos) a;exact pH hp (l5 hp (hl A d env ρ w h s g he k res e pos _ i))
theorem cQ.call (v:Cf X r n) pos (d:∀o m p,fe≠.Attribute o m p) (i:args.any br=aj) (E:cQ X r n b ns f fe) (hl:Ay X r n b ns l args):cQ X r n b ns (kF f l) (.Call fe args [] pos):=by
 intro A j env ρ w h s F he k res e Q G;have q:eval (.Call fe args [] pos) env=(do callWith pos (<-eval fe env) [] (backTo pos (starEach args env)) []):=by
  rcases fe<;>first|rfl|exact absurd rfl (d _ _ _)
 refine cR q (ay (E A j env ρ w h s F he _ res e _ λL h1 M g x t y I J=>(DI hl i j t (he.ext y) pos J λz h2 B vs ys a C u D=> ?_)));have c:=I.mono C.dW;exact⟨v.kept z h2 B a g x c vs k res D,v.call A (j.less (iy _)) z h2 B a g x c vs ys u k res D Q (G.ext (y.trans C))⟩
noncomputable def GG (K:Frag) (c:Addr) (x:Str) (g:Addr):Bool:=findIn K (.ref c) x==af (af (.ref g))&&typeIn K (.ref g)==af (.type "function")&&
 findIn K (.ref c) "__getattribute__"==af (af (.builtin "object.__getattribute__"))&&findIn K (.ref c) "__getattr__"==af au
structure Cg (X:dw) (K:Frag) (ms:List (Nat×Nat)) (x:Str):Prop where
 cls:∀c g,find c ms=af g->∃F,Fi X F/\GG F c x g=ao
theorem Oi (d:Fi X K) (e:St X w h s) (I:InstAt s.heap a ox C od) (hm:GG K C x g=ao) (c:shadowIn od x=af aj) (q:Q (.ref g,[.ref a]) s):
 wpAny (model X.prog X.w) A (getMethod (.ref a) x pl) Q E s:=by
 unfold GG at hm;simp only [aP,beq_iff_eq] at hm;exact method_fn (d.In e) I hm.1.2 hm.2 hm.1.1.1 hm.1.1.2 c q
structure RY (X:dw) (b:Nat) (x:Str) (T id:String):Prop where
 pa:PlainAttrs T
 slot:Slot T x id
 ty:typeOf (.builtin id)=pure (.type "method_descriptor")
noncomputable def RZ (t:Nat):String:=match t with|1=>"list"|2=>"dict"|3=>"bytearray"|_=>""
noncomputable def R0 (t:Nat):String:=match t with|3=>"str"|4=>"bytes"|5=>"tuple"|_=>""
def qm (X:dw) (b:Nat) (x:Str) (fo:OF):Prop:=∀t,fo.ok t=ao->(t=1\/t=2\/t=3)/\∃id,RY X b x (RZ t) id/\
 ∀A n,fL n b A->∀w h s,St X w h s->∀ov y,VR X s.heap w h.n ov y->ov.t=6->∀o,h.l.get ov.n=af o->o.t=t->∀vs ys,ef X s.heap w h.n vs ys->∀k res,fo.f ov o vs h k=af res->∀Q:Value->Shared->Prop,
  Goes (PV X) X w h.n s k res Q->cG (model X.prog X.w) A (call (.builtin id) (y::ys)) Q (λU U=>False) s
def wW (X:dw) (b:Nat) (x:Str) (fv:VF):Prop:=∀t,fv.ok t=ao->(t=3\/t=4\/t=5)/\∃id,RY X b x (R0 t) id/\
 ∀A n,fL n b A->∀w h s,St X w h s->∀ov y,VR X s.heap w h.n ov y->ov.t=t->∀vs ys,ef X s.heap w h.n vs ys->∀k res,fv.f ov vs h k=af res->∀Q:Value->Shared->Prop,
  Goes (PV X) X w h.n s k res Q->wpAny (model X.prog X.w) A (call (.builtin id) (y::ys)) Q (λU U=>False) s
theorem p9 M id g:qZ M (.builtin id) g:=bW .machine (.inr (.inl rfl)) Looks.now
theorem sR {M} (hp:trees.any (·.1)=aj) (hm:m<30) (c:ak ap.endLine pos.line=ao)
 (h:cG M A (getMethod ov x (do return(<-importBound o env).getD ao)) (λp s'=>cG M A (callWith pos p.1 p.2 trees []) Q E s') E s):cG M A (methodCall o x ap pos env ov m trees []) Q E s:=by
 have d:methodCallForm m trees []=true:=by
  unfold methodCallForm;have:trees.all (λx=> !x.1)=true:=by
   rw [aK];intro y hy;rw [List.any_eq_false] at hp;exact(λ{a}=>Iff.mpr bi_not) (hp y hy)
  refine cR this ?_;simp [hm]
 have e:methodCallPos ao o env ap pos=pure pos:=by
  have:(ap.endLine==pos.line)=true:=by rw [beq_iff_eq];exact aH c
  exact if_pos this
 unfold methodCall;refine cR d (cR e (ay (bh (aW h (λp s' q=> ?_) λg g q=>q))));obtain⟨f,first⟩:=p;exact ay (aO q)
theorem VR.typeIs (h:VR X s.heap w n v y) (ht:v.t=3\/v.t=4\/v.t=5):s.TypeIs y (R0 v.t)/\∀a,y= .ref a->∃c,s.heap.get? a=af c/\c.dict=oM:=by
 induction h using Mine.VR.casesOn with
 |str f tk hn=>exact⟨typeIs_str _ _ _,λa e=>(by injection e)⟩
 |bytes f tk hn=>exact⟨j6 _ _ _,λa e=>(by injection e)⟩
 |tup xs a items ep i hm d hn g=>exact⟨(bW _ d rfl),λj e=>by injection e with e;exact(bW _ (e▸d) rfl)⟩
 |_=>rcases ht with q|q|q<;>exact nn q rfl
theorem Rep.typeIs (h:Rep X s.heap w n i o) (ht:o.t=1\/o.t=2\/o.t=3):s.TypeIs (.ref (w.ρ i)) (RZ o.t)/\∀a,ic (w.ρ i)= .ref a->∃d,s.heap.get? a=af d/\d.dict=oM:=by
 induction h using Mine.Rep.casesOn with
 |list _ _ _ _ c|dict _ _ _ _ c|E3 _ _ c=>exact⟨(bW _ c rfl),λf e=>by injection e with e;exact(bW _ (e▸c) rfl)⟩
 |_=>rcases ht with q|q|q<;>exact nn q rfl
theorem cQ.HB (kx:Js X K) (rk:Cf X r n) (ap pos) (hx:bg x=ao) (hn:lS v=ao) (E:ak ap.endLine pos.line=ao) (P:args.length<30) (B:args.any br=aj)
 (ho:cQ X r n b ns o v) (hl:Ay X r n b ns l args) (hm:Cg X K ms x) (hO:qm X b x fo) (hV:wW X b x fv):cQ X r n b ns (Dg o (nm x) ms fo fv l) (.Call (.Attribute v x ap) args [] pos):=by
 intro A F env ρ w h s hs he k res e Q W;refine ay (KV hn (ho A F env ρ w h s hs he _ res e _ λw1 h1 s1 d y i V m a=>(ay (bG (sR (lD (env:=env) (pos:=pos) B) P E ?_)))));have G:=he.ext V;have fn:∀g,l.f r ρ h1 (λvs h=>r (bM g) (d::vs) h k)=af res->cG (model X.prog X.w) A (callWith pos (.ref g) [y] (backTo pos (starEach args env)) []) Q (λI I=>False) s1:=by
  intro g p;exact DI hl B F i G pos p λN h2 O vs ys j C u e3=>⟨rk.kept N h2 O j _ _ (.fn g) (d::vs) k res e3,rk.call A (F.less (iy _)) N h2 O j _ _ (.fn g) _ _ (.cons _ _ _ _ (m.mono C.dW) u) k res e3 Q (W.ext (V.trans C))⟩
 have a:(ah (ah au (l.f r ρ h1 λvs h=>fv.f d vs h k) (fv.ok d.t)) (look d h1 λo h=>ah (ah au (l.f r ρ h λvs h=>look d h λo' h=>ah au (fo.f d o' vs h k) (ak o'.t o.t)) (fo.ok o.t))
  (aB (aB au (λg=>l.f r ρ h λvs h=>r (bM g) (d::vs) h k) (find o.c ms)) (λI=>au) (find (nm x) o.fs)) (ak o.t 0)) (ak d.t 6):Option Res)=af res:=a
 induction h6:ak d.t 6 using zB with
 |false=>
  have a:(ah au (l.f r ρ h1 λvs h=>fv.f d vs h k) (fv.ok d.t):Option Res)=af res:=by rw [h6] at a;exact a
  refine aC (dK a) λa J=>dD (hV _ J) λid Y ht L=> ?_;have R:=m.typeIs ht;exact eT (getMethod_builtin R.1 L.pa L.slot L.ty R.2 (DI hl B F i G pos a λN h2 O vs ys j C u p=>⟨p9 _ _ _,(eT (Y A n F N h2 O j d y (m.mono C.dW) rfl vs ys u k res p Q (W.ext (V.trans C))))⟩))
 |true=>
  rw [h6] at a;refine dD (dj a) λD a S T=>f7 (m.er S) λZ=> ?_;subst Z;intro hlt;have a:(ah (ah au (l.f r ρ h1 λvs h=>look d h λo' h=>ah au (fo.f d o' vs h k) (ak o'.t D.t)) (fo.ok D.t))
   (aB (aB au (λg=>l.f r ρ h1 λvs h=>r (bM g) (d::vs) h k) (find D.c ms)) (λI=>au) (find (nm x) D.fs)) (ak D.t 0):Option Res)=af res:=a
  induction h0:ak D.t 0 using zB with
  |true=>
   rw [h0] at a;refine pX (i.Fj T (aH h0)) λdx es ep I hr hrd hne hg hgd hf I=> ?_
   induction M:find (nm x) D.fs using zO with
   |some z=>rw [M] at a;exact Mine.fn a
   |none=>
    rw [M] at a;refine aL (pS a) λg p hg'=>aL (hm.cls _ _ hg') λI hmm hF=>eT (Oi hF i (rY hg hgd) hmm ?_ (fn g p));refine(?_:(lookIn x (cJ es ep)).map (·.isSome)=af aj);refine cR ((GD (ep:=ep) hf hx).2 M) ?_;rfl
  |false=>
   rw [h0] at a;refine aC (dK a) λa J=>dD (hO _ J) λid Y ht L=> ?_;have R:=(i.rep _ D T).2.typeIs ht;exact eT (getMethod_builtin R.1 L.pa L.slot L.ty R.2 (DI hl B F i G pos a λN h2 O vs ys j C u p=>⟨p9 _ _ _,(dD (dj p) λo' p I ho'=>aC (dK p) λp q=>Y A n F N h2 O j d _ (m.mono C.dW) S o' ho' (aH q) vs ys u k res p Q (W.ext (V.trans C)))⟩))
end
inductive oX (X:dw) (c:Int):List V->Int->Prop where
 |nil (x:Int):oX X c [] x
 |cons (v:V) (l:List V) (x:Int) (hv:∀g w n t,VR X g w n v (.int x t)) (hl:oX X c l (x+c)):oX X c (v::l) x
inductive SrcR (X:dw) (g:Heap) (w:Wd) (n:Nat) (it:Addr):Src->Prop where
 |tup (t:Addr) (items:Array Value) (ep i:Nat) (hr:w.role t=au) (ht:t∉X.tabs) (hg:g.get? t=af (gf items ep)) (hit:g.IsTupleIter it t i) (xs:List V) (hs:ef X g w n xs (items.toList.drop i)):SrcR X g w n it (dQ xs)
 |range (x c:Int) (xs:List V) (hv:oX X c xs x) (hit:vE g it x (xs.length:Int) c):SrcR X g w n it (dQ xs)
 |Ci (x:Str) (t:Tok) (i:Nat) (hit:g.IsStrIter it "str_ascii_iterator" x t i):SrcR X g w n it (dQ ((x.cps.toList.drop i).map λc=>vStr [c]))
 |Cj (x:Str) (t:Tok) (i:Nat) (hit:g.IsStrIter it "str_iterator" x t i):SrcR X g w n it (dQ ((x.cps.toList.drop i).map λc=>vStr [c]))
 |bytes (b:Array UInt8) (t:Tok) (i:Nat) (hit:KBw.IsBytesIter g it b t i):SrcR X g w n it (dQ ((b.toList.drop i).map λc=>aX c.toNat))
 |list (j k:Nat) (hj:j<n) (hit:g.IsListIter it (w.ρ j) k):SrcR X g w n it (gm j k)
 |keys (j m k c:Nat) (hj:j<n) (hit:g.IsKeyIter it (w.ρ j) k m (w.ua j+c)):SrcR X g w n it (rO j m k c)
section
variable {X:dw} {g g':Heap} {w w':Wd} {n n':Nat} {it:Addr}
theorem SrcR.fixed (h:SrcR X g w n it a) (e:g.get? it=af o):d9 o=false:=by
 have f:∀{o'} {vs},g.get? it=af o'->o'.data= .fields vs->strAt vs[1]? =aj->d9 o=false:=λl p hv=>by
  injection e.symm.trans l with hq;subst hq
  unfold d9;refine cR p ?_;exact hv
 induction h using Mine.SrcR.casesOn with
 |tup t items ep i u ht v d xs y=>refine cI d λo' p l q=> ?_;exact f l p rfl
 |range x c xs hv d=>exact f d rfl rfl
 |Ci x t i d=>refine cI d λo' p l q=> ?_;exact f l p rfl
 |Cj x t i d=>refine cI d λo' p l q=> ?_;exact f l p rfl
 |bytes b t i d=>refine cI d λo' p l q=> ?_;exact f l p rfl
 |list j k r d=>refine cI d λo' p l q=> ?_;exact f l p rfl
 |keys j m k c r d=>refine cI d λo' p l q=> ?_;exact f l p rfl
theorem SrcR.keep (h:SrcR X g w n it a) (k:oV X g w n g' w' n') (ki:∀o,g.get? it=af o->g'.get? it=af o):SrcR X g' w' n' it a:=by
 induction h using Mine.SrcR.casesOn with
 |tup t items ep i l ht u d xs v=>
  exact aC (k.fix t _ l ht rfl u) λq p=>aL d λo' r e=> .tup t items ep i p ht q (bW o' (ki _ e) r) xs (v.mono k)
 |range x c xs hv d=>exact .range x c xs hv (ki _ d)
 |Ci x t i d=>refine aL d λo' r e=> ?_;exact .Ci x t i (bW o' (ki _ e) r)
 |Cj x t i d=>refine aL d λo' r e=> ?_;exact .Cj x t i (bW o' (ki _ e) r)
 |bytes b t i d=>refine aL d λo' r e=> ?_;exact .bytes b t i (bW o' (ki _ e) r)
 |list j m f d=>refine aL d λo' r e=> ?_;exact .list j m (aQ f k.oi) (bW o' (ki _ e) (cR (k.ρ j f) r))
 |keys j m i c f d=>refine aL d λo' r e=> ?_;exact .keys j m i c (aQ f k.oi) (bW o' (ki _ e) (cR (k.ρ j f) (cR (k.ua j f) r)))
end
section
variable {prog:Program} {w:World} {A:Around} {E:Value->Shared->Prop} {s:Shared}
theorem v9 {it d:Addr} {i ep m:Nat} {j:Array aV} {Q:Option Value->Shared->Prop} (z:A.handled=au) (l:s.heap.IsKeyIter it d i m ep) (p:s.heap.get? d=af (cJ j ep)) (x:j.size=m)
 (B:∀q,j[i]? =af q->∀h',h'.IsKeyIter it d (i+1) m ep->gh it s.heap h'->Q (af q.key) {s with heap:=h'})
 (hn:j[i]? =au->∀h',mK it s.heap h'->Q au {s with heap:=h'}):wpAny (model prog w) A (pyNext (.ref it)) Q E s:=by
 refine cI (id l) λo r u C=> ?_;have v:=l.typeIs;have t:(cJ j ep).data= .dict j ep:=rfl;have c:∀{D} {f} {y:D->Shared->Prop} {E'},wpAny (model prog w) A.in1 (f "dict_keyiterator") y E' s->wpAny (model prog w) A.in1 (typeNameOfWhole (.ref it)>>=f) y E' s:=λk=>aq (wpAny_typeNameOfWhole_keyiter v k);refine aq (qB (dU (name:=bY "__next__") v n8 (bH n8 v F.entry_dict_keyiterator_next ?_ (F.args_dict_keyiterator_next_1 _))));refine bp (aq (aq (c (av (bq (wpAny_fieldsOf u r) ((?_:wpAny _ _ (if(ic d==dX)=ao then _ else _) _ _ s)))))));refine aq (av (bq (gI p t) ?_));rw [if_neg (by refine cR x ?_;simp)];refine aq (av (bq (t7 p t) (ND (by simp) (av ?_))));simp only [show ¬((i:Int)<0) from by exact lg i,if_false,lq]
 induction hx:j[i]? using zO with
 |some q=>
  have e:(s.heap.update it (Obj.mapFields (·.setIfInBounds 1 (rawInt ((i:Int)+1))))).IsKeyIter it d (i+1) m ep:=
   (f5 _ (bE _ u (sf (i0 r _))) ((xw ..).trans C) (cR (i0 r ..) rfl))
  refine aq (c (av (bq (wpAny_isOneOf_keyiter v) ((?_:wpAny _ _ (setField (.ref it) 1 (rawInt ((i:Int)+1))>>=_) _ _ s)))));refine aq (mz u r (fC (fT [gK (↑m) 0,gK (↑ep) 0])) (aq (bO (aq (wpAny_isOneOf_keyiter (s:={s with heap:=s.heap.update it (Obj.mapFields (·.setIfInBounds 1 (rawInt ((i:Int)+1))))}) e.typeIs ((?_:wpAny _ _ (pure q.key) _ _ _)))))));exact av (av (bW _ rfl (av (B q hx _ e (gi ..)))))
 |none=>
  refine aq (c (av ((?_:wpAny _ _ (setField (.ref it) 0 .none>>=_) _ _ s))));refine bq (mz u r (gj rfl)) ((?_:wpAny _ _ (newExc (.type "StopIteration") []>>=_) _ _ _));refine aq (aq (dY (aq (m:=firstArgMember _ _) (f6 (a:=dX) (by first|rfl|(simp only [firstArgMember];rfl)) (dY ?_ (by size_fits)))) (by size_fits)));refine bq wpAny_handled (cR z (bp (wpAny_throw (aq (fH (T:="StopIteration") (b:=ao) (bW _ (aJ _ rfl) rfl) isSubtype_stop ?_)))));exact av (hn hx _ (((gi ..).extBut.push _).push _))
end
section
variable {X:dw} {w:Wd} {h:H} {s:Shared} {it:Addr}
theorem St.iter (i:bw X) (j:St X w h s) (k:w.role it=au) (hb:X.h₀.objs.size<=it) (f:∀o,s.heap.get? it=af o->d9 o=aj) (d:s.heap.objs.size<=h'.objs.size) (old:mK it s.heap h'):
 St X w h {s with heap:=h',toks:=tk}/\Ext X (λa=>a=it) w h.n s w h.n {s with heap:=h',toks:=tk}/\oV X s.heap w h.n h' w h.n:=aC (j.grow i (F:=λa=>a=it) (s':={s with heap:=h',toks:=tk}) d (λa o b e=>f o (b▸e)) (λa b=>by subst b;exact⟨k,hb⟩) (λa o b e=>old a o b e) rfl rfl) λc a=>iU a c (c.keep λa o b e=>f o (b▸e))
theorem Wm {xs} (e:mX (dQ xs) h ke ki=af res):(xs=[]/\ke=af res)\/∃v l,xs=v::l/\ki v (dQ l)=af res:=by
 induction xs using zL with
 |nil=>exact .inl ⟨rfl,e⟩
 |cons v l=>exact .inr (nv v l rfl e)
theorem Tg {a:Type} {f} {l:Array a} (e:mX (dQ ((l.toList.drop i).map f)) h ke ki=af res):(l[i]? =au/\ke=af res)\/∃c,l[i]? =af c/\ki (f c) (dQ ((l.toList.drop (i+1)).map f))=af res:=by
 refine cL bz ?_
 induction q:l.toList[i]? using zO with
 |none=>
  rw [sM.mpr (jF.mp q)] at e;exact .inl ⟨rfl,e⟩
 |some c=>
  obtain⟨hi,b⟩:=cg.mp q;rw [ie hi,b] at e;exact .inr (bW c rfl e)
theorem Zp {l:Array Value} (hv:ef X g w n xs (l.toList.drop i)) (e:mX (dQ xs) h ke ki=af res):
 (l[i]? =au/\ke=af res)\/∃y v r,l[i]? =af y/\VR X g w n v y/\ef X g w n r (l.toList.drop (i+1))/\ki v (dQ r)=af res:=by
 refine cL bz ?_;rcases Wm e with⟨q,a⟩|⟨v,r,q,a⟩
 .rw [q] at hv;exact .inl ⟨jF.mpr (sM.mp hv.nil_of),a⟩
 .rw [q] at hv;refine vK hv.cons_of λy c b h1 h2=> ?_;have hx:l.toList[i]? =af y:=by refine cL (List.head?_drop) (cR b ?_);rfl
  exact .inr (ug y v r hx h1 (cL List.tail_drop (cR b h2)) a)
theorem yY (F:bw X) (N:10<=X.h₀.objs.size) (C:St X w h s) (J:A.handled=au) (G:w.role it=au) (hb:X.h₀.objs.size<=it) (W:SrcR X s.heap w h.n it a) (e:mX a h ke ki=af res)
 (hn:∀s',St X w h s'->Ext X (λa=>a=it) w h.n s w h.n s'->ke=af res->Q au s')
 (hi:∀s' y v c,St X w h s'->Ext X (λa=>a=it) w h.n s w h.n s'->VR X s'.heap w h.n v y->SrcR X s'.heap w h.n it c->ki v c=af res->Q (af y) s'):wpAny (model X.prog X.w) A (pyNext (.ref it)) Q E s:=by
 have I:∀o,s.heap.get? it=af o->d9 o=false:=λo e=>W.fixed e;have z:∀{h'},s.heap.objs.size<=h'.objs.size->mK it s.heap h'->ke=af res->Q au {s with heap:=h'}:=λb old u=>by
  exact eY (C.iter F G hb I (tk:=s.toks) b old) λq p U=>hn _ p q u
 induction W using Mine.SrcR.casesOn with
 |tup t items ep i O ht K f xs D=>
  have P:t≠it:=λq=>by
   refine cI f λo e3 M R=> ?_;subst q;injection K.symm.trans M with hq;subst hq
   injection e3
  have Y:s.heap.IsTuple t items:=f9 _ K rfl _ rfl;rcases Zp D e with⟨hx,u⟩|⟨y,v,l,hx,hv,hl,u⟩
  .exact bX (wpAny_pyNext_tuple_end J f Y hx λh' he b=>z b he u)
  .exact wpAny_pyNext_tuple_item f Y hx λh' d r=>eY (C.iter F G hb I (tk:=s.toks) (cX r.1.symm) r.extBut) λq p k=>hi _ y v _ p q (hv.mono k) (.tup t items ep (i+1) O ht (r.extBut _ _ P K) d l (hl.mono k)) u
 |range x c xs hv f=>
  rcases Wm e with⟨rfl,u⟩|⟨v,l,rfl,u⟩
  .exact bX (wpAny_pyNext_range_end J f (Int.le_refl _) λh' he b=>z b he u)
  .cases hv with
   |cons _ _ _ hv hl=>
    refine wpAny_pyNext_range_item f (by simp only [iG];exact Int.ofNat_succ_pos (fT l)) λh' d r=>eY (C.iter F G hb I (tk:=s.toks+1) (cX r.1.symm) r.extBut) λq p k=>hi _ _ v _ p q (hv _ _ _ _) (.range (x+c) c l hl ?_) u;have:(((v::l).length:Int)-1)=(l.length:Int):=by simp only [iG];lia
    rw [this] at d;exact d
 |Ci x t i f=>
  rcases Tg e with⟨hx,u⟩|⟨c,hx,u⟩
  .exact bX (wpAny_pyNext_ascii_end J f hx λh' he b=>z b he u)
  .exact wpAny_pyNext_ascii_item f hx λh' d r=>eY (C.iter F G hb I (tk:=s.toks+1) (cX r.1.symm) r.extBut) λq p k=>hi _ _ _ _ p q (.str [c] _ (by simp)) (SrcR.Ci (X:=X) (w:=w) (n:=h.n) x t (i+1) d) u
 |Cj x t i f=>
  rcases Tg e with⟨hx,u⟩|⟨c,hx,u⟩
  .exact bX (wpAny_pyNext_wide_end J f hx λh' he b=>z b he u)
  .exact wpAny_pyNext_wide_item f hx λh' d r=>eY (C.iter F G hb I (tk:=s.toks+1) (cX r.1.symm) r.extBut) λq p k=>hi _ _ _ _ p q (.str [c] _ (by simp)) (SrcR.Cj (X:=X) (w:=w) (n:=h.n) x t (i+1) d) u
 |bytes bs t i f=>
  rcases Tg e with⟨hx,u⟩|⟨c,hx,u⟩
  .exact bX (KBw.next_end J f hx λh' he b=>z b he u)
  .exact KBw.next_item f hx λh' d r=>eY (C.iter F G hb I (tk:=s.toks+1) (cX r.1.symm) r.extBut) λq p k=>hi _ _ _ _ p q (.nat c.toNat _) (SrcR.bytes (X:=X) (w:=w) (n:=h.n) bs t (i+1) d) u
 |list j m S f=>
  refine aL (pS (show(aB au (λo=>ah au (aB ke (λx=>ki x (gm j (aG m 1))) (sP o.xs m)) (ak o.t 1)) (HT.get h.l j):Option Res)=af res from e)) λo e T=>aC (dK e) λe h1=>sO (C.listAt T (aH h1)) λitems ep K hn' D V=> ?_;have Z:s.heap.IsList (w.ρ j) items:=f9 _ K rfl _ rfl;rw [mE] at e
  induction hx:o.xs[m]? using zO with
  |none=>
   rw [hx] at e;have:=D.get_none hx;exact bX (wpAny_pyNext_list_end J f Z (by simpa using this) λh' he b=>z b he e)
  |some v=>
   rw [hx] at e;exact dM (D.get hx) λy hy hv=>wpAny_pyNext_list_item f Z (x:=y) (by simpa using hy) λh' d r=>eY (C.iter F G hb I (tk:=s.toks) (cX r.1.symm) r.extBut) λq p k=>hi _ y v _ p q (hv.mono k) (.list j (m+1) S d) e
 |keys j m i c S f=>
  refine aL (pS (show(aB au (λo=>ah au (ah au (ah au (aB ke (λx=>ki x.1 (rO j m (aG i 1) c)) (sP o.kvs i)) (ak o.c c)) (ak (len o.kvs) m)) (ak o.t 2)) (HT.get h.l j):Option Res)=af res from e)) λo e T=>aC (dK e) λe h2=>aC (dK e) λe h3=>aC (dK e) λe h4=>iV ((C.rep _ o T).2.kI (aH h2)) λes ep B V K hz hd=> ?_;have B:ep=w.ua j+c:=cR B (cR (aH h4) rfl);have hm:o.kvs.length=m:=cL (len_eq ..) (aH h3);rw [mE] at e;have L:es.size=o.kvs.length:=cR hd.all.length (cR aM rfl);rw [<-B,<-hm] at f;refine bX (v9 J f K L (λen hx h' d r b=> ?_) λhx h' he b=> ?_)
  .have hl:i<o.kvs.length:=cL L ((fJ.mp hx).1);have hk:=bB hl;refine aL (hd.all.get hk) λen' R M=> ?_;rw [bz,hx] at M;rw [<-aF M] at R;rw [hk] at e;exact eY (C.iter F G hb I (tk:=s.toks) (cX r.1.symm) r.extBut) λq p' k=>hi _ _ _ _ p' q (R.key.mono k) (.keys j _ (i+1) c S (cL B (cL hm d))) e
  .have hk:o.kvs[i]? =none:=by rw [jF,<-L];exact ez.mp hx
   rw [hk] at e;exact z b he e
end
section
variable {prog:Program} {w:World} {A:Around} {E:Value->Shared->Prop} {s:Shared}
theorem qa {items} (k:A.handled=au) (b:s.heap.IsTupleIter it t i) (ht:s.heap.IsTuple t items)
 (hi:∀x,items[i]? =af x->∀h',h'.IsTupleIter it t (i+1)->gh it s.heap h'->Q x {s with heap:=h'})
 (hn:items[i]? =au->∀h' e,mK it s.heap h'->(∃o,h'.get? e=af o/\o.cls= .type "StopIteration")->E (.ref e) {s with heap:=h'}):wpAny (model prog w) A (dH (.ref it)) Q E s:=by
 refine cI (id b) λo c d l=>Ru ht λp q f r j=>aq (dU (name:=bY "__next__") b.typeIs fU (bH fU b.typeIs oS ?_ (n9 _)));refine(?_:wpAny _ _ (field (.ref it) 0>>=_) _ _ s);refine bq (fK d c (x:= .ref t) rfl) ((?_:wpAny _ _ (if(ic t==dX)=ao then _ else _) _ _ s));refine bq (fK d c (x:= .int i 0) rfl) ((?_:wpAny _ _ (se (.ref t)>>=_) _ _ s));refine bq (dz f j) ?_;simp only [lq]
 induction hx:items[i]? using zO with
 |some x=>
  refine aq (mz d c (fC (fT [])) (av (bW x rfl (av (hi x hx _ ?_ (gi ..))))));exact f5 _ (bE _ d (sf (i0 c _))) ((xw ..).trans l) (cR (i0 c ..) rfl)
 |none=>
  refine aq (fh (bq (mz d c (gj rfl)) ((?_:wpAny _ _ (newExc (.type "StopIteration") []>>=_) _ _ _))));refine aq (aq (dY (aq (m:=firstArgMember _ _) (f6 (a:=dX) (by first|rfl|(simp only [firstArgMember];rfl)) (dY ?_ (by size_fits)))) (by size_fits)));refine bq wpAny_handled ?_
  first|refine cR k ?_|rw [k]
  exact bp (wpAny_throw (hn hx _ _ (((gi ..).extBut.push _).push _) (bW _ (aJ _ rfl) rfl)))
end
theorem Ft (l:A.handled=au) (it t) (k:t≠it) items:
 Draws prog w A it [it,t] items.size (λi v=>items[i]? =af v) (λi h=>h.IsTupleIter it t i/\h.IsTuple t items) where
 live:=λd d c=>let⟨o,ho,_⟩:=c.1;⟨o,ho⟩
 frame:=λd d d c hk=>⟨let⟨o,ho,r⟩:=c.1;(bW o (hk it aE o ho) r),let⟨o,ho,r⟩:=c.2;(bW o (hk t (mL rfl) o ho) r)⟩
 item:=λi s Q E hi c m=>qa l c.1 c.2 (λx hx h' f j=>m x h' s.toks hx ⟨f,c.2.extBut j.extBut k⟩ j) λhx=>by rw [ez] at hx;lia
 done:=λs Q E c p=>qa l c.1 c.2 (λx hx=>by rw [Array.getElem?_eq_none (bu _)] at hx;exact fn hx) λd h' e a b=>p h' e a b
inductive GH (X:dw) (g:Heap) (w:Wd) (n:Nat) (S:Addr->Prop):Value->It->Prop where
 |one (it:Addr) (a:Src) (hS:∀b,S b↔b=it) (ha:SrcR X g w n it a):GH X g w n S (.ref it) (gc a)
 |zip (i:Nat) (hi:i<n) (hS:∀b,¬S b):GH X g w n S (.ref (w.ρ i)) (yD i)
 |enum (e it:Addr) (m:Nat) (old:Value) (t:Addr) (items:Array Value) (ep:Nat) (xs:List V) (hS:∀b,S b↔b=e\/b=it) (hne:e≠it) (he:IsEnum g e it m old) (hr:w.role t=au) (ht:t∉X.tabs)
  (hg:g.get? t=af (gf items ep)) (hit:g.IsTupleIter it t m) (hs:ef X g w n xs (items.toList.drop m)):GH X g w n S (.ref e) (vO m (dQ xs))
structure Ak (X:dw) (g:Heap) (w:Wd) (n:Nat) (S:Addr->Prop) (iv:Value) (a:It):Prop where
 own:∀b,S b->w.role b=au/\X.h₀.objs.size<=b/\b∉X.tabs
 is:GH X g w n S iv a
section
variable {X:dw} {g g':Heap} {w w':Wd} {n n':Nat} {S:Addr->Prop} {iv:Value} {a:It}
theorem SrcR.KY {a} (h:SrcR X g w n it a):∃o vs,g.get? it=af o/\o.data= .fields vs:=by
 induction h using Mine.SrcR.casesOn with
 |tup t items ep i q ht r d xs u=>refine cI d λo' e f l=> ?_;exact nv _ _ f e
 |range x c xs hv d=>exact nv _ _ d rfl
 |Ci x t i d=>refine cI d λo' e f l=> ?_;exact nv _ _ f e
 |Cj x t i d=>refine cI d λo' e f l=> ?_;exact nv _ _ f e
 |bytes b t i d=>refine cI d λo' e f l=> ?_;exact nv _ _ f e
 |list j k p d=>refine cI d λo' e f l=> ?_;exact nv _ _ f e
 |keys j m k c p d=>refine cI d λo' e f l=> ?_;exact nv _ _ f e
theorem GH.KY (h:GH X g w n S iv a):∀b,S b->∃o vs,g.get? b=af o/\o.data= .fields vs:=by
 intro b hb
 induction h using Mine.GH.casesOn with
 |one f a c j=>refine cR ((c b).mp hb) ?_;exact j.KY
 |zip i hi c=>exact absurd hb (c b)
 |enum e f m old t items ep xs c k he q ht r d u=>
  rcases(c b).mp hb with rfl|rfl
  .exact nv _ _ he rfl
  .refine cI d λo' l p v=> ?_;exact nv _ _ p l
theorem GH.fixed (h:GH X g w n S iv a):∀b o,S b->g.get? b=af o->d9 o=false:=by
 intro b o hb e
 induction h using Mine.GH.casesOn with
 |one f a c j=>rw [(c b).mp hb] at e;exact j.fixed e
 |zip i hi c=>exact absurd hb (c b)
 |enum q f m old t items ep xs c k he r ht u d v=>
  rcases(c b).mp hb with rfl|rfl
  .injection e.symm.trans he with hq;subst hq;rfl
  .refine cI d λo' l p x=> ?_;injection e.symm.trans p with hq;subst hq
   unfold d9;refine cR l ?_;rfl
theorem Ak.keep (h:Ak X g w n S iv a) (k:oV X g w n g' w' n') (l:∀b,S b->w'.role b=au) (ki:∀b o,S b->g.get? b=af o->g'.get? b=af o):Ak X g' w' n' S iv a:=by
 refine⟨λb hb=>⟨l b hb,(h.own b hb).2⟩, ?_⟩
 induction h.is using Mine.GH.casesOn with
 |one d a c u=>exact .one d a c (u.keep k λo e=>ki d o ((c d).mpr rfl) e)
 |zip i hi c=>refine cL (k.ρ i hi) ?_;exact .zip i (aQ hi k.oi) c
 |enum e d m old t items ep xs c f he v ht x j y=>
  exact aC (k.fix t _ v ht rfl x) λq p=>aL j λo' r z=> .enum e d m old t items ep xs c f (ki e _ ((c e).mpr (.inl rfl)) he) p ht q (bW o' (ki d _ ((c d).mpr (.inr rfl)) z) r) (y.mono k)
end
section
variable {X:dw} {w:Wd} {h:H} {s:Shared}
theorem St.KZ (t:bw X) (c:St X w h s) (hi:h.l.get i=af o) {s'} (b:s.heap.objs.size<=s'.heap.objs.size) (old:∀a f,w.role a≠af i->s.heap.get? a=af f->s'.heap.get? a=af f)
 (m:s'.gens=s.gens) (os:s'.os=s.os) (r:oV X s.heap w h.n s'.heap w h.n->Rep X s'.heap w h.n i o'):
 St X w ⟨HT.ins o' h.l i,h.n⟩ s'/\Ext X cV w h.n s w h.n s':=by
 have x:Ext X cV w h.n s w h.n s':=⟨b,bu _,λd d=>rfl,λd d=>rfl,λd d=>rfl,λa o h1 d d e=>old a o (cR h1 (λh=>fn h)) e,m,os⟩;have k:=x.dW;refine⟨⟨λj u e=> ?_,λa j e=> ?_,λa f e ht=> ?_,aI c.size b,λP v=>(c.tab P v).keep k λo hl e=>old P o (λy=>absurd hl (bD.mpr (c.lim P i y).2.1)) e⟩,x⟩
 .rcases HT.get_ins _ e with⟨rfl,rfl⟩|⟨p,e⟩
  .exact⟨(c.rep _ _ hi).1,r k⟩
  .exact aC (c.rep j u e) λz q=>⟨q,z.keep t k q (λd h=>h) λa f h1 e=>old a f (cR h1 (λh=>p (aF h))) e⟩
 .refine eY (c.lim a j e) λB C a3=> ?_;exact iU C B (aQ a3 b)
 .refine old a f (λh1=> ?_) (c.base a f e ht);exact absurd (bk e) (bD.mpr (c.lim a i h1).2.1)
theorem St.R1 (i:bw X) (j:St X w h s) (k:∀b,S b->w.role b=au/\X.h₀.objs.size<=b) (f:∀b o,S b->s.heap.get? b=af o->d9 o=aj) (d:s.heap.objs.size<=h'.objs.size)
 (old:∀b o,¬S b->s.heap.get? b=af o->h'.get? b=af o):
 St X w h {s with heap:=h',toks:=tk}/\Ext X S w h.n s w h.n {s with heap:=h',toks:=tk}/\oV X s.heap w h.n h' w h.n:=aC (j.grow i (F:=S) (s':={s with heap:=h',toks:=tk}) d f k (λa o l e=>old a o l e) rfl rfl) λc a=>iU a c (c.keep f)
theorem jh {M} (d:s.heap.get? it=af o) (e:o.cls= .type T) (f:o.data= .fields vs)
 (i:(["enumerate","zip","dict_itemiterator","dict_reverseitemiterator","odict_iterator","itertools.zip_longest","itertools.pairwise"]:List String).contains T=aj) (h:Q () s):wpAny M A (letOwnedTupleGo target (.ref it) y) Q E s:=by
 have b:wpAny M A (match (ic it,y) with
  |(.ref r,.ref a)=>do
   let o<-load r
   match o.cls,o.data with
   | .type n,.fields vs=>
    if(["enumerate","zip","dict_itemiterator","dict_reverseitemiterator","odict_iterator","itertools.zip_longest","itertools.pairwise"]:List String).contains n&&vs[0]? ==af (rawInt a) then
     rule "for.unpacks-the-owned-tuple"
     updateField r 0 .none
   |_,_=>pure ()
  |_=>pure ()) Q E s:=by
  induction y using gk with
  |ref a=>
   refine bq (ja d) (cR e (cR f ?_));dsimp only;exact cR i (av h)
  |_=>exact av h
 induction target using aR with
 |Tuple c z p=>rcases y<;>exact b
 |List c p=>rcases y<;>exact b
 |_=>exact av h
theorem SrcR.letGo {M} (o:SrcR X s.heap w n it a) (h:Q () s):wpAny M A (letOwnedTupleGo target (.ref it) y) Q E s:=by
 induction o using Mine.SrcR.casesOn with
 |tup t items ep i q ht r d xs u=>refine cI d λo' e f l=> ?_;exact jh f l e rfl h
 |range x c xs hv d=>exact jh d rfl rfl rfl h
 |Ci x t i d=>refine cI d λo' e f l=> ?_;exact jh f l e rfl h
 |Cj x t i d=>refine cI d λo' e f l=> ?_;exact jh f l e rfl h
 |bytes b t i d=>refine cI d λo' e f l=> ?_;exact jh f l e rfl h
 |list j k p d=>refine cI d λo' e f l=> ?_;exact jh f l e rfl h
 |keys j m k c p d=>refine cI d λo' e f l=> ?_;exact jh f l e rfl h
theorem g6 (h:iM e=ao):∃b z p,e= .Tuple b z p:=by
 induction e using aR with
 |Tuple b z p=>exact⟨b,z,p,rfl⟩
 |_=>exact ff h
theorem Oj (ax:bw X) (hbase:10<=X.h₀.objs.size) (R:∀a∈X.tabs,a<X.h₀.objs.size) (G:St X w h s) (hh:A.handled=au) (hi:Ak X s.heap w h.n S iv a) (ht:a.t=0\/iM target=ao)
 (e:vP a h ke ki=af res) {Q P:Option Value->Shared->Prop}
 (hn:∀h' s',St X w h' s'->h'.n=h.n->Ext X S w h.n s w h.n s'->ke h'=af res->Q au s')
 (hv:∀h' s' v y a',St X w h' s'->h'.n=h.n->Ext X S w h.n s w h.n s'->VR X s'.heap w h.n v y->Ak X s'.heap w h.n S iv a'->(a'.t=0\/iM target=ao)->ki v a' h'=af res->Q (af y) s')
 (pn:∀s1,Q au s1->P au s1) (ps:∀y s1,wpAny (model X.prog X.w) A (letOwnedTupleGo target iv y) (λU s2=>Q (af y) s2) E s1->P (af y) s1):wpAny (model X.prog X.w) A (pyNext iv) P E s:=by
 have own:=hi.own
 induction hi.is using Mine.GH.casesOn with
 |one it a I ha=>
  have z:=own it ((I it).mpr rfl);have e:mX a h (ke h) (λx c=>ki x (gc c) h)=af res:=e;have wk:∀{s'},Ext X (λb=>b=it) w h.n s w h.n s'->Ext X S w h.n s w h.n s':=λx=>x.weaken λb hb=>(I b).mpr hb;exact yY ax hbase G hh z.1 z.2.1 ha e (λs' a x ek=>pn _ (hn h s' a rfl (wk x) ek)) λs' y v c a x hy f ek=>ps _ _ (f.letGo (hv h s' v y (gc c) a rfl (wk x) hy ⟨own,.one it c I f⟩ (.inl rfl) ek))
 |zip i hi' I=>
  have e:Gk i h ke (λv h=>ki v (yD i) h)=af res:=e;refine aL (pS e) λo e ho=>aC (dK e) λe h5=> ?_
  induction ((G.rep i o ho).2) using Mine.Rep.casesOn with
  |zip j1 k1 j2 k2 TI TO i1 i2 aa bb K r1 r2 r3 r4 D hj hz h1 h2 h3 h4=>
   refine aL (pS e) λp e hp=>aC (dK e) λe p1=>aL (pS e) λq e hq=>aC (dK e) λe q1=>sO (G.listAt hp (aH p1)) λxs ep hg1 hn1 V Zq=>sO (G.listAt hq (aH q1)) λys Kp N9 hn2 W Ti=> ?_;have hl1:s.heap.IsList (w.ρ j1) xs:=f9 _ hg1 rfl _ rfl;have hl2:s.heap.IsList (w.ρ j2) ys:=f9 _ N9 rfl _ rfl;have L:∀{c},w.role c=af i->w.ρ j1≠c:=λf q=>hj.2.2.1 (aF (Zq.symm.trans (q▸f)));have M:∀{c},w.role c=af i->w.ρ j2≠c:=λf q=>hj.2.2.2 (aF (Ti.symm.trans (q▸f)));have j:∀{c d} {oc od},s.heap.get? c=af oc->s.heap.get? d=af od->oc.cls≠od.cls->c≠d:=λec ed B q=>by subst q;injection ec.symm.trans ed with hq;subst hq;exact B rfl
   refine cI (id h3) λo3 d3 e3 c3=>cI (id h4) λo4 d4 e4 c4=> ?_;have n1:cW "list_iterator"≠cW "zip":=by decide
   have n2:cW "tuple"≠cW "list_iterator":=by decide
   have DD:ZipApart (w.ρ i) TI TO i1 i2 (w.ρ j1) (w.ρ j2):=⟨D.2.1,D.2.2.1,j e3 hz (cR c3 n1),j e4 hz (cR c4 n1),D.1,j h1 e3 (cR c3 n2),j h1 e4 (cR c4 n2),j h2 e3 (cR c3 n2),j h2 e4 (cR c4 n2),D.2.2.2,
    L K,L r2,L r3,L r4,M K,M r2,M r3,M r4⟩
   have Y:∀{b:Bool},ke ⟨HT.ins qK h.l i,h.n⟩=af res->(xs[k1]? =au\/ys[k2]? =au)->
    wpAny (model X.prog X.w) A (pyNext (.ref (w.ρ i))) P E s:=λek hend=>by
    refine bX (wpAny_pyNext_zip_end hh DD hz h1 h2 h3 h4 hl1 hl2 hend λh' hk u=> ?_);have ab:=G.KZ ax ho (s':={s with heap:=h'}) (o':=qK) u (λc ob f e=>hk c ob (λq=>f (q▸K)) (λq=>f (q▸r2)) (λq=>f (q▸r3)) (λq=>f (q▸r4)) e) rfl rfl λU=> .junk K;exact pn _ (hn _ _ ab.1 rfl (ab.2.weaken λU h=>h.elim) ek)
   rw [mE,mE] at e
   induction hx:p.xs[k1]? using zO with
   |none=>
    rw [hx] at e;exact Y (b:=ao) e (.inl ((bz ..).symm.trans (V.get_none hx)))
   |some x=>
    induction hy:q.xs[k2]? using zO with
    |none=>
     rw [hx,hy] at e;exact Y (b:=ao) e (.inr ((bz ..).symm.trans (W.get_none hy)))
    |some y=>
     rw [hx,hy] at e;refine dM (V.get hx) λxv hxv vx=>dM (W.get hy) λyv hyv vy=>wpAny_pyNext_zip_item DD hz h1 h2 h3 h4 hl1 hl2 (x:=xv) (y:=yv) ((bz ..).symm.trans hxv) ((bz ..).symm.trans hyv) λh' z1 z2 z3 z4 z5 z6 z7=> ?_;refine Vx (g6 (ht.resolve_left (by exact Nat.one_ne_zero))) λes zz pp qY=> ?_;subst qY;refine ps _ _ (wpAny_letOwnedTupleGo_zip z1 λC z1' z8=> ?_);have up:∀c o,c≠w.ρ i->h'.get? c=af o->C.get? c=af o:=λc o f e=>z8.extBut c o f e;have u:s.heap.objs.size<=C.objs.size:=cR z8.1 (cR z6 (gU _));have ab:=G.KZ ax ho (s':={s with heap:=C}) (o':=EM j1 (k1+1) j2 (k2+1)) u
      (λc ob f e=>up c ob (λq=>f (q▸K)) (z7 c ob (λq=>f (q▸K)) (λq=>f (q▸r2)) (λq=>f (q▸r3)) (λq=>f (q▸r4)) e)) rfl rfl λkk=>by
       refine .zip j1 (k1+1) j2 (k2+1) TI TO i1 i2 xv yv K r1 r2 r3 r4 D hj z1' (up _ _ D.2.1 (z7 _ _ D.2.1 D.1 DD.TIi1 DD.TIi2 h1)) (up _ _ D.2.2.1 z2) ?_ ?_
       .refine aL z3 λo' r e'=> ?_;exact bW o' (up _ _ DD.i1z e') r
       .refine aL z4 λo' r e'=> ?_;exact bW o' (up _ _ DD.i2z e') r
     have kk:=ab.2.dW;have hT:=up _ _ (iw (bk hz)) z5;exact hv _ _ _ _ (yD i) ab.1 rfl (ab.2.weaken λU h=>h.elim) (.tup _ _ #[xv,yv] 0 (lZ G (bu _)) (λhm=>absurd (R _ hm) (bD.mpr G.size)) hT (of_decide_eq_true rfl) (.cons _ _ _ _ (vx.mono kk) (.cons _ _ _ _ (vy.mono kk) .nil))) ⟨own,.zip i hi' I⟩ (.inr rfl) e
  |_=>exact nn (aH h5) rfl
 |enum ev it m old t items ep xs I B he K htt hg z J=>
  have Z:t≠it:=λq=>by
   refine cI z λo e3 e1 e2=> ?_;subst q;injection hg.symm.trans e1 with hq;subst hq
   injection e3
  have hT:s.heap.IsTuple t items:=f9 _ hg rfl _ rfl;have hTe:t≠ev:=λq=>by
   subst q;have:=congrArg Obj.cls (aF (hg.symm.trans he));exact absurd this (show cW "tuple"≠cW "enumerate" from by decide)
  induction xs using zL with
  |nil=>
   have hsz:m=items.size\/items.size<=m:=by
    exact .inr (Nat.le_of_sub_eq_zero ((jC ..).symm.trans J.length.symm))
   have hx:=ez.mpr (hsz.elim (λq=>cX q.symm) id);refine bX ?_;have hTE:s.TypeIs (.ref ev) "enumerate":=bW _ he rfl;refine aq (qB (dU (name:=bY "__next__") hTE F.slot_enumerate_next
    (bH F.slot_enumerate_next hTE F.entry_enumerate_next ?_ (F.args_enumerate_next_1 _))))
   refine(?_:wpAny _ _ (field (.ref ev) 2>>=_) _ _ _);exact bq (fK he rfl (x:= .ref it) rfl) (aq (qa hh z hT (λx N=>by rw [hx] at N;exact fn N) λU h' x he' N=>(dM N λo ho f=>bq (fH (T:="StopIteration") (b:=ao) (bW o ho f) isSubtype_stop) (av λu=>eY (G.R1 ax (S:=S) (h':=h') (λb hb=>⟨(own b hb).1,(own b hb).2.1⟩) hi.is.fixed (tk:=s.toks) u λb o hb e=>he' b o (λq=>hb ((I b).mpr (.inr q))) e) λq p k=>pn _ (hn h _ p rfl q e)))))
  |cons v l=>
   induction hd:items.toList.drop m using zL with
   |nil=>rw [hd] at J;cases J
   |cons y ys=>
    rw [hd] at J;cases J with
    |cons _ _ _ _ hvv hl=>
     have hx:=(bz ..).symm.trans ((List.head?_drop ..).symm.trans (congrArg List.head? hd));have hd':items.toList.drop (m+1)=ys:=cL List.tail_drop (cR hd rfl);refine wpAny_pyNext_enum_itemD (Ft (prog:=X.prog) (w:=X.w) (A:=A.in1) hh it t Z items) he ⟨z,hT⟩ ((fJ.mp hx).1) B (by simp [B,hTe.symm]) λx h' tk hPx he' Zr hT' hz' hk'=> ?_;injection hx.symm.trans hPx with hq;subst hq
     refine Vx (g6 (ht.resolve_left (by exact Nat.add_one_ne_zero 1))) λes zz pp qY=> ?_;subst qY;refine ps _ _ (wpAny_letOwnedTupleGo_enum (i:=(m:Int)+1) (item:=y) he' λC Vm O=> ?_);have old:∀b o,¬S b->s.heap.get? b=af o->C.get? b=af o:=λb o hb e=>O.extBut b o (λq=>hb ((I b).mpr (.inl q))) (hk' b o (λq=>hb ((I b).mpr (.inl q))) (λq=>hb ((I b).mpr (.inr q))) e);refine eY (G.R1 ax (S:=S) (h':=C) (λb hb=>⟨(own b hb).1,(own b hb).2.1⟩) hi.is.fixed (tk:=tk+1) (cR O.1 (cR hz' (gU _))) old) λq p k=> ?_;have htS:¬S t:=λhb=>by rcases(I t).mp hb with q|q;exact hTe q;exact Z q
     refine hv h _ _ _ (vO (aG m 1) (dQ l)) p rfl q (.tup _ _ #[.int (m:Int) tk,y] 0 (lZ G (bu _)) (λhm=>absurd (R _ hm) (bD.mpr G.size)) (O.extBut _ _ (iw (bk he)) hT') (of_decide_eq_true rfl) (.cons _ _ _ _ (.nat m tk) (.cons _ _ _ _ (hvv.mono k) .nil))) ⟨own,.enum ev it (m+1) y t items ep l I B ?_ K htt (old t _ htS hg) ?_ (cR hd' (hl.mono k))⟩ (.inr rfl) e
     .exact Vm
     .refine aL Zr.1 λo' r e'=> ?_;exact bW o' (O.extBut _ _ (rK B) e') r
theorem A9 (j:bw X) (b:10<=X.h₀.objs.size) (c:∀a∈X.tabs,a<X.h₀.objs.size) (k:St X w h s) (l:A.handled=au) (hi:Ak X s.heap w h.n S iv a) (ht:a.t=0\/iM target=ao)
 (e:vP a h ke ki=af res) {Q:Option Value->Shared->Prop}
 (hn:∀h' s',St X w h' s'->h'.n=h.n->Ext X S w h.n s w h.n s'->ke h'=af res->Q au s')
 (hv:∀h' s' v y d,St X w h' s'->h'.n=h.n->Ext X S w h.n s w h.n s'->VR X s'.heap w h.n v y->Ak X s'.heap w h.n S iv d->(d.t=0\/iM target=ao)->ki v d h'=af res->Q (af y) s'):
 wpAny (model X.prog X.w) A (pyNext iv) (λo i=>match o with|none=>Q au i|some y=>wpAny (model X.prog X.w) A (letOwnedTupleGo target iv y) (λf m=>Q (af y) m) E i) E s:=
 Oj j b c k l hi ht e hn hv (λf h=>h) λf f h=>h
end
section
variable {X:dw} {F F':Addr->Prop} {w₀ w w':Wd} {n₀ n n':Nat} {s₀ s s':Shared}
theorem Ext.nN (x:Ext X F w₀ n₀ s₀ w n s) (y:Ext X F' w n s w' n' s') (h:∀a,F' a->F a\/s₀.heap.objs.size<=a):Ext X F w₀ n₀ s₀ w' n' s':=
 ⟨aI x.size y.size,aI x.oi y.oi,λi hi=>(y.ρ i (aQ hi x.oi)).trans (x.ρ i hi),λi hi=>(y.ua i (aQ hi x.oi)).trans (x.ua i hi),
  λa b=>(y.role a (aQ b x.size)).trans (x.role a b),
  λa o h1 h2 c e=>y.old a o ((x.role a (bk e)).trans h1) h2 (λd=>(h a d).elim c λq=>absurd (bk e) (bD.mpr q)) (x.old a o h1 h2 c e),y.gens.trans x.gens,y.os.trans x.os⟩
theorem Ak.ext (i:Ak X s.heap w n S iv a) (x:Ext X F w n s w' n' s') (hF:∀a o,F a->s.heap.get? a=af o->d9 o=aj) (c:∀b,S b->¬F b):Ak X s'.heap w' n' S iv a:=
 i.keep (x.keep hF) (λb hb=>by
  exact Hw (i.is.KY b hb) λo vs e d=>(x.role b (bk e)).trans (i.own b hb).1) λb o hb e=>x.old b o (i.own b hb).1 (i.own b hb).2.2 (c b hb) e
theorem Ak.frame (i:Ak X s.heap w n S iv a) (he:eW X env ns ρ w n s):∀b,S b->¬Az env ns b:=by
 intro b hb h;refine Hw (i.is.KY b hb) λo vs e g=> ?_;rcases h with rfl|⟨x,h1,h2,j⟩
 .obtain⟨m,⟨o',l,ep,f,d,_⟩,_⟩:=he.loc;injection e.symm.trans f with hq;subst hq
  rw [g] at d;injection d
 .obtain⟨c,p,k,_,_,_,⟨o',f,d⟩⟩:=he.cell x h1 (.inl h2);injection j.symm.trans k with hq;subst hq
  injection e.symm.trans f with hq;subst hq
  rw [g] at d;injection d
end
theorem ri y p l:bf y (p::l)=if y=nm p.1 then af p.2 else bf y l:=by
 refine(?_:(ah (bf y l) (af p.2) (ak y (nm p.1)):Option aN)=_)
 induction e:ak y (nm p.1) using zB with
 |true=>exact cR (if_pos (aH e)) rfl
 |false=>exact cR (if_neg (fS e)) rfl
theorem jZ (hp:∀p∈l,bg p.1=ao) {x} (hx:bg x=ao) {k} (e:bf (nm x) l=af k):l.lookup x=af k:=by
 induction l with
 |nil=>exact fn e
 |cons p l a=>
  rw [ri] at e;refine cR bK ?_;by_cases h:nm x=nm p.1
  .rw [if_pos h] at e;injection e with e;subst e
   refine cR (gR hx (hp p aE) h) ?_;simp
  .rw [if_neg h] at e;have:(x==p.1)=false:=by simp;intro q;exact h (cR q rfl)
   exact cR this (a (λp hq=>hp p (aD _ hq)) e)
theorem lF (e:bf y l=af k):∃p∈l,y=nm p.1/\p.2=k:=by
 induction l with
 |nil=>exact fn e
 |cons p l c=>
  rw [ri] at e;by_cases h:y=nm p.1
  .rw [if_pos h] at e;injection e with e;subst e;exact f5 p aE h rfl
  .rw [if_neg h] at e;exact aL (c e) λq b a=>bW q (aD _ a) b
theorem HU (hu:A0 l=ao) {p} (hp:p∈l):bf (nm p.1) l=af p.2:=by
 induction l with
 |nil=>cases hp
 |cons q l c=>
  unfold A0 at hu
  induction hq:sr (nm q.1) l using zB with
  |true=>rw [hq] at hu;exact ff hu
  |false=>
   rw [hq] at hu;refine cR (ri ..) ?_;rcases aT.mp hp with b|hp
   .exact cR b (cR (if_pos rfl) rfl)
   .have:=c hu hp;by_cases h:nm p.1=nm q.1
    .unfold sr at hq;rw [<-h,this] at hq;exact ft hq
    .refine cR (if_neg h) ?_;exact this
def wX (ns:List (Str×aN)) (l:List (Str×aN)):Prop:=∀p∈l,bg p.1=ao/\((p.2= .free/\(bf (nm p.1) ns=af .cell\/bf (nm p.1) ns=af .free))\/p.2= .local\/p.2= .globalImplicit)
theorem DJ:∀{l},lO ns l=ao->wX ns l:=by
 intro l
 induction l with
 |nil=>
  intro _;exact λp hp=>(aU hp).elim
 |cons b r c=>
  obtain⟨x,k⟩:=b;intro h;unfold lO at h;split at h
  .exact ff h
  .rename_i hx;have a:lO ns r=ao/\((k= .free/\(bf (nm x) ns=af .cell\/bf (nm x) ns=af .free))\/k= .local\/k= .globalImplicit):=by
    induction k using dN with
    |free=>
     dsimp only at h;split at h
     .rename_i e;exact⟨h,.inl ⟨rfl,.inl e⟩⟩
     .rename_i e;exact⟨h,.inl ⟨rfl,.inr e⟩⟩
     .exact ff h
    |«local»=>exact⟨h,.inr (.inl rfl)⟩
    |globalImplicit=>exact⟨h,.inr (.inr rfl)⟩
    |_=>exact ff h
   intro p hp;rcases aT.mp hp with rfl|hp
   .exact⟨hx,a.2⟩
   .exact c a.1 p hp
structure DK (ns:List (Str×aN)) (sc:Scope):Prop where
 frees:wX ns sc.names
 fn:sc.kind= .function
 Gv:∀x k,bf (nm x) sc.names=af k->(x==("__debug__":Str))=aj
 cls:∀x k,bf (nm x) sc.names=af k->(x==("__classdict__":Str))=aj
 uniq:A0 sc.names=ao
 loc:gC sc.names=ao
theorem Fv (h:B3 l=ao):(∀x k,bf (nm x) l=af k->(x==("__debug__":Str))=aj)/\(∀x k,bf (nm x) l=af k->(x==("__classdict__":Str))=aj)/\A0 l=true:=by
 have a:∀y x k,sr (nm y) l=aj->bf (nm x) l=af k->(x==y)=false:=λy x k h1 e=>beq_eq_false_iff_ne.mpr λq=>by
  rw [q] at e;unfold sr at h1;rw [e] at h1;exact ft h1
 unfold B3 at h
 induction h1:sr (nm "__debug__") l using zB with
 |true=>rw [h1] at h;exact ff h
 |false=>
  induction h2:sr (nm "__classdict__") l using zB with
  |true=>rw [h1,h2] at h;exact ff h
  |false=>
   rw [h1,h2] at h;exact iU (λx k=>a _ x k h1) (λx k=>a _ x k h2) h
theorem Ck (h:yI ns sc=ao):DK ns sc:=by
 unfold yI at h
 induction h1:lO ns sc.names using zB with
 |false=>rw [h1] at h;exact ff h
 |true=>
  induction h2:isFn sc.kind using zB with
  |false=>rw [h1,h2] at h;exact ff h
  |true=>
   induction b:gC sc.names using zB with
   |false=>rw [h1,h2,b] at h;exact ff h
   |true=>
    rw [h1,h2,b] at h;refine Rt (Fv h) λa c d=>⟨DJ h1, ?_,a,c,d,b⟩
    induction hk:sc.kind using mT with
    |function=>rfl
    |_=>rw [hk] at h2;exact ff h2
theorem yZ {env:dB}:∀{l:List (Str×aN)} {x} {k},l.lookup x=af k->
 (l.map λ(n,k)=>if(k==lu&&env.scope.kind== .function&&env.kindOf n==af .cell) then(n,NameKind.cell) else(n,k)).lookup x=af k\/
 (k= .free/\(l.map λ(n,k)=>if(k==lu&&env.scope.kind== .function&&env.kindOf n==af .cell) then(n,NameKind.cell) else(n,k)).lookup x=af .cell):=by
 intro l
 induction l with
 |nil=>exact λh=>fn h
 |cons p r b=>
  rcases p with⟨n,c⟩
  intro x k h;refine cR dG ?_;rw [bK] at h
  induction hb:x==n using zB with
  |true=>
   rw [hb] at h;injection h with h;subst h
   by_cases a:(c==lu&&env.scope.kind== .function&&env.kindOf n==af .cell)=ao
   .right
    refine⟨?_, ?_⟩
    .simp only [aP,beq_iff_eq] at a;exact a.1.1
    .simp only [if_pos a,bK,hb]
   .left
    simp only [if_neg a,bK,hb]
  |false=>
   rw [hb] at h;have b:=b h;by_cases a:(c==lu&&env.scope.kind== .function&&env.kindOf n==af .cell)=ao
   .simp only [if_pos a,bK,hb];exact b
   .simp only [if_neg a,bK,hb];exact b
section
variable {X:dw} {ns:List (Str×aN)} {env:dB} {ρ:Env} {w:Wd} {n:Nat} {s:Shared}
theorem mem_lookup {a:Type}:∀{l:List (Str×a)} {x} {c},(x,c)∈l->∃c',l.lookup x=af c':=by
 intro l
 induction l with
 |nil=>exact λh=>(aU h).elim
 |cons p r b=>
  rcases p with⟨k,v⟩
  intro x c h;refine cR bK ?_
  induction hb:x==k using zB with
  |true=>exact⟨v,rfl⟩
  |false=>
   rcases aT.mp h with e|h
   .cases e;simp at hb
   .exact b h
theorem Cm (he:eW X env ns ρ w n s) f (o:∀x k g,f (x,k) g=if k== .free then(do let a<-cellOf env x;pure (.yield ((x,a)::g))) else pure (.yield g)):
 ∀{l} acc,wX ns l->(∀q∈acc,env.cells.lookup q.1=af q.2)->
  ∃cl,forIn l acc f=pure cl/\(∀q∈cl,env.cells.lookup q.1=af q.2)/\(∀q∈acc,q∈cl)/\∀p∈l,p.2= .free->∃c,(p.1,c)∈cl:=by
 intro l
 induction l with
 |nil=>
  intro acc _ h;exact qG acc (cR jx rfl) h (λy h=>h) (λp hp=>(aU hp).elim)
 |cons z r t=>
  obtain⟨x,k⟩:=z;intro acc u h;have e:wX ns r:=λp hp=>u p (aD _ hp);refine aC (u (x,k) aE) λhk hx=> ?_;by_cases b:k= .free
  .subst b;have hk:bf (nm x) ns=af .cell\/bf (nm x) ns=af .free:=by
    rcases hk with⟨_,hk⟩|hk|hk
    .exact hk
    .injection hk
    .injection hk
   refine ny (he.cell x hx hk) λc A y v=> ?_;refine Sx (t ((x,c)::acc) e λq hq=>by
    rcases aT.mp hq with rfl|hq
    .exact v
    .exact h q hq) λcl i j a3 m=> ?_
   refine qG cl ?_ j (λq hq=>a3 q (aD _ hq)) (λp hp d=> ?_)
   .refine cR (dO ..) (cR (o ..) ?_);unfold cellOf;exact cR v i
   .rcases aT.mp hp with rfl|hp
    .exact⟨c,a3 _ aE⟩
    .exact m p hp d
  .refine Sx (t acc e h) λcl i j a3 m=>qG cl ?_ j a3 (λp hp d=> ?_)
   .refine cR (dO ..) (cR (o ..) ?_);have:(k==lu)=false:=beq_false_of_ne b;exact cR this i
   .rcases aT.mp hp with rfl|hp
    .exact absurd d b
    .exact m p hp d
theorem y9 (he:eW X env ns ρ w n s) (f:wX ns sc.names):∃cl,closureFor sc env=pure cl/\(∀q∈cl,env.cells.lookup q.1=af q.2)/\∀p∈sc.names,p.2= .free->∃c,(p.1,c)∈cl:=by
 refine Sx (Cm he (λ(x,k) b=>if k== .free then(do let a<-cellOf env x;pure (.yield ((x,a)::b))) else pure (.yield b)) (λd d d=>rfl) (l:=sc.names) [] f (λq hq=>(aU hq).elim)) λcl g h d i=>f5 cl ?_ h i;have e:closureFor sc env=(forIn sc.names ([]:List (Str×Addr)) (λ(x,k) b=>if k== .free then(do let a<-cellOf env x;pure (dI ((x,a)::b))) else pure (dI b))>>=λb=>pure b):=rfl;refine cR e (cR g ?_);rfl
theorem eW.comp (he:eW X env ns ρ w n s) (d:DK ns sc) {cl} (f:∀q∈cl,env.cells.lookup q.1=af q.2) (r:∀p∈sc.names,p.2= .free->∃c,(p.1,c)∈cl) (z:s.heap.Ns C m) (A:w.role C=au) (hb:X.h₀.objs.size<=C) (ht:C∉X.tabs):
 eW X (compEnvC sc cl C env) sc.names (compEnv ρ) w n s:=by
 have g:∀p∈sc.names,bg p.1=true:=λp hp=>(d.frees p hp).1;have free:∀x,bg x=ao->bf (nm x) sc.names=af .free->∃c,cl.lookup x=af c/\env.cells.lookup x=af c/\(bf (nm x) ns=af .cell\/bf (nm x) ns=af .free):=by
  intro x hx hk;refine jz (lF hk) λp hp B i=> ?_;have j:=gR hx (g p hp) B;refine fB (r p hp i) λc hm=>fB (mem_lookup hm) λc' hl=> ?_;rw [<-j] at hl;refine f5 c' hl (f _ (mem_of_lookup hl)) ?_;rcases(d.frees p hp).2 with⟨_,q⟩|q|q
  .refine cR j ?_;exact q
  .rw [i] at q;injection q
  .rw [i] at q;injection q
 have a:∀y,bf y sc.names≠af .cell:=λy e=>by
  refine jz (lF e) λp hp l i=> ?_;rcases(d.frees p hp).2 with⟨q,_⟩|q|q<;>rw [i] at q<;>injection q
 refine⟨d.fn,he.glob,he.blt,λx k hx hk=> ?_,d.cls,d.Gv,(bW m z (λx v l l h=>nomatch h)),(iU A hb ht),λx hx hk=> ?_,λx v c l hk=>absurd hk (a _),λx v c hx hk b hl=> ?_,λx y c h1 h2=> ?_,λy v h=>(nomatch h),λy v l=>a y,λq=>absurd d.loc (cR q bZ)⟩
 .have hl:=jZ g hx hk;have:=yZ (env:=env) hl
  induction k using dN with
  |«local»=>exact this.resolve_right λq=>(by injection q.1)
  |cell=>exact absurd hk (a _)
  |free=>exact this.elim .inr λq=> .inl q.2
  |globalImplicit=>exact this.resolve_right λq=>(by injection q.1)
  |_=>trivial
 .have hk:=hk.resolve_left (a _);refine cI (free x hx hk) λc a3 t o=>Hx (he.cell x hx a3) λc' D E G H I J=> ?_;injection o.symm.trans E with hq;subst hq
  exact lN c D t G H I J
 .refine cI (free x hx hk) λc' a3 t o=> ?_;injection hl.symm.trans t with hq;subst hq
  have b:find (nm x) (app ρ.loc ρ.out)=af v:=b;rw [Dn] at b;rcases a3 with a3|a3
  .induction hq:find (nm x) ρ.loc using zO with
   |none=>rw [hq] at b;exact absurd a3 (he.outs _ v b)
   |some u=>rw [hq] at b;injection b with b;subst b;exact he.wQ x _ c hx a3 hq o
  .induction hq:find (nm x) ρ.loc using zO with
   |none=>rw [hq] at b;exact he.wR x v c hx a3 b o
   |some u=>
    rcases he.locs _ u hq with q|q<;>rw [a3] at q<;>cases q
 .exact he.apart x y c (f _ (mem_of_lookup h1)) (f _ (mem_of_lookup h2))
end
def wc (M:Model) (A:Around) (use:Option (Value->Sem Unit)) (Q:Value->Shared->Prop) (acc:Value) (C:Addr) (r:Result) (s':Shared):Prop:=
 match r,use with
 | .ok _,au=>∃m,s'.heap.Ns C m/\∀h',gh C s'.heap h'->Q acc {s' with heap:=h'}
 | .ok _,af u=>cG M A (u acc) (λU s''=>∃m,s''.heap.Ns C m/\∀h',gh C s''.heap h'->Q .none {s'' with heap:=h'}) (λU U=>False) s'
 | .error _,_=>False
section
variable {M:Model} {A:Around} {env:dB} {s:Shared}
theorem DL {c} [Decidable c] {pos} {k:PUnit->Sem α} {Q} {E} (h:cG M A (k ()) Q E s):cG M A (if c then(standAt pos>>=k) else k ()) Q E s:=by
 split
 .exact ay (bG h)
 .exact h
theorem za {cl}
 (z:clausesOf e=g::gs) (E:∀x,foldedSetIterable g.iter env x=pure x) (l:closureFor scope env=pure cl)
 (b:scope.kind= .function) (c:∀x∈scope.names,x.2= .local->scope.names.lookup x.1=af .local)
 (h:cG M A first (λx d=>cG M A (pyIter x) (λD i=>cG M A newAcc (λacc j=>
  cG M A (newFunctionEnv scope env.globals cl [] env.qual au .none (af env)) (λcenv k=>
   codeN M A (.compStart e 0 D acc {cenv with scope:=relabel scope env}) (wc M A use Q acc cenv.locals) k) (λa a=>False) j) (λa a=>False) i) (λa a=>False) d) (λa a=>False) s):
 cG M A (comprehension e scope env pos newAcc aj first use) Q (λa a=>False) s:=by
 unfold comprehension;refine cR l (cR z ?_);refine ay (aW h (λx d p=>ay (bG (ay (nc (E x) (ay (bh (aW p (λD i q=>
  DL (ay (aW q (λacc j t=>ay (aO (ay (aW t (λcenv k v=> ?_) λa a h'=>h')))) λa a h'=>h')))
   λa a h'=>h'))))))) λa a h'=>h')
 dsimp only;have hv:∀x∈(scope.names.filter λx=>(x.2== .local||x.2== .cell)&&x.1 !=(".0":Str)).reverse,x.2= .local->
  Env.kindOf {cenv with scope:=relabel scope env} x.1=af .local:=λx hx hl=>lookup_relabel_local (c x (gw.mp (l9.mp hx)).1 hl)
 have B:∀x∈(scope.names.filter λx=>(x.2== .local||x.2== .cell)&&x.1 !=(".0":Str)).reverse.drop 1++(scope.names.filter λx=>(x.2== .local||x.2== .cell)&&x.1 !=(".0":Str)).reverse.take 1,
  x.2= .local->Env.kindOf {cenv with scope:=relabel scope env} x.1=af .local:=λx hx hl=>by
  rcases m6.mp hx with h1|h1
  .exact hv x (List.mem_of_mem_drop h1) hl
  .exact hv x (List.mem_of_mem_take h1) hl
 refine bh (ay (qT (bh (Gs (h:=au) (iN v λr s' y=> ?_) Zm))))
 induction r using Except.casesOn with
 |ok f=>
  induction use using zO with
  |none=>
   exact aL y λm y hn=>ay (bh (eT (wpAny_comp_letGo (cenv:={cenv with scope:=relabel scope env}) b _ s' m hv hn λh' F a n=>aO (y h' n))))
  |some u=>
   refine ay (pD (ay (bh (aW y (λa C o=> ?_) λa a h'=>h'))));exact aL o λm o hn=>ay (eT (wpAny_comp_letGo (cenv:={cenv with scope:=relabel scope env}) b _ C m B hn λh' F a n=>aO (o h' n)))
 |error x=>rcases use<;>exact y.elim
end
section
variable {prog:Program} {w:World} {A:Around} {s:Shared} {R:Result->Shared->Prop}
theorem wY {Q:α->Shared->Prop} {M} (h:cG M A m Q (λa a=>False) s):cG M A (m.onRaise λx=>do wH x env;standAt theWindowsPlace) Q E s:=
 jW (aW h (λa a q=>q) λa a f=>f.elim)
theorem zb {elt target iter ifs rest scope pos it acc env}
 (c:codeN (model prog w) A (.compLoop (.ListComp elt (⟨target,iter,ifs,0⟩::rest) scope pos) 0 it acc env) R s)
 (h:cG (model prog w) A (pyIter it) (λa s'=>codeN (model prog w) A (.compLoop (.ListComp elt (⟨target,iter,ifs,0⟩::rest) scope pos) 0 a acc env) R s') (λb b=>False) s):
 codeN (model prog w) A (.compStart (.ListComp elt (⟨target,iter,ifs,0⟩::rest) scope pos) 0 it acc env) R s:=by
 refine dP rfl (wY ((?_:cG _ _ (ask>>=_) _ _ s)));refine ay (eT (BI (iW (λb=> ?_) λb=> ?_)))
 .first
   |exact ay (aO (aO (i9 rfl c)))
   |exact aO (i9 rfl c)
 .first
   |exact ay (pD (ay (bG (ay (aW h (λa s' h'=>aO (i9 rfl h')) λb b x=>x)))))
   |(refine ay (pD ?_);show cG _ _ (standAt iter.pos>>=_) _ _ s;exact ay (bG (ay (aW h (λa s' h'=>aO (i9 rfl h')) λb b x=>x))))
theorem zc {kx vx target iter ifs rest scope pos it acc env}
 (c:codeN (model prog w) A (.compLoop (.DictComp kx vx (⟨target,iter,ifs,0⟩::rest) scope pos) 0 it acc env) R s)
 (h:cG (model prog w) A (pyIter it) (λa s'=>codeN (model prog w) A (.compLoop (.DictComp kx vx (⟨target,iter,ifs,0⟩::rest) scope pos) 0 a acc env) R s') (λb b=>False) s):
 codeN (model prog w) A (.compStart (.DictComp kx vx (⟨target,iter,ifs,0⟩::rest) scope pos) 0 it acc env) R s:=by
 refine dP rfl (wY ((?_:cG _ A (ask>>=_) _ _ s)));refine ay (eT (BI (iW (λb=> ?_) λb=> ?_)))
 .first
   |exact ay (aO (aO (i9 rfl c)))
   |exact aO (i9 rfl c)
 .first
   |exact ay (pD (ay (bG (ay (aW h (λa s' h'=>aO (i9 rfl h')) λb b x=>x)))))
   |(refine ay (pD ?_);show cG _ _ (standAt iter.pos>>=_) _ _ s;exact ay (bG (ay (aW h (λa s' h'=>aO (i9 rfl h')) λb b x=>x))))
end
noncomputable abbrev xV (ifs:List Expr) (env:dB):Sem Bool:=forIn ifs ao λc r=>if r=ao then do let ok<-isTrue c env (eval c env);pure (dI ok) else pure (dI r)
def nO (X:dw) (r:Ap) (n b:Nat) (ns:List (Str×aN)) (t:XT) (xs:List Expr):Prop:=
 ∀A,fL n b A->∀env ρ w h s,St X w h s->eW X env ns ρ w h.n s->∀k res,t.f r ρ h k=af res->∀Q:Bool->Shared->Prop,sQ X w h.n s k res Q->cG (model X.prog X.w) A (xV xs env) Q (λU U=>False) s
def AB (X:dw) (r:Ap) (n b:Nat) (ns:List (Str×aN)) (tp:Bool) (xi:XI) (x:Expr):Prop:=
 ∀A,fL n b A->∀env ρ w h s,St X w h s->eW X env ns ρ w h.n s->∀k res,xi.f r ρ h k=af res->∀Q:Value->Shared->Prop,
  (∀w' h' s' (S:Addr->Prop) iv it,St X w' h' s'->Ext X cV w h.n s w' h'.n s'->Ak X s'.heap w' h'.n S iv it->(∀b,S b->s.heap.objs.size<=b)->(it.t=0\/tp=ao)->(it.t=1->∃o,h'.l.get it.n=af o/\o.t=5)->k it h'=af res->Q iv s')->
  cG (model X.prog X.w) A (eval x env) (λxv s1=>cG (model X.prog X.w) A (pyIter xv) Q (λU U=>False) s1) (λU U=>False) s
def sS (X:dw) (r:Ap) (n b:Nat) (ns:List (Str×aN)) (T:O->Prop) (use:V->Env->M V) (emit:Value->dB->Sem Unit):Prop:=
 ∀A,fL n b A->∀env ρ w h s,St X w h s->eW X env ns ρ w h.n s->∀ai,ai<h.n->∀k res,use (bP ai) ρ h k=af res->∀Q:Unit->Shared->Prop,
  (∀w' h' s' v,St X w' h' s'->Ext X cV w h.n s w' h'.n s'->k v h'=af res->Q () s')->cG (model X.prog X.w) A (emit (.ref (w.ρ ai)) env) Q (λU U=>False) s
section
variable {X:dw} {K:Frag} {r:Ap} {n b:Nat} {ns:List (Str×aN)} {w:Wd} {h:H} {s:Shared} {env:dB} {ρ:Env}
theorem nO.nil:nO X r n b ns jf []:=λA d env ρ w h s a he k res e Q c=>aO (c w h s ao a .refl e)
theorem DM {M} {env}:∀{xs:List Expr} {s},Q aj s->cG M A (forIn xs aj λc r=>if r=ao then do let ok<-isTrue c env (eval c env);pure (dI ok) else pure (dI r)) Q E s:=by
 intro xs
 induction xs with
 |nil=>
  intro s q;exact aO q
 |cons x xs a=>
  intro s q;exact cR (dO ..) (ay (aO (a q)))
theorem nO.cons (hx:jX X r n b ns t x) (d:nO X r n b ns u xs):nO X r n b ns (RK t u) (x::xs):=by
 intro A g env ρ w h s o he k res e Q i;unfold xV;refine cR (dO ..) (cR (if_pos rfl) (ay (ay (hx A g env ρ w h s o he _ res e _ λj h1 l c a f m=>aO ?_))))
 induction c using zB with
 |true=>exact d A g env ρ j h1 l a (he.ext f) k res m Q (i.ext f)
 |false=>exact DM (i j h1 l aj a f m)
theorem sS.list (B:bw X) (hx:cQ X r n b ns elt x):sS X r n b ns (λm=>True) (pC elt r) (λacc env=>do let _<-call (.builtin "list.append") [acc,<-eval x env]):=by
 intro A C env ρ w h s D he g i k res e Q E;refine ay (hx A C env ρ w h s D he _ res e _ λp h1 j u y c q hu a=>(dD (dj a) λo a m t=>aC (dK a) λa F=>aC (dK a) λa hz=> ?_));have hz:=nM hz
 induction ((c.rep _ o t).2) using Mine.Rep.casesOn with
 |list xs items ep G l hn d=>
  have hl:j.heap.IsList (p.ρ g) items:=f9 _ l rfl _ rfl;have hz:(app xs [u]).length<=1000000:=hz;rw [mD] at a hz;refine cL (q.ρ g i) (eT (aq (bH slot_list_append hl.typeIs entry_list_append ?_ (args_list_append _ _))));refine(?_:wpAny _ _ (updateSeq (p.ρ g) (·.push y)>>=λm=>ret .none) _ _ j);refine aq (kZ l rfl (av (bW .none rfl (av ?_))));have f:=d.length;simp only [aM] at f;have v:=c.turn B t (eG (·.push y)) j.toks (o':=bL (xs++[u])) (λz I=> .list _ (items.push y) _ I (bE _ l rfl) (by simp at hz⊢;lia) (cR o7 ((d.mono z).append (.cons _ _ _ _ (hu.mono z) .nil)))) (aY rfl);exact E _ _ _ _ v.1 (q.trans v.2) a
 |_=>exact nn (aH F) rfl
theorem sS.dict (F:bw X) (p:Pos) (hx:cQ X r n b ns a x) (hy:cQ X r n b ns c y):sS X r n b ns (λG=>True) (VU a c r) (λacc env=>match acc with
 | .ref D=>do
  let i<-eval x env;let B<-holding [i] (eval y env)
  standAt {x.pos with endLine:=y.pos.endLine,endCol:=y.pos.endCol}
  holding [i,B] (dictSet D i B)
 |_=>pure ()):=by
 intro A j env ρ w h s I he J l k res e Q L;refine ay (hx A j env ρ w h s I he _ res e _ λM h1 N u z m q hu O=>(ay (bh (hy A j env ρ M h1 N m (he.ext q) _ res O _ λT h2 V v W g t hv f=>(ay (bG (bh (eT (dD (dj f) λo f G C=>aC (dK f) λf P=> ?_)))))))))
 induction ((g.rep _ o C).2) using Mine.Rep.casesOn with
 |dict R Y ep Z hg hn hd cc E=>
  exact aL (bC f) λd f S=>aC (dK f) λf hz=>cL ((q.trans t).ρ J l) (Ff F g C (hu.mono t.dW) hv S (qX hz) (j.c (k:=0) rfl) λs' a c=>L _ _ _ _ a ((q.trans t).trans c) f)
 |_=>exact nn (aH P) rfl
noncomputable def turnT (iter:Expr) (iv:Value) (target:Expr) (ifs:List Expr) (emit:Sem Unit) (next:Sem Fin) (env:dB):Sem Fin:=do
 standAt iter.pos
 match<-pyNext iv with
 |none=>pure (.done .next)
 |some v=>
  letOwnedTupleGo target iv v
  assign target env v
  let mut ok:=ao
  for c in ifs do
   if ok then ok<-isTrue c env (eval c env)
  if ok then emit
  next
theorem K0 {M} {next}
 (h:cG M A (pyNext iv) (λo c=>match o with
  |none=>Q (.done .next) c
  |some v=>cG M A (letOwnedTupleGo target iv v) (λa e=>cG M A (assign target env v) (λa f=>cG M A (xV ifs env) (λok d=>
   if ok=ao then cG M A emit (λa i=>cG M A next Q E i) E d else cG M A next Q E d) E f) E e) E c) E s):cG M A (turnT iter iv target ifs emit next env) Q E s:=by
 refine ay (bG (ay (aW h (λo c h1=> ?_) λa a x=>x)))
 induction o using zO with
 |none=>exact aO h1
 |some v=>
  refine ay (aW h1 (λa e h2=>ay (aW h2 (λa f j=>ay (aW j (λok d g=> ?_) λa a x=>x)) λa a x=>x)) λa a x=>x)
  induction ok using zB with
  |false=>exact g
  |true=>exact ay (aW g (λa a q=>q) λa a x=>x)
theorem rj {M} {E} {Q:α->Shared->Prop} (h:cG M A t Q (λa a=>False) s):cG M A t Q E s:=aW h (λa a q=>q) λa a f=>f.elim
theorem eW.Wn (e:eW X env ns ρ w n s) (x:Ext X F w n s w' n' s') (hF:∀a o,F a->s.heap.get? a=af o->d9 o=aj) (hl:¬F env.locals) (A:∀c l,s.heap.IsCell c l->¬F c):eW X env ns ρ w' n' s':=by
 have k:=x.keep hF;have d:∀a,¬F a->w.role a=au->a∉X.tabs->∀o,s.heap.get? a=af o->s'.heap.get? a=af o:=λa B h1 h2 o f=>x.old a o h1 h2 B f;refine aL e.loc λm hv hm=> ?_;have u:=e.Dw;refine⟨e.fn,e.glob,e.blt,e.kind,e.cls,e.Gv,(bW m (uG hm (d _ hl u.1 u.2.2)) (λy v h1 h2 f=> ?_)),⟨(x.role _ hm.lt).trans u.1,u.2⟩,λy h1 h2=> ?_,λy v c h1 h2 f p=> ?_,λy v c h1 h2 f p=> ?_,e.apart,e.locs,e.outs,e.NW⟩
 .refine dM (hv y v h1 h2 f) λz hz q=> ?_;exact bW z hz (q.mono k)
 .exact Hx (e.cell y h1 h2) λc l t i a3 j g=>lN c l t ((x.role _ g.lt).trans i) a3 j (ia g (d _ (A _ _ g) i j))
 .refine aL (e.wQ y v c h1 h2 f p) λz q hz=>Hx (e.cell y h1 (.inl h2)) λc' l t i a3 j g=> ?_;injection p.symm.trans t with hq;subst hq
  exact bW z (ia hz (d _ (A _ _ g) i j)) (q.mono k)
 .refine aL (e.wR y v c h1 h2 f p) λz q hz=>Hx (e.cell y h1 (.inr h2)) λc' l t i a3 j g=> ?_;injection p.symm.trans t with hq;subst hq
  exact bW z (ia hz (d _ (A _ _ g) i j)) (q.mono k)
theorem eW.iter (e:eW X env ns ρ w n s) (i:Ak X s.heap w n S iv a) (x:Ext X S w n s w' n' s'):eW X env ns ρ w' n' s':=by
 refine e.Wn x i.is.fixed (λd=> ?_) λc k g d=> ?_
 .exact i.frame e _ d (.inl rfl)
 .refine Hw (i.is.KY c d) λo vs h1 h2=>dM g λo' j f=> ?_;injection h1.symm.trans j with hq;subst hq
  rw [h2] at f;injection f
theorem DN (ax:bw X) (M:10<=X.h₀.objs.size) (Y:∀a∈X.tabs,a<X.h₀.objs.size) (hA:fL n b A) (ht:qV X r n b ns tgt target) (hif:nO X r n b ns HV ifs) (hu:sS X r n b ns T use emit)
 (N:∀g,compTurn ex 0 g (.ref D) cenv=turnT iter g target ifs (emit (.ref D) cenv) (again (.compLoop ex 0 g (.ref D) cenv)) cenv)
 (Z:∀g,(model X.prog X.w).den (.compLoop ex 0 g (.ref D) cenv)=(compTurn ex 0 g (.ref D) cenv).onRaise (λx=>do wH x cenv;oN x)) (p:∀g,A.under (.compLoop ex 0 g (.ref D) cenv)=A) (u:∀g,(Code.compLoop ex 0 g (.ref D) cenv).quiet=ao) (z:∀y,bf y ns≠af .cell) {s₀:Shared} (hC:s₀.heap.objs.size<=cenv.locals)
 (i:∀l h' B s',St X l h' s'->eW X cenv ns B l h'.n s'->Ext X cV w₀ n₀ s₀ l h'.n s'->ai<h'.n->l.ρ ai=D->kk h'=af res->R (.ok .next) s'):
 ∀m J ρ w h s S g,St X w h s->eW X cenv ns ρ w h.n s->Ak X s.heap w h.n S g J->(∀b,S b->s₀.heap.objs.size<=b)->(J.t=0\/iM target=ao)->Ext X cV w₀ n₀ s₀ w h.n s->ai<h.n->w.ρ ai=D->
  turns r tgt HV (use (bP ai)) kk m J ρ h=af res->codeN (model X.prog X.w) A (.compLoop ex 0 g (.ref D) cenv) R s:=by
 intro m
 induction m with
 |zero=>intro _ _ _ _ _ _ _ _ _ _ _ _ _ _ _ e;exact fn e
 |succ m ih=>
  intro J ρ w h s S g hs he hi hS hp x C hD e;refine dP rfl (cR (p g) (cR (Z g) (rQ (cR (N g) (rj (K0 ?_))))));have e:vP J h kk (λv J h=>tgt.f r ρ v h λρ h=>HV.f r ρ h λb h=>ah (turns r tgt HV (use (bP ai)) kk m J ρ h) (use (bP ai) ρ h λd h=>turns r tgt HV (use (bP ai)) kk m J ρ h) b)=af res:=e;have hSx:∀a,S a->cV a\/s₀.heap.objs.size<=a:=λa ha=> .inr (hS a ha);have hFx:∀a,Az cenv ns a->cV a\/s₀.heap.objs.size<=a:=λa ha=>by
   rcases ha with rfl|⟨y,_,h2,_⟩
   .exact .inr hC
   .exact absurd h2 (z _)
  have go:∀{F B l h' s'},St X l h' s'->eW X cenv ns B l h'.n s'->Ak X s'.heap l h'.n S g F->(F.t=0\/iM target=ao)->Ext X cV w₀ n₀ s₀ l h'.n s'->ai<h'.n->l.ρ ai=D->turns r tgt HV (use (bP ai)) kk m F B h'=af res->
   cG (model X.prog X.w) A (again (.compLoop ex 0 g (.ref D) cenv)) (λi s'=>match i with| .done f=>R (.ok f) s'| .again c'=>c'.quiet=ao/\codeN (model X.prog X.w) A c' R s') (λd d=>False) s':=
   λa1 a2 a3 a4 a5 a6 a7 a8=>aO ⟨u g,ih _ _ _ _ _ S g a1 a2 a3 hS a4 a5 a6 a7 a8⟩
  refine aW (eT<|A9 ax M Y hs hA.handled hi hp e (E:=λd d=>False) (Q:=λo s1=>match o with
   |none=>R (.ok .next) s1
   |some v=>cG (model X.prog X.w) A (assign target cenv v) (λd s3=>cG (model X.prog X.w) A (xV ifs cenv) (λok s4=>
    if ok=ao then cG (model X.prog X.w) A (emit (.ref D) cenv) (λd s5=>cG (model X.prog X.w) A (again (.compLoop ex 0 g (.ref D) cenv)) (λi s'=>match i with| .done f=>R (.ok f) s'| .again c'=>c'.quiet=ao/\codeN (model X.prog X.w) A c' R s') (λd d=>False) s5) (λd d=>False) s4
    else cG (model X.prog X.w) A (again (.compLoop ex 0 g (.ref D) cenv)) (λi s'=>match i with| .done f=>R (.ok f) s'| .again c'=>c'.quiet=ao/\codeN (model X.prog X.w) A c' R s') (λd d=>False) s4) (λd d=>False) s3) (λd d=>False) s1)
   (λh' s' O k x' ek=> ?_) (λh' s' v y F O k x' hv P Vn ek=> ?_)) (λo s1 q=> ?_) λd d f=>f
  .exact i w h' ρ s' O (k▸he.iter hi x') (k▸x.nN x' hSx) (k▸C) hD ek
  .have G:=he.iter hi x';have x1:=x.nN x' hSx;rw [<-k] at G x1 hv P C;refine ht A hA cenv ρ w h' s' O G v y hv _ res ek _ λYu w2 h2 s2 hs2 Vm x2 e2=> ?_;have x3:=x1.nN x2 hFx;have L:=aQ C x2.oi;refine hif A hA cenv Yu w2 h2 s2 hs2 Vm _ res e2 _ λw3 h3 s3 c Jt W e3=> ?_;have V:=Vm.ext W;have Wo:=(P.ext x2 (Az.fixed G) (λb hb=>P.frame G b hb)).ext W (λd d f=>f.elim) (λd d f=>f);have j:=aQ L W.oi;have I:=(W.ρ ai L).trans ((x2.ρ ai C).trans hD)
   induction c using zB with
   |false=>exact go Jt V Wo Vn (x3.trans W) j I e3
   |true=>
    exact cR (if_pos rfl) (cL I (hu A hA cenv Yu w3 h3 s3 Jt V ai j _ res e3 _ λw4 h4 s4 v4 Vl x5 e4=>cR I (go Vl (V.ext x5) (Wo.ext x5 (λd d f=>f.elim) (λd d f=>f)) Vn ((x3.trans W).trans x5) (aQ j x5.oi) ((x5.ρ ai j).trans I) e4)))
  .induction o using zO with
   |none=>exact q
   |some v=>exact eT q
end
section
variable {X:dw} {K:Frag} {r:Ap} {n b:Nat} {ns:List (Str×aN)} {w:Wd} {h:H} {s:Shared} {env:dB} {ρ:Env}
theorem Ak.self {m:Nat} (v:St X w h s) (i:Ak X s.heap w h.n S iv a) (hl:a.t=1->∃o,h.l.get a.n=af o/\o.t=5) (q:Q iv s):wpAny (model prog ww) A (pyIter iv) Q E s:=by
 have y:=i.is;clear i
 induction y using Mine.GH.casesOn with
 |one z a g B=>
  induction B using Mine.SrcR.casesOn with
  |tup t items ep i p ht C d xs f=>exact wpAny_pyIter_tupleiter d q
  |range x c xs hv d=>exact wpAny_pyIter_rangeiter d q
  |Ci x t i d=>exact wpAny_pyIter_striter_ascii d q
  |Cj x t i d=>exact wpAny_pyIter_striter_wide d q
  |bytes b t i d=>exact KBw.pyIter_self d q
  |list j k u d=>exact wpAny_pyIter_listiter d q
  |keys j m k c u d=>exact wpAny_pyIter_keyiter d q
 |zip i hi g=>
  refine dM (hl rfl) λo F G=> ?_
  induction ((v.rep i o F).2) using Mine.Rep.casesOn with
  |zip J L M N O P R T a b p V W Y Z D u hz h1 h2 h3 h4=>exact wpAny_pyIter_zip hz q
  |_=>exact nn G rfl
 |enum e z m old t items ep xs g I he p ht C d f=>exact wpAny_pyIter_enum he q
structure uO (X:dw) (ex target iter:Expr) (ifs:List Expr) (emit:Value->dB->Sem Unit):Prop where
 cl:clausesOf ex=[⟨target,iter,ifs,0⟩]
 under:∀(A:Around) iv D cenv,A.under (.compLoop ex 0 iv (.ref D) cenv)=A
 den:∀iv D cenv,(model X.prog X.w).den (.compLoop ex 0 iv (.ref D) cenv)=(compTurn ex 0 iv (.ref D) cenv).onRaise (λx=>do wH x cenv;oN x)
 quiet:∀iv D cenv,(Code.compLoop ex 0 iv (.ref D) cenv).quiet=ao
 turn:∀iv D cenv,compTurn ex 0 iv (.ref D) cenv=turnT iter iv target ifs (emit (.ref D) cenv) (again (.compLoop ex 0 iv (.ref D) cenv)) cenv
 start:∀{A:Around} {iv:Value} {D:Addr} {cenv:dB} {R:Result->Shared->Prop} {s:Shared},codeN (model X.prog X.w) A (.compLoop ex 0 iv (.ref D) cenv) R s->
  cG (model X.prog X.w) A (pyIter iv) (λit' s'=>codeN (model X.prog X.w) A (.compLoop ex 0 it' (.ref D) cenv) R s') (λU U=>False) s->codeN (model X.prog X.w) A (.compStart ex 0 iv (.ref D) cenv) R s
theorem uO.list (elt target iter) ifs sc pos:uO X (.ListComp elt [⟨target,iter,ifs,0⟩] sc pos) target iter ifs (λacc env=>do let _<-call (.builtin "list.append") [acc,<-eval elt env]) where
 cl:=rfl
 under:=λA a a a=>Around.under_of_weight (A:=A) rfl
 den:=λa a a=>rfl
 quiet:=λa a a=>rfl
 turn:=λa a a=>rfl
 start:=zb
theorem uO.dict (x y target iter) ifs sc pos:uO X (.DictComp x y [⟨target,iter,ifs,0⟩] sc pos) target iter ifs (λacc env=>match acc with
 | .ref D=>do
  let d<-eval x env;let e<-holding [d] (eval y env)
  standAt {x.pos with endLine:=y.pos.endLine,endCol:=y.pos.endCol}
  holding [d,e] (dictSet D d e)
 |_=>pure ()) where
 cl:=rfl
 under:=λA c c c=>Around.under_of_weight (A:=A) rfl
 den:=λc c c=>rfl
 quiet:=λc c c=>rfl
 turn:=λc c c=>rfl
 start:=zc
def uP (X:dw) (o:O) (t:Sem Value):Prop:=∀{A:Around} {w:Wd} {h:H} {s:Shared} {Q:Value->Shared->Prop} {E:Value->Shared->Prop},St X w h s->
 (∀w' s',St X w' ⟨HT.ins o h.l h.n,h.n+1⟩ s'->Ext X cV w h.n s w' (h.n+1) s'->w'.ρ h.n=s.heap.objs.size->s'.heap.objs.size=s.heap.objs.size+1->Q (.ref s.heap.objs.size) s')->wpAny (model X.prog X.w) A t Q E s
theorem uP.list (e:bw X):uP X (bL []) (newList []):=by
 intro A w h s Q E f g;refine dY ?_ (by show(0:Nat)<=jn;exact iy _);exact jz (f.newList e (xs:=[]) (ys:=[]) .nil (by simp) s.toks) λi a c d=>g i _ a c d (bJ ..)
theorem uP.dict (f:bw X):uP X (dZ [] 0) newDict:=by
 intro A w h s Q E g i;exact aq (wpAny_alloc (av (jz (g.push f (cJ #[] 0) (dZ [] 0) s.toks rfl 0 λe k h1 h2 j=> .dict [] #[] 0 h1 h2 (of_decide_eq_true rfl) ⟨.nil,⟨0,λp hp=>(aU hp).elim⟩,iF⟩ 0 (cR j rfl)) λe a c d=>i e _ a c d (bJ ..))))
theorem xW (ax:bw X) (hbase:10<=X.h₀.objs.size) (htab:∀a∈X.tabs,a<X.h₀.objs.size) (hc:DK ns sc) (Zs:kH iter=aj) (hI:AB X r n b ns tp xi iter) (ht:qV X r n b sc.names tgt target) (htp:tp=ao->iM target=ao)
 (hif:nO X r n b sc.names HV ifs) (hu:sS X r n b sc.names T use emit) (cx:uO X ex target iter ifs emit) (hn:uP X o newAcc)
 (hA:fL n b A) (hs:St X w h s) (he:eW X env ns ρ w h.n s) {k:V->H->Option Res}
 (e:xi.f r ρ h (λit h=>new o h λacc h=>turns r tgt HV (use acc) (k acc) 2000 it (compEnv ρ) h)=af res) pos
 (fin:∀C w' h' s' ai,St X w' h' s'->Ext X cV w h.n s w' h'.n s'->ai<h'.n->s.heap.objs.size<=C->w'.role C=au->X.h₀.objs.size<=C->C∉X.tabs->(∃m,s'.heap.Ns C m)->k (bP ai) h'=af res->wc (model X.prog X.w) A Ba Q (.ref (w'.ρ ai)) C (.ok .next) s'):
 cG (model X.prog X.w) A (comprehension ex sc env pos newAcc aj (eval iter env) Ba) Q (λU U=>False) s:=by
 refine cI (y9 he hc.frees) λcl c3 c1 c2=> ?_;have hcell:∀x∈sc.names,x.2≠.cell:=λp hp q=>by
  rcases(hc.frees p hp).2 with⟨h,_⟩|h|h<;>rw [q] at h<;>injection h
 have Tj:∀y,bf y sc.names≠af .cell:=λy e=>by
  exact jz (lF e) λp hp U e2=>hcell p hp e2
 refine za cx.cl (λx=> ?_) c1 hc.fn (λx hx hl=> ?_) (hI A hA env ρ w h s hs he _ res e _ λw1 h1 s1 S iv it hs1 x1 hi1 hS1 hp1 hz1 e1=> ?_)
 .rcases iter<;>first|rfl|exact ft Zs
 .have:=jZ (λp hp=>(hc.frees p hp).1) (hc.frees x hx).1 (HU hc.uniq hx);exact cR this (cR hl rfl)
 refine aC (dK e1) λe1 hle=>eT<|hn hs1 λw2 s2 hs2 x2 Zt hsz=>eT<|wpAny_newFunctionEnv hcell (by intro y hy;simp at hy) (λh' hns hsb=> ?_) hc.fn
 refine aC (hs2.i7 ax (h':=h') (tk:=s2.toks+([]:List (Str×Value)).length) (cR hsb.1 (cR (bJ ..) (gU _))) λa ob e=>hsb.extBut a ob (cj (bk e)) (az _ e)) λx3 Jt=> ?_;have hCt:s2.heap.objs.size∉X.tabs:=λhm=>absurd (htab _ hm) (bD.mpr hs2.size);have Wo:=(hi1.ext x2 (λU U f=>f.elim) (λU U f=>f)).ext x3 (λU U f=>f.elim) (λU U f=>f);have hlt:=aI x1.size x2.size;have loop:∀R,(∀w' h'' s',St X w' h'' s'->Ext X cV w h.n s w' h''.n s'->h1.n<h''.n->w'.ρ h1.n=s1.heap.objs.size->(w'.role s2.heap.objs.size=au/\∃m,s'.heap.Ns s2.heap.objs.size m)->k (bP h1.n) h''=af res->R (.ok .next) s')->
  codeN (model X.prog X.w) A (.compLoop ex 0 iv (.ref s1.heap.objs.size) (compEnvC sc cl s2.heap.objs.size env)) R {s2 with heap:=h',toks:=s2.toks+([]:List (Str×Value)).length}:=λR hR=>by
  refine DN ax hbase htab hA ht hif hu (λiv=>cx.turn iv _ _) (λiv=>cx.den iv _ _) (λiv=>cx.under A iv _ _) (λiv=>cx.quiet iv _ _) Tj (w₀:=w) (n₀:=h.n) (s₀:=s) (cenv:=compEnvC sc cl s2.heap.objs.size env) hlt (λw' h'' ρ' s' a1 a2 a3 a4 a5 a6=> ?_) 2000 it (compEnv ρ) w2 _ _ S iv Jt ((eW.ext (he.ext (x1.trans x2)) x3).comp hc c2 c3 hns (lZ hs2 (bu _)) hs2.size hCt) Wo hS1 (hp1.imp id htp) ((x1.trans x2).trans x3) (bN _) Zt e1;exact aL a2.loc λm' U hm'=>hR w' h'' s' a1 a3 a4 a5 ⟨a2.Dw.1,m',hm'⟩ a6
 have key:=loop (wc (model X.prog X.w) A Ba Q (.ref s1.heap.objs.size) s2.heap.objs.size) λw' h'' s' a1 a2 a3 a4 a5 a6=>by
  have:=fin s2.heap.objs.size w' h'' s' h1.n a1 a2 a3 hlt a5.1 hs2.size hCt a5.2 a6;rw [a4] at this;exact this
 refine cx.start key (eT<|Wo.self (m:=0) Jt (λh1'=> ?_) key);exact dM (hz1 h1') λoz g1 g2=>bW oz (HT.vU _ (cj (hs1.rep _ oz g1).1) g1) g2
end
section
variable {X:dw} {K:Frag} {r:Ap} {n b:Nat} {ns:List (Str×aN)} {w:Wd} {h:H} {s:Shared} {env:dB} {ρ:Env}
theorem St.gone (d:bw X) (f:St X w h s) (g:w.role C=au) (hb:X.h₀.objs.size<=C) (hm:s.heap.Ns C m) (c:gh C s.heap h'):St X w h {s with heap:=h'}/\Ext X (λa=>a=C) w h.n s w h.n {s with heap:=h'}/\oV X s.heap w h.n h' w h.n:=
 f.iter d g hb (λo e=>uN hm e) (tk:=s.toks) (cX c.1.symm) c.extBut
def Ol (X:dw) (r:Ap) (n b:Nat) (ns:List (Str×aN)) (e:XE) (x:Expr):Prop:=
 ∀A,fL n b A->∀env ρ w h s,St X w h s->eW X env ns ρ w h.n s->∀k res,e.f r ρ h k=af res->∀(Q:Unit->Shared->Prop) (use:Value->Sem Unit),
  (∀C w' h' s' v y,St X w' h' s'->Ext X cV w h.n s w' h'.n s'->VR X s'.heap w' h'.n v y->s.heap.objs.size<=C->w'.role C=au->X.h₀.objs.size<=C->C∉X.tabs->(∃m,s'.heap.Ns C m)->k v h'=af res->
   cG (model X.prog X.w) A (use y) (λU s''=>∃m,s''.heap.Ns C m/\∀h',gh C s''.heap h'->Q () {s'' with heap:=h'}) (λU U=>False) s')->cG (model X.prog X.w) A (evalThenUse x env use) Q (λU U=>False) s
theorem cQ.comp (i:bw X) (c:10<=X.h₀.objs.size) (d:∀a∈X.tabs,a<X.h₀.objs.size) (N:DK ns sc) (g:kH iter=aj) (O:AB X r n b ns tp xi iter) (ht:qV X r n b sc.names tgt target) (l:tp=ao->iM target=ao)
 (o:nO X r n b sc.names HV ifs) (he:cQ X r n b sc.names elt el) pos:
 cQ X r n b ns (yG elt tgt xi HV) (.ListComp el [⟨target,iter,ifs,0⟩] sc pos)/\Ol X r n b ns (yG elt tgt xi HV) (.ListComp el [⟨target,iter,ifs,0⟩] sc pos):=by
 refine⟨λA t env ρ w h s u j k res e Q R=> ?_,λA t env ρ w h s u j k res e Q p S=> ?_⟩
 .refine(?_:cG _ _ (comprehension (.ListComp el [⟨target,iter,ifs,0⟩] sc pos) sc env (firstIterPos [⟨target,iter,ifs,0⟩] pos) (newList []) aj (eval iter env)) _ _ s);exact xW i c d N g O ht l o (sS.list i he) (uO.list _ _ _ _ _ _) (uP.list i) t u j e _ (Ba:=au) λC v h' s' x y z a3 B D E P F G=>fB F λm hm=>bW m hm (λT I=>(eY (y.gone i D E hm I) λJ L V=>R v h' _ _ _ L (z.nN J λa W=> .inr (W▸B)) ((VR.ref x a3).mono V) G))
 .refine(?_:cG _ _ (comprehension (.ListComp el [⟨target,iter,ifs,0⟩] sc pos) sc env (firstIterPos [⟨target,iter,ifs,0⟩] pos) (newList []) aj (eval iter env) (af p)>>=λM=>pure ()) _ _ s);refine ay (xW i c d N g O ht l o (sS.list i he) (uO.list _ _ _ _ _ _) (uP.list i) t u j e _ (Ba:=af p) λC v h' s' x y z a3 B D E P F G=>(aW (S C v h' s' _ _ y z (VR.ref x a3) B D E P F G) (λM Y q=> ?_) λM M f=>f));exact aL q λm J L=>bW m L (λh' I=>aO (J h' I))
theorem cQ.Wq (i:bw X) (c:10<=X.h₀.objs.size) (d:∀a∈X.tabs,a<X.h₀.objs.size) (N:DK ns sc) (g:kH iter=aj) (O:AB X r n b ns tp xi iter) (ht:qV X r n b sc.names tgt target) (l:tp=ao->iM target=ao)
 (o:nO X r n b sc.names HV ifs) (hk:cQ X r n b sc.names ka kx) (hv:cQ X r n b sc.names va vx) pos:
 cQ X r n b ns (ET ka va tgt xi HV) (.DictComp kx vx [⟨target,iter,ifs,0⟩] sc pos)/\Ol X r n b ns (ET ka va tgt xi HV) (.DictComp kx vx [⟨target,iter,ifs,0⟩] sc pos):=by
 refine⟨λA t env ρ w h s u j k res e Q R=> ?_,λA t env ρ w h s u j k res e Q p S=> ?_⟩
 .refine(?_:cG _ _ (comprehension (.DictComp kx vx [⟨target,iter,ifs,0⟩] sc pos) sc env (firstIterPos [⟨target,iter,ifs,0⟩] pos) newDict aj (eval iter env)) _ _ s);exact xW i c d N g O ht l o (sS.dict i pos hk hv) (uO.dict _ _ _ _ _ _ _) (uP.dict i) t u j e _ (Ba:=au) λC v h' s' x y z a3 B D E P F G=>fB F λm hm=>bW m hm (λT I=>(eY (y.gone i D E hm I) λJ L V=>R v h' _ _ _ L (z.nN J λa W=> .inr (W▸B)) ((VR.ref x a3).mono V) G))
 .refine(?_:cG _ _ (comprehension (.DictComp kx vx [⟨target,iter,ifs,0⟩] sc pos) sc env (firstIterPos [⟨target,iter,ifs,0⟩] pos) newDict aj (eval iter env) (af p)>>=λM=>pure ()) _ _ s);refine ay (xW i c d N g O ht l o (sS.dict i pos hk hv) (uO.dict _ _ _ _ _ _ _) (uP.dict i) t u j e _ (Ba:=af p) λC v h' s' x y z a3 B D E P F G=>(aW (S C v h' s' _ _ y z (VR.ref x a3) B D E P F G) (λM Y q=> ?_) λM M f=>f));exact aL q λm J L=>bW m L (λh' I=>aO (J h' I))
structure zd (X:dw) (env:dB) (ns:List (Str×aN)) (w:Wd) (m:Nat) (s:Shared) (kn:Env->H->Option Res) (kr:V->H->Option Res) (res:Res) (Q:Flow->Shared->Prop):Prop where
 next:∀ρ' w' h' s',St X w' h' s'->eW X env ns ρ' w' h'.n s'->Ext X (Az env ns) w m s w' h'.n s'->kn ρ' h'=af res->Q .next s'
 ret:∀w' h' s' v y,St X w' h' s'->Ext X (Az env ns) w m s w' h'.n s'->VR X s'.heap w' h'.n v y->kr v h'=af res->Q (.ret y) s'
def jR (X:dw) (r:Ap) (n b:Nat) (ns:List (Str×aN)) (st:XS) (x:Stmt):Prop:=
 ∀A,fL n b A->∀env ρ w h s,St X w h s->eW X env ns ρ w h.n s->∀kn kr res,st.f r ρ h kn kr=af res->∀Q:Flow->Shared->Prop,zd X env ns w h.n s kn kr res Q->cG (model X.prog X.w) A (exec x env) Q (λU U=>False) s
def i8 (X:dw) (r:Ap) (n b:Nat) (ns:List (Str×aN)) (st:XS) (xs:List Stmt):Prop:=
 ∀A,fL n b A->∀env ρ w h s,St X w h s->eW X env ns ρ w h.n s->∀kn kr res,st.f r ρ h kn kr=af res->∀Q:Flow->Shared->Prop,zd X env ns w h.n s kn kr res Q->cG (model X.prog X.w) A (execs xs env) Q (λU U=>False) s
theorem zd.ext (g:zd X env ns w m s kn kr res Q) (x:Ext X (Az env ns) w m s w' m' s'):zd X env ns w' m' s' kn kr res Q:=
 ⟨λk f i j a c d e=>g.next k f i j a c (x.trans d) e,λf i j v y a c d e=>g.ret f i j v y a (x.trans c) d e⟩
theorem Ext.none (x:Ext X cV w m s w' m' s'):Ext X F w m s w' m' s':=x.weaken λa h=>h.elim
theorem jR.bad x:jR X r n b ns kX x:=λa a a a a a a a a a a a e=>fn e
theorem i8.nil:i8 X r n b ns vS []:=λA d env ρ w h s a he f g res e Q c=>eT (wpAny_execs_nil (c.next ρ w h s a he .refl e))
theorem i8.cons (hx:jR X r n b ns a x) (f:i8 X r n b ns c xs):i8 X r n b ns (fy a c) (x::xs):=by
 intro A o env ρ w h s t he u p res e Q q;refine kJ (hx A o env ρ w h s t he _ p res e _ ⟨λg i h1 j d k l m=> ?_,λi h1 j v y d l hv m=> ?_⟩)
 .exact f A o env g i h1 j d k u p res m Q (q.ext l)
 .exact q.ret i h1 j v y d l hv m
theorem eW.K1 (he:eW X env ns ρ w h.n s):interactive env=false:=by
 unfold interactive;refine cR he.fn ?_;rfl
theorem jR.expr pos (g:jr x=aj) (hx:cQ X r n b ns a x):jR X r n b ns (RM a) (.Expr x pos):=by
 intro A i env ρ w h s j he p q res e Q k;have c:swapsWith x au pos.line env=pure false:=by rcases x<;>first|rfl|exact ft g
 refine Ke (hx A i env ρ w h s j he _ res e _ λl h1 m u y d f hu o=> ?_) he.K1 c;exact k.next ρ l h1 m d (he.ext f) f.none o
theorem jR.ret pos (hx:cQ X r n b ns a x):jR X r n b ns (yH a) (.Return (af x) pos):=by
 intro A d env ρ w h s f he o g res e Q i;exact mF (hx A d env ρ w h s f he g res e _ λj h1 k u y c l hu m=>i.ret j h1 k u y c l.none hu m)
theorem jR.Zu pos:jR X r n b ns (yH (xC di)) (.Return au pos):=by
 intro A d env ρ w h s a he f g res e Q c;exact eT<|wpAny_Return_none (c.ret w h s _ _ a .refl .none e)
theorem jR.ite pos (ht:jX X r n b ns t te) (p:i8 X r n b ns a xs) (q:i8 X r n b ns c ys):jR X r n b ns (Dj t a c) (.If te xs ys pos):=by
 intro A g env ρ w h s u he i j res e Q k;refine SR (ht A g env ρ w h s u he _ res e _ λl h1 m c' d f o=> ?_)
 induction c' using zB with
 |true=>exact p A g env ρ l h1 m d (he.ext f) i j res o Q (k.ext f.none)
 |false=>exact q A g env ρ l h1 m d (he.ext f) i j res o Q (k.ext f.none)
abbrev RQ (Q:Flow->Shared->Prop):Result->Shared->Prop:=λr s'=>match r with| .ok f=>Q f s'| .error _=>False
theorem RQ.to {M} (x:codeN M A c (RQ Q) s):codeN M A c (λr s'=>match r with| .ok f=>Q f s'| .error _=>False) s:=
 iN x λr s' q=>by induction r using Except.casesOn with|ok f=>exact q|error e=>exact q.elim
theorem K2 (u:fL n b A) (ht:jX X r n b ns t te) (hb:i8 X r n b ns body xs):
 ∀m ρ w h s,St X w h s->eW X env ns ρ w h.n s->EW r t body kn kr m ρ h=af res->zd X env ns w h.n s kn kr res Q->codeN (model X.prog X.w) A (.whileLoop te xs [] env) (RQ Q) s:=by
 intro m
 induction m with
 |zero=>intro _ _ _ _ _ _ e;exact fn e
 |succ m D=>
  intro ρ w h s E he e i;refine dP rfl ?_;show cG _ A ((whileTurn te xs [] env).onRaise (λx=>do wH x env;oN x)) _ _ s;refine rQ (rj ?_);have e:t.f r ρ h (λx h=>ah (kn ρ h) (body.f r ρ h (λρ h=>EW r t body kn kr m ρ h) kr) x)=af res:=e;refine ay (ht A u env ρ w h s E he _ res e _ λz h1 B c d g C=> ?_)
  induction c using zB with
  |false=>
   exact ay (eT<|wpAny_execs_nil (aO (i.next ρ z h1 B d (he.ext g) g.none C)))
  |true=>
   refine ay (hb A u env ρ z h1 B d (he.ext g) _ kr res C _ ⟨λj k h2 l a o p q=> ?_,λk h2 l v y a p hv q=> ?_⟩)
   .exact aO ⟨rfl,D j k h2 l a o q (i.ext (g.none.trans p))⟩
   .exact aO (i.ret k h2 l v y a (g.none.trans p) hv q)
theorem jR.while pos (ht:jX X r n b ns t te) (hb:i8 X r n b ns body xs):jR X r n b ns (JO t body) (.While te xs [] pos):=by
 intro A a env ρ w h s c he f g res e Q d;exact HK (RQ.to (K2 a ht hb 100 ρ w h s c he e d))
theorem Tn (ax:bw X) (i:10<=X.h₀.objs.size) (C:∀a∈X.tabs,a<X.h₀.objs.size) (L:fL n b A) (ht:qV X r n b ns tgt target) (hb:i8 X r n b ns body xs)
 (hQ:zd X env ns w₀ n₀ s₀ kn kr res Q):
 ∀m j ρ w h s S z,St X w h s->eW X env ns ρ w h.n s->Ak X s.heap w h.n S z j->(∀b,S b->s₀.heap.objs.size<=b)->(j.t=0\/iM target=ao)->Ext X (Az env ns) w₀ n₀ s₀ w h.n s->
  forL r tgt body kn kr m j ρ h=af res->codeN (model X.prog X.w) A (.forLoop target z xs [] env) (RQ Q) s:=by
 intro m
 induction m with
 |zero=>intro _ _ _ _ _ _ _ _ _ _ _ _ _ e;exact fn e
 |succ m ih=>
  intro j ρ w h s S z hs he hi hS hp x e;refine dP rfl ?_;show cG _ A ((forTurn target z xs [] env).onRaise (λx=>do wH x env;oN x)) _ _ s;refine rQ (rj ?_);have e:vP j h (kn ρ) (λv j h=>tgt.f r ρ v h λρ h=>body.f r ρ h (λρ h=>forL r tgt body kn kr m j ρ h) kr)=af res:=e;have D:∀a,S a->Az env ns a\/s₀.heap.objs.size<=a:=λa ha=> .inr (hS a ha);refine ay (bG (ay (jW (Gu (aW (eT<|A9 ax i C hs L.handled hi hp e (E:=λc c=>False) (Q:=λo M=>match o with
   |none=>Q .next M
   |some v=>cG (model X.prog X.w) A (assign target env v) (λc B=>cG (model X.prog X.w) A (execs xs env) (λf N=>match f with
    | .next| .cont=>cG (model X.prog X.w) A (again (.forLoop target z xs [] env)) (λO s'=>match O with| .done f=>RQ Q (.ok f) s'| .again c'=>c'.quiet=ao/\codeN (model X.prog X.w) A c' (RQ Q) s') (λc c=>False) N
    | .brk=>False
    | .ret v=>Q (.ret v) N) (λc c=>False) B) (λc c=>False) M)
   (λh' s' k d F P=> ?_) (λh' s' v y R k d F hv l T P=> ?_)) (λo M q=> ?_) λc c f=>f)))))
  .exact hQ.next ρ w h' s' k (d▸he.iter hi F) (d▸x.nN F D) P
  .have g:=he.iter hi F;have V:=x.nN F D;rw [<-d] at g V hv l;refine ht A L env ρ w h' s' k g v y hv _ res P _ λW w2 h2 s2 Y p Z e2=> ?_;have G:=l.ext Z (Az.fixed g) (λb hb=>l.frame g b hb);refine hb A L env W w2 h2 s2 Y p _ kr res e2 _ ⟨λρ3 w3 h3 B u he3 I e3=> ?_,λw3 h3 B v3 y3 u I hv3 e3=> ?_⟩
   .exact aO ⟨rfl,ih R ρ3 w3 h3 B S z u he3 (G.ext I (Az.fixed p) λb hb=>G.frame p b hb) hS T ((V.trans Z).trans I) e3⟩
   .exact hQ.ret w3 h3 B v3 y3 u ((V.trans Z).trans I) hv3 e3
  .induction o using zO with
   |none=>exact aO ⟨rfl,Dv (eT<|wpAny_execs_nil q)⟩
   |some v=>
    refine ay (aW (eT q) (λc s2 q2=>ay (aW q2 (λc B q3=>ay (aW q3 (λf N J=> ?_) λc c f=>f)) λc c f=>f)) λc c f=>f)
    induction f using PySem.Flow.casesOn with
    |next=>exact J
    |cont=>exact J
    |brk=>exact J.elim
    |ret v=>exact aO J
theorem jR.for (p:bw X) (c:10<=X.h₀.objs.size) (d:∀a∈X.tabs,a<X.h₀.objs.size) (f:kH iter=aj) (q:AB X r n b ns tp xi iter) (ht:qV X r n b ns tgt target) (g:tp=ao->iM target=ao) pos (hb:i8 X r n b ns body xs):
 jR X r n b ns (VZ tgt xi body) (.For target iter xs [] pos):=by
 intro A m env ρ w h s t he D E res e Q u;refine NV (q A m env ρ w h s t he _ res e _ λv h1 y S z B i o j k l F C=>RQ.to ?_) (λx=>by rcases iter<;>first|rfl|exact ft f);exact Tn p c d m ht hb u 2000 B ρ v h1 y S z i (he.ext o) j k (l.imp id g) o.none C
end
section
variable {X:dw} {K:Frag} {r:Ap} {n b:Nat} {ns:List (Str×aN)} {w:Wd} {h:H} {s:Shared} {env:dB} {ρ:Env}
theorem eW.congr (he:eW X env ns ρ w n s) {ρ'} (h1:∀y,find y ρ'.loc=find y ρ.loc) (h2:∀y,find y ρ'.out=find y ρ.out):eW X env ns ρ' w n s:=by
 refine aL he.loc λm hv hm=> ?_;refine⟨he.fn,he.glob,he.blt,he.kind,he.cls,he.Gv,(bW m hm (λx v a b c=>hv x v a b ((h1 _).symm.trans c))),he.Dw,he.cell,λx v c a b d e=>he.wQ x v c a b ((h1 _).symm.trans d) e,λx v c a b d e=>he.wR x v c a b ((h2 _).symm.trans d) e,he.apart,
  λy v e=>he.locs y v ((h1 _).symm.trans e),λy v e=>he.outs y v ((h2 _).symm.trans e),he.NW⟩
theorem DO (l:bw X):∀{xs:List Str} {vs} {ys} {ρ} {s} {Q},(∀x∈xs,bg x=ao/\(bf (nm x) ns=af .local\/bf (nm x) ns=af .cell))->xs.length=vs.length->ef X s.heap w h.n vs ys->St X w h s->eW X env ns ρ w h.n s->
 (∀e s',St X w h s'->eW X env ns e w h.n s'->storeAll (xs.map nm) vs ρ=af e->Ext X (Az env ns) w h.n s w h.n s'->Q () s')->wpAny (model X.prog X.w) A (assignInOrder (xs.map λx=>bindName env x) ys) Q (λk k=>False) s:=by
 intro xs
 induction xs with
 |nil=>
  intro vs ys ρ s Q _ hl hv f he g
  induction vs using zL with
  |nil=>cases hv;exact av (g ρ s f he rfl .refl)
  |cons _ _=>cases hl
 |cons x xs m=>
  intro vs ys ρ s Q hx hl hv f he g;cases hv with
  |nil=>cases hl
  |cons v y vs ys hv i=>
   refine aC (hx x aE) λh2 h1=>(?_:wpAny _ _ (holding ys (bindName env x y)>>=λk=>assignInOrder (xs.map λx=>bindName env x) ys) _ _ s);exact aq (bO (wpAny_bindName (yX l f he h1 h2 hv λs' a c d=>(m (λx hm=>hx x (aD _ hm)) (Nat.succ.inj hl) (i.mono (d.keep (Az.fixed he))) a c λe j o c' p q=>g e j o c' p (d.trans q)))))
theorem uQ (e:storeAll l vs ρ=af ρ'):ρ'.out=ρ.out:=by
 induction l generalizing vs ρ with
 |nil=>
  induction vs using zL with
  |nil=>exact cL (aF e) rfl
  |cons _ _=>exact fn e
 |cons x l d=>
  refine Hw (lW e) λv us c=> ?_;subst c;intro f;exact d (ρ:=gb ρ x v) f
theorem oY {l:List Nat} {vs:List V} {ρ a:Env} (e:storeAll l vs ρ=af a) (d:l.Nodup) (z:Nat):(z∉l/\find z a.loc=find z ρ.loc)\/∃(i:Nat) (v:V),l[i]? =af z/\vs[i]? =af v/\find z a.loc=af v:=by
 induction l generalizing vs ρ with
 |nil=>
  induction vs using zL with
  |nil=>refine cL (aF e) ?_;exact .inl ⟨by exact aU,rfl⟩
  |cons _ _=>exact fn e
 |cons x l f=>
  refine Hw (lW e) λv us c=> ?_;subst c;intro g;rw [gv] at d;rcases f (ρ:=gb ρ x v) g d.2 with⟨h1,h2⟩|⟨i,u,h1,h2,j⟩
  .have h2:find z a.loc=find z (setIn x v ρ.loc):=h2;rw [jP] at h2;by_cases hz:z=x
   .rw [if_pos hz] at h2;exact .inr (jV 0 v (cR hz rfl) rfl h2)
   .rw [if_neg hz] at h2;exact .inl ⟨by exact List.not_mem_cons_of_ne_of_not_mem hz h1,h2⟩
  .exact .inr (jV (i+1) u h1 h2 j)
theorem Cn (d:l.Nodup) (e:storeAll l vs ρ=af ρ1) (f:storeAll l.reverse vs.reverse ρ=af Yu) z:find z ρ1.loc=find z Yu.loc:=by
 have hl:=mG e;rcases oY e d z with⟨h1,h2⟩|⟨i,v,h1,h2,m⟩
 .rcases oY f (List.pairwise_reverse.mpr (d.imp λh=>h.symm)) z with⟨c,a⟩|⟨j,u,c,a,g⟩
  .exact cR h2 (cR a rfl)
  .exact absurd (l9.mp (cY c)) h1
 .rcases oY f (List.pairwise_reverse.mpr (d.imp λh=>h.symm)) z with⟨c,a⟩|⟨j,u,c,a,g⟩
  .exact absurd (l9.mpr (cY h1)) c
  .have k:j<l.length:=by have:=(cg.mp c).1;simpa using this
   rw [List.getElem?_reverse k] at c;rw [List.getElem?_reverse (cL hl k)] at a;rw [<-hl,<-((List.getElem?_inj ((cg.mp h1).1) d).mp (h1.trans c.symm)),h2] at a;injection a with a;subst a
   exact cR m (cR g rfl)
theorem ef.reverse (hv:ef X g w m vs ys):ef X g w m vs.reverse ys.reverse:=by
 induction vs generalizing ys with
 |nil=>cases hv;exact .nil
 |cons v vs a=>
  cases hv with
  |cons _ y _ ys hv c=>refine cR List.reverse_cons (cR List.reverse_cons ?_);exact(a c).append (.cons _ _ _ _ hv .nil)
theorem Fw (c:nD (.Tuple ts z p) (.Tuple vs z' p')=ao) env:
 swappedStores [.Tuple ts z p] (.Tuple vs z' p') env=pure au\/∃xs,swappedStores [.Tuple ts z p] (.Tuple vs z' p') env=pure (af xs)/\xs.length=ts.length/\xs.eraseDups.length=xs.length/\
  xs=ts.filterMap (λ| .Name id pos=>if env.kindOf id==af .local&&pos.line==(ts.head?.map (·.pos.line)).getD 0 then af id else au|_=>au):=by
 have c:(ah ao (vs.all (foldedForSure 8)) (vs.all (constantsAlone 8)):Bool)=true:=c;unfold swappedStores;dsimp only;refine Hv (λa=> .inl rfl) λa=>Hv (λa=> .inl rfl) λa=>Hv (λa=> .inl rfl) λd=>Hv (λa=> .inl rfl) λe=>Hv (λf=>absurd (by rw [f] at c;exact c) e) λa=> ?_;simp only [Bool.or_eq_true,bne_iff_ne,ne_eq,not_or,Decidable.not_not] at d;exact .inr (qG _ rfl d.1 d.2 rfl)
theorem Om x l:NO x l=ao↔x∈l:=by
 induction l with
 |nil=>exact⟨λh=>(ff h),λh=>((aU h).elim)⟩
 |cons y l a=>
  have e:NO x (y::l)=(ah (NO x l) ao (ak x y):Bool):=rfl;rw [e,aT]
  induction hb:ak x y using zB with
  |true=>exact⟨λc=> .inl (aH hb),λc=>rfl⟩
  |false=>exact⟨λh=> .inr (a.mp h),λh=>a.mpr (h.resolve_left (fS hb))⟩
theorem uR:∀{l},g9 l=ao->l.Nodup:=by
 intro l
 induction l with
 |nil=>
  intro _;exact iF
 |cons x r a=>
  intro h;unfold g9 at h;split at h
  .exact ff h
  .rename_i hm;exact gv.mpr ⟨λq=>(by rw [(Om x r).mpr q] at hm;exact ft hm),a h⟩
theorem Co (m:∀e x,f e=af x->∃p,e= .Name x p):∀{ts} {l},fV ns ts=af l->(ts.filterMap f).length=ts.length->(ts.filterMap f).map nm=l/\∀x∈ts.filterMap f,bg x=ao/\(bf (nm x) ns=af .local\/bf (nm x) ns=af .cell):=by
 intro ts
 induction ts with
 |nil=>
  intro l h _;injection h with hq;subst hq;exact⟨rfl,λx hx=>(aU hx).elim⟩
 |cons t ts o=>
  intro l h hl;refine ku (oW h) λy u d=> ?_;subst d;intro hy j;refine yt (mY hy) λz p d k=> ?_;subst d;subst k;intro hz hk;rw [nk] at hl⊢
  induction g:f (.Name z p) using zO with
  |none=>
   rw [g] at hl;have:=List.length_filterMap_le f ts;simp at hl;lia
  |some x=>
   rw [g] at hl;refine fB (m _ _ g) λv e=> ?_;cases e;simp only [iG,Nat.add_right_cancel_iff] at hl;refine aC (o j hl) λc a=>⟨by simp [a],λq i=> ?_⟩;rcases aT.mp i with rfl|i
   .exact⟨hz,hk⟩
   .exact c q i
theorem Fx (u:bw X) (C:A.handled=au) (ht:fV ns ts=af l) (D:g9 l=ao) (hx:∀x∈xs,bg x=ao/\(bf (nm x) ns=af .local\/bf (nm x) ns=af .cell)) (i:xs.map nm=l)
 (E:St X w h s) (he:eW X env ns ρ w h.n s) (hv:VR X s.heap w h.n v y) (e:(BZ l).f r ρ v h kn=af res)
 (F:∀g s',St X w h s'->eW X env ns g w h.n s'->Ext X (Az env ns) w h.n s w h.n s'->kn g h=af res->Q .next s'):wpAny (model X.prog X.w) A (assignStores env y (af xs) stores) Q (λG G=>False) s:=by
 refine aL (wV u E C hv e) λvs hu e=>dM (bC e) λg k I=> ?_;have j:xs.length=vs.length:=cL (mG k) (cL i (gA (eF nm)));refine aq (fh (aq (cR j (hu λys s' m B o=>aq (DO u (xs:=xs.reverse) (vs:=vs.reverse) (λx p=>hx x (l9.mp p)) (by simp [j]) (ef.reverse o) m (he.ext B) λJ q a c t d=> ?_)))));rw [List.map_reverse,i] at t;refine av (F g q a (c.congr (λz=>Cn (uR D) k t z) λz=>cR (uQ k) (cR (uQ t) rfl)) (B.none.trans d) I)
theorem Oo (a:jr x=aj):swapsWithSole [t] x l env=pure false:=by rcases x<;>first|rfl|exact ft a
theorem Oq (a:jr x=ao):∃c,swapsWithSole [t] x l env=pure c:=by rcases x<;>first|exact ff a|exact⟨_,rfl⟩|(rcases t<;>exact⟨_,rfl⟩)
theorem ze (a:br t=aj):assignAll y ((assignEach [t] env).map (·.2))=PySem.assign t env y:=by rcases t<;>first|rfl|exact ft a
theorem DP (h:iM x=aj):swappedStores [t] x env=pure none:=by
 induction t using aR with
 |Tuple|List=>rcases x<;>first|rfl|exact ft h
 |_=>rfl
theorem K3 (g:nD t x=ao)
 (d:∀ts z p,t= .Tuple ts z p->∃l,fV ns ts=af l/\g9 l=ao/\tgt=BZ l\/∀ρ v h k,tgt.f r ρ v h k=au) (c:∀ts p,t= .List ts p->∀ρ v h k,tgt.f r ρ v h k=au) env:
 (∀ρ v h k,tgt.f r ρ v h k=au)\/swappedStores [t] x env=pure au\/∃xs ts l,swappedStores [t] x env=pure (af xs)/\fV ns ts=af l/\g9 l=ao/\tgt=BZ l/\xs.map nm=l/\∀x∈xs,bg x=ao/\(bf (nm x) ns=af .local\/bf (nm x) ns=af .cell):=by
 induction hx:iM x using zB with
 |false=>exact .inr (.inl (DP hx))
 |true=>
  refine Vx (g6 hx) λvs B C j=> ?_;subst j;clear hx
  induction t using aR with
  |Tuple ts z p=>
   obtain⟨l,⟨m,u,y⟩|hbad⟩:=d ts z p rfl
   .rcases Fw g env with a|⟨xs,a,h2,A,o⟩
    .exact .inr (.inl a)
    .have i:=Co (f:=λe:Expr=>match e with| .Name id pos=>if env.kindOf id==af .local&&pos.line==(ts.head?.map (·.pos.line)).getD 0 then af id else au|_=>au) (λe x h=>by
      clear a h2 A o m g d c
      induction e using aR with
      |Name id pos=>
       dsimp only at h;by_cases q:(env.kindOf id==af .local&&pos.line==(ts.head?.map (·.pos.line)).getD 0)=ao
       .rw [if_pos q] at h;exact⟨pos,by exact cR (aF h) rfl⟩
       .rw [if_neg q] at h;exact fn h
      |_=>exact fn h) m (cL o h2)
     rw [<-o] at i;exact .inr (.inr ⟨xs,ts,l,a,m,u,y,i⟩)
   .exact .inl hbad
  |List ts p=>exact .inl (c ts p rfl)
  |_=>exact .inr (.inl rfl)
theorem jR.assign (O:bw X) pos (hx:cQ X r n b ns a x) (ht:qV X r n b ns tgt t) (P:jr x=aj) (B:nD t x=ao)
 (j:∀ts z p,t= .Tuple ts z p->∃l,fV ns ts=af l/\g9 l=ao/\tgt=BZ l\/∀ρ v h k,tgt.f r ρ v h k=au) (g:∀ts p,t= .List ts p->∀ρ v h k,tgt.f r ρ v h k=au) (C:br t=aj):jR X r n b ns (jq tgt a) (.Assign [t] x pos):=by
 intro A D env ρ w h s R he J kr res e Q L;refine ay (bG (cR (Oo P) (Nx (ay (hx A D env ρ w h s R he _ res e _ λM h1 N u y m o hu E=> ?_)))));rcases K3 B j g env with q|q|⟨xs,ts,l,q,S,T,V,W,Y⟩
 .exact fn ((q ρ u h1 J).symm.trans E)
 .refine cR q (Nx ((?_:cG _ _ (assignAll y ((assignEach [t] env).map (·.2))>>=λU=>pure s8) _ _ N)));exact cR (ze C) (ay (ht A D env ρ M h1 N m (he.ext o) u y hu J res E _ λi Z h2 s2 F G x2 I=>aO (L.next i Z h2 s2 F G (o.none.trans x2) I)))
 .exact cR q (Nx (eT<|Fx O D.handled S T Y W m (he.ext o) hu (V▸E) λi s' a c d I=>L.next i M h1 s' a c (o.none.trans d) I))
theorem jR.GI (ax:bw X) pos (hx:cQ X r n b ns a x) (hu:Ol X r n b ns a x) (ht:qV X r n b ns tgt t) (G:jr x=ao) (p:br t=aj):jR X r n b ns (jq tgt a) (.Assign [t] x pos):=by
 intro A I env ρ w h s hs he kn kr res e Q hQ;refine fB (Oq (t:=t) (l:=pos.line) (env:=env) G) λc N=>ay (bG (cR N (Nx ?_)));by_cases v:c=ao
 .refine cR (if_pos v) (ay (hu A I env ρ w h s hs he _ res e _ _ λC O h1 J u y f B P g D R S T V=>(cR (ze p) (ht A I env ρ O h1 J f (he.ext B) u y P kn res V _ λi W h2 s2 j k E Y=> ?_))));have F:¬Az env ns C:=λq=>by
   rcases q with q|⟨z,Z,L,q3⟩
   .refine aL he.loc λm0 M h0=> ?_;exact absurd (q▸h0.lt) (bD.mpr g)
   .exact Hx (he.cell z Z (.inl L)) λc' ov a1 M M M a5=>absurd (aF (q3.symm.trans a1)▸a5.lt) (bD.mpr g)
  refine fB T λm hm=> ?_;have d:=uG hm λo e=>E.old C o D S F e;exact bW m d (λh' hh=>aO (eY (j.gone ax ((E.role C hm.lt).trans D) R d hh) λL Z q3=>hQ.next i W h2 _ Z (k.Wn L (λa o ha e=>uN (ha▸d) e) (λq=>F (.inl q.symm)) λc ov G q=>qW d (q▸G)) ((B.none.trans E).nN L λa ha=> .inr (ha▸g)) Y))
 .refine cR (if_neg v) (ay (hx A I env ρ w h s hs he _ res e _ λO h1 J u y f B hu V=>(cR (DP (by rcases x<;>first|rfl|exact ff G)) (Nx ((?_:cG _ _ (assignAll y ((assignEach [t] env).map (·.2))>>=λM=>pure s8) _ _ J))))));exact cR (ze p) (ay (ht A I env ρ O h1 J f (he.ext B) u y hu kn res V _ λi W h2 s2 j k E Y=>aO (hQ.next i W h2 s2 j k (B.none.trans E) Y)))
end
theorem sU {d:Type}:∀{ns:List Str} {vs:List d} {i} {x},ns.Nodup->ns[i]? =af x->i<vs.length->∃v,vs[i]? =af v/\(ns.zip vs).lookup x=af v:=by
 intro ns
 induction ns with
 |nil=>exact λ_ h _=>fn h
 |cons n ns e=>
  intro vs i x c h hl;rcases vs with _|⟨v,vs⟩
  .exact absurd hl (kh _)
  .have c:=gv.mp c
   induction i using zN with
   |zero=>injection h with h;subst h;exact bW v rfl (cR bK (cR (beq_self_eq_true n) rfl))
   |succ i=>
    exact dM (e (vs:=vs) c.2 h (k7 hl)) λu a b=>bW u a (cR bK (cR (beq_eq_false_iff_ne.mpr λ(q:x=n)=>c.1 (q▸cY h)) b))
theorem sV {b:Type}:∀{ns:List Str} {vs:List b} {i} {x},ns.Nodup->ns[i]? =af x->vs.length<=i->(ns.zip vs).lookup x=none:=by
 intro ns
 induction ns with
 |nil=>exact λ_ h _=>fn h
 |cons n ns c=>
  intro vs i x a h hl;rcases vs with _|⟨v,vs⟩
  .rfl
  .have a:=gv.mp a
   induction i using zN with
   |zero=>exact absurd hl (Nat.not_succ_le_zero _)
   |succ i=>exact cR bK (cR (beq_eq_false_iff_ne.mpr λ(q:x=n)=>a.1 (q▸cY h)) (c a.2 h (qC hl)))
theorem zf {l m:List (Str×α)}:(l++m).lookup x=(l.lookup x).or (m.lookup x):=by
 induction l with
 |nil=>rfl
 |cons p l a=>
  obtain⟨k,v⟩:=p;refine cR qh (cR bK (cR bK ?_))
  induction x==k using zB with
  |true=>rfl
  |false=>exact a
theorem K4 {b c:Type} {f g:b->Option c}:∀{l:List b},(∀x∈l,f x=g x)->l.filterMap f=l.filterMap g:=by
 intro l
 induction l with
 |nil=>
  intro _;exact rfl
 |cons a l d=>
  intro h;exact cR nk (cR nk (cR (h a aE) (cR (d λx hx=>h x (aD _ hx)) rfl)))
theorem K5 {e f:Type}:∀{P} {c} {L} {x:e} {d:f},P.length=c.length->(P++x::L).zip c++[(x,d)]=(P++x::L).zip (c++[d]):=by
 intro P
 induction P with
 |nil=>
  intro c L x d h;rcases c with _|⟨_,_⟩
  .exact congrArg ((x,d):: ·) vo.symm
  .injection h
 |cons a P g=>
  intro c L x d h;rcases c with _|⟨b,c⟩
  .injection h
  .exact congrArg ((a,b):: ·) (g (Nat.succ.inj h))
theorem AE {ns:List Str} {vs:List Value} (a:ns.Nodup) (hl:ns.length=vs.length):(ns.filterMap λn=>((ns.zip vs).lookup n).map (n, ·))=ns.zip vs:=by
 induction ns generalizing vs with
 |nil=>rfl
 |cons n ns b=>
  induction vs using zL with
  |nil=>cases hl
  |cons v vs=>
   rw [gv] at a;have h1:((n::ns).zip (v::vs)).lookup n=af v:=by simp [fz]
   refine cR nk (cR h1 ?_);have h2:(ns.filterMap λm=>(((n::ns).zip (v::vs)).lookup m).map (m, ·))=ns.filterMap λm=>((ns.zip vs).lookup m).map (m, ·):=by
    refine K4 λm hm=> ?_;have:(m==n)=false:=by simp;intro q;subst q;exact a.1 hm
    exact cR fz (cR bK (cR this rfl))
   refine(?_:_::_=_);refine cR h2 (cR (b a.2 (Nat.succ.inj hl)) ?_);rfl
theorem HW {a b:Type}:∀{ns:List a} {vs ds:List b},vs.length<=ns.length->ns.zip vs++(ns.drop vs.length).zip ds=ns.zip (vs++ds):=by
 intro ns vs
 induction vs generalizing ns with
 |nil=>
  intro ds h;exact cR vo rfl
 |cons v vs c=>
  intro ds h;rcases ns with _|⟨n,ns⟩
  .exact absurd h (Nat.not_succ_le_zero _)
  .exact congrArg (_:: ·) (c (ds:=ds) (qC h))
section
variable {M:Model} {A:Around} {E:Value->Shared->Prop} {s:Shared}
theorem AF {names:List Str} (l:names.Nodup) (hl:vals.length<=names.length) (f:Str×Value->List (Str×Value)->Sem (ForInStep (List (Str×Value))))
 (r:∀x d k,f (x,d) k=if(k.lookup x).isNone then pure (.yield (k++[(x,d)])) else pure (.yield k)):
 ∀ds i j,i+ds.length=names.length->(j=0/\i<=vals.length\/i=vals.length+j)->∀c,c.length=j->
  forIn ((names.drop i).zip ds) (names.zip vals++(names.drop vals.length).zip c) f=pure (names.zip vals++(names.drop vals.length).zip (c++ds.drop (vals.length+j-i))):=by
 intro ds
 induction ds with
 |nil=>
  intro i j hi m c hx;simp
 |cons d ds o=>
  intro i j hi m c hx;have e:=hi▸Nat.lt_add_of_pos_right (jG _);have p:=ie e;have h:=(pU i ds.length).trans hi;have g:=bB e;refine cR p (cR fz (cR (dO ..) (cR (r ..) ?_)));by_cases a:i<vals.length
  .have n:=m.elim (λq=>q.1) λq=>absurd a (bD.mpr (q▸d8 _ _));subst n;have:c=[]:=iH.mp hx;refine cR this (aL (sU l g a) λv h2 y=>cR zf (cR h2 ((?_:(forIn ((names.drop (i+1)).zip ds) _ f)=_))));exact cR (o (i+1) 0 h (.inl ⟨rfl,a⟩) [] rfl) (cR ((iZ (xx a)).symm) rfl)
  .have b:=m.elim (λq=>q.1▸Nat.le_antisymm q.2 (mq a)) λq=>q;have h1:=sV l g (mq a);have h2:((names.drop vals.length).zip c).lookup names[i]=none:=by
    refine sV (i:=j) (l.sublist (List.drop_sublist _ _)) ?_ (cX hx);refine cR (List.getElem?_drop) (cL b ?_);exact g
   refine cR zf (cR h1 (cR h2 ((?_:(forIn ((names.drop (i+1)).zip ds) _ f)=_))));have t:names.zip vals++(names.drop vals.length).zip c++[(names[i],d)]=names.zip vals++(names.drop vals.length).zip (c++[d]):=by
    refine cR (List.append_assoc ..) (congrArg _ ?_);have hz:names.drop vals.length=(names.drop vals.length).take j++names[i]::names.drop (i+1):=by
     exact cL p (cR b (cL sN ((lX j _).symm)))
    exact cR hz (K5 (cR (List.length_take_of_le ((jC ..).symm▸Nat.le_sub_of_add_le' (b▸gM e))) (cR hx rfl)))
   refine cR t (cR (o (i+1) (j+1) h (.inr (congrArg (·+1) b)) (c++[d]) (by simp [hx])) ?_);have u:=mh (cX (congrArg (·+1) b).symm);have w:vals.length+j-i=0:=gA (Nat.eq_sub_of_add_eq' b);refine cR u (cR w ?_);simp
theorem K6 {names:List Str} {vals:List Value} (c:names.Nodup) (hm:k<=vals.length):((names.take k).filter λn=>((names.zip vals).lookup n).isNone)=[]:=by
 rw [qw];intro x hx;obtain⟨i,hi,a⟩:=nj hx;rw [List.length_take] at hi;have b:names[i]? =af x:=by
  rw [List.getElem_take] at a;refine cL a ?_;exact bB (aQ hi (Nat.min_le_right _ _))
 refine dM (sU (vs:=vals) c b (aQ hi (aI (Nat.min_le_left _ _) hm))) λv d h=>cR h ?_;exact bZ
theorem Tp {p:Arguments} (h1:p.posonlyargs=[]) (h2:p.kwonlyargs=[]) (h:p.vararg=au) (i:p.kwarg=au):p=⟨[],p.args,au,[],p.kw_defaults,au,p.defaults⟩:=by
 rcases p with⟨a,b,c,d,e,f,g⟩
 obtain rfl:a=[]:=h1;obtain rfl:d=[]:=h2;obtain rfl:c=none:=h;obtain rfl:f=none:=i;rfl
theorem wZ (h1:fd.params.posonlyargs=[]) (h2:fd.params.args.map (·.arg)=names) (o:fd.params.kwonlyargs=[]) (p:fd.params.vararg=au) (q:fd.params.kwarg=au) (g:names.Nodup)
 (r:∀{Q},Q od s->wpAny M A (se fd.defaults) Q E s) (i:(od.getD #[]).toList=ds) (hl:vals.length<=names.length) (a:ds.length<=names.length) (hm:names.length-ds.length<=vals.length)
 (u:Q (names.zip (vals++ds.drop (ds.length-(names.length-vals.length)))) s):wpAny M A (bindArgs fd ⟨vals,[]⟩) Q E s:=by
 unfold bindArgs;refine cR (Tp h1 o p q) ?_;dsimp only;refine cR h2 (bp (aq (r (cR i (tZ (λh=> ?_) λf=> ?_)))))
 .exact absurd hl (Nat.not_le_of_lt (of_decide_eq_true (mW h).1))
 have l:ds.drop (ds.length-names.length)=ds:=by refine cR (mh a) ?_;rfl
 refine tZ (λh=> ?_) λf=> ?_
 .have e:=K6 (vals:=vals) g (k:=names.length-(ds.drop (ds.length-names.length)).length) (by refine cR l ?_;exact hm);have h:(!(List.filter (λn=>((names.zip vals).lookup n).isNone) (names.take (names.length-(ds.drop (ds.length-names.length)).length))).isEmpty)=true:=h;rw [e] at h;exact ff h
 have m:=AF (vals:=vals) g hl (λx b=>if(b.lookup x.fst).isNone=ao then pure (.yield (b++[(x.fst,x.snd)])) else pure (.yield b)) (λf f f=>rfl) ds (names.length-ds.length) 0 (iZ a) (.inl ⟨rfl,hm⟩) [] rfl;rw [vo,qD,List.nil_append,Nat.add_zero,sw1 hl a,HW hl] at m;have j:∀d,d=ds->forIn ((names.drop (names.length-d.length)).zip d) (names.zip vals) (λx b=>if(b.lookup x.fst).isNone=ao then(pure (.yield (b++[(x.fst,x.snd)])):Sem _) else pure (.yield b))=pure (names.zip (vals++ds.drop (ds.length-(names.length-vals.length)))):=λd e=>by refine cR e ?_;exact m
 refine aq (Eq.mpr (congrArg (λt=>wpAny M A t _ E s) (j _ l)) (av (cR jx (cR (pure_bind ..) (cR (if_neg (show ¬(!([]:List Str).isEmpty)=ao from bZ)) (av (cR (qD ..) ?_)))))));have c:names.length=(vals++ds.drop (ds.length-(names.length-vals.length))).length:=by refine cR dc (cR jC ?_);exact sw2 hl hm
 exact(AE g c).symm▸u
end
section
variable {prog:Program} {w:World} {A:Around} {s:Shared} {R:Result->Shared->Prop}
theorem jA (j:A.depth<mC) (z:s.heap.get? a=af o)
 (q:o.data= .func fd) (r:fd.scope.isCoroutine=aj) (n:fd.scope.isGenerator=aj) (k:fd.body= .stmts body) (u:s.heap.CodeRec fd.code fd.qualname)
 (h:cG (model prog w) A.in1 (bindArgs fd args) (λb f=>
  cG (model prog w) A.in1 (newFunctionEnv fd.scope fd.globals fd.closure b (fd.qualname++".<locals>.") (af a) fd.code au fd.builtins)
   (λenv e=>e.heap.NoLimit/\codeN (model prog w) A (.func body env) R e) (λl l=>False) f) (λl l=>False) s):
 codeN (model prog w) A (.call (.ref a) args) R s:=by
 refine dP rfl ((?_:cG _ A.in1 (callAny (.ref a) args) _ _ s));refine ay (eT (ja z (pg u λc B vs D hq y v x=> ?_)));simp only [q,callFunction,r,n,k,y];rw [y] at h;exact ay (m:=field (.ref c) 1) (eT (fK v x hq (ay (aO (ay (aW h (λb f p=>ay (aW p (λenv e i=>ay (eT (wpAny_enterFrame i.1 j (aO (i9 rfl i.2))))) λl l h'=>h'.elim)) λl l h'=>h'.elim))))))
theorem oJ (j:A.depth<mC) (z:s.heap.get? a=af o)
 (q:o.data= .func fd) (r:fd.scope.isCoroutine=aj) (n:fd.scope.isGenerator=aj) (k:fd.body= .expr body) (u:s.heap.CodeRec fd.code fd.qualname)
 (h:cG (model prog w) A.in1 (bindArgs fd args) (λb f=>
  cG (model prog w) A.in1 (newFunctionEnv fd.scope fd.globals fd.closure b (fd.qualname++".<locals>.") (af a) fd.code au fd.builtins)
   (λenv e=>e.heap.NoLimit/\codeN (model prog w) A (.expr body env) R e) (λl l=>False) f) (λl l=>False) s):
 codeN (model prog w) A (.call (.ref a) args) R s:=by
 refine dP rfl ((?_:cG _ A.in1 (callAny (.ref a) args) _ _ s));refine ay (eT (ja z (pg u λc B vs D hq y v x=> ?_)));simp only [q,callFunction,r,n,k,y];rw [y] at h;exact ay (m:=field (.ref c) 1) (eT (fK v x hq (ay (aO (ay (aW h (λb f p=>ay (aW p (λenv e i=>ay (eT (wpAny_enterFrame i.1 j (aO (i9 rfl i.2))))) λl l h'=>h'.elim)) λl l h'=>h'.elim))))))
theorem sW {id} (a:oG.contains id=aj) (hb:entryFor table id=af b)
 (h:cG (model prog w) (A.under (.builtin id args)) (b args) (λc s'=>match c with| .done f=>R (.ok f) s'| .again c'=>c'.quiet=ao/\codeN (model prog w) A c' R s') (λe s'=>R (.error e) s') s):codeN (model prog w) A (.builtin id args) R s:=by
 refine dP (by show(!(oG.contains id))=ao;refine cR a ?_;rfl) ?_;refine(?_:cG _ _ (match entryFor table id with|some b=>b args|none=>unsupported ((withoutEnding? id "#data").getD id)) _ _ s);refine cR hb ?_;exact h
theorem jS {id} (hq:(Code.builtin id args).quiet=ao) (i:oG.contains id=aj) (hb:entryFor table id=af b)
 (h:wpAny (model prog w) A.in1 (checkBuiltinCall id args) (λj a=>cG (model prog w) (A.under (.builtin id args)) (b args)
  (λk s'=>match k with| .done f=>R (.ok f) s'| .again c'=>c'.quiet=ao/\codeN (model prog w) A c' R s') (λe s'=>R (.error e) s') a) (λe s'=>R (.error e) s') s):codeN (model prog w) A (.call (.builtin id) args) R s:=dP rfl (ay (eT (fX h (λj a c=>aO (i9 hq (sW i hb c))) λj j h'=>h')))
end
section
variable {prog:Program} {w:World} {A:Around} {C:Addr} {R:Result->Shared->Prop} {h:Heap} {g:Array GenState} {d:Drawn} {t:Nat} {os:OsState}
theorem Wr (Y:Makes (model prog w) h C) (hi:Looks (model prog w) h (typeLookup (.ref C) "__init__") (af init))
 (hb:∀c,Looks (model prog w) h (bindSpecial init c) (init,[c])) (i:(af init !=af (t6 "object.__init__"))=ao\/(rest=[]/\kw=[]))
 (hq:codeN (model prog w) (A.under (.builtin "type.__call__" ⟨.ref C::rest,kw⟩)) (.call init ⟨.ref (h.objs.size+1)::rest,kw⟩) (InitBack (h.objs.size+1) R) ⟨(h.push eH).push (fE C h.objs.size),g,d,t,os⟩):
 codeN (model prog w) A (.call (.ref C) ⟨rest,kw⟩) R ⟨h,g,d,t,os⟩:=by
 have p:=Y;obtain⟨⟨G,od,q,H,m,I,J,u⟩,f,base,c,x,call,j⟩:=Y;refine dP rfl ?_;refine(?_:cG _ _ (load C>>=_) _ _ _);refine ay (eT (ja m ?_));refine(?_:cG _ _ (callAny.viaDunder (.ref C) _) _ _ _);refine ay (eT (call.at ?_));dsimp only;refine ay (aO (ay (aO ?_)));refine aO (a:=Fin.again (.call (.builtin "type.__call__") ⟨.ref C::rest,kw⟩)) (i9 rfl ?_);refine jS (vp _ (by decide+kernel)) (by exact rfl) entry_typeCall (check_slot tc_kind tc_split j (tc_args _ _ _) ?_);have hm:Looks (model prog w) h (mroOf (.ref C)) q.mro:=((Looks.ld (part:=au) m).andThen .now).andThen .now;refine(?_:cG _ _ (mroOf (.ref C)>>=_) _ _ _);refine ay (eT (hm.at ?_));refine cR u ?_;refine ay (eT (f.at ?_));dsimp only;refine ay (aO ?_);refine ay (bh (eT (wpAny_call (new_K p hi i ?_))));have k:∀b o,h.get? b=af o->((h.push eH).push (fE C h.objs.size)).get? b=af o:=λb o e=>az _ (az _ e);have hx:((h.push eH).push (fE C h.objs.size)).get? (h.objs.size+1)=af (fE C h.objs.size):=by
  have:=aJ (h.push eH) (o:=fE C h.objs.size) rfl
  rwa [bJ] at this
 have n:Looks (model prog w) ((h.push eH).push (fE C h.objs.size)) (typeOf (.ref (h.objs.size+1))) (.ref C):=(Looks.ld hx).andThen .now;have y:=c.keeps k;have B:=hi.keeps k;have D:=(hb (.ref (h.objs.size+1))).keeps k;have E:Looks (model prog w) ((h.push eH).push (fE C h.objs.size)) (isInstance (.ref (h.objs.size+1)) (.ref C)) true:=by unfold isInstance;exact n.andThen y
 have F:Looks (model prog w) ((h.push eH).push (fE C h.objs.size)) (specialOf (.ref (h.objs.size+1)) "__init__") (af init):=by unfold specialOf;exact n.andThen B
 refine ay (eT (E.at ?_));refine ay (bh ?_);refine ay (eT (F.at ?_));refine bh (ay (eT (D.at ?_)));refine ay (nJ (iN hq λr s' z=> ?_));rcases r with e|(v|_|_|_)<;>first|exact z|exact z.elim|skip
 refine f7 z λl=> ?_;subst l;intro z;exact aO (aO z)
end
theorem DQ d x r v vs:nI d (x::r) (v::vs)=(aB au (λl=>af ((x,v)::l)) (nI d r vs):Option (List (Nat×V))):=rfl
theorem Cp d x r:nI d (x::r) []=(ah au (aB au (λv=>aB au (λl=>af ((x,v)::l)) (nI d r [])) (sP d (fm (len d) (aG (len r) 1)))) (bQ (aG (len r) 1) (len d)):Option (List (Nat×V))):=rfl
theorem HX:∀{xs} {vs} {l},nI d xs vs=af l->vs.length<=xs.length/\xs.length<=vs.length+d.length/\l=xs.zip (vs++d.drop (d.length-(xs.length-vs.length))):=by
 intro xs
 induction xs with
 |nil=>
  intro vs l e;rcases vs with _|⟨v,vs⟩
  .injection e with e;subst e;simp
  .exact fn e
 |cons x r b=>
  intro vs l e;rcases vs with _|⟨v,vs⟩
  .rw [Cp] at e;refine aC (dK e) λe h1=>aL (pS e) λv e hv=>aL (pS e) λf e hl=> ?_;injection e with e;subst e
   refine iL (b hl) λa3 m c=> ?_;have h1:r.length+1<=d.length:=by have:=aA h1;rw [len_eq,len_eq] at this;exact this
   rw [mE,len_eq,len_eq] at hv;have hv:d[d.length-(r.length+1)]? =af v:=hv;refine iU (iy _) (aI h1 (rN _ _)) ?_;have a:d.length-(r.length+1)<d.length:=Nat.sub_lt (aQ (jG _) h1) (jG _);have i:d.drop (d.length-(r.length+1))=v::d.drop (d.length-r.length):=by
    refine cR (ie a) ?_;have j:d[d.length-(r.length+1)]=v:=by rw [bB a] at hv;exact aF hv
    exact cR j (cR (iZ (xx h1)) rfl)
   exact cR a3 (cR i (cR fz rfl))
  .rw [DQ] at e;refine aL (pS e) λf e hl=> ?_;injection e with e;subst e
   refine iL (b hl) λa3 k c=>iU (Nat.succ_le_succ k) (aI (Nat.succ_le_succ c) (cX (Nat.succ_add ..).symm)) (cR a3 ?_);simp only [iG,Nat.add_sub_add_right,qh,fz]
section
variable {X:dw} {w:Wd} {n:Nat} {g:Heap}
theorem DR {names:List Str}:∀{vs} {ys},(∀x∈names,bg x=ao)->ef X g w n vs ys->∀{x} {v},bg x=ao->find (nm x) ((names.map nm).zip vs)=af v->
 ∃y,(names.zip ys).lookup x=af y/\VR X g w n v y:=by
 induction names with
 |nil=>intro vs ys _ _ x v _ e;exact fn e
 |cons a names c=>
  intro vs ys hp hv x v hx e;cases hv with
  |nil=>exact fn e
  |cons u z us i hu b=>
   rw [dG,fz,eU] at e;by_cases h:nm x=nm a
   .have h':=gR hx (hp a aE) h;subst h';rw [if_pos rfl] at e;injection e with e;subst e
    exact bW z (by simp [fz]) hu
   .rw [if_neg h] at e;refine dM (c (λy hy=>hp y (aD _ hy)) b hx e) λy d f=>bW y ?_ f;have:(x==a)=false:=beq_eq_false_iff_ne.mpr λq=>h (cR q rfl);refine cR fz (cR bK (cR this ?_));exact d
theorem HY {names:List Str} {v:V} (e:find y ((names.map nm).zip vs)=af v):∃x∈names,nm x=y:=by
 induction names generalizing vs with
 |nil=>exact fn e
 |cons a names b=>
  induction vs using zL with
  |nil=>exact fn e
  |cons u us=>
   rw [dG,fz,eU] at e;by_cases h:y=nm a
   .exact bW a aE h.symm
   .rw [if_neg h] at e;exact dM (b e) λx c d=>bW x (aD _ c) d
end
theorem HZ {kindOf}:∀{l} {m},l.lookup x=au->bindL kindOf l m x=m x:=by
 intro l
 induction l with
 |nil=>
  intro _ _;exact rfl
 |cons b l c=>
  obtain⟨a,v⟩:=b;intro m h;rw [bK] at h
  induction hb:x==a using zB with
  |true=>rw [hb] at h;exact sn h
  |false=>
   rw [hb] at h;refine cR (c h) ?_;split
   .exact if_neg (by simpa using hb)
   .rfl
theorem H6 {kindOf}:∀{l} {m},l.lookup x=au->bindC kindOf l m x=m x:=by
 intro l
 induction l with
 |nil=>
  intro _ _;exact rfl
 |cons b l c=>
  obtain⟨a,v⟩:=b;intro m h;rw [bK] at h
  induction hb:x==a using zB with
  |true=>rw [hb] at h;exact sn h
  |false=>
   rw [hb] at h;refine cR (c h) ?_;split
   .rfl
   .exact if_neg (by simpa using hb)
theorem zg {l:List (Str×Value)} (h:x∉l.map eB):l.lookup x=none:=by
 induction l with
 |nil=>rfl
 |cons p l b=>
  obtain⟨a,v⟩:=p;rw [dG,aT,not_or] at h;exact cR bK (cR (beq_eq_false_iff_ne.mpr h.1) (b h.2))
theorem K7 {kindOf} (hk:kindOf x=af .local):∀{l} {m} {y},(l.map eB).Nodup->l.lookup x=af y->bindL kindOf l m x=af y:=by
 intro l
 induction l with
 |nil=>
  intro _ _ _ h;exact fn h
 |cons d l e=>
  obtain⟨a,v⟩:=d;intro m y b h;rw [dG,gv] at b;rw [bK] at h
  induction hb:x==a using zB with
  |true=>
   rw [hb] at h;injection h with h;subst h
   have c:x=a:=by simpa using hb
   subst c;exact cR (HZ (zg b.1)) (cR (if_pos hk) (if_pos rfl))
  |false=>
   rw [hb] at h;exact e b.2 h
theorem K8 {kindOf} (hk:kindOf x≠af .local):∀{l} {m} {y},(l.map eB).Nodup->l.lookup x=af y->bindC kindOf l m x=af y:=by
 intro l
 induction l with
 |nil=>
  intro _ _ _ h;exact fn h
 |cons d l e=>
  obtain⟨a,v⟩:=d;intro m y b h;rw [dG,gv] at b;rw [bK] at h
  induction hb:x==a using zB with
  |true=>
   rw [hb] at h;injection h with h;subst h
   have c:x=a:=by simpa using hb
   subst c;exact cR (H6 (zg b.1)) (cR (if_neg hk) (if_pos rfl))
  |false=>
   rw [hb] at h;exact e b.2 h
theorem cellsFrom_some:∀{l} {k} {acc} {x},((∃c,acc.lookup x=af c)\/(x,NameKind.cell)∈l)->∃c,(cellsFrom k l acc).lookup x=af c:=by
 intro l
 induction l with
 |nil=>
  intro _ _ _ h;exact h.resolve_right λq=>(aU q).elim
 |cons d r b=>
  obtain⟨a,kd⟩:=d;intro k acc x h;unfold cellsFrom;split
  .rename_i hk;refine b ?_;rcases h with⟨c,h⟩|h
   .left
    refine cR bK ?_;split
    .exact⟨_,rfl⟩
    .exact⟨c,h⟩
   .rcases aT.mp h with h|h
    .cases h;exact .inl ⟨k,by exact List.lookup_cons_self⟩
    .exact .inr h
  .rename_i hk;refine b ?_;rcases h with h|h
   .exact .inl h
   .rcases aT.mp h with h|h
    .cases h;exact absurd rfl hk
    .exact .inr h
structure Ot (sc:Scope) (names:List Str):Prop where
 fn:sc.kind= .function
 co:sc.isCoroutine=aj
 gen:sc.isGenerator=aj
 plain:∀p∈sc.names,bg p.1=ao
 Tq:∀p∈sc.names,p.2≠.free
 Gv:∀x k,bf (nm x) sc.names=af k->(x==("__debug__":Str))=aj
 cls:∀x k,bf (nm x) sc.names=af k->(x==("__classdict__":Str))=aj
 params:∀x∈names,bg x=ao/\(bf (nm x) sc.names=af .local\/bf (nm x) sc.names=af .cell)
 nodup:names.Nodup
section
variable {X:dw} {w:Wd} {h:H} {s s₁:Shared}
theorem eW.call (r:∀a∈X.tabs,a<X.h₀.objs.size) (D:St X w h s) (G:St X w h s₁) (b:Ot fd.scope names) (I:fd.globals=mainNs) (hb:fd.builtins=builtinsNs) (t:gC fd.scope.names=aj->∀c q,X.jL fd.scope.names=af (c,q)->fd.code= .ref c/\fd.qualname++".<locals>."=q) (hv:ef X s₁.heap w h.n vs ys) (hl:names.length=ys.length)
 (x:InCallC s (callEnvC fd s.heap.objs.size a).locals (bindL (callEnvC fd s.heap.objs.size a).kindOf (names.zip ys) λE=>au) (callEnvC fd s.heap.objs.size a).cells (bindC (callEnvC fd s.heap.objs.size a).kindOf (names.zip ys) λE=>au) s₁):
 eW X (callEnvC fd s.heap.objs.size a) fd.scope.names ⟨(names.map nm).zip vs,[]⟩ w h.n s₁:=by
 have d:∀y,bf y fd.scope.names≠af .free:=λy e=>by
  exact jz (lF e) λp hp E J=>b.Tq p hp J
 have F:=D.size;have f:∀c,s.heap.objs.size<=c->w.role c=au/\X.h₀.objs.size<=c/\c∉X.tabs:=λc j=>iU (by
  induction K:w.role c using zO with
  |none=>rfl
  |some i=>exact absurd (D.lim c i K).2.2 (bD.mpr j)) (aI F j) (λht=>absurd (r c ht) (bD.mpr (aI F j)))
 have l:∀y k,bg y=ao->bf (nm y) fd.scope.names=af k->(callEnvC fd s.heap.objs.size a).kindOf y=af k:=λy k hy hk=>jZ b.plain hy hk;have u:∀y∈names,bg y=true:=λy hy=>(b.params y hy).1;have A:((names.zip ys).map eB).Nodup:=cR (List.map_fst_zip (cX hl)) b.nodup;have m:∀y,bg y=ao->bf (nm y) fd.scope.names=af .cell->∃c,(callEnvC fd s.heap.objs.size a).cells.lookup y=af c:=λy hy hk=>by
  exact cellsFrom_some (.inr (mem_of_lookup (jZ b.plain hy hk)))
 refine⟨b.fn,I,hb,λy k hy hk=> ?_,b.cls,b.Gv,(bW _ x.toInCall.ns (λy v hy hk o=> ?_)),f _ x.toInCall.fresh,λy hy hk=> ?_,λy v c hy hk o j=> ?_,λy v c hy hk=>absurd hk (d _),λy z c h1 h2=>name_of_addr x.apart (mem_of_lookup h1) (mem_of_lookup h2),λy v o=> ?_,λy v o=>(nomatch o),t⟩
 .have:=l y k hy hk
  induction k using dN with
  |«local»=>exact this
  |cell=>exact this
  |free=>exact absurd hk (d _)
  |globalImplicit=>exact this
  |_=>trivial
 .exact dM (DR u hv hy o) λz h1 h2=>bW z (K7 (l y _ hy hk) A h1) h2
 .exact fB (m y hy (hk.resolve_right (d _))) λc j=>iL (f c (gM ((x.above y c (mem_of_lookup j))))) λL M N=>lN c _ j M N L (x.cell y c j)
 .refine dM (DR u hv hy o) λz h1 h2=>bW z ?_ h2;have:=x.cell y c j;rw [K8 (by refine cR (l y _ hy hk) ?_;decide) A h1] at this;exact this
 .refine aL (HY o) λO B=> ?_;subst B;intro C;exact(b.params O C).2
structure Vo (X:dw) (fd:mu) (names:List Str) (dv:List V):Prop where
 sc:Ot fd.scope names
 clo:fd.closure=[]
 glob:fd.globals=mainNs
 blt:fd.builtins=builtinsNs
 NW:gC fd.scope.names=aj->∀c q,X.jL fd.scope.names=af (c,q)->fd.code= .ref c/\fd.qualname++".<locals>."=q
 pos:fd.params.posonlyargs=[]
 args:fd.params.args.map (·.arg)=names
 kwo:fd.params.kwonlyargs=[]
 va:fd.params.vararg=au
 kwa:fd.params.kwarg=au
 few:dv.length<=names.length
 Dm:∀w h s,St X w h s->∃od,(∀{M:Model} {A:Around} {E:Value->Shared->Prop} {Q:Option (Array Value)->Shared->Prop},Q od s->wpAny M A (se fd.defaults) Q E s)/\ef X s.heap w h.n dv (od.getD #[]).toList
theorem uS (Z:bw X) (z:∀a∈X.tabs,a<X.h₀.objs.size) (B:X.h₀.NoLimit) (J:cStatics∉X.tabs) (R:Vo X fd names dv)
 (I:St X w h s) (hv:ef X s.heap w h.n vs ys) (hl:nI dv (names.map nm) vs=af l) {P:dB->Shared->Prop}
 (W:∀env s₁,St X w h s₁->eW X env fd.scope.names ⟨l,[]⟩ w h.n s₁->Ext X cV w h.n s w h.n s₁->(∀c,Az env fd.scope.names c->cV c\/s.heap.objs.size<=c)->P env s₁):
 wpAny (model X.prog X.w) A (bindArgs fd ⟨ys,[]⟩) (λb s₁=>wpAny (model X.prog X.w) A (newFunctionEnv fd.scope fd.globals fd.closure b (fd.qualname++".<locals>.") (af a) fd.code au fd.builtins) (λenv u=>u.heap.NoLimit/\P env u) E' s₁) E s:=by
 refine dM (R.Dm w h s I) λod K C=>iL (HX hl) λm=> ?_;subst m;intro L N;simp only [eF] at L N W;have j:=hv.length;have d:=C.length;have D:=hv.append (C.drop (dv.length-(names.length-vs.length)));have i:wpAny (model X.prog X.w) A (bindArgs fd ⟨ys,[]⟩) (λb s'=>s'=s/\b=names.zip (ys++((od.getD #[]).toList).drop ((od.getD #[]).toList.length-(names.length-ys.length)))) E s:=wZ (M:=model X.prog X.w) (A:=A) (E:=E) (s:=s) (fd:=fd) (names:=names) R.pos R.args R.kwo R.va R.kwa R.sc.nodup (vals:=ys) (ds:=(od.getD #[]).toList) (od:=od) (λq=>K q) rfl (le_of_eq_of_le (id (gA j)) L) (by have:=R.few;exact le_of_eq_of_le (id (gA d)) this) (r8.mpr (j▸d▸N)) ⟨rfl,rfl⟩;have O:ys++((od.getD #[]).toList).drop ((od.getD #[]).toList.length-(names.length-ys.length))=ys++((od.getD #[]).toList).drop (dv.length-(names.length-vs.length)):=cL d (cL j rfl);rw [O] at i;generalize F:ys++((od.getD #[]).toList).drop (dv.length-(names.length-vs.length))=zs at i D;have Q:names.length=zs.length:=by
  refine cL F (cR dc (cR jC (cL d (cL j ?_))));exact sw2 L (r8.mpr N)
 have S:s.heap.NoLimit:=by
  exact aL B λmc h2 h1=>bW mc (uG h1 λo e=>I.base _ o e J) h2
 refine fX i (λb s' q=> ?_) λU U f=>f;refine f7 q λm T=> ?_;subst m;subst T;refine cR R.clo ?_;have v:∀y k,bg y=ao->bf (nm y) fd.scope.names=af k->fd.scope.names.lookup y=af k:=λy k hy hk=>jZ R.sc.plain hy hk;refine wpAny_newFunctionEnv_cells R.sc.fn (λp hp=> ?_) λenv r s1 x=> ?_
 .have hm:=(List.of_mem_zip hp).1;refine aC (R.sc.params p.1 hm) λh2 h1=> ?_;rcases h2 with h2|h2
  .exact .inl (v _ _ h1 h2)
  .refine .inr ⟨v _ _ h1 h2, ?_⟩;refine fB (cellsFrom_some (k:=s'.heap.objs.size+1) (acc:=[]) (.inr (mem_of_lookup (v _ _ h1 h2)))) λc V=>cR V ?_;rfl
 .have r:env=callEnvC fd s'.heap.objs.size a:=r;subst r;refine Hw x.done λh' tk m=> ?_;subst m;intro t;refine aC (I.i7 Z (h':=h') (tk:=tk) (gM x.toInCall.ns.lt) t) λY G=>⟨S.keeps t,W _ _ G (eW.call z I G R.sc R.glob R.blt R.NW (D.mono Y.dW) Q x) Y λc V=> ?_⟩
  right
  rcases V with rfl|⟨y,_,_,q⟩
  .exact x.toInCall.fresh
  .exact gM (x.above y c (mem_of_lookup q))
theorem rm (a:fL (n+1) 0 A) (hb:b<=190) env:fL n b (A.deeper env):=
 a.next rfl (Around.deeper_units ..) (aI (jM hb 3) (aA rfl)) rfl (d:=1) rfl
theorem zh (b:fL n 0 A):A.depth<mC:=iX (iY b.depth) (aA rfl)
structure Zv (X:dw) (r:Ap) (n b:Nat) (a:Addr) (F:Fn) (names:List Str) (fd:mu) (body:List Stmt):Prop where
 obj:∃o,X.h₀.get? a=af o/\o.data= .func fd
 nt:a∉X.tabs
 data:Vo X fd names F.Dm
 text:fd.body= .stmts body
 code:∀w h s,St X w h s->s.heap.CodeRec fd.code fd.qualname
 names:F.params=names.map nm
 ok:i8 X r n b fd.scope.names F.body body
theorem Ws (M:bw X) (j:∀a∈X.tabs,a<X.h₀.objs.size) (m:X.h₀.NoLimit) (t:cStatics∉X.tabs) (R:Zv X r n b a F names fd body) (hb:b<=190)
 (G:fL (n+1) 0 A) (u:St X w h s) (hv:ef X s.heap w h.n vs ys) (hl:nI F.Dm F.params vs=af l) (e:F.body.f r ⟨l,[]⟩ h (λd h=>k di h) k=af res)
 (I:Goes (PV X) X w h.n s k res Q):codeN (model X.prog X.w) A (.call (.ref a) ⟨ys,[]⟩) (RV Q) s:=by
 refine dM R.obj λo N O=> ?_;rw [R.names] at hl;refine jA (zh G) (u.base a o N R.nt) O R.data.sc.co R.data.sc.gen R.text (R.code w h s u) (aW (eT (uS M j m t R.data u hv hl (E:=λd d=>False) (E':=λd d=>False) (P:=λenv J=>codeN (model X.prog X.w) A (.func body env) (RV Q) J) λenv J x z K p=>tD ?_)) (λd d q=>eT q) λd d f=>f);refine aW (R.ok _ (rm G hb env) _ _ w h _ x z _ k res e (λf c=>match f with| .ret v=>Q v c|_=>Q .none c) ⟨λS B i c C L a3 D=> ?_,λB i c v y C L a3 D=> ?_⟩) (λf c q=> ?_) λd d f=>f.elim
 .exact I B i c di .none C (K.nN a3 p) .none D
 .exact I B i c v y C (K.nN L p) a3 D
 .rcases f<;>exact q
end
section
variable {X:dw} {K:Frag} {w:Wd} {h:H} {s:Shared} {r:Ap} {n:Nat}
theorem RV.call {M} {Q} (x:codeN M A (.call f ⟨ys,[]⟩) (RV Q) s):cG M A (call f ys) Q (λb b=>False) s:=
 nJ (iN x λr s' z=>by rcases r with e|(v|_|_|_)<;>first|exact z.elim|exact z)
structure Tr (K:Frag) (C f:Addr):Prop where
 makes:makesIn K C=ao
 init:findIn K (.ref C) "__init__"=af (af (.ref f))
 fn:typeIn K (.ref f)=af (.type "function")
theorem H7 C ys:(Code.builtin "type.__call__" ⟨.ref C::ys,[]⟩).weight=1:=by kernel_rfl
theorem K9 C ys:(Code.builtin "type.__call__" ⟨.ref C::ys,[]⟩).cUnits=1:=by kernel_rfl
theorem Ou (a:fL (n+1) 0 A) C ys:fL n 0 (A.under (.builtin "type.__call__" ⟨.ref C::ys,[]⟩)):=
 a.next rfl (congrArg (A.units+ ·) (K9 C ys)) (aA rfl) (congrArg (A.depth+ ·) (H7 C ys)) rfl
theorem St.Ov (g:bw X) (i:St X w h s) (C:Addr):∃d,St X d ⟨HT.ins (ux C []) h.l h.n,h.n+1⟩ {s with heap:=(s.heap.push eH).push (fE C s.heap.objs.size)}/\
 Ext X cV w h.n s d (h.n+1) {s with heap:=(s.heap.push eH).push (fE C s.heap.objs.size)}/\d.ρ h.n=s.heap.objs.size+1:=by
 have h1:((s.heap.push eH).push (fE C s.heap.objs.size)).objs.size=s.heap.objs.size+2:=cR (bJ ..) (cR (bJ ..) rfl);have j:((s.heap.push eH).push (fE C s.heap.objs.size)).get? (s.heap.objs.size+1)=af (fE C s.heap.objs.size):=by
  have:=aJ (s.heap.push eH) (o:=fE C s.heap.objs.size) rfl
  rwa [bJ] at this
 refine f7 (i.new g (o:=ux C []) (b:=s.heap.objs.size+1) (own:=λa=>decide (s.heap.objs.size<=a)&&decide (a<s.heap.objs.size+2)) (by simp) (s':={s with heap:=(s.heap.push eH).push (fE C s.heap.objs.size)})
  (by show _<=((s.heap.push eH).push (fE C s.heap.objs.size)).objs.size;refine cR h1 ?_;exact d8 (fG (jD (fR s))) 2)
  (λa f=>by
   simp only [aP,decide_eq_true_eq] at f;exact⟨f.1,by show _<((s.heap.push eH).push (fE C s.heap.objs.size)).objs.size;refine cR h1 ?_;exact f.2⟩)
  (λa m e=>az _ (az _ e)) rfl rfl 0 _ rfl
  (λk h1 h2 p=> .inst C [] s.heap.objs.size #[] 0 (cR h2 h1) (by simp) (cR h2 (cj (bN _))) (cR h2 j) (az _ (aJ _ rfl)) .nil (of_decide_eq_true rfl) (λx t q=>absurd rfl q))) λa c=> ?_
 exact f5 _ a c (if_pos rfl)
theorem Tt (q:bw X) (O:Js X K) (u:Cf X r n) {T:B4} {C:Addr} (x:∀f,T.init C=af f->∃F,Fi X F/\Tr F C f) (B:fL (n+1) 0 A) (m:St X w h s) (hv:ef X s.heap w h.n vs ys)
 (e:SO T r C vs h k=af res) (D:Goes (PV X) X w h.n s k res Q):codeN (model X.prog X.w) A (.call (.ref C) ⟨ys,[]⟩) (RV Q) s:=by
 refine aL (bC e) λf e E=>aL (x f E) λP c hF=> ?_;have i:=hF.In m;refine jz (m.Ov q C) λj G o a3=> ?_;obtain⟨a,g,d,t,os⟩:=s;refine Wr (makes_of i c.makes) (looks_findIn i c.init) (λb=>bind_fn i b c.fn) (.inl rfl) ?_;have hx:VR X ((a.push eH).push (fE C a.objs.size)) j (h.n+1) (bP h.n) (.ref (a.objs.size+1)):=by
  have:=VR.ref (X:=X) (g:=(a.push eH).push (fE C a.objs.size)) (w:=j) (n:=h.n+1) h.n (bN _)
  rwa [a3] at this
 refine iN (u.fn _ (Ou B _ _) j _ _ G f (bP h.n::vs) (.ref (a.objs.size+1)::ys) (.cons _ _ _ _ hx (hv.mono o.dW)) _ res e (λv s'=>v= .none/\Q (.ref (a.objs.size+1)) s') λI h2 J v y L p M l=> ?_) λN s' z=> ?_
 .refine f7 (dK l) λht l=> ?_;have hy:y= .none:=by
   induction M using Mine.VR.casesOn<;>first|rfl|exact nn (aH ht) rfl
  exact⟨hy,D I h2 J _ _ L (o.trans p) (hx.mono p.dW) l⟩
 .rcases N with e|(v|_|_|_)<;>first|exact z.elim|exact z
theorem La (a:Fi X K) (b:St X w h s) (c:Tr K C f) {M}:qZ M (.ref C) s.heap:=by
 have Y:=makes_of (M:=M) (a.In b) c.makes;obtain⟨e,od,g,i,d,_⟩:=Y.obj;exact bW .machine (.inr (.inl rfl)) ((Looks.ld d).andThen ((Y.call.andThen (Looks.of_pure rfl))))
theorem xX (b:g.get? a=af o) (c:o.data= .func fd) {M}:qZ M (.ref a) g:=bW .frame (.inl rfl) ((Looks.ld b).andThen (cR c .now))
end
structure Tv (X:dw) (r:Ap) (n b:Nat) (L:Lm) (fd:mu) (names:List Str) (body:Expr):Prop where
 data:Vo X fd names []
 text:fd.body= .expr body
 names:L.params=names.map nm
 ok:cQ X r n b fd.scope.names L.body body
section
variable {X:dw} {w:Wd} {h:H} {s:Shared} {r:Ap} {n b:Nat}
theorem Tw (C:bw X) (g:∀a∈X.tabs,a<X.h₀.objs.size) (i:X.h₀.NoLimit) (p:cStatics∉X.tabs) (R:Tv X r n b L fd names body) (hb:b<=190)
 (D:s.heap.get? a=af o) (F:o.data= .func fd) (G:fd.code= .ref c) (j:s.heap.CodeRec (.ref c) fd.qualname)
 (z:fL (n+1) 0 A) (I:St X w h s) (hv:ef X s.heap w h.n vs ys) (hl:nI [] L.params vs=af l) (e:L.body.f r ⟨l,[]⟩ h k=af res)
 (J:Goes (PV X) X w h.n s k res Q):codeN (model X.prog X.w) A (.call (.ref a) ⟨ys,[]⟩) (RV Q) s:=by
 rw [R.names] at hl;refine oJ (zh z) D F R.data.sc.co R.data.sc.gen R.text (G.symm▸j) (aW (eT (uS C g i p R.data I hv hl (E:=λd d=>False) (E':=λd d=>False) (P:=λenv B=>codeN (model X.prog X.w) A (.expr body env) (RV Q) B) λenv B t u K M=>yO ?_)) (λd d q=>eT q) λd d f=>f);refine aW (R.ok _ (rm z hb env) _ _ w h _ t u k res e Q λN x m v y O S a3 T=> ?_) (λf m q=>q) λd d f=>f.elim;exact J N x m v y O (K.trans S) a3 T
theorem zj {pos:Pos} l (h:ni l):ni (l++[rawInt pos.line,rawInt pos.col,c]):=by
 fun_induction ni l with
 |case1=>exact h
 |case2 a t b u x d e=>exact e h
 |case3 l h1 h2=>exact h.elim
theorem AG (l m) (h:ni l) (e:codeAmong pos l=af c):codeAmong pos (l++m)=af c:=by
 fun_induction ni l with
 |case1=>exact fn e
 |case2 a t b u x d f=>
  simp only [qh,codeAmong] at e⊢;split at e
  .rename_i q;refine cR (if_pos q) ?_;exact e
  .rename_i q;refine cR (if_neg q) ?_;exact f h e
 |case3 l h1 h2=>exact h.elim
theorem AH {pos d:Pos} l (h:ni l) (hn:codeAmong d l=au) (e:codeAmong d (l++[rawInt pos.line,rawInt pos.col,c])=af cv):d.line=pos.line/\d.col=pos.col/\cv=c:=by
 fun_induction ni l with
 |case1=>
  simp only [List.nil_append,rawInt,codeAmong] at e;split at e
  .rename_i q;simp only [aP,beq_iff_eq,Int.natCast_inj] at q;exact iU q.1.symm q.2.symm ((aF e).symm)
  .exact fn e
 |case2 a t b u x f g=>
  simp only [qh,codeAmong] at e hn;split at e
  .rename_i q;rw [if_pos q] at hn;exact sn hn
  .rename_i q;rw [if_neg q] at hn;exact g h hn e
 |case3 l h1 h2=>exact h.elim
theorem St.code (V:bw X) (d:St X w h s) {P c:Addr} (C:P∈X.tabs) (hp:s.heap.get? P=af ⟨.none,au,.fields ps,#[]⟩) (ht:ni ps.toList) (hn:codeAmong pos ps.toList=au) (hq:∀j,X.ql P pos.line pos.col=af j->j=q)
 (hx:mK P s.heap h') (l:s.heap.objs.size<=c) (D:c<h'.objs.size) (p:h'.CodeRec (.ref c) q) (E:h'.get? P=af ⟨.none,au,.fields (ps++ #[rawInt pos.line,rawInt pos.col,.ref c]),#[]⟩):
 St X w h {s with heap:=h',toks:=tk}/\Ext X cV w h.n s w h.n {s with heap:=h',toks:=tk}/\w.role c=au/\c∉X.tabs:=by
 have u:=(d.tab P C).low;have F:=gM (iX l D);have x:Ext X cV w h.n s w h.n {s with heap:=h',toks:=tk}:=⟨F,bu _,λg g=>rfl,λg g=>rfl,λg g=>rfl,λa o g h2 g e=>hx a o (λq=>h2 (q▸C)) e,rfl,rfl⟩;have k:=x.dW;have m:∀a i,w.role a=af i->a≠P:=λa i G q=>absurd u (bD.mpr (q▸(d.lim a i G).2.1));have v:w.role c=none:=by
  induction G:w.role c using zO with
  |none=>rfl
  |some i=>exact absurd (d.lim c i G).2.2 (bD.mpr l)
 have y:c∉X.tabs:=λq=>absurd (d.tab c q).low (bD.mpr (aI d.size l));refine qF ⟨λi o e=> ?_,λa i e=> ?_,λa o e ht=>hx a o (λq=>ht (q▸C)) (d.base a o e ht),aI d.size F,λB z=> ?_⟩ x v y
 .exact aC (d.rep i o e) λW hi=>⟨hi,W.keep V k hi (λg h=>h) λa o h1 e=>hx a o (m a i h1) e⟩
 .refine eY (d.lim a i e) λY Z a3=> ?_;exact iU Z Y (aQ a3 F)
 .by_cases A:B=P
  .subst A;obtain⟨_,ps',e1,e2,e3⟩:=d.tab B z;cases hp.symm.trans e1;refine⟨u,_,E,by simpa using (zj (c:= .ref c) (pos:=pos) ps.toList ht),λf j cv h1 h2=> ?_⟩;have h2:codeAmong f (ps.toList++[rawInt pos.line,rawInt pos.col,.ref c])=af cv:=by simpa using h2
   induction I:codeAmong f ps.toList using zO with
   |some J=>
    refine Sx (e3 f j J h1 I) λc' K=> ?_;subst K;intro r1 O r3;have L:cv= .ref c':=by
     have:=AG ps.toList [rawInt pos.line,rawInt pos.col,.ref c] ht I;rw [this] at h2;exact(aF h2).symm
    refine pg r3 λQ R vs t S e g1 T=> ?_;cases e;exact aC (k.fix c' R r1 O (vV T S) g1) λj p'=>⟨c',L,p',O,c',R,vs,t,rfl,j,T,S⟩
   |none=>
    have:=AH ps.toList ht I h2;refine Rt this λhl M N=> ?_;rw [hl,M] at h1;exact cR (hq j h1) (qG c N v y p)
  .exact(d.tab B z).keep k λo g e=>hx B o A e
theorem cQ.lam (G:bw X) pos (v:gC ns=aj) (hc:X.jL ns=af (c,q')) (I:q'++"<lambda>"=q) (hP:P∈X.tabs)
 (x:∀w h s,St X w h s->CodeHd s.heap c P) (y:X.ql P pos.line pos.col=af q) (J:∀w h s,St X w h s->∃z,s.heap.Ns g8 z/\s.heap.BuiltinsAt z P) (K:g8≠P)
 (B:∀env,defaultsOf params env=([],[])) (m:∀env,closureFor scope env=pure []) (hl:∀pm L f,X.lam (aG (cM pos.line 4096) pos.col) (kla_fn "<lambda>" q params body scope [] pm L f)):
 cQ X r n b ns (xC (NG (aG (cM pos.line 4096) pos.col))) (.Lambda params body scope pos):=by
 intro A hA env ρ w h s u he k res e Q hQ;refine f7 (he.NW v c q' hc) λg p=> ?_;obtain⟨low,ps,hp,ht,M⟩:=u.tab P hP;refine dM (J w h s u) λz C D=>eT (kla_eval (B env) (cR p (cR I ?_)));have j:∀s' a,St X w h s'->s'.heap.objs.size<=a->w.role a=au/\a∉X.tabs:=λs' a h1 h2=>⟨by
  induction E:w.role a using zO with
  |none=>rfl
  |some i=>exact absurd (h1.lim a i E).2.2 (bD.mpr h2),λq=>absurd (h1.tab a q).low (bD.mpr (aI h1.size h2))⟩
 induction l:codeAmong pos ps.toList using zO with
 |some L=>
  refine Sx (M pos q L y l) λc' N=> ?_;subst N;intro E t d;refine kla_makeFunctionHit (m env) he.glob C g (x w h s u) hp ht l D λf h' tk hk O=>aC (u.i7 G (h':=h') (tk:=tk) O hk) λR F=>aC (F.i7 G (h':=h'.push {cls:= .type "function",data:= .func (kla_fn "<lambda>" q params body scope [] ((z "__name__").getD .none) (.ref c') f)}) (tk:=tk) (by show h'.objs.size<=_;refine cR (bJ ..) ?_;exact gU _) (λa o e=>az _ e)) λS T=> ?_;exact aC (j _ h'.objs.size F (bu _)) λV W=>hQ w h _ _ _ T (R.trans S) (.lam _ h'.objs.size _ _ c' W V (aJ _ rfl) rfl rfl E t (d.keeps λb o e=>az _ (hk b o e)) (hl _ _ _)) e
 |none=>
  refine kla_makeFunction (m env) he.glob C g (x w h s u) hp ht l K D λc' f h' tk hx Y Z d Vn=>uq (u.code G hP hp ht l (λq'' e=>aF (e.symm.trans y)) (tk:=tk) hx Y Z d Vn) λR F E t=>aC (F.i7 G (h':=h'.push (kla_obj "<lambda>" q params body scope [] ((z "__name__").getD .none) c' f)) (tk:=tk) (by show h'.objs.size<=_;refine cR (bJ ..) ?_;exact gU _) (λa o e=>az _ e)) λS T=> ?_;exact aC (j _ h'.objs.size F (bu _)) λV W=>hQ w h _ _ _ T (R.trans S) (.lam _ h'.objs.size _ _ c' W V (aJ _ rfl) rfl rfl E t (d.push _) (hl _ _ _)) e
end
def qb (X:dw) (m:Nat):Prop:=∀n A,fL n 0 A->∀w h s,St X w h s->∀vs ys,ef X s.heap w h.n vs ys->∀k res,BR m vs h k=af res->∀Q:Value->Shared->Prop,
 Goes (PV X) X w h.n s k res Q->cG (model X.prog X.w) A (call (oE m) ys) Q (λU U=>False) s
structure Lb (X:dw) (K:Frag) (T:B4):Prop where
 cls:∀C f,T.init C=af f->∃F,Fi X F/\Tr F C f
 bi:∀m,qb X m
 fnk:∀a F,T.fn a=af F->∃o fd,X.h₀.get? a=af o/\o.data= .func fd/\a∉X.tabs
 fn:∀a F,T.fn a=af F->ak F.prim 0=ao->∃b names fd body,b<=190/\∀r n,Cf X r n->Zv X r n b a F names fd body
 prim:∀a F,T.fn a=af F->ak F.prim 0=aj->∀r n,Cf X r n->∀A,fL (n+1) 0 A->∀w h s,St X w h s->∀vs ys,ef X s.heap w h.n vs ys->∀k res,with2 vs (λa w=>r w [a,bM F.prim,aX 0] h k)=af res->
  ∀Q:Value->Shared->Prop,Goes (PV X) X w h.n s k res Q->codeN (model X.prog X.w) A (.call (.ref a) ⟨ys,[]⟩) (RV Q) s
 lam:∀j L,T.lam j=af L->∃b names body,b<=190/\∀fd,X.lam j fd->∀r n,Cf X r n->Tv X r n b L fd names body
theorem tO M {f} (h:∀a,f≠.ref a) g:qZ M f g:=by
 refine bW .machine (.inr (.inl rfl)) ?_;have:keeperOf f=pure .machine:=by
  rcases f<;>first|rfl|exact absurd rfl (h _)
 refine cR this ?_;exact .now
def Lc (y:Value):Bool:=Value.rec aj aj aj (λU=>aj) (λU U=>aj) (λU U=>aj) (λU U=>aj) (λU U=>aj) (λU=>aj) (λU=>aj) (λU=>ao) y
theorem wg k a (e:oE k= .ref a):False:=by
 have q:=if h:k<18 then(by decide+kernel:∀k,k<18->Lc (oE k)=aj) k h else iZ (mq h)▸(rfl:Lc (oE (k-18+18))=aj);rw [e] at q;exact ft q
section
variable {X:dw} {K:Frag} {T:B4} {r:Ap} {n:Nat} {w:Wd} {h:H} {s:Shared}
theorem Ld (q:bw X) (c:∀a∈X.tabs,a<X.h₀.objs.size) (d:X.h₀.NoLimit) (f:cStatics∉X.tabs) (g:Lb X K T) (i:Cf X r n) (j:fL (n+1) 0 A) (m:St X w h s) (hv:ef X s.heap w h.n vs ys)
 (e:Zl T r a vs h k=af res) (o:Goes (PV X) X w h.n s k res Q):codeN (model X.prog X.w) A (.call (.ref a) ⟨ys,[]⟩) (RV Q) s:=by
 refine aL (pS e) λF e hF=> ?_
 induction hp:ak F.prim 0 using zB with
 |false=>
  rw [hp] at e;exact g.prim a F hF hp r n i A j w h s m vs ys hv k res e Q o
 |true=>
  rw [hp] at e;refine aL (pS e) λl e hl=> ?_;obtain⟨b,names,fd,p,hb,R⟩:=g.fn a F hF hp;exact Ws q c d f (R r n i) hb j m hv hl e o
theorem Le (b:St X w h s) (c:Lb X K T) (e:Zl T r a vs h k=af res) {M}:qZ M (.ref a) s.heap:=aL (pS e) λF e hF=>vK (c.fnk a F hF) λo fd h1 h2 d=>xX (b.base a o h1 d) h2
theorem Lf m:Cf X (run T 0) m:=⟨λa a a a a a a a a a a a a a e=>(fn e),λa a a a a a a a a a e=>(fn e),λa a a a a a a a a a a a e=>fn e⟩
theorem Lg (z:bw X) (M:Js X K) (d:∀a∈X.tabs,a<X.h₀.objs.size) (g:X.h₀.NoLimit) (q:cStatics∉X.tabs) (t:Lb X K T) (B:Cf X r n):Cf X (apply T r) (n+1):=by
 refine⟨λA v w h s i f N u vs ys hv k res e Q x=> ?_,λw h s i f N u vs k res e=> ?_,λA v w h s i a vs ys hv k res e Q x=>Ld z d g q t B v i hv e x⟩
 .induction u using Mine.VR.casesOn with
  |fn a=>exact RV.call (Ld z d g q t B v i hv e x)
  |cls C=>exact RV.call (Tt z M B (λf u=>t.cls C f u) v i hv e x)
  |bi m=>exact t.bi m _ A v w h s i vs ys hv k res e Q x
  |lam j a o fd c O ht D E y F G p hl=>
   have e:V1 T r j vs h k=af res:=e;refine aL (bC e) λL e P=>dM (bC e) λl I e=> ?_;obtain⟨b,names,J,hb,R⟩:=t.lam j L P;exact RV.call (Tw z d g q (R fd hl r n B) hb D E y p v i hv I e x)
  |_=>exact fn e
 .induction u using Mine.VR.casesOn with
  |fn a=>exact Le i t e
  |cls C=>
   have e:SO T r C vs h k=af res:=e;exact aL (bC e) λf e u=>aL (t.cls C f u) λS c hF=>La hF i c
  |bi m=>exact tO _ (wg m) _
  |lam j a o fd c O ht D E y F G p hl=>exact xX D E
  |_=>exact fn e
theorem Ow (e:bw X) (f:Js X K) (b:∀a∈X.tabs,a<X.h₀.objs.size) (c:X.h₀.NoLimit) (d:cStatics∉X.tabs) (g:Lb X K T):∀n,Cf X (run T n) n:=by
 intro n
 induction n with
 |zero=>
  exact Lf _
 |succ n i=>
  exact Lg e f b c d g i
end
structure Vp (X:dw) (g:Heap) (w:Wd) (n:Nat) (p:V×V) (q:Value×Value):Prop where
 key:VR X g w n p.1 q.1
 val:VR X g w n p.2 q.2
def Wt (X:dw) (w:Wd) (m:Nat) (s:Shared) (k:List (V×V)->H->Option Res) (res:Res) (Q:List (Value×Value)->Shared->Prop):Prop:=
 ∀w' h' s' vs ys,St X w' h' s'->Ext X cV w m s w' h'.n s'->iR (Vp X s'.heap w' h'.n) vs ys->k vs h'=af res->Q ys s'
def R2 (X:dw) (r:Ap) (n b:Nat) (ns:List (Str×aN)) (l:XP) (ks:List (Option Expr)) (es:List Expr):Prop:=
 ∀A,fL n b A->∀env ρ w h s,St X w h s->eW X env ns ρ w h.n s->∀k res,l.f r ρ h k=af res->∀pos (Q:List (Value×Value)->Shared->Prop),Wt X w h.n s k res Q->cG (model X.prog X.w) A (evalPairs (pairTrees ks es env pos)) Q (λU U=>False) s
section
variable {X:dw} {r:Ap} {n b:Nat} {ns:List (Str×aN)} {w:Wd} {h:H} {s:Shared}
theorem Vp.mono (k:oV X g w n g' w' n') (x:Vp X g w n p q):Vp X g' w' n' p q:=⟨x.key.mono k,x.val.mono k⟩
theorem R2.nil:R2 X r n b ns VS [] []:=λA d env ρ w h s a he k res e pos Q c=>eT (evalPairs_nil (c w h s [] [] a .refl .nil e))
theorem Tz
 (h:cG (model prog ww) A (eval k env) (λl c=>cG (model prog ww) A (eval v env) (λm d=>cG (model prog ww) A (evalPairs (pairTrees ks vs env pos)) (λr f=>Q ((l,m)::r) f) E d) E c) E s):
 cG (model prog ww) A (evalPairs (pairTrees (some k::ks) (v::vs) env pos)) Q E s:=ay (aW h (λa a g=>ay (bh (ay (aW g (λa a i=>ay (bG (aO (ay (bh (aW i (λa a j=>aO j) λa a e=>e)))))) λa a e=>e)))) λa a e=>e)
theorem Wu
 (a:keys.all (·.isSome)=ao) (hl:keys.length=values.length) (l:keys≠[]) (f:keys.length<=15)
 (h:cG (model prog ww) A (evalPairs (pairTrees keys values env pos)) (λvs c=>cG (model prog ww) A (sj s.heap.objs.size vs) (λg d=>Q (.ref s.heap.objs.size) d) E c) E
  {s with heap:=s.heap.push {cls:= .type "dict",data:= .dict #[]}}):
 cG (model prog ww) A (eval (.Dict keys values pos) env) Q E s:=by
 have hn:=pairTrees_length keys values env pos a hl;have k:pairTrees keys values env pos≠[]:=by
  intro he;rw [he] at hn;exact l (iH.mp hn.symm)
 rw [arm_eval_Dict,zip_pairTrees keys values env pos a hl,dictDisplay_pairs _ k (by refine cR hn ?_;lia)];refine ay (bG (ay (Nv wpAny_alloc (ay (bh ?_)))));rw [if_pos (cR hn f)];refine ay (aW h (λvs c i=> ?_) λg g e=>e);exact bh (ay (aW i (λg d j=>aO (aO (aO j))) λg g e=>e))
theorem R2.cons (t:cQ X r n b ns a k) (z:cQ X r n b ns c v) (hl:R2 X r n b ns l ks es):R2 X r n b ns (RH a c l) (some k::ks) (v::es):=by
 intro A d env ρ w h s B he O res e pos Q C;exact Tz (t A d env ρ w h s B he _ res e _ λD h1 E u x f g hu F=>z A d env ρ D h1 E f (he.ext g) _ res F _ λG h2 I P y i j m J=>hl A d env ρ G h2 I i ((he.ext g).ext j) _ res J pos _ λK L M vs ys o p q N=>C K L M _ _ o ((g.trans j).trans p) (.cons ⟨(hu.mono j.dW).mono p.dW,m.mono p.dW⟩ q) N)
theorem GJ (m:bw X) (f:St X w h s) (hu:VR X s.heap w h.n u x) (hv:VR X s.heap w h.n v y) (e:De (bP i) u v h k=af res) (p:A.units<cLine)
 (q:∀h' s',St X w h' s'->h'.n=h.n->Ext X cV w h.n s w h.n s'->k di h'=af res->Q () s'):wpAny (model X.prog X.w) A (dictSet (w.ρ i) x y) Q (λg g=>False) s:=by
 refine dD (dj e) λo e g j=>aC (dK e) λe t=> ?_
 induction (f.rep _ o j).2 using Mine.Rep.casesOn with
 |dict z C ep D E hn F G l=>
  exact aL (bC e) λd e B=>aC (dK e) λe hz=>Ff m f j hu hv B (qX hz) p λs' a c=>q _ s' a rfl c e
 |_=>exact nn (aH t) rfl
theorem DS (g:bw X) (j:A.units<cLine):∀{vs} {ys} {h} {s},St X w h s->iR (Vp X s.heap w h.n) vs ys->vQ (bP i) vs h k=af res->∀{Q},
 (∀h' s',St X w h' s'->h'.n=h.n->Ext X cV w h.n s w h.n s'->k (bP i) h'=af res->Q ⟨⟩ s')->wpAny (model X.prog X.w) A (sj (w.ρ i) ys) Q (λa a=>False) s:=by
 intro vs
 induction vs with
 |nil=>
  intro _ h s c hv e Q d;cases hv;exact av (d h s c rfl .refl e)
 |cons p vs l=>
  intro _ h s c hv e Q d;cases hv with
  | @cons _ q _ ys hp hvs=>
   unfold sj;exact cR (dO ..) (aq (aq (GJ g c hp.key hp.val e j λh1 z m f a3 o=>av (l m (f▸hvs.mono λa a=>Vp.mono a3.dW) o λh2 t u v x y=>d h2 t u (v.trans f) (a3.trans (f▸x)) y))))
theorem zk:∀{ks:List (Option Expr)} {d:List Expr},lT ks d=ao->ks.all (·.isSome)=ao/\ks.length=d.length
 |[],[],_=>⟨rfl,rfl⟩
 |[],_::_,h=>ff h
 |_::_,[],h=>by
  rename_i k ks;rcases k<;>exact ff h
 |k::ks,e::d,h=>by
  induction k using zO with
  |none=>exact ff h
  |some k=>
   exact f7 (zk (show lT ks d=ao from h)) λa c=>⟨by exact a,by exact(λ{a b}=>Iff.mpr Nat.succ_inj) c⟩
theorem cQ.dict (ax:bw X) pos (hall:lT ks es=ao) (hlen:ks.length<=15) (hl:R2 X r n b ns l ks es):cQ X r n b ns (JN l) (.Dict ks es pos):=by
 intro A hA env ρ w h s hs he k res e Q hQ;refine f7 (zk hall) λh1 h2=> ?_;have hc:=hA.c (k:=0) rfl;refine jz (hs.push ax (cJ #[] 0) (dZ [] 0) s.toks rfl 0 λw' k h1 h2 h3=> .dict [] #[] 0 h1 h2 (of_decide_eq_true rfl) ⟨.nil,⟨0,λp hp=>(aU hp).elim⟩,iF⟩ 0 (cR h3 rfl)) λw' a1 a2 a3=> ?_;have go:=hl A hA env ρ w' _ _ a1 (he.ext a2) _ res e pos (λys s'=>cG (model X.prog X.w) A (sj s.heap.objs.size ys) (λU s''=>Q (.ref s.heap.objs.size) s'') (λU U=>False) s') λw2 h2 s2 vs ys b1 b2 b3 e2=> ?_
 .induction hk:ks using zL with
  |nil=>
   subst hk;exact cR (iH.mp h2.symm) (λΓ p hΓ hc=>wpAny_Dict_empty (go Γ p hΓ hc Γ p hΓ hc) Γ p hΓ)
  |cons a ks'=>
   exact cL hk (Wu h1 h2 (cR hk (λq=>(by injection q))) hlen go)
 .have Zt:=(b2.ρ h.n (bN _)).trans a3;exact cL Zt (eT<|DS ax hc b1 b3 e2 λh3 s3 c1 c2 c3 e3=>hQ w2 h3 s3 _ _ c1 (c2.symm▸((a2.trans b2).trans c3)) (cR c2 (.ref h.n (aQ (bN _) b2.oi))) e3)
end
section
variable {X:dw} {w:Wd} {h:H} {s:Shared} {A:Around}
theorem DU (c:(d==k9)=aj) (a:s.heap.get? d=af (cJ es ep))
 (e:Q (.ref s.heap.objs.size) {s with heap:=s.heap.push {cls:= .type "dict_keyiterator",data:= .fields #[.ref d,.int 0 0,.int es.size 0,.int ep 0]}}):wpAny (model X.prog X.w) A (pyIter (.ref d)) Q E s:=by
 have b:s.TypeIs (.ref d) "dict":=bW _ a rfl;have f:j7 d=pure ():=by unfold j7;refine cR c ?_;rfl
 refine wpAny_pyIter_slot b Aq (bH Aq b F.entry_dict_iter ?_ (F.args_dict_iter_1 _));refine(?_:wpAny _ _ ((Builtin.Dict.notOrdered "__iter__" ⟨[.ref d],[]⟩>>=λg=>pure (ic d))>>=_) _ _ s);refine aq (aq (m7 b (av ((?_:wpAny _ _ (j7 d>>=_) _ _ s)))));exact cR f (bp (aq (gI a rfl (aq (t7 a rfl (aq (dY (av ⟨_,rfl,"dict_keyiterator",_,(bW _ (aJ _ rfl) rfl),n8.lookup,e⟩))))))))
theorem St.one (f:bw X) (d:St X w h s) (c:∀a∈X.tabs,a<X.h₀.objs.size) ob t (g:oV X s.heap w h.n (s.heap.push ob) w h.n->SrcR X (s.heap.push ob) w h.n s.heap.objs.size a):
 ∃S,St X w h {s with heap:=s.heap.push ob,toks:=t}/\Ext X cV w h.n s w h.n {s with heap:=s.heap.push ob,toks:=t}/\Ak X (s.heap.push ob) w h.n S (.ref s.heap.objs.size) (gc a)/\∀b,S b->s.heap.objs.size<=b:=by
 refine aC (d.junk f ob t) λe i=>qG (λb=>b=s.heap.objs.size) i e ⟨λb hb=> ?_,.one _ _ (λb=>Iff.rfl) (g e.dW)⟩ (λb hb=>cX hb.symm);subst hb;exact iU (lZ d (bu _)) d.size (λhm=>absurd (c _ hm) (bD.mpr d.size))
theorem H8 (r:bw X) (m:10<=X.h₀.objs.size) (d:∀a∈X.tabs,a<X.h₀.objs.size) (j:St X w h s) (hv:VR X s.heap w h.n v y) (e:JF v h k=af res)
 (u:∀s' S I F,St X w h s'->Ext X cV w h.n s w h.n s'->Ak X s'.heap w h.n S I F->(∀b,S b->s.heap.objs.size<=b)->F.t=0->k F h=af res->Q I s'):wpAny (model X.prog X.w) A (pyIter y) Q (λp p=>False) s:=by
 have e:(ah (ah (ah
  (look v h λo h=>ah (ah au (k (gc (rO v.n (len o.kvs) 0 o.c)) h) (ak o.t 2)) (k (gc (gm v.n 0)) h) (ak o.t 1))
  (k (gc (dQ (lY (λc=>vStr [c]) v.l))) h) (ak v.t 3)) (k (gc (dQ (lY aX v.l))) h) (ak v.t 4)) (k (gc (dQ v.xs)) h) (ak v.t 5):Option Res)=af res:=e
 refine su e (λK e=> ?_) λp e=>su e (λL e=> ?_) λp e=>su e (λM e=> ?_) λp e=> ?_
 .refine fF (hv.g6 (aH K)) λt items ep x q D ht hn z=>cR q (ly (items:=items) (f9 _ x rfl _ rfl) (qI (j.one r d {cls:= .type "tuple_iterator",data:= .fields #[.ref t,.int 0 0]} s.toks (a:=dQ v.xs) λE=> .tup t items ep 0 D ht (az _ x) (f5 _ (aJ _ rfl) rfl rfl) v.xs (z.mono E)) λS f g a3 i=> ?_));exact u _ S _ _ g f a3 i rfl e
 .refine ou (hv.jI (aH L)) λb t l q hn=> ?_;rw [l,p5,jE] at e;refine cR q (KBw.pyIter_bytes (pq (j.one r d {cls:= .type "bytes_iterator",data:= .fields #[.bytes b t,.int 0 0]} s.toks (a:=dQ ((b.toList.drop 0).map λc=>aX c.toNat)) λE=> .bytes b t 0 (f5 _ (aJ _ rfl) rfl rfl)) λS a3 g f i=> ?_));exact u _ S _ _ g f a3 i rfl e
 .refine aL (hv.p6 (aH M)) λt hn q=> ?_;rw [p5] at e;refine cR q ?_
  induction J:(⟨v.l.toArray⟩:Str).cps.all (·<128) using zB with
  |true=>
   refine wpAny_pyIter_ascii J (pq (j.one r d {cls:= .type "str_ascii_iterator",data:= .fields #[.str ⟨v.l.toArray⟩ t,.int 0 0]} s.toks (a:=dQ (((⟨v.l.toArray⟩:Str).cps.toList.drop 0).map λc=>vStr [c])) λE=> .Ci _ t 0 (f5 _ (aJ _ rfl) rfl rfl)) λS a3 g f i=> ?_);exact u _ S _ _ g f a3 i rfl e
  |false=>
   refine wpAny_pyIter_wide J (pq (j.one r d {cls:= .type "str_iterator",data:= .fields #[.str ⟨v.l.toArray⟩ t,.int 0 0]} s.toks (a:=dQ (((⟨v.l.toArray⟩:Str).cps.toList.drop 0).map λc=>vStr [c])) λE=> .Cj _ t 0 (f5 _ (aJ _ rfl) rfl rfl)) λS a3 g f i=> ?_);exact u _ S _ _ g f a3 i rfl e
 refine dD (dj e) λo e N O=> ?_;have B:=(j.rep _ o O).2;refine f7 (hv.er N) λhy hi=>cR hy (su e (λh1 e=> ?_) λp e=> ?_)
 .refine jH (B.lV (aH h1)) λitems ep x D hn z=>iD (items:=items) (f9 _ x rfl _ rfl) (pq (j.one r d {cls:= .type "list_iterator",data:= .fields #[.ref (w.ρ v.n),.int 0 0]} s.toks (a:=gm v.n 0) λp=> .list v.n 0 hi (f5 _ (aJ _ rfl) rfl rfl)) λS a3 g f i=> ?_);exact u _ S _ _ g f a3 i rfl e
 .refine aC (dK e) λe h2=>iV (B.kI (aH h2)) λG ep C D x hn P=> ?_;rw [len_eq,P.all.length,aM] at e;refine DU (jJ j m D) x (pq (j.one r d {cls:= .type "dict_keyiterator",data:= .fields #[.ref (w.ρ v.n),.int 0 0,.int G.size 0,.int ep 0]} s.toks (a:=rO v.n G.size 0 o.c) λp=> .keys v.n G.size 0 o.c hi (f5 _ (aJ _ rfl) rfl (cR C rfl))) λS a3 g f i=> ?_);exact u _ S _ _ g f a3 i rfl e
theorem AB.e (ax:bw X) (hbase:10<=X.h₀.objs.size) (htab:∀a∈X.tabs,a<X.h₀.objs.size) (ha:cQ X r n b ns a x) tp:AB X r n b ns tp (iE a) x:=by
 intro A hA env ρ w h s hs he k res e Q hQ;exact ha A hA env ρ w h s hs he _ res e _ λw1 h1 s1 v y hs1 x1 hv e1=>eT<|H8 ax hbase htab hs1 hv e1 λs2 S iv it a1 a2 a3 a4 a5 e2=>hQ w1 h1 s2 S iv it a1 (x1.trans a2) a3 (λb hb=>aI x1.size (a4 b hb)) (.inl a5) (λq=>by rw [a5] at q;exact nn q rfl) e2
end
theorem DV n (a c):vM (n+1) a c=mj a::vM n (a+c) c:=rfl
theorem Lh (n a):NI (n+1) a=aX a::NI n (a+1):=rfl
theorem Bb X:∀n a c,oX X c (vM n a c) a/\(vM n a c).length=n:=by
 intro n
 induction n with
 |zero=>
  intro a c;exact⟨.nil a,rfl⟩
 |succ n b=>
  intro a c;exact f7 (b (a+c) c) λh1 h2=>cR (DV ..) (⟨.cons _ _ _ (λg w n t=> .mj a t) h1,by simp [h2]⟩)
theorem TF X:∀n a,oX X 1 (NI n a) (a:Int)/\(NI n a).length=n:=by
 intro n
 induction n with
 |zero=>
  intro a;exact⟨.nil _,rfl⟩
 |succ n b=>
  intro a;exact f7 (b (a+1)) λh1 h2=>cR (Lh ..) (⟨.cons _ _ _ (λg w n t=> .nat a t) (by simpa using h1),by simp [h2]⟩)
theorem DW (a:0<c):((x+c).fdiv c).toNat=(if 0<=x then x/c+1 else 0:Int).toNat:=by
 refine cR (oQ _ (Int.le_of_lt a)) (cR (congrArg (x+ ·) (Int.one_mul c).symm) (cR (Int.add_mul_ediv_right _ _ (Int.ne_of_gt a)) ?_));split
 .rfl
 .rename_i h;have:x/c<0:=Int.ediv_neg_of_neg_of_pos (Int.lt_of_not_ge h) a;refine cR (Int.toNat_of_nonpos this) ?_;rfl
theorem pI:0<=cN a b c:=by
 refine(?_:0<=(if 0<c then(if a<b then(b-a-1)/c+1 else 0) else(if b<a then(a-b-1)/(-c)+1 else 0)));by_cases d:0<c
 .refine cR (if_pos d) ?_;by_cases q:a<b
  .exact cR (if_pos q) (Int.le_add_one (Int.ediv_nonneg (Jw q) (Int.le_of_lt d)))
  .exact cR (if_neg q) (Int.le_refl 0)
 .refine cR (if_neg d) ?_;by_cases q:b<a
  .exact cR (if_pos q) (Int.le_add_one (Int.ediv_nonneg (Jw q) (Int.neg_nonneg_of_nonpos (ko.mp d))))
  .exact cR (if_neg q) (Int.le_refl 0)
theorem Bc (hc:c≠0):(vN a b c:Int)=cN a b c:=by
 refine cL (Int.toNat_of_nonneg (pI (a:=a) (b:=b) (c:=c))) (congrArg (λn:Nat=>(n:Int)) ?_);unfold vN cN;by_cases h:0<c
 .have e:=decide_eq_true h;refine cR e ((?_:((b-a+c-1).fdiv c).toNat=_));have e2:b-a+c-1=(b-a-1)+c:=Int.add_right_comm (b-a) c (-1);refine cR e2 (cR (DW h) (cR (if_pos h) ?_));by_cases hab:a<b
  .exact cR (if_pos hab) (cR (if_pos (Jw hab)) rfl)
  .exact cR (if_neg hab) (cR (if_neg λq=>hab (Rr q)) rfl)
 .have e:=decide_eq_false h;have hlt:=Int.lt_iff_le_and_ne.mpr ⟨ko.mp h,hc⟩;refine cR e (cR (decide_eq_true hlt) ((?_:((a-b-c-1).fdiv (-c)).toNat=_)));have e2:a-b-c-1=(a-b-1)+ -c:=Int.add_right_comm (a-b) (-c) (-1);refine cR e2 (cR (DW (Int.neg_pos_of_neg hlt)) (cR (if_neg (show ¬c>0 by exact h)) ?_));by_cases hab:a>b
  .exact cR (if_pos hab) (cR (if_pos (Jw hab)) rfl)
  .exact cR (if_neg hab) (cR (if_neg λq=>hab (Rr q)) rfl)
theorem Cq (e:a.natAbs<=1000000000000) (hb:b.natAbs<=1000000000000):cN a b c<=2000000000000:=by
 have d:∀x y z:Int,z.natAbs<=1000000000000->x.natAbs<=1000000000000->x<z->(z-x-1)/y+1<=2000000000000:=λx y z hz hx h=>s9 (eg (Int.ediv_le_self y (Jw h)) (tn (Int.sub_le_sub (nab hz).2 (nab hx).1) 1)) 1;refine(?_:(if 0<c then(if a<b then(b-a-1)/c+1 else 0) else(if b<a then(a-b-1)/(-c)+1 else 0))<=_);by_cases f:0<c
 .refine cR (if_pos f) ?_;by_cases q:a<b
  .exact cR (if_pos q) (d _ _ _ hb e q)
  .exact cR (if_neg q) (by decide)
 .refine cR (if_neg f) ?_;by_cases q:b<a
  .exact cR (if_pos q) (d _ _ _ e hb q)
  .exact cR (if_neg q) (by decide)
theorem fits (h: -9000000000000<=x) (h':x<=9000000000000):t9 x=true:=cO.mpr ⟨decide_eq_true (eg (by decide) h),decide_eq_true (vF h' (by decide))⟩
theorem Li (h:x.natAbs<=1000000000000):t9 x=true:=fits (eg (by decide) (nab h).1) (eg (nab h).2 (by decide))
theorem w9 (e:a.natAbs<=1000000000000) (hb:b.natAbs<=1000000000000) (d:c.natAbs<=1000000000000):pV a b c=true:=by
 unfold pV;refine cR (Li e) (cR (Li hb) (cR (Li d) (cR (fits (eg (by decide) pI) (eg (Cq e hb) (by decide))) (cD.mpr (.inr (Hv (λf=> ?_) λf=> ?_))))))
 .exact fits (eg (by decide) (tu (nab hb).1 (tn (nab d).1 1))) (eg (tu (nab hb).2 (tn (nab d).2 1)) (by decide))
 .exact fits (eg (by decide) (tu (nab hb).1 (s9 (nab d).1 1))) (eg (tu (nab hb).2 (s9 (nab d).2 1)) (by decide))
section
variable {X:dw} {w:Wd} {n:Nat} {g:Heap}
theorem Cr v:(dS v).natAbs=v.n:=by
 unfold dS
 induction ak v.s 0 using zB with
 |true=>exact Int.natAbs_natCast v.n
 |false=>show(Int.negOfNat v.n).natAbs=v.n;rcases v.n<;>rfl
theorem ng (h:small v=ao):(dS v).natAbs<=1000000000000:=cR (Cr ..) (aA h)
structure wh (X:dw) (ys:List Value) (l:List V) (a b c:Int):Prop where
 ha:a.natAbs<=1000000000000
 hb:b.natAbs<=1000000000000
 hc:c.natAbs<=1000000000000
 ne:c≠0
 val:oX X c l a
 len:(l.length:Int)=cN a b c
 args:(∃u,ys=[.int b u]/\a=0/\c=1)\/(∃t u,ys=[.int a t,.int b u]/\c=1)\/∃t u v,ys=[.int a t,.int b u,.int c v]
theorem zl (e:xK u v=af l):ak u.t 2=ao/\ak v.t 2=ao/\small u=ao/\small v=ao/\oX X 1 l (dS u)/\(l.length:Int)=cN (dS u) (dS v) 1:=by
 refine aC (dK e) λe h1=>aC (dK e) λe h2=>aC (dK e) λe f=>aC (dK e) λe i=>AY h1 h2 f i ?_
 induction a:ak (aG u.s v.s) 0 using zB with
 |true=>
  rw [a] at e;have e:=e;injection e with e;subst e
  have d:=aH a;have hu:dS u=(u.n:Int):=by unfold dS;refine cR (show u.s=0 by exact Nat.eq_zero_of_add_eq_zero_right d) ?_;rfl
  have hv:dS v=(v.n:Int):=by unfold dS;refine cR (show v.s=0 by exact Nat.eq_zero_of_add_eq_zero_left d) ?_;rfl
  refine f7 (TF X (fm v.n u.n) u.n) λb c=>cR hu (cR hv (⟨b,(cR c ?_)⟩));unfold cN;refine cR (if_pos (Int.one_pos)) ((?_:((v.n-u.n:Nat):Int)=_));by_cases q:(u.n:Int)<v.n
  .exact(cR (if_pos q) (cR (Int.ediv_one _) (cR (Int.sub_add_cancel _ _) (Int.ofNat_sub (gM (Int.ofNat_lt.mp q))))))
  .exact(cR (if_neg q) (congrArg aZ (mh (qz.mp (ko.mp q)))))
 |false=>
  rw [a] at e;have e:=e;injection e with e;subst e
  exact aC (Bb X (vN (dS u) (dS v) 1) (dS u) 1) λc b=>⟨b,by refine cR c ?_;exact Bc (rK Int.zero_ne_one)⟩
theorem H9 (hu:VR X g w n u y) (hz:VR X g w n v z) (hx:VR X g w n x z') (e:JC u v x=af l):∃a b c,wh X [y,z,z'] l a b c:=by
 refine aC (dK e) λe h1=>aC (dK e) λe h2=>aC (dK e) λe m=>aC (dK e) λe o=>aC (dK e) λe p=>aC (dK e) λe r=>fB (hu.cS h1) λt B=>fB (hz.cS h2) λC D=>fB (hx.cS m) λf E=> ?_
 induction i:ak x.n 0 using zB with
 |true=>rw [i] at e;exact fn e
 |false=>
  rw [i] at e;have d:dS x≠0:=λq=>fS i (cL (Cr ..) (cR q rfl));refine aC (Bb X (vN (dS u) (dS v) (dS x)) (dS u) (dS x)) λj k=> ?_;rw [(aF e)] at k j;exact⟨dS u,dS v,dS x,ng o,ng p,ng r,d,k,by refine cR j ?_;exact Bc d,.inr (.inr ⟨t,C,f,by exact cR B (cR D (cR E rfl))⟩)⟩
theorem zm (hv:ef X g w n vs ys) (e:xM vs=af l):∃a b c,wh X ys l a b c:=by
 induction vs using zL with
 |nil=>exact fn e
 |cons u j=>
  induction j using zL with
  |nil=>
   exact dM hv.tC λy q hu=>yq (zl (X:=X) (show xK (aX 0) u=af l from e)) λd k h2 k f i=>fB (hu.cS h2) λt e=>⟨0,dS u,1,by decide,ng f,by decide,by exact rK Int.zero_ne_one,i,d,.inl (f5 t (e▸q) rfl rfl)⟩
  |cons v m=>
   induction m using zL with
   |nil=>
    exact vK hv.vX λy z q hu hz=>yq (zl (X:=X) e) λd h1 h2 o f i=>fB (hu.cS h1) λt e=>fB (hz.cS h2) λp r=>⟨dS u,dS v,1,ng o,ng f,by exact aA rfl,by exact rK Int.zero_ne_one,i,d,.inr (.inl (nv t p (e▸r▸q) rfl))⟩
   |cons x B=>
    induction B using zL with
    |nil=>
     exact ku hv.cons_of λy E C q hu=>vK C.vX λz F D hz hx=>cR q (cR D (H9 hu hz hx e))
    |cons=>exact fn e
end
section
variable {X:dw} {w:Wd} {h:H} {s:Shared} {A:Around}
theorem Lj (j:bw X) (i:∀a∈X.tabs,a<X.h₀.objs.size) (o:St X w h s) (hv:ef X s.heap w h.n vs ys) (e:xM vs=af l)
 (p:∀s' S k,St X w h s'->Ext X cV w h.n s w h.n s'->Ak X s'.heap w h.n S k (gc (dQ l))->(∀b,S b->s.heap.objs.size<=b)->Q k s'):
 wpAny (model X.prog X.w) A (call (.type "range") ys) (λq r=>wpAny (model X.prog X.w) A (pyIter q) Q (λf f=>False) r) (λf f=>False) s:=by
 refine Vx (zm hv e) λa b c R=> ?_;have d:∀t u v tk,wpAny (model X.prog X.w) A (pyIter (.ref s.heap.objs.size)) Q (λf f=>False) {s with heap:=s.heap.push {cls:= .type "range",data:= .fields #[.int a t,.int b u,.int c v]},toks:=tk}:=by
  intro t u v tk;refine aC (o.junk j {cls:= .type "range",data:= .fields #[.int a t,.int b u,.int c v]} tk) λx y=>wpAny_pyIter_range (IsRange.new s.heap a b c t u v) (w9 R.ha R.hb R.hc) ?_;refine qI (y.one j i {cls:= .type "range_iterator",data:= .fields #[rawInt a,rawInt (cN a b c),rawInt c]} tk (a:=dQ l) λf=> .range a c l R.val (by
   refine cR R.len ?_;exact aJ _ rfl)) λS z B C D=> ?_
  exact p _ S _ B (x.trans z) C λb hb=>aI (by show s.heap.objs.size<=(s.heap.push _).objs.size;refine cR (bJ ..) ?_;exact gU _) (D b hb)
 rcases R.args with⟨u,rfl,rfl,rfl⟩|⟨t,u,rfl,rfl⟩|⟨t,u,v,rfl⟩
 .exact call_range_1 (d _ _ _ _)
 .exact call_range_2 (d _ _ _ _)
 .refine call_range_3 R.ne (d _ _ _ _) (.inl (oO ?_));by_cases m:c.natAbs=0
  .refine cR m ?_;decide+kernel
  .have:c.natAbs.log2<64:=(Nat.log2_lt m).mpr (iX R.hc (of_decide_eq_true rfl));lia
end
section
variable {X:dw} {r:Ap} {n b:Nat} {ns:List (Str×aN)} {G:Str->Option V}
theorem Bd (e:jO G ns m fe=ao):∃x p v,fe= .Name x p/\bg x=ao/\bf (nm x) ns=af .globalImplicit/\G x=af v/\v.t=9/\v.n=m:=by
 unfold jO at e
 induction hb:SM G ns fe using zO with
 |none=>rw [hb] at e;exact ff e
 |some j=>
  rw [hb] at e;refine cL (aH e) ?_;unfold SM at hb;refine ny (RS hb) λx p hb he=> ?_
  induction hx:bg x using zB with
  |false=>rw [hx] at hb;exact fn hb
  |true=>
   induction hk:bf (nm x) ns using zO with
   |none=>rw [hx,hk] at hb;exact fn hb
   |some k=>
    rw [hx,hk] at hb
    induction k using dN with
    |globalImplicit=>
     induction hv:G x using zO with
     |none=>rw [hv] at hb;exact fn hb
     |some v=>
      rw [hv] at hb;exact f7 (dK hb) λa hb=>⟨x,p,v,he,hx,hk,hv,aH a,aF hb⟩
    |_=>exact fn hb
theorem Lk (d:jQ X G) (e:jO G ns m fe=ao) (f:fL n b A) (g:St X w h s) (he:eW X env ns ρ w h.n s)
 (i:∀c s',St X c h s'->Ext X cV w h.n s c h.n s'->Q (oE m) s'):cG (model X.prog X.w) A (eval fe env) Q (λa a=>False) s:=by
 obtain⟨x,p,v,rfl,hx,hk,j,k,hm⟩:=Bd e;refine cQ.glob (r:=λa a a a=>au) (n:=n) (b:=b) d x p hx hk v j A f env ρ w h s g he (λu h'=>af ⟨ρ,u,h'⟩) ⟨ρ,v,h⟩ rfl Q λc h' s' u y l o a3 q=> ?_;cases q;have hy:y=oE m:=by
  refine cL hm ?_
  induction a3 using Mine.VR.casesOn<;>first|rfl|exact nn k rfl
 exact cR hy (i c s' l o)
theorem DX (a:∀o m p,fe≠.Attribute o m p):eval (.Call fe args [] pos) env=(do callWith pos (<-eval fe env) [] (backTo pos (starEach args env)) []):=by
 rcases fe<;>first|rfl|exact absurd rfl (a _ _ _)
theorem GK (e:jO G ns m fe=ao):∀o a p,fe≠.Attribute o a p:=by
 obtain⟨x,p,v,rfl,_⟩:=Bd e;exact λc c c q=>(by injection q)
theorem qc (i:jQ X G) (e:jO G ns m fe=ao) (hl:Ay X r n b ns l args) (a:args.any br=aj) (d:fL n b A) (j:St X w h s) (he:eW X env ns ρ w h.n s) pos
 (o:l.f r ρ h k=af res) (p:Kv X w h.n s k res (λys s'=>cG (model X.prog X.w) A (call (oE m) ys) Q (λc c=>False) s')):
 cG (model X.prog X.w) A (eval (.Call fe args [] pos) env) Q (λc c=>False) s:=cR (DX (GK e)) (ay (Lk i e d j he λB C q g=>(DI (first:=[]) hl a d q (he.ext g) pos o λt h2 u vs ys v x y z=>⟨tO _ (wg m) _,(p t h2 u vs ys v (g.trans x) y z)⟩)))
theorem AB.range (j:bw X) (c:∀a∈X.tabs,a<X.h₀.objs.size) (m:jQ X G) (o:jO G ns 1 fe=ao) (hl:Ay X r n b ns l args) (d:args.any br=aj) tp pos:AB X r n b ns tp (EU l) (.Call fe args [] pos):=by
 intro A p env ρ w h s t he k res e Q u;refine qc m o hl d p t he pos e λv h2 L vs ys y i z B=>aL (bC B) λM C D=>aW (eT (Lj j c y z D (Q:=Q) λE S F H I J K=> ?_)) (λg g q=>eT q) λg g f=>f;exact u v h2 E S F _ H (i.trans I) J (λx hx=>aI i.size (K x hx)) (.inl rfl) (λq=>nn q rfl) C
theorem AB.zip (T:bw X) (W:jQ X G) (Y:jO G ns 9 fe=ao) (C:cQ X r n b ns a x) (hc:cQ X r n b ns c y) (p:[x,y].any br=aj) pos:AB X r n b ns ao (VW a c) (.Call fe [x,y] [] pos):=by
 intro A hA env ρ w h s hs he k res e Q hQ;have D:br x=aj/\br y=false:=by
  simp only [gg,List.any_nil,pP,jv] at p;exact p
 have e:(dR a (dR c j9)).f r ρ h (λvs h=>match vs with
  |[x,y]=>gQ x h λm h=>gQ y h λm h=>new (EM x.n 0 y.n 0) h λz h=>look z h λo h=>ah au (k (yD z.n) h) (ak o.t 5)
  |_=>au)=af res:=e
 refine qc W Y (.cons D.1 C (.cons D.2 hc .nil)) p hA hs he pos e λF h2 d vs ys H b2 b3 j=>Hw (vX j) λu v B=> ?_;subst B;intro j;refine vK b3.vX λyu yv B=> ?_;subst B;intro hu hv;refine gO (fO j) λo1 j u6 I t1=>gO (fO j) λo2 j v6 J t2=>f7 (hu.er u6) λK L=>f7 (hv.er v6) λM N=>cR K (cR M (sO (H.listAt I t1) λi1 p1 g1 n1 m m=>sO (H.listAt J t2) λi2 p2 g2 n2 m m=> ?_));have j:look (bP h2.n) ⟨HT.ins (EM u.n 0 v.n 0) h2.l h2.n,h2.n+1⟩ (λo h=>ah au (k (yD h2.n) h) (ak o.t 5))=af res:=j;refine dD (dj j) λo j m ho=>aC (dK j) λj h5=>(?_:cG _ _ (call (.type "zip") _) _ _ _);refine eT<|call_zip_2 (xs:=i1) (ys:=i2) (f9 _ g1 rfl _ rfl) (f9 _ g2 rfl _ rfl) λh' O z2 z3 z4 z5 P z7=> ?_
 refine f7 (H.new T (o:=EM u.n 0 v.n 0) (b:=d.heap.objs.size+4) (own:=λa=>decide (d.heap.objs.size<=a)&&decide (a<d.heap.objs.size+5)) (by simp) (s':={d with heap:=h'}) (cR P (d8 (fG (jD (fR d))) 5))
  (λa C=>by
   simp only [aP,decide_eq_true_eq] at C;exact⟨C.1,by show _<h'.objs.size;refine cR P ?_;exact C.2⟩) (λa ob e=>z7 a ob e) rfl rfl 0 _ rfl
  (λR q1 E q3=>by
   refine .zip u.n 0 v.n 0 (d.heap.objs.size+2) (d.heap.objs.size+3) d.heap.objs.size (d.heap.objs.size+1) .none .none (cR E q1) (by simp) (by simp) (by simp) (by simp) (qF (Z.off_ne (fG (jD (fR d))) 2 3 rfl) (cR E (Z.off_ne (fG (jD (fR d))) 2 4 rfl)) (cR E (Z.off_ne (fG (jD (fR d))) 3 4 rfl)) (Nat.ne_add_one (fG (jD (fR d)))))
    (qF (cK L) (cK N) (cj L) (cj N)) (cR E O) z2 z3 (cR (R.ρ u.n L) z4) (cR (R.ρ v.n N) z5))) λc1 c2=> ?_
 refine eT<|wpAny_pyIter_zip (s:={d with heap:=h'}) O (hQ _ _ _ (λm=>False) _ (yD h2.n) c1 (b2.trans c2) ⟨λb hb=>hb.elim, ?_⟩ (λb hb=>hb.elim) (.inr rfl) (λm=>bW o ho (aH h5)) j)
 have:=GH.zip (X:=X) (g:=h') (w:=⟨λi=>if i=h2.n then d.heap.objs.size+4 else F.ρ i,λa=>if(decide (d.heap.objs.size<=a)&&decide (a<d.heap.objs.size+5))=ao then af h2.n else F.role a,λi=>if i=h2.n then 0 else F.ua i⟩) (n:=h2.n+1) (S:=λm=>False) h2.n (bN _) (λm q=>q);simpa using this
end
noncomputable abbrev xd (t:Addr):Obj:={cls:= .type "tuple_iterator",data:= .fields #[.ref t,.int 0 0]}
noncomputable abbrev rq (a:Addr):Obj:={cls:= .type "enumerate",data:= .fields #[.none,.bool aj,.ref a,rawInt 0,.none,.none]}
theorem Ll t items ep:
 Meets (Builtin.«enumerate.__new__» ⟨[.type "enumerate",.ref t],[]⟩) (λf R s=>s.heap.get? t=af (gf items ep)/\R (.ok (.ret (.ref (s.heap.push (xd t)).objs.size))) {s with heap:=(s.heap.push (xd t)).push (rq s.heap.objs.size)}):=
 .of_wp λprog w A R s h=>by
  obtain⟨hp,g,d,tk,os⟩:=s;refine aC h λh hl=> ?_;have a:=sub_enumerate;have c:Heap.IsTuple (fR ⟨hp,g,d,tk,os⟩) t items:=f9 _ hl rfl ep rfl;wp_walk using wpAny_loadPart' hl;refine wpAny_stack_any λi=>Kc λe=> ?_;rcases e<;>(wp_walk using wpAny_loadPart' hl,ly c;exact bW _ rfl h)
section
variable {X:dw} {r:Ap} {n b:Nat} {ns:List (Str×aN)} {G:Str->Option V} {w:Wd} {h:H} {s:Shared} {A:Around}
theorem AI {items} (hl:s.heap.get? t=af (gf items ep))
 (q:Q (.ref (s.heap.objs.size+1)) {s with heap:=(s.heap.push (xd t)).push (rq s.heap.objs.size)}):wpAny (model prog ww) A (call (.type "enumerate") [.ref t]) Q E s:=by
 refine callType_new F.called_enumerate rfl (F.typeCall_enumerate_1 _) (F.newCall_enumerate_1 _) (λobj=>uc obj _) F.entry_enumerate_new (Ll t items ep) ⟨hl, ?_⟩;have hz:(s.heap.push (xd t)).objs.size=s.heap.objs.size+1:=bJ ..;refine(?_:_/\_);refine cR hz (⟨(bW (rq s.heap.objs.size) ?_ rfl),q⟩);have:=aJ (s.heap.push (xd t)) (o:=rq s.heap.objs.size) rfl;rw [hz] at this;exact this
theorem AB.enum (C:bw X) (m:∀a∈X.tabs,a<X.h₀.objs.size) (L:jQ X G) (M:jO G ns 10 fe=ao) (N:cQ X r n b ns a x) (g:[x].any br=aj) pos:AB X r n b ns ao (RI a) (.Call fe [x] [] pos):=by
 intro A O env ρ w h s P he k res e Q R;have y:br x=false:=by
  simp only [gg,List.any_nil,pP] at g;exact g
 have e:(dR a j9).f r ρ h (λvs h=>match vs with
  |[x]=>ah au (k (vO 0 (dQ x.xs)) h) (ak x.t 5)
  |_=>au)=af res:=e
 refine qc L M (.cons y N .nil) g O P he pos e λD h2 d vs ys v E S p=>dM (tC p) λu j=> ?_;subst j;intro p;refine dM S.tC λyu j=> ?_;subst j;intro hu;refine aC (dK p) λp T=>fF (hu.g6 (aH T)) λt items ep F hy W ht hn z=>cR hy ((?_:cG _ _ (call (.type "enumerate") _) _ _ _));refine eT<|AI F (aC (v.junk C (xd t) d.toks) λI Y=>aC (Y.junk C (rq d.heap.objs.size) d.toks) λJ Z=> ?_)
 have K:((d.heap.push (xd t)).push (rq d.heap.objs.size)).get? (d.heap.objs.size+1)=af (rq d.heap.objs.size):=by
  have:=aJ (d.heap.push (xd t)) (o:=rq d.heap.objs.size) rfl;rw [(bJ ..)] at this;exact this
 refine eT<|wpAny_pyIter_enum (i:=0) (old:= .none) K ?_
 have own:∀c,(c=d.heap.objs.size+1\/c=d.heap.objs.size)->D.role c=au/\X.h₀.objs.size<=c/\c∉X.tabs:=λc B=>by
  have l:d.heap.objs.size<=c:=by rcases B with rfl|rfl<;>omega
  exact iU (lZ v l) (aI v.size l) (λhm=>absurd (m _ hm) (bD.mpr (aI v.size l)))
 refine R D h2 _ (λc=>c=d.heap.objs.size+1\/c=d.heap.objs.size) _ (vO 0 (dQ u.xs)) Z (E.trans (I.trans J)) ⟨own, ?_⟩ (λc B=> ?_) (.inr rfl) (λq=>nn q rfl) p
 .exact .enum (d.heap.objs.size+1) d.heap.objs.size 0 .none t items ep u.xs (λc=>Iff.rfl) (Nat.succ_ne_self _) K W ht (az _ (az _ F)) (f5 _ (az _ (aJ _ rfl)) rfl rfl) (by simpa using z.mono (I.trans J).dW)
 .have:=E.size;rcases B with rfl|rfl<;>omega
end
section
variable {X:dw} {r:Ap} {n b:Nat} {ns:List (Str×aN)} {G:Str->Option V} {w:Wd} {h:H} {s:Shared} {A:Around}
theorem rt {e} (h:kH e=aj):qA op e=false:=by
 rcases e<;>first|rfl|exact ft h
theorem TG {M} {l op₁ op₂ ops r₁ r₂ rs pos whole}
 (h:cG M A (eval l env) (λa s₁=>cG M A (testChain pos a (op₁::op₂::ops) (eval r₁ env::eval r₂ env::evalEach rs env)) Q E s₁) E s) (hm:lastMarks (op₁::op₂::ops) (r₁::r₂::rs)=aj):
 cG M A (isTrue (.Compare l (op₁::op₂::ops) (r₁::r₂::rs) pos) env whole) Q E s:=by
 refine(?_:cG M A (do testChain pos (<-eval l env) (op₁::op₂::ops) (markedEach (op₁::op₂::ops) (r₁::r₂::rs) (evalEach (r₁::r₂::rs) env))) Q E s);exact cR (markedEach_of_false _ _ _ hm) (ay h)
theorem Wv {M} {r o}
 (h:cG M A r (λb e=>cG M A (compareOp op a b) (λc f=>cG M A (truthy c) (λt d=>if t then cG M A (testChain pos b (i::ops) (o::rs)) Q E d else Q aj d) E f) E e) E s):
 cG M A (testChain pos a (op::i::ops) (r::o::rs)) Q E s:=by
 show cG M A (do
  let j<-holding [a] r
  standAt pos
  let c<-holding [a,j] (compareOp op a j)
  release [a,j] [c]
  if<-holding [c,j] (truthy c) then testChain pos j (i::ops) (o::rs) else pure aj) Q E s
 refine ay (bh (aW h (λb e k=>ay (bG (ay (bh (aW k (λc f l=>
  ay (eT (wpAny_release (ay (bh (aW l (λt d g=> ?_) λm m x=>x)))))) λm m x=>x))))) λm m x=>x))
 induction t using zB with
 |false=>exact aO g
 |true=>exact g
theorem Ww {M} {a} {r}
 (h:cG M A r (λb d=>cG M A (compareOp op a b) (λc e=>cG M A (truthy c) Q E e) E d) E s):cG M A (testChain pos a [op] [r]) Q E s:=by
 show cG M A (do
  let j<-holding [a] r
  standAt pos
  let c<-operate [a,j] (compareOp op a j)
  holding [c] (truthy c)) Q E s
 exact ay (bh (aW h (λb d f=>ay (bG (ay (oH (aW f (λc e g=>bh g) λi i x=>x))))) λi i x=>x))
theorem jX.Zw (hf:nK X b f op) (hg:nK X b g Zk) pos (h1:kH r1=aj) (h2:kH r2=aj) (hx:cQ X r n b ns x l) (hy:cQ X r n b ns y r1) (hz:cQ X r n b ns z r2):
 jX X r n b ns (RJ f g x y z) (.Compare l [op,Zk] [r1,r2] pos):=by
 intro A hA env ρ w h s hs he k res e Q hQ;refine TG (hx A hA env ρ w h s hs he _ res e _ λw1 h1 s1 u u' hs1 x1 hu e1=> ?_) (rt h2);refine Wv (hy A hA env ρ w1 h1 s1 hs1 (he.ext x1) _ res e1 _ λw2 h2 s2 v v' hs2 x2 hv e2=>(eT (hf A n hA w2 h2 s2 hs2 u v u' v' (hu.mono x2.dW) hv _ res e2 _ λw3 h3 s3 c Jt x3 e3=>(eT (gH ?_)))))
 induction c using zB with
 |false=>
  exact hQ w3 h3 s3 aj Jt ((x1.trans x2).trans x3) e3
 |true=>
  exact Ww (hz A hA env ρ w3 h3 s3 Jt (((he.ext x1).ext x2).ext x3) _ res e3 _ λw4 h4 s4 t t' Vl x4 ht e4=>(eT (hg A n hA w4 h4 s4 Vl v t v' t' ((hv.mono x3.dW).mono x4.dW) ht _ res e4 _ λw5 h5 s5 c Zx x5 e5=>(eT<|gH (hQ w5 h5 s5 c Zx ((((x1.trans x2).trans x3).trans x4).trans x5) e5)))))
theorem cQ.Zy i z (p pos):cQ X r n b ns (xC (mj (-i))) (.UnaryOp .USub (.Constant (.int i) z p) pos):=by
 intro A f env ρ w h s c he k res e Q d;have go:wpAny (model X.prog X.w) A (unaryOp .USub (.int i s.toks)) Q (λa a=>False) {s with toks:=s.toks+1}:=PyProof.Rows.neg_int ((d.ext rS).tok c.tok (VR.mj (-i) _) e);exact eT (wpAny_UnaryOp (λa a a=>go))
end
set_option backward.match.sparseCases false
structure l6 (X:dw) (K:Frag) (G:Str->Option V) (Ms:Nat->List (Nat×Nat)) (r:Ap) (n b:Nat):Prop where
 ax:bw X
 kx:Js X K
 gx:jQ X G
 hbase:10<=X.h₀.objs.size
 htab:∀a∈X.tabs,a<X.h₀.objs.size
 rk:Cf X r n
 mo:∀x,bg x=ao->Cg X K (Ms (nm x)) x
 om:∀x,bg x=ao->qm X b x (SJ (nm x))
 vm:∀x,bg x=ao->wW X b x (SK (nm x))
 fl:∀x,bg x=ao->∀c,find c (Ms (aG (cM (nm x) 128) 1))≠au->X.fld c x
 Ct:∀ns a x g g' p p',jO G ns 0 g=ao->jO G ns 7 g'=ao->br x=aj->cQ X r n b ns a x->cQ X r n b ns (BW a) (.Call g [.Call g' [x] [] p'] [] p)
 xY:∀ns a c x y g g' p p',jO G ns 6 g=ao->jO G ns 9 g'=ao->br x=aj->br y=aj->cQ X r n b ns a x->cQ X r n b ns c y->cQ X r n b ns (yF a c) (.Call g [.Call g' [x,y] [] p'] [] p)
 uT:∀ns o v l args m ap g p p',bg m=ao->nm m=nm "extend"->lS v=ao->ak ap.endLine p.line=ao->jO G ns 1 g=ao->args.any br=aj->cQ X r n b ns o v->Ay X r n b ns l args->
  cQ X r n b ns (vR o l) (.Call (.Attribute v m ap) [.Call g args [] p'] [] p)
section
variable {X:dw} {K:Frag} {G:Str->Option V} {Ms:Nat->List (Nat×Nat)} {r:Ap} {n b:Nat}
theorem Ol.bad x:Ol X r n b ns fk x:=λa a a a a a a a a a a e=>fn e
theorem jX.bad x:jX X r n b ns qN x:=λa a a a a a a a a a a e=>fn e
theorem tM.bad op x:tM X r n b ns op qN x:=λa a a a a a a a a a a e=>fn e
theorem nO.bad x:nO X r n b ns qN x:=λa a a a a a a a a a a e=>fn e
theorem AB.bad tp x:AB X r n b ns tp HA x:=λa a a a a a a a a a a e=>fn e
theorem qd (a:∀e,cQ X r n b ns (f e) e):∀{es},es.any br=aj->Ay X r n b ns (Gm f es) es:=by
 intro es
 induction es with
 |nil=>
  intro _;exact .nil
 |cons e es c=>
  intro h;rw [gg,jv] at h;exact .cons h.1 (a e) (c h.2)
theorem xe:∀{ks} {es},(∀e,af e∈ks->cQ X r n b ns (f e) e)->(∀e∈es,cQ X r n b ns (f e) e)->lT ks es=ao->R2 X r n b ns (mkPairs f ks es) ks es:=by
 intro ks
 induction ks with
 |nil=>
  intro es h1 h2 h
  induction es using zL with
  |nil=>exact .nil
  |cons=>exact ff h
 |cons k ks a=>
  intro es h1 h2 h
  induction es using zL with
  |nil=>induction k using zO<;>exact ff h
  |cons e es=>
   induction k using zO with
   |none=>exact ff h
   |some k=>exact .cons (h1 _ aE) (h2 _ aE) (a (λe he=>h1 e (aD _ he)) (λe he=>h2 e (aD _ he)) h)
theorem Fy (a:∀e,cQ X r n b ns (f e) e) (h:lT ks es=ao):R2 X r n b ns (mkPairs f ks es) ks es:=xe (λe c=>a e) (λe c=>a e) h
theorem DY {ns:List (Str×aN)} {f:Expr->XE} (a:∀e,cQ X r n b ns (f e) e):∀(o:Option Expr),Td X r n b ns (Gn f o) o
 |none=> .none
 |some e=> .some (a e)
theorem tQ:∀{e},inner G ns m e=af args->∃g p,e= .Call g args [] p/\jO G ns m g=ao/\args.any br=false:=by
 intro e h
 induction e using aR with
 |Call g as ks p=>
  induction ks using zL with
  |cons=>exact fn h
  |nil=>
   induction q:as.any br using zB with
   |true=>
    have e:inner G ns m (.Call g as [] p)=none:=by unfold inner;dsimp only;exact cR q rfl
    exact fn (e.symm.trans h)
   |false=>
    induction a:jO G ns m g using zB with
    |true=>
     have e:inner G ns m (.Call g as [] p)=af as:=by unfold inner;dsimp only;exact cR q (cR a rfl)
     have e:=aF (e.symm.trans h);exact jV g p (cR e rfl) a (e▸q)
    |false=>
     have e:inner G ns m (.Call g as [] p)=none:=by unfold inner;dsimp only;exact cR q (cR a rfl)
     exact fn (e.symm.trans h)
 |_=>exact fn h
theorem Wx (h:[x,y].any br=aj):br x=aj/\br y=false:=by
 simp only [gg,List.any_nil,pP,jv] at h;exact h
theorem Zz (h:[x].any br=aj):br x=false:=by
 simp only [gg,List.any_nil,pP] at h;exact h
theorem zo {P:α->Prop} (h:c=ao->P x) (h':c=aj->P y):P (k6 c y x):=by
 induction c using zB with
 |true=>exact h rfl
 |false=>exact h' rfl
theorem in1 {P:α->Prop} {f:Expr->α} (h:∀a,o=af [a]->P (f a)) (h':P y):P (match (generalizing:=false) o with|some [a]=>f a|_=>y):=by
 induction o using zO with
 |none=>exact h'
 |some l=>match l with
  |[a]=>exact h a rfl
  |[]|_::_::_=>exact h'
theorem inO {P:α->Prop} {f:List Expr->α} (h:∀a,o=af a->P (f a)) (h':P y):P (match (generalizing:=false) o with|some a=>f a|none=>y):=by
 induction o using zO with
 |none=>exact h'
 |some l=>exact h l rfl
theorem in2 {P:α->Prop} {f:Expr->Expr->α} (h:∀a b,o=af [a,b]->P (f a b)) (h':P y):P (match (generalizing:=false) o with|some [a,b]=>f a b|_=>y):=by
 induction o using zO with
 |none=>exact h'
 |some l=>match l with
  |[a,b]=>exact h a b rfl
  |[]|[_]|_::_::_::_=>exact h'
set_option smartUnfolding false in
theorem Ln (c:l6 X K G Ms r n b) (i:∀e,cQ X r n b ns (f e) e) pos (k:∀o m p,g≠.Attribute o m p) (j:args.any br=aj):cQ X r n b ns (RN G ns f g args) (.Call g args [] pos):=by
 have d:=cQ.call c.rk pos k j (i g) (qd i j)
 induction args using BL with
 |one a=>
  refine zo (P:=λx=>cQ X r n b ns x (.Call g [a] [] pos)) (λu=> ?_) λv=>zo (P:=λx=>cQ X r n b ns x (.Call g [a] [] pos)) (λw=> ?_) λv=>d
  .refine in1 (P:=λx=>cQ X r n b ns x (.Call g [a] [] pos)) (λx l=> ?_) d;refine vK (tQ l) λq s e l h=>cR e ?_;exact c.Ct ns _ x g q pos s u l (Zz h) (i x)
  .refine in2 (P:=λx=>cQ X r n b ns x (.Call g [a] [] pos)) (λx y t=> ?_) d;refine vK (tQ t) λq s e t h=>cR e ?_;exact c.xY ns _ _ x y g q pos s w t (Wx h).1 (Wx h).2 (i x) (i y)
 |zero=>exact d
 |more=>exact d
set_option smartUnfolding false in
theorem Lo (c:l6 X K G Ms r n b) (k:∀e,cQ X r n b ns (f e) e) (ap pos) (hx:bg m=ao) (hn:lS o=ao) (d:ak ap.endLine pos.line=ao) (h:bI (len args) 30=ao) (i:args.any br=aj):
 cQ X r n b ns (RO G Ms ns f o m args) (.Call (.Attribute o m ap) args [] pos):=by
 have g:cQ X r n b ns (HB Ms f o (nm m) args) (.Call (.Attribute o m ap) args [] pos):=cQ.HB c.kx c.rk ap pos hx hn d (cL (len_eq ..) (cH.mp h)) i (k o) (qd k i) (c.mo m hx) (c.om m hx) (c.vm m hx);refine zo (P:=λx=>cQ X r n b ns x (.Call (.Attribute o m ap) args [] pos)) (λhe=> ?_) λs=>g
 induction args using BL with
 |one a=>
  refine inO (P:=λx=>cQ X r n b ns x (.Call (.Attribute o m ap) [a] [] pos)) (λl h1=> ?_) g;refine ou (tQ h1) λp q h1 e j=>cR e ?_;exact c.uT ns _ o _ l m ap p pos q hx (aH he) hn d h1 j (k o) (qd k j)
 |zero=>exact g
 |more=>exact g
def IP (X:dw) (r:Ap) (n b:Nat) (ns:List (Str×aN)) (t e:Expr) (x:XI):Prop:=∃tp,AB X r n b ns tp x e/\(tp=ao->iM t=ao)
theorem IP.bad:IP X r n b ns t e HA:=bW aj (AB.bad _ _) ff
set_option smartUnfolding false in
theorem Ia (c:l6 X K G Ms r n b) (d:∀e,cQ X r n b ns (f e) e) (hp:pairsOk G ns t (.Call g args kws p)=ao):IP X r n b ns t (.Call g args kws p) (A1 G ns f (.Call g args kws p)):=by
 induction kws using zL with
 |cons=>exact IP.bad
 |nil=>
  refine zo (P:=IP X r n b ns t (.Call g args [] p)) (λi=>IP.bad) λa=>zo (P:=IP X r n b ns t (.Call g args [] p)) (λh1=>bW aj (AB.range c.ax c.htab c.gx h1 (qd d a) a aj _) ff) λi=> ?_;have hq:(k6 (jO G ns 9 g) (k6 (jO G ns 10 g) ao (iM t)) (iM t):Bool)=true:=hp;clear hp;refine zo (P:=IP X r n b ns t (.Call g args [] p)) (λj=> ?_) λj=>zo (P:=IP X r n b ns t (.Call g args [] p)) (λh=> ?_) λi=>bW aj (AB.e c.ax c.hbase c.htab (d _) aj) ff
  .rw [j] at hq
   induction args using Vw with
   |two x y=>
    exact bW ao (AB.zip c.ax c.gx j (d x) (d y) a _) (λi=>hq)
   |zero=>exact IP.bad
   |one=>exact IP.bad
   |more=>exact IP.bad
  .rw [j,h] at hq
   induction args using BL with
   |one x=>
    exact bW ao (AB.enum c.ax c.htab c.gx h (d x) a _) (λi=>hq)
   |zero=>exact IP.bad
   |more=>exact IP.bad
theorem uU (c:l6 X K G Ms r n b) (d:∀e,cQ X r n b ns (f e) e) (hp:pairsOk G ns t e=ao):kH e=aj/\IP X r n b ns t e (A1 G ns f e):=by
 have a:IP X r n b ns t e (iE (f e)):=bW aj (AB.e c.ax c.hbase c.htab (d e) aj) ff
 induction e using aR with
 |Call g args h p=>exact⟨rfl,Ia c d hp⟩
 |Set=>exact ff hp
 |_=>exact⟨rfl,a⟩
theorem Ox (a:bw X) t:qV X r n b ns (match tgtName ns t with|some x=>kc x|none=>B0) t:=by
 induction hx:tgtName ns t using zO with
 |some x=>
  refine uo (mY hx) λy p hk e hy hz=>cR e (cR hz ?_);exact qV.loc a y p hy hk
 |none=>exact qV.bad _
set_option smartUnfolding false in
theorem zp (d:bw X) t:qV X r n b ns (lP ns t) t:=by
 have a:=Ox (r:=r) (n:=n) (b:=b) d (ns:=ns) t
 induction t using aR with
 |Tuple c z p=>
  refine(?_:qV X r n b ns (match fV ns c with|some l=>(match g9 l with|true=>BZ l|false=>B0)|none=>B0) _)
  induction hl:fV ns c using zO with
  |none=>exact qV.bad _
  |some l=>exact zo (P:=λx=>qV X r n b ns x (.Tuple c z p)) (λe=>qV.tup d hl _ _) λe=>qV.bad _
 |_=>exact a
end
section
variable {X:dw} {K:Frag} {G:Str->Option V} {Ms:Nat->List (Nat×Nat)} {r:Ap} {n b:Nat}
theorem Lp (c:l6 X K G Ms r n b) op pos (hx:cQ X r n b ns x l) (hy:cQ X r n b ns y r'):cQ X r n b ns (mkBin op x y) (.BinOp l op r' pos):=by
 induction op using PySem.Operator.casesOn with
 |Add=>exact cQ.bin (Oa c.ax c.htab) pos hx hy
 |Sub=>exact cQ.bin NX pos hx hy
 |Mult=>exact cQ.bin NY pos hx hy
 |FloorDiv=>exact cQ.bin NZ pos hx hy
 |Mod=>exact cQ.bin N1 pos hx hy
 |Pow=>exact cQ.bin N2 pos hx hy
 |LShift=>exact cQ.bin N3 pos hx hy
 |RShift=>exact cQ.bin N4 pos hx hy
 |BitAnd=>exact cQ.bin N5 pos hx hy
 |BitOr=>exact cQ.bin SV pos hx hy
 |_=>exact cQ.bad _
theorem rZ (c:l6 X K G Ms r n b) op:nK X b (EX op).f op:=by
 induction op using PySem.CmpOp.casesOn with
 |Eq=>exact S0 c.hbase
 |NotEq=>exact S1 c.hbase
 |Lt=>exact S2
 |Gt=>exact S4
 |LtE=>exact S3
 |GtE=>exact S5
 |Is=>exact S6
 |IsNot=>exact HO
 |In=>exact S9 c.hbase
 |NotIn=>exact HR c.hbase
structure Lq (X:dw) (G:Str->Option V) (Ms:Nat->List (Nat×Nat)) (r:Ap) (n b k:Nat):Prop where
 e:∀ns e,cQ X r n b ns (cU G Ms k ns e) e
 u:∀ns e,jr e=ao->Ol X r n b ns (cU G Ms k ns e) e
 t:∀ns e,jX X r n b ns (oB G Ms k ns e) e
 bs:∀ns op es,tM X r n b ns op (EY G Ms k ns (KH op) es) es
 ifs:∀ns es,nO X r n b ns (uC G Ms k ns es) es
theorem ZA {P:α->Prop} (h:c=aj->d=aj->P x) (h':P y):P (match (generalizing:=false) c,d with|false,aj=>x|_,_=>y):=by
 induction c using zB with
 |true=>exact h'
 |false=>induction d using zB with
  |true=>exact h'
  |false=>exact h rfl rfl
def CP (X:dw) (r:Ap) (n b:Nat) (ns:List (Str×aN)) (e:Expr) (x:XE):Prop:=cQ X r n b ns x e/\(jr e=ao->Ol X r n b ns x e)
section
variable {ns:List (Str×aN)}
theorem CP.bad:CP X r n b ns e fk:=⟨cQ.bad _,λa=>Ol.bad _⟩
theorem CP.no (h:jr e=aj) (k:cQ X r n b ns x e):CP X r n b ns e x:=⟨k,λq=>ft (q.symm.trans h)⟩
theorem CP.if(h:c=ao->CP X r n b ns e x):CP X r n b ns e (k6 c fk x):=zo h λa=>CP.bad
theorem CP.unless (h:c=aj->CP X r n b ns e x):CP X r n b ns e (k6 c x fk):=zo (λa=>CP.bad) h
theorem CP.dec {d:Decidable p} (h:p->CP X r n b ns e x):CP X r n b ns e (Decidable.casesOn d (λa=>fk) (λa=>x)):=by
 induction d using Decidable.casesOn with
 |isTrue q=>exact h q
 |isFalse _=>exact CP.bad
variable (c:l6 X K G Ms r n b) {k:Nat} (ih:Lq X G Ms r n b k)
include c ih
set_option smartUnfolding false in
theorem Oz op a p:CP X r n b ns (.UnaryOp op a p) (cU G Ms (k+1) ns (.UnaryOp op a p)):=by
 induction op using PySem.UnaryOp.casesOn with
 |USub=>
  induction a using aR with
  |Constant q z d=>
   induction q using lJ with
   |int i=>exact CP.no rfl (cQ.Zy i z d p)
   |_=>exact CP.bad
  |_=>exact CP.bad
 |_=>exact CP.bad
set_option smartUnfolding false in
theorem Ib op es p:CP X r n b ns (.BoolOp op es p) (cU G Ms (k+1) ns (.BoolOp op es p)):=by
 induction es using Vw with
 |two x y=>
  induction op using PySem.BoolOp.casesOn with
  |And=>exact CP.no rfl (cQ.bool (E9 c.hbase) .And p (ih.e ns x) (ih.e ns y))
  |Or=>exact CP.no rfl (cQ.bool (E9 c.hbase) .Or p (ih.e ns x) (ih.e ns y))
 |zero=>exact CP.bad
 |one=>exact CP.bad
 |more=>exact CP.bad
set_option smartUnfolding false in
theorem Lr l ops es p:CP X r n b ns (.Compare l ops es p) (cU G Ms (k+1) ns (.Compare l ops es p)):=by
 induction ops using BL with
 |one op=>
  induction es using BL with
  |one y=>exact CP.unless λa=>CP.no rfl (cQ.cmp (rZ c op) p (rt a) (ih.e ns l) (ih.e ns y))
  |zero=>exact CP.bad
  |more=>exact CP.bad
 |zero=>exact CP.bad
 |more=>exact CP.bad
set_option smartUnfolding false in
theorem Ic f args kws p:CP X r n b ns (.Call f args kws p) (cU G Ms (k+1) ns (.Call f args kws p)):=by
 induction kws using zL with
 |cons=>exact CP.bad
 |nil=>
  refine CP.unless λa=> ?_
  induction f using aR with
  |Attribute o m d=>exact CP.if λhm=>CP.if λhn=>CP.if λhl=>CP.if λg=>CP.no rfl (Lo c (ih.e ns) d p hm hn hl g a)
  |_=>exact CP.no rfl (Ln c (ih.e ns) p (λo m p q=>Expr.noConfusion q) a)
set_option smartUnfolding false in
theorem Ls (o i) p:CP X r n b ns (.Subscript o i p) (cU G Ms (k+1) ns (.Subscript o i p)):=by
 induction i using aR with
 |Slice a hi d f=>
  induction d using zO with
  |none=>exact CP.no rfl (cQ.cut c.ax f p (ih.e ns o) (DY (ih.e ns) a) (DY (ih.e ns) hi))
  |some _=>exact CP.bad
 |_=>exact CP.no rfl (cQ.sub p rfl (ih.e ns o) (ih.e ns _))
set_option smartUnfolding false in
theorem Ie ks es p:CP X r n b ns (.Dict ks es p) (cU G Ms (k+1) ns (.Dict ks es p)):=
 CP.if λh=>CP.if λh2=>CP.no rfl (cQ.dict c.ax p h2 (by
  have h:=cH.mp h;rw [len_eq] at h;exact pQ h) (Fy (ih.e ns) h2))
set_option smartUnfolding false in
theorem OA elt gens sc p:CP X r n b ns (.ListComp elt gens sc p) (cU G Ms (k+1) ns (.ListComp elt gens sc p)):=by
 induction gens using BL with
 |one g=>
  rcases g with⟨f,q,i,a⟩
  refine CP.dec λl=>CP.if λm=>CP.if λhp=>um (uU c (ih.e ns) hp) λs o d j=> ?_;have h:=cQ.comp c.ax c.hbase c.htab (Ck m) d o (zp c.ax f) j (ih.ifs sc.names i) (ih.e sc.names elt) p;rw [<-l] at h;exact⟨h.1,λt=>h.2⟩
 |zero=>exact CP.bad
 |more g=>rcases g with⟨_,_,_,_⟩;exact CP.bad
set_option smartUnfolding false in
theorem OB (x y) gens sc p:CP X r n b ns (.DictComp x y gens sc p) (cU G Ms (k+1) ns (.DictComp x y gens sc p)):=by
 induction gens using BL with
 |one g=>
  rcases g with⟨f,q,i,a⟩
  refine CP.dec λl=>CP.if λm=>CP.if λhp=>um (uU c (ih.e ns) hp) λs o d j=> ?_;have h:=cQ.Wq c.ax c.hbase c.htab (Ck m) d o (zp c.ax f) j (ih.ifs sc.names i) (ih.e sc.names x) (ih.e sc.names y) p;rw [<-l] at h;exact⟨h.1,λt=>h.2⟩
 |zero=>exact CP.bad
 |more g=>rcases g with⟨_,_,_,_⟩;exact CP.bad
set_option smartUnfolding false in
theorem Lu ns e:CP X r n b ns e (cU G Ms (k+1) ns e):=by
 induction e using aR with
 |Name x p=>exact CP.no rfl (cQ.name c.gx x p)
 |Constant q z p=>exact CP.no rfl (cQ.const q z p)
 |BinOp l op u p=>exact CP.no rfl (Lp c op p (ih.e ns l) (ih.e ns u))
 |UnaryOp op a p=>exact Oz c ih op a p
 |BoolOp op g p=>exact Ib c ih op g p
 |IfExp t x y p=>exact CP.no rfl (cQ.ite p (ih.t ns t) (ih.e ns x) (ih.e ns y))
 |Compare l j g p=>exact Lr c ih l j g p
 |Call f args m p=>exact Ic c ih f args m p
 |Attribute o a p=>exact CP.if λv=>CP.if λhn=>CP.no rfl (cQ.attr c.kx p v hn (ih.e ns o))
 |Subscript o i p=>exact Ls c ih o i p
 |List g p=>exact CP.unless λh=>CP.no rfl (cQ.list c.ax p (qd (ih.e ns) h))
 |Tuple g z p=>exact CP.unless λh=>CP.no rfl (cQ.tuple c.ax c.htab z p (qd (ih.e ns) h))
 |Dict ks g p=>exact Ie c ih ks g p
 |ListComp s d sc p=>exact OA c ih s d sc p
 |DictComp x y d sc p=>exact OB c ih x y d sc p
 |_=>exact CP.bad
set_option smartUnfolding false in
theorem OC l ops es p:jX X r n b ns (oB G Ms (k+1) ns (.Compare l ops es p)) (.Compare l ops es p):=by
 induction ops using Vw with
 |one op=>
  induction es using BL with
  |one y=>exact zo (P:=λx=>jX X r n b ns x (.Compare l [op] [y] p)) (λf=>jX.bad _) λd=>jX.cmp (rZ c op) p (rt d) (ih.e ns l) (ih.e ns y)
  |zero=>exact jX.bad _
  |more=>exact jX.bad _
 |two op a=>
  induction es using Vw with
  |two y z=>
   exact ZA (P:=λx=>jX X r n b ns x (.Compare l [op,a] [y,z] p)) (λh1 h2=>jX.Zw (rZ c op) (rZ c a) p h1 h2 (ih.e ns l) (ih.e ns y) (ih.e ns z)) (jX.bad _)
  |zero=>exact jX.bad _
  |one=>exact jX.bad _
  |more=>exact jX.bad _
 |zero=>exact jX.bad _
 |more=>exact jX.bad _
theorem TH ns e:jX X r n b ns (oB G Ms (k+1) ns e) e:=by
 have g:=E9 (b:=b) c.hbase
 induction e using aR with
 |UnaryOp op a p=>
  induction op using PySem.UnaryOp.casesOn with
  |Not=>exact jX.not p (ih.t ns a)
  |_=>exact jX.ofE g (ih.e ns _) λenv=>rfl
 |BoolOp op d p=>
  induction op using PySem.BoolOp.casesOn with
  |And=>exact jX.bools p (ih.bs ns .And d)
  |Or=>exact jX.bools p (ih.bs ns .Or d)
 |IfExp t x y p=>exact jX.ite p (ih.t ns t) (ih.t ns x) (ih.t ns y)
 |Compare l f d p=>exact OC c ih l f d p
 |_=>exact jX.ofE g (ih.e ns _) λenv=>rfl
end
theorem iA (c:l6 X K G Ms r n b):∀k,Lq X G Ms r n b k:=by
 intro k
 induction k with
 |zero=>
  exact⟨λa a=>cQ.bad _,λa a a=>Ol.bad _,λa a=>jX.bad _,λa a a=>tM.bad _ _,λa a=>nO.bad _⟩
 |succ k ih=>
  refine⟨λns e=>(Lu c ih ns e).1,λns e=>(Lu c ih ns e).2,TH c ih,λns op d=> ?_,λns d=> ?_⟩
  .induction d using zL with
   |nil=>exact tM.bad _ _
   |cons x d=>
    induction d using zL with
    |nil=>exact tM.one (ih.t ns x)
    |cons y d=>exact tM.more (ih.t ns x) (ih.bs ns op (y::d))
  .induction d using zL with
   |nil=>exact nO.nil
   |cons x d=>exact nO.cons (ih.t ns x) (ih.ifs ns d)
end
set_option backward.match.sparseCases true
section
variable {X:dw} {K:Frag} {G:Str->Option V} {Ms:Nat->List (Nat×Nat)} {r:Ap} {n b:Nat}
theorem i8.bad x:i8 X r n b ns kX x:=λa a a a a a a a a a a a e=>fn e
set_option smartUnfolding false in
theorem xZ (c:l6 X K G Ms r n b) ns t:qV X r n b ns (Dk G Ms ns t) t:=by
 have f:=iA c 30;have h:qV X r n b ns (lP ns t) t:=zp c.ax t
 induction t using aR with
 |Attribute o a p=>exact zo (P:=λx=>qV X r n b ns x (.Attribute o a p)) (λg=>qV.attr c.ax c.kx p g (λd k=>c.fl a g d k) (f.e ns o)) λj=>qV.bad _
 |Subscript o i p=>exact zo (P:=λx=>qV X r n b ns x (.Subscript o i p)) (λj=>qV.bad _) λj=>qV.sub c.ax _ (f.e ns _) (f.e ns _)
 |_=>exact h
set_option tactic.hygienic true in
theorem DZ:∃l,fV ns ts=af l/\g9 l=ao/\Dk G Ms ns (.Tuple ts z p)=BZ l\/∀ρ v h k,(Dk G Ms ns (.Tuple ts z p)).f r ρ v h k=none:=by
 refine(?_:∃l,fV ns ts=af l/\g9 l=ao/\lP ns (.Tuple ts z p)=BZ l\/∀ρ v h k,(lP ns (.Tuple ts z p)).f r ρ v h k=au);unfold lP;dsimp only;split
 .rename_i l hl;split
  .rename_i c;exact⟨l,.inl (iU hl c rfl)⟩
  .exact⟨l,.inr λa a a a=>rfl⟩
 .exact⟨[],.inr λa a a a=>rfl⟩
set_option smartUnfolding false in
theorem OD (c:l6 X K G Ms r n b) ns (t e) p k:jR X r n b ns (Dl G Ms (k+1) ns (.Assign [t] e p)) (.Assign [t] e p):=by
 have g:=iA c 30;refine zo (P:=λx=>jR X r n b ns x (.Assign [t] e p)) (λa=> ?_) λf=>jR.bad _;have d:br t=false:=by rcases t<;>first|rfl|exact ff a
 induction h:jr e using zB with
 |true=>exact jR.GI c.ax p (g.e ns e) (g.u ns e h) (xZ c ns t) h d
 |false=>exact jR.assign c.ax p (g.e ns e) (xZ c ns t) h a (λts z p q=>cR q DZ) (λts p q=>cR q (λf f f f=>rfl)) d
set_option smartUnfolding false in
theorem Fz (c:l6 X K G Ms r n b):∀k,(∀ns s,jR X r n b ns (Dl G Ms k ns s) s)/\∀ns ss,i8 X r n b ns (qO G Ms k ns ss) ss:=by
 intro k
 induction k with
 |zero=>
  exact⟨λj j=>jR.bad _,λj j=>i8.bad _⟩
 |succ k g=>
  have q:=(g).1;have l:=(g).2;have g:=iA c 30;refine⟨λns s=> ?_,λns ss=> ?_⟩
  .induction s using eX with
   |Expr e p=>exact zo (P:=λx=>jR X r n b ns x (.Expr e p)) (λj=>jR.bad _) λh=>jR.expr p h (g.e ns e)
   |Return e p=>
    induction e using zO with
    |none=>exact jR.Zu p
    |some e=>exact jR.ret p (g.e ns e)
   |Assign ts e p=>
    induction ts using BL with
    |one t=>
     exact OD c ns t e p k
    |zero=>exact jR.bad _
    |more=>exact jR.bad _
   |If t a d p=>exact jR.ite p (g.t ns t) (l ns a) (l ns d)
   |For t u f i p=>
    induction i using zL with
    |nil=>
     refine zo (P:=λx=>jR X r n b ns x (.For t u f [] p)) (λhp=> ?_) λj=>jR.bad _;exact um (uU c (g.e ns) hp) λw v m o=>jR.for c.ax c.hbase c.htab m v (zp c.ax t) o p (l ns f)
    |cons=>exact jR.bad _
   |While t f i p=>
    induction i using zL with
    |nil=>exact jR.while p (g.t ns t) (l ns f)
    |cons=>exact jR.bad _
   |_=>exact jR.bad _
  .induction ss using zL with
   |nil=>exact i8.nil
   |cons s ss=>exact i8.cons (q ns s) (l ns ss)
end
set_option backward.match.sparseCases false
theorem eu (e:with1 vs f=af r):∃v,vs=[v]/\f v=af r:=by
 induction vs using zL with
 |nil=>exact fn e
 |cons v l=>
  refine aC (dK e) λe h=> ?_
  induction l using zL with
  |nil=>exact bW v rfl e
  |cons _ _=>exact ff h
theorem ef.one (h:ef X g w n [v] ys):∃y,ys=[y]/\VR X g w n v y:=by
 cases h with
 |cons _ y _ _ hv a=>cases a;exact bW y rfl hv
section
variable {X:dw} {w:Wd} {h:H} {s:Shared}
theorem St.tk (a:bw X) (b:St X w h s) t:St X w h {s with toks:=t}/\Ext X cV w h.n s w h.n {s with toks:=t}:=b.i7 a (h':=s.heap) (tk:=t) (bu _) λc c e=>e
theorem TJ (f:bw X):qb X 14:=by
 intro n A j w h s g vs ys hv k res d Q i;refine eT ?_;refine dM (eu d) λv b=> ?_;subst b;intro e;refine dM hv.one λy b=> ?_;subst b;intro hy;refine f7 (dK e) λh2 e=>fB (hy.cS h2) λt b=> ?_;subst b;refine call_abs_int λu tk=>aC (g.tk f tk) λc a=> ?_;have:(if dS v<0 then-dS v else dS v)=aZ v.n:=by
  have:=Cr v;by_cases q:dS v<0
  .exact(cR (if_pos q) ((Int.ofNat_natAbs_of_nonpos (Int.le_of_lt q)).symm.trans (congrArg aZ this)))
  .exact(cR (if_neg q) ((Int.natAbs_of_nonneg (ko.mp q)).symm.trans (congrArg aZ this)))
 exact cR this (i w h _ _ _ a c (.nat v.n u) e)
theorem TL (g:bw X):qb X 15:=by
 intro n A i w h s d vs ys hv k res c Q f;refine eT ?_;refine dM (eu c) λv a=> ?_;subst a;intro e;refine dM hv.one λy a=> ?_;subst a;intro hy
 induction h2:ak v.t 2 using zB with
 |true=>
  rw [h2] at e;refine fB (hy.cS h2) λt a=> ?_;subst a;exact call_int_int (f w h _ _ _ d .refl hy e)
 |false=>
  rw [h2] at e;refine f7 (dK e) λh1 e=> ?_
  induction hy using Mine.VR.casesOn with
  |bool b=>
   refine call_int_bool ?_
   induction b using zB with
   |true=>exact f w h _ _ _ d.tok rS (.nat 1 _) e
   |false=>exact f w h _ _ _ d.tok rS (.nat 0 _) e
  |_=>exact nn (aH h1) rfl
theorem tR (e:Dc l v=af m):ak v.t 2=ao/\v.s=0/\v.n<l/\v.n=m:=aC (dK e) λe h1=>aC (dK e) λe h2=>aC (dK e) λe a=>qF h1 (aH h2) (cH.mp a) (aF e)
theorem Cu (h:v.s=0):dS v=(v.n:Int):=by unfold dS;refine cR h ?_;rfl
theorem TM (j:bw X):qb X 16:=by
 intro n A l w h s d vs ys hv k res b Q f;refine eT ?_;refine dM (eu b) λv a=> ?_;subst a;intro e;refine dM hv.one λy a=> ?_;subst a;intro hy;refine aL (bC e) λc e g=>qH (tR g) λa=> ?_;subst a;intro h2 i m;refine fB (hy.cS h2) λt a=> ?_;subst a;exact cR (Cu i) (chr_of_range (cC (V.n v)) (by omega) (f w h _ _ _ d.tok rS (.str [v.n] _ (of_decide_eq_true rfl)) e))
theorem TN (i:bw X):qb X 17:=by
 intro n A j w h s d vs ys hv k res b Q f;refine eT ?_;refine dM (eu b) λv a=> ?_;subst a;intro e;refine dM hv.one λy a=> ?_;subst a;intro hy;refine aC (dK e) λe g=> ?_
 induction hy using Mine.VR.casesOn with
 |str l t hn=>
  induction l using zL with
  |nil=>exact fn e
  |cons c l=>
   induction l using zL with
   |nil=>exact P.ord_of_char (f w h _ _ _ d.tok rS (.nat c _) e)
   |cons _ _=>exact fn e
 |_=>exact nn (aH g) rfl
theorem OE m (h:find m JH=au):qb X m:=by
 intro n A a w h' s b vs ys hv k res e Q c;unfold BR at e;rw [h] at e;exact fn e
theorem collect_list {items} (a:s.heap.get? l=af (gn items ep)) (hz:items.size<=1000000)
 (c:∀h',(∀b o',s.heap.get? b=af o'->h'.get? b=af o')->s.heap.objs.size<=h'.objs.size->Q items.toList {s with heap:=h'}):wpAny (model prog ww) A (collect (.ref l)) Q E s:=
 bX (Ar l (.inl rfl) a rfl rfl (λh' hk d=>c h' hk d) (aI hz bx))
theorem Ig l items ep:Meets (Builtin.«tuple.__new__» ⟨[.type "tuple",.ref l],[]⟩)
 (λk R s=>s.heap.get? l=af (gn items ep)/\items.size<=1000000/\∀h':Heap,(∀b o',s.heap.get? b=af o'->h'.get? b=af o')->s.heap.objs.size<=h'.objs.size->R (.ok (.ret (.ref h'.objs.size))) {s with heap:=h'.push (gf items 0)}):=
 .of_wp λprog w A R s h=>by
  obtain⟨hp,g,d,tk,os⟩:=s;refine iL h λh ht hz=> ?_;have f:=sub_tuple_self;have a:=init_tuple_lookup;have i:=madeHere_tuple;have j:iu ⟨hp,g,d,tk,os⟩ (.ref l) "list":=bW _ ht rfl;wp_walk using AutoSeq1.wpAny_loadPart' ht,jb j,collect_list (s:=⟨hp,g,d,tk,os⟩) ht hz;intro h' hk c;refine(?_:wpAny _ _ (Builtin.Tuple.tupleExact items.toList.toArray>>=λv=>ret v) _ _ _);have e:items.toList.toArray=items:=rfl;exact aq (dY (av (bW _ rfl (h h' hk c))) (aI hz bx))
theorem Lv (m:bw X) (d:∀a∈X.tabs,a<X.h₀.objs.size):qb X 4:=by
 intro n A J w h s i vs ys hv k res f Q p;refine eT ?_;refine dM (eu f) λv b=> ?_;subst b;intro e;refine dM hv.one λy b=> ?_;subst b;intro hy
 induction j:ak v.t 5 using zB with
 |true=>
  rw [j] at e;refine f7 (dK e) λz e=> ?_
  induction hy using Mine.VR.casesOn with
  |tup xs t items ep B ht g hn c=>exact call_tuple_same (f9 _ g rfl _ rfl) (p w h _ _ _ i .refl (.tup xs t items ep B ht g hn c) e)
  |_=>exact nn (aH j) rfl
 |false=>
  rw [j] at e;obtain⟨C,o,D,E,e⟩:=fO e;refine f7 (dK e) λhz e=>f7 (hy.er C) λb=> ?_;subst b;intro K;refine sO (i.listAt D E) λitems ep g hn c z=>(?_:wpAny _ _ (call (.type "tuple") _) _ _ _);refine callType_new F.called_tuple rfl (F.typeCall_tuple_1 _) (F.newCall_tuple_1 _) (λobj=>uc obj _) F.entry_tuple_new (Ig _ items ep) (iU g hn (λh' hk l=>(aC (i.i7 m (h':=h') (tk:=s.toks) l hk) λq G=>(eY (G.newTuple m d (c.mono q.dW) hn s.toks) λr u x=> ?_))));have I:items.toList.toArray=items:=rfl;rw [I] at u r x;exact⟨(bW _ (aJ _ rfl) rfl),p w h _ _ _ u (q.trans r) x e⟩
end
set_option backward.match.sparseCases true
theorem sX:Slot "bytearray" "__len__" "bytearray.__len__":=
 .of (owner:="bytearray") (n:="__len__") (by refine cR (typeLookup_type ..) (cR bA ?_);kernel_rfl) rfl rfl rfl
  (by first|exact .inl rfl|exact .inr (by decide+kernel)) (by refine cR (isSubtype_type ..) ?_;kernel_rfl)
theorem zq:entryFor table "bytearray.__len__"=af Builtin.«bytearray.__len__»:=nq (by kernel_rfl)
theorem AJ a:argsOk "bytearray.__len__" ⟨[a],[]⟩:=by unfold argsOk;kernel_rfl
section
variable {X:dw} {w:Wd} {h:H} {s:Shared} {prog:Program} {ww:World} {A:Around} {E:Value->Shared->Prop}
theorem OG {items} (a:s.heap.get? t=af (gf items ep)) (hz:items.size<=1000000) (q:Q (.int items.size (s.toks+1)) {s with toks:=s.toks+1+1}):wpAny (model prog ww) A (call (.builtin "len") [.ref t]) Q E s:=by
 have b:s.TypeIs (.ref t) "tuple":=bW _ a rfl;exact xG b F.slot_tuple_len (λd c=>call_meets F.slot_tuple_len b F.entry_tuple_len (F.args_tuple_len_1 _) (AutoSeq1.tuple___len___tuple_0 t items ep) ⟨a,c⟩) (lg (fG items)) (by lia) q
theorem Lw (c:(d==k9)=aj) (a:s.heap.get? d=af (cJ es ep)) (hz:es.size<=1000000) (q:Q (.int es.size (s.toks+1)) {s with toks:=s.toks+1+1}):wpAny (model prog ww) A (call (.builtin "len") [.ref d]) Q E s:=by
 have b:s.TypeIs (.ref d) "dict":=bW _ a rfl;refine xG b F.slot_dict_len (λf e=>bH F.slot_dict_len b F.entry_dict_len ?_ (F.args_dict_len_1 _)) (lg (fG es)) (by lia) q;refine(?_:wpAny _ _ (dictSize d>>=_) _ _ s);refine aq (aq (gI a rfl (av ((?_:wpAny _ _ (mO d>>=_) _ _ s)))));have hp:mO d=pure 0:=by unfold mO;refine cR c ?_;rfl
 exact cR hp (aq (av (aq (wpAny_mkInt (av (bW _ rfl e))))))
theorem Lx (c:s.heap.get? a=af (gV b)) (hz:b.size<=1000000) (q:Q (.int b.size (s.toks+1)) {s with toks:=s.toks+1+1}):wpAny (model prog ww) A (call (.builtin "len") [.ref a]) Q E s:=by
 have d:s.TypeIs (.ref a) "bytearray":=bW _ c rfl;refine xG d sX (λf e=>bH sX d zq ?_ (AJ _)) (lg (fG b)) (by lia) q;refine(?_:wpAny _ _ (Builtin.Bytes.payload (.ref a)>>=λb=>retInt b.size) _ _ s);exact aq (aq (aq (ja c (av (av (aq (wpAny_mkInt (av (bW _ rfl e)))))))))
theorem TP (ax:bw X) (hbase:10<=X.h₀.objs.size):qb X 0:=by
 intro n A hA w h s hs vs ys hv k res e₀ Q hQ;refine eT ?_;refine dM (eu (show with1 vs (λv=>ah (ah (ah
  (look v h λo h=>ah (ah (ah au (k (aX (len o.bs)) h) (ak o.t 3)) (k (aX (len o.kvs)) h) (ak o.t 2)) (k (aX (len o.xs)) h) (ak o.t 1))
  (k (aX (len v.l)) h) (ak v.t 3)) (k (aX (len v.l)) h) (ak v.t 4)) (k (aX (len v.xs)) h) (ak v.t 5))=af res from e₀)) λv qY=> ?_;subst qY;intro e
 refine dM hv.one λy qY=> ?_;subst qY;intro hy;have fin:∀m:Nat,k (aX m) h=af res->Q (.int (m:Int) (s.toks+1)) {s with toks:=s.toks+1+1}:=λm e=>by
  exact aC (hs.tk ax (s.toks+1+1)) λc a=>hQ w h _ _ _ a c (.nat m _) e
 refine su e (λh5 e=> ?_) λU e=>su e (λh4 e=> ?_) λU e=>su e (λh3 e=> ?_) λU e=> ?_
 .refine fF (hy.g6 (aH h5)) λt items ep hg q hr ht hn hvs=> ?_;rw [len_eq,hvs.length,aM] at e;refine cR q ?_;exact OG hg hn (fin _ e)
 .refine ou (hy.jI (aH h4)) λb t l q hn=> ?_;rw [len_eq,l,eF,aM] at e;refine cR q ?_;exact len_bytes (by lia) (fin _ e)
 .refine aL (hy.p6 (aH h3)) λt hn q=> ?_;rw [len_eq] at e;refine cR q ?_;exact P.len_str (by have:(⟨v.l.toArray⟩:Str).length=v.l.length:=rfl;lia) (fin _ e)
 refine dD (dj e) λo e h6 ho=> ?_;have rep:=(hs.rep _ o ho).2;refine cR ((hy.er h6).1) (su e (λh1 e=> ?_) λU e=>su e (λh2 e=> ?_) λU e=> ?_)
 .refine jH (rep.lV (aH h1)) λitems ep hg hr hn hvs=> ?_;rw [len_eq,hvs.length,aM] at e;exact call_len_list (f9 _ hg rfl _ rfl) (by lia) (fin _ e)
 .refine iV (rep.kI (aH h2)) λes ep U hr hg hn hd=> ?_;rw [len_eq,hd.all.length,aM] at e;exact Lw (jJ hs hbase hr) hg hn (fin _ e)
 .refine aC (dK e) λe h3=>qI (rep.Gr (aH h3)) λb hg hr hn l=> ?_;rw [len_eq,l,eF,aM] at e;exact Lx hg hn (fin _ e)
end
theorem tS (e:with2 vs f=af r):∃u v,vs=[u,v]/\f u v=af r:=by
 induction vs using zL with
 |nil=>exact fn e
 |cons u l=>
  refine dM (eu e) λv a=> ?_;subst a;intro e;exact nv u v rfl e
theorem ef.two (h:ef X g w n [u,v] ys):∃x y,ys=[x,y]/\VR X g w n u x/\VR X g w n v y:=by
 cases h with
 |cons _ x _ _ hu c=>
  refine dM (ef.one c) λy a=> ?_;subst a;intro hv;exact jV x y rfl hu hv
section
variable {X:dw} {b:Nat}
theorem Ih (u:bw X):qm X b "append" ⟨BS,λt=>ak t 1⟩:=by
 intro t ht;have ht:=aH ht;subst ht;refine yp (.inl rfl) ("list.append") ⟨yl,F.slot_list_append,F.type_list_append⟩ (λA n H w h s l x y hv B o m d vs ys f k res g Q C=>(aL (eu g) λv e D=> ?_));rw [D] at f;refine dM f.one λz E hz=>aC (dK e) λe G=>aC (dK e) λe i=>cR ((hv.er B).1) (cR E (jH ((l.rep _ o m).2.lV d) λitems ep j p hn c=> ?_));have a:=nM i;rw [mD] at e a;rw [dc,c.length,aM] at a;refine eT<|bH slot_list_append (bW _ j rfl) entry_list_append ?_ (args_list_append _ _)
 refine(?_:wpAny _ _ (updateSeq (w.ρ x.n) (·.push z)>>=λG=>ret .none) _ _ s);refine aq (kZ j rfl (av (bW .none rfl ?_)));have q:=l.turn u m (eG (·.push z)) s.toks (o':=bL (o.xs++[v])) (λr p=> .list _ (items.push z) _ p (bE _ j rfl) (cR (qx ..) a) (cR o7 ((c.mono r).append (.cons _ _ _ _ (hz.mono r) .nil)))) (t8 d rfl);exact C _ _ _ _ _ q.1 q.2 .none e
theorem TQ (a:10<=X.h₀.objs.size) (G:bw X):qm X b "get" ⟨SG,λt=>ak t 2⟩:=by
 intro t ht;refine cR (aH ht) (yp (.inr (.inl rfl)) ("dict.get") ⟨F.plainAttrs_dict,F.slot_dict_get,F.type_dict_get⟩ (λA n H w h s g m y hv I o J i vs ys d k res f Q p=>(ny (tS f) λu v e K=> ?_)));rw [K] at d;refine vK d.two λx z L hu hz=>aC (dK e) λe M=>aL (bC e) λr e j=>cR ((hv.er I).1) (cR L (iV ((g.rep _ o J).2.kI i) λR ep M N B hn O=>eT<|bH F.slot_dict_get (bW _ B rfl) F.entry_dict_get ?_ (F.args_dict_get_3 _ _ _)));refine(?_:wpAny _ _ (dictGet (w.ρ m.n) x>>=_) _ _ s);refine aq (Fc B O hu j (H.c (k:=1) rfl) λt S C=>(aC (g.tk G t) λD E=> ?_))
 induction r using zO with
 |some T=>
  exact aL C λP l q=>cR q (av (bW P rfl (p w h _ _ _ E D l e)))
 |none=>
  refine cR C ((?_:wpAny _ _ (Builtin.Dict.missed (w.ρ m.n) x>>=_) _ _ _));exact aq (wpAny_missed_other (jJ g a N) (av (bW z rfl (p w h _ _ _ E D hz e))))
end
section
variable {X:dw} {b:Nat}
theorem AK (S:bw X) (a:10<=X.h₀.objs.size):qm X b "setdefault" ⟨qM,λt=>ak t 2⟩:=by
 intro t ht;have ht:=aH ht;subst ht;refine yp (.inr (.inl rfl)) ("dict.setdefault") ⟨F.plainAttrs_dict,F.slot_dict_setdefault,F.type_dict_setdefault⟩ (λA n hA w h s E G y hv h6 o T l vs ys J k res m Q W=> ?_);refine Hw (tS m) λu v f=> ?_;subst f;intro e;refine vK J.two λx z f=> ?_;subst f;intro hu hz;refine cR ((hv.er h6).1) (aC (dK e) λe U=>aL (bC e) λr e g=> ?_);have Y:=hA.c (k:=1) rfl;refine iV ((E.rep _ o T).2.kI l) λH ep p K q hn i=> ?_;have Z:s.TypeIs (.ref (w.ρ G.n)) "dict":=bW _ q rfl;refine fB (xT hu (l0 g hu i)) λI hh=>eT<|bH F.slot_dict_setdefault Z F.entry_dict_setdefault ?_ (F.args_dict_setdefault_3 _ _ _)
 refine aq (bq (m7 Z) ((?_:wpAny _ _ (pure (w.ρ G.n,x,af z)) _ _ s)));refine av ((?_:wpAny _ _ (if(w.ρ G.n==k9)=ao then _ else(dictSetDefault (w.ρ G.n) x z>>=_)) _ _ s));rw [if_neg (by refine cR (jJ E a K) ?_;exact bZ)];refine aq (bO (aq (hh s.toks Y (aq (xU q i hu g Y _ (λB C=> ?_) λj v' L hj=> ?_)))))
 .rw [B] at e;refine aL (bC e) λd e e1=>aC (dK e) λe M=> ?_;have D:=qX M;rcases v7 hu i.all.SW e1 with⟨N,C,rfl⟩|⟨j,v0,N,hj,rfl⟩
  .refine aq (fh (aq (wpAny_updateDictKeys (s:={s with toks:=s.toks+I}) (hz:=aI hn bx) q rfl (av ?_))));have O:(H.push ⟨hashOf X u,x,z⟩).size<=1000000:=by
    have:=i.all.length;rw [dc] at D;simp at D this⊢;lia
   have P:=E.turn S T (Obj.mapDictKeys λH=>H.push ⟨hashOf X u,x,z⟩) (s.toks+I) (o':=dZ (o.kvs++[(u,v)]) (cnt o.c o.kvs (o.kvs++[(u,v)]))) (λk K=> .dict _ _ (ep+1) K (bE _ q rfl) O ((A5 i hu hz N C).mono k) _ (by refine cR (Fd ..) (cR dc (cR p ?_));simp;exact rfl)) (t8 l rfl);exact av (bW z rfl (W _ _ _ _ _ P.1 P.2 (hz.mono P.2.dW) e))
  .exact nomatch (show(af (af v0):Option (Option V))=af au from N.symm.trans (B▸g))
 .rw [L] at e;have e:=e;refine dM (i.all.get hj) λen h1 h2=> ?_;have R:H[j]? =af en:=by refine cL bz ?_;exact h1
  exact bq (gI (s:={s with toks:=s.toks+I}) q rfl) (cR R (aC (E.tk S (s.toks+I)) λa2 a1=>aq (fh (av (av (bW en.val rfl (W w h _ _ _ a1 a2 h2.val e)))))))
end
section
variable {X:dw} {b:Nat} {w:Wd} {h:H} {s:Shared}
theorem Ly (K:bw X) (u:St X w h s) (hv:VR X s.heap w h.n ov y) (L:ov.t=6) (E:h.l.get ov.n=af o) (j:o.t=1) (hz:VR X s.heap w h.n x z)
 (e:gQ x h (λys h=>put ov.n (bL (app o.xs ys)) h k)=af res) (M:Goes (PV X) X w h.n s k res Q):wpAny (model X.prog X.w) A (call (.builtin "list.extend") [y,z]) Q (λv v=>False) s:=by
 refine gO (fO e) λN e O B P=>aC (dK e) λe C=>f7 (hv.er L) λi=> ?_;subst i;intro T;refine f7 (hz.er O) λi=> ?_;subst i;intro V;refine sO (u.listAt E j) λitems ep r hn m G=>sO (u.listAt B P) λc R p S d v=> ?_;have f:=nM C;rw [mD] at e f;have hl:=m.length;have D:=d.length;simp only [aM] at hl D;rw [dc] at f;have g:=bx;refine bH kR (bW _ r rfl) F.entry_list_extend ?_ (F.args_list_extend_2 _ _);refine(?_:wpAny _ _ (ud (.ref (w.ρ ov.n)) (.ref (w.ρ x.n)) .none) _ _ s);refine bq (jb (bW _ p rfl)) ?_;have h1:(m8 (.ref (w.ρ ov.n)) (.ref (w.ρ x.n))||cW "list"==cW "list"||cW "list"==cW "tuple")=true:=by simp
 refine Ze h1 (aq (aq (dz p rfl (av (aq (aq (dz r rfl (av ?_))))))));have h2:(!items.isEmpty&&m9 (items.size+c.size))=false:=by
  have:m9 (items.size+c.size)=false:=by unfold m9;simp;lia
  exact cR this (cR (Bool.and_false ..) rfl)
 refine cR h2 ((?_:wpAny _ _ (updateSeq (w.ρ ov.n) (·++c)>>=λv=>ret .none) _ _ s));have q:(items++c).size<=1000000:=by simp;lia
 refine aq (kZ r rfl (av (bW .none rfl ?_)) (by first|exact aI q g|exact aI hn g));have I:=u.turn K E (eG (·++c)) s.toks (o':=bL (o.xs++N.xs)) (λJ G=> .list _ (items++c) _ G (bE _ r rfl) q (cR fN ((m.mono J).append (d.mono J)))) (t8 j rfl);exact M _ _ _ _ _ I.1 I.2 .none e
theorem D0 (m:bw X) (p:St X w h s) {items} (q:T="list"\/T="tuple") (r:s.heap.get? a=af ob) (t:ob.cls= .type T) (u:ob.data= .seq items ep) (hn:items.size<=1000000) (hv:ef X s.heap w h.n xs items.toList)
 (e:k (bP h.n) ⟨HT.ins (bL xs) h.l h.n,h.n+1⟩=af res) (v:Goes (PV X) X w h.n s k res Q):wpAny (model X.prog X.w) A (call (.type "list") [.ref a]) Q (λx x=>False) s:=by
 refine call_list_seq a q r t u (λh' c' hk c=> ?_) (aI hn bx);have d:=bk c;refine f7 (p.new m (o:=bL xs) (b:=s.heap.objs.size) (own:=λa=>a==s.heap.objs.size) (ReflBEq.rfl) (s':={s with heap:=h'}) (gM d)
  (λa y=>by have:a=s.heap.objs.size:=(by simpa using y);subst this;exact⟨bu _,d⟩) (λa f e=>hk a f e) rfl rfl 0 _ rfl
  (λz B j E=> .list xs items c' (cR j B) (cR j c) hn (hv.mono z))) λC D=> ?_
 refine v _ _ _ _ _ C D ?_ e;have:=VR.ref (X:=X) (g:=h') (w:=⟨λi=>if i=h.n then s.heap.objs.size else w.ρ i,λa=>if(a==s.heap.objs.size)=ao then af h.n else w.role a,λi=>if i=h.n then 0 else w.ua i⟩) (n:=h.n+1) h.n (bN _);simpa using this
end
section
variable {X:dw} {K:Frag} {G:Str->Option V} {Ms:Nat->List (Nat×Nat)} {r:Ap} {n b:Nat}
def pJ (X:dw) (r:Ap) (n b:Nat) (ns:List (Str×aN)) (e:Expr):Prop:=∀a bd sc pos,e= .Lambda a bd sc pos->cQ X r n b ns (xC (NG (aG (cM pos.line 4096) pos.col))) e
theorem GL (c:l6 X K G Ms r n b) (h:pJ X r n b ns e):cQ X r n b ns (V0 (cU G Ms 30 ns) e) e:=by
 have d:=(iA c 30).e ns e
 induction e using aR with
 |Lambda a f sc p=>exact h _ _ _ _ rfl
 |_=>exact d
theorem Lz (c:l6 X K G Ms r n b) ns body (hl:∀ks vs p f,body=[.Return (af (.Dict ks vs p)) f]->(∀e,af e∈ks->pJ X r n b ns e)/\∀e∈vs,pJ X r n b ns e):i8 X r n b ns (qP G Ms ns body) body:=by
 have base:∀l,qP G Ms ns l=qO G Ms 100 ns l->i8 X r n b ns (qP G Ms ns l) l:=λl h=>h▸(Fz c 100).2 ns l
 induction body using zL with
 |nil=>exact base _ (by unfold qP;rfl)
 |cons g r0=>
  induction r0 using zL with
  |cons=>induction g using eX with
   |Return o p=>induction o using zO with
    |none=>exact base _ (by unfold qP;rfl)
    |some e=>rcases e<;>exact base _ (by unfold qP;rfl)
   |_=>exact base _ (by unfold qP;rfl)
  |nil=>
   induction g using eX with
   |Return o f=>
    induction o using zO with
    |none=>exact base _ (by unfold qP;rfl)
    |some e=>
     induction e using aR with
     |Dict ks vs p=>
      refine f7 (hl ks vs p f rfl) λh1 h2=>(?_:i8 X r n b ns (match bI (len ks) 16 with|true=>(match lT ks vs with|true=>_|false=>kX)|false=>kX) _)
      induction d:bI (len ks) 16 using zB with
      |false=>exact i8.bad _
      |true=>
       induction a:lT ks vs using zB with
       |false=>exact i8.bad _
       |true=>
        refine i8.cons (jR.ret f (cQ.dict c.ax p a ?_ (xe (λe he=>GL c (h1 e he)) (λe he=>GL c (h2 e he)) a))) i8.nil;have h:=cH.mp d;rw [len_eq] at h;exact pQ h
     |_=>exact base _ (by unfold qP;rfl)
   |_=>exact base _ (by unfold qP;rfl)
end
theorem Ii v l n:NJ (v::l) n=(ah au (ah au (NJ l (aG n v.n)) (ak v.s 0)) (ak v.t 2):Option Nat):=rfl
theorem OH:∀{l} {a m},NJ l a=af m->(∀v∈l,ak v.t 2=ao/\v.s=0)/\∀j,j<=l.length->a+((l.take j).map V.n).sum<=m/\(j=l.length->a+((l.take j).map V.n).sum=m):=by
 intro l
 induction l with
 |nil=>
  intro a m e;injection e with e;subst e
  exact⟨λv hv=>((aU hv).elim),λj b=>by simp⟩
 |cons v l d=>
  intro a m e;rw [Ii] at e;refine aC (dK e) λe h2=>aC (dK e) λe f=>aC (d e) λc g=>⟨λu hu=> ?_,λj b=> ?_⟩
  .rcases aT.mp hu with rfl|hu
   .exact⟨h2,aH f⟩
   .exact g u hu
  .induction j using zN with
   |zero=>
    have:=(c 0 (iy _)).1;simp at this⊢;exact iY this
   |succ j=>
    have:=c j (qC b);simp only [List.take_succ_cons,dG,List.sum_cons,iG,Nat.add_right_cancel_iff] at this⊢;exact⟨by lia,λq=>by have:=this.2 q;lia⟩
theorem xg {xs:List V}:∀{j},j<=xs.length->preSum (λi=>(((xs.map V.n).getD i 0:Nat):Int)) j=((((xs.take j).map V.n).sum:Nat):Int):=by
 intro j
 induction j with
 |zero=>exact λ_=>rfl
 |succ j c=>
  intro b;have a:j<xs.length:=b;refine(?_:preSum _ j+_=_);have d:(xs.map V.n).getD j 0=xs[j].n:=by simp [dg,bB a]
  refine cR (c (Nat.le_of_succ_le b)) (cR (wJ a) (cR j5 (cR List.sum_append ((?_:_+(((xs.map V.n).getD j 0:Nat):Int)=_)))));exact cR d (Int.ofNat_add_ofNat (List.sum (sI V.n (List.take j xs))) (V.n xs[j]))
section
variable {X:dw}
theorem TS (I:bw X):qb X 11:=by
 intro n A J w h s F vs ys hv k res l Q K;refine eT ?_;refine dM (eu l) λv d=> ?_;subst d;intro e;refine dM hv.one λy d=> ?_;subst d;intro hy;refine gO (fO e) λo e L M N=>aL (bC e) λm e hm=>f7 (dK e) λB e=>f7 (hy.er L) λd=> ?_;subst d;intro lv;refine sO (F.listAt M N) λitems ep x hn p hr=>aC (OH hm) λG O=> ?_;have c:o.xs.length=items.size:=by refine cR p.length ?_;simp
 refine bX (call_sum_walk (iD (f9 _ x rfl _ rfl) ?_));have C:∀i y,items[i]? =af y->∃t,y=gK ((((o.xs.map V.n).getD i 0:Nat)):Int) t:=by
  intro i y hi;have q:i<o.xs.length:=by
   exact cR c ((fJ.mp hi).1)
  have hu:=bB q;refine aL (p.get hu) λz D hz=> ?_;rw [bz,hi] at hz;injection hz with hz;subst hz
  refine f7 (O _ (l7 q)) λP R=>fB (D.cS P) λt d=> ?_;subst d;refine⟨t,(cR (Cu R) ?_)⟩;simp [dg,hu]
 have f:∀j,j<=items.size->preSum (λi=>(((o.xs.map V.n).getD i 0:Nat):Int)) j<=1000000000000/\0<=preSum (λi=>(((o.xs.map V.n).getD i 0:Nat):Int)) j:=by
  intro j r;exact cR (xg (le_of_le_of_eq r (id (gA c)))) (⟨qz.mpr (aI (fZ (G j (le_of_le_of_eq r (id (gA c)))).1) (aA B)),cC _⟩)
 refine jd s.heap.objs.size [s.heap.objs.size,w.ρ v.n] [s.heap.objs.size] items.size (λi v=>items[i]? =af v) (λi H=>H.IsListIter s.heap.objs.size (w.ρ v.n) i/\H.IsList (w.ρ v.n) items) (λi=>(((o.xs.map V.n).getD i 0:Nat):Int)) rfl (Walks.list (A:=A.in1) J.handled s.heap.objs.size (w.ρ v.n) (cj (bk x)) items) ⟨(f5 _ (aJ _ rfl) rfl rfl),(f9 _ (az _ x) rfl _ rfl)⟩ ?_ C ?_ ?_
 .intro b hb;have g:(s.heap.push {cls:= .type "list_iterator",data:= .fields #[.ref (w.ρ v.n),.int 0 0]}).objs.size=s.heap.objs.size+1:=bJ ..;refine cR g ?_;have:=bk x;rcases aT.mp hb with rfl|hb
  .exact bN _
  .refine cR (eE.mp hb) ?_;exact cK this
 .intro j r;have h1:=f j (gM r);have h2:=f (j+1) r;have S:preSum (λi=>(((o.xs.map V.n).getD i 0:Nat):Int)) (j+1)=preSum (λi=>(((o.xs.map V.n).getD i 0:Nat):Int)) j+(((o.xs.map V.n).getD j 0:Nat):Int):=rfl;exact⟨(⟨eg (by decide) (cC _),vF (eg (Int.le_add_of_nonneg_left h1.2) (S▸h2.1)) (by decide)⟩),eg (by decide) h2.2,vF h2.1 (by decide)⟩
 .intro h' tk T hk E;refine aC (F.i7 I (h':=h') (tk:=tk) E λa W e=>hk a W (by
   intro hm;have h1:=bk e;rw [eE.mp hm] at h1;exact j4 _ h1) (az _ e)) λY Z=> ?_
  have u:preSum (λi=>(((o.xs.map V.n).getD i 0:Nat):Int)) items.size=aZ m:=by
   refine cR (xg (cX (id (gA c)))) ?_;have:=(G items.size (cX (id (gA c)))).2 c.symm;simp at this⊢;lia
  exact cR u (K w h _ _ _ Z Y (.nat m T) e)
end
section
variable {X:dw}
theorem uV m (h:m=1\/m=7\/m=9\/m=10\/17<m):qb X m:=by
 refine OE m ?_;rcases h with rfl|rfl|rfl|rfl|h
 .rfl
 .rfl
 .rfl
 .rfl
 .exact iZ h▸(rfl:find (m-18+18) JH=au)
end
section
variable {X:dw} {b:Nat}
theorem TU x:qm X b x ⟨Rz,λa=>aj⟩:=λt ht=>ff ht
theorem TX x:wW X b x ⟨RA,λa=>aj⟩:=λt ht=>ff ht
theorem TY (h1:qm X b "append" ⟨BS,λt=>ak t 1⟩) (h2:qm X b "extend" ⟨xO,λt=>ah (ak t 3) ao (ak t 1)⟩) (a:qm X b "get" ⟨SG,λt=>ak t 2⟩) (c:qm X b "setdefault" ⟨qM,λt=>ak t 2⟩)
 {x} (hx:bg x=ao):qm X b x (SJ (nm x)):=by
 unfold SJ
 induction d:ak (nm x) (nm "append") using zB with
 |true=>have:=gR hx rfl (aH d);subst this;exact h1
 |false=>
  induction e:ak (nm x) (nm "extend") using zB with
  |true=>have:=gR hx rfl (aH e);subst this;exact h2
  |false=>
   induction f:ak (nm x) (nm "get") using zB with
   |true=>have:=gR hx rfl (aH f);subst this;exact a
   |false=>
    induction g:ak (nm x) (nm "setdefault") using zB with
    |true=>have:=gR hx rfl (aH g);subst this;exact c
    |false=>exact TU x
theorem T4 (h1:wW X b "index" ⟨ES,λt=>ak t 5⟩) (h2:wW X b "join" ⟨Gl,λt=>ah (ak t 4) ao (ak t 3)⟩) {x} (hx:bg x=ao):wW X b x (SK (nm x)):=by
 unfold SK
 induction a:ak (nm x) (nm "index") using zB with
 |true=>have:=gR hx rfl (aH a);subst this;exact h1
 |false=>
  induction c:ak (nm x) (nm "join") using zB with
  |true=>have:=gR hx rfl (aH c);subst this;exact h2
  |false=>exact TX x
end
theorem lG (e:jump d h k=af r):∃h',h.n<=h'.n/\(∀i o,h'.l.get i=af o->h.l.get i=af o)/\k h'=af r:=aC (dK e) λe h1=>f5 _ (aA h1) (λi o e=>HT.J6 e) e
section
variable {X:dw} {r:Ap} {n b:Nat} {ns:List (Str×aN)} {w:Wd} {h h':H} {s:Shared} {env:dB} {ρ:Env}
theorem St.jump (f:bw X) (d:St X w h s) (hn:h.n<=h'.n) (hl:∀i o,h'.l.get i=af o->h.l.get i=af o):St X w h' s/\Ext X cV w h.n s w h'.n s:=by
 have x:Ext X cV w h.n s w h'.n s:=⟨bu _,hn,λc c=>rfl,λc c=>rfl,λc c=>rfl,λc c c c c e=>e,rfl,rfl⟩;refine⟨⟨λi o e=> ?_,λa i e=> ?_,d.base,d.size,d.tab⟩,x⟩
 .exact aC (d.rep i o (hl i o e)) λr hi=>⟨aQ hi hn,r.keep f x.dW hi (λc e=>e) λc c c e=>e⟩
 .exact eY (d.lim a i e) λg j a3=>iU (aQ j hn) g a3
theorem jR.jump (j:bw X) (hx:jR X r n b ns a x):jR X r n b ns (sJ d a) x:=by
 intro A F env ρ w h s I he J L res e Q E;refine cI (lG (show Mine.jump aj h (λh=>a.f r ρ h (λρ h=>Mine.jump d h λh=>J ρ h) (λv h=>Mine.jump d h λh=>L v h))=af res from e)) λh1 e M N=>aC (I.jump j M N) λk l=>hx A F env ρ w h1 s l (he.ext k) _ _ res e Q ⟨λm o h2 p c q t u=> ?_,λo h2 p v y c t hv u=> ?_⟩
 .exact jo (lG u) λz B C D=>aC (c.jump j C B) λi g=>E.next m o z p g (q.ext i) ((k.none.trans t).trans i.none) D
 .exact jo (lG u) λz B C D=>aC (c.jump j C B) λi g=>E.ret o z p v y g ((k.none.trans t).trans i.none) (hv.mono i.dW) D
theorem cQ.jump (j:bw X) (hx:cQ X r n b ns a x):cQ X r n b ns (xJ d a) x:=by
 intro A o env ρ w h s p he k res e Q q;exact jo (lG (show Mine.jump aj h (λh=>a.f r ρ h λv h=>Mine.jump d h λh=>k v h)=af res from e)) λh1 t u e=>aC (p.jump j u t) λl c=>hx A o env ρ w h1 s c (he.ext l) _ res e Q λz h2 B v y g C hv D=>jo (lG D) λE F I J=>aC (g.jump j I F) λm i=>q z E B v y i ((l.trans C).trans m) (hv.mono m.dW) J
variable {K:Frag} {G:Str->Option V} {Ms:Nat->List (Nat×Nat)}
theorem Yv (h:c=aj->cQ X r n b ns x e):cQ X r n b ns (k6 c x fk) e:=zo (P:=λx=>cQ X r n b ns x e) (λa=>cQ.bad _) h
theorem Yw {s} (h:c=ao->jR X r n b ns x s):jR X r n b ns (k6 c kX x) s:=zo (P:=λx=>jR X r n b ns x s) h λa=>jR.bad _
theorem Be (h:xP e=ao):jr e=false:=by rcases e<;>first|rfl|exact ff h
set_option smartUnfolding false in
theorem nh (c:l6 X K G Ms r n b):∀k ns e,cQ X r n b ns (nH G Ms k ns e) e:=by
 intro k
 induction k with
 |zero=>
  intro _ _;exact cQ.bad _
 |succ k a=>
  intro ns e;have i:=(iA c 30).e ns e
  induction e using aR with
  |Tuple d z p=>exact Yv λh=>cQ.tuple c.ax c.htab z p (qd (a ns) h)
  |List d p=>exact Yv λh=>cQ.list c.ax p (qd (a ns) h)
  |Compare l g d p=>
   induction g using BL with
   |one op=>
    induction d using BL with
    |one y=>exact Yv λj=>cQ.cmp (rZ c op) p (rt j) (a ns l) (a ns y)
    |zero=>exact cQ.bad _
    |more=>exact cQ.bad _
   |zero=>exact cQ.bad _
   |more=>exact cQ.bad _
  |Call f args m p=>exact cQ.jump c.ax i
  |_=>exact i
set_option smartUnfolding false in
theorem Ij (c:l6 X K G Ms r n b) ns e:CP X r n b ns e (JS G Ms ns e):=by
 have m:=iA c 30
 induction e using aR with
 |ListComp i d sc p=>
  induction d using BL with
  |one g=>
   rcases g with⟨j,u,k,a⟩
   refine CP.dec λo=>CP.if λq=>CP.if λhp=>um (uU c (m.e ns) hp) λv t f l=> ?_;have h:=cQ.comp (ns:=ns) c.ax c.hbase c.htab (Ck q) f t (zp c.ax j) l (m.ifs _ k) (nh c 30 _ i) p;rw [<-o] at h;exact⟨h.1,λx=>h.2⟩
  |zero=>exact CP.bad
  |more g=>rcases g with⟨_,_,_,_⟩;exact CP.bad
 |_=>exact CP.bad
set_option smartUnfolding false in
theorem Cv (c:l6 X K G Ms r n b) ns e:jX X r n b ns (NP G Ms ns e) e:=by
 induction e using aR with
 |Compare l a d p=>
  induction a using BL with
  |one op=>
   induction d using BL with
   |one y=>exact zo (P:=λx=>jX X r n b ns x (.Compare l [op] [y] p)) (λg=>jX.bad _) λf=>jX.cmp (rZ c op) _ (rt f) (nh c 30 ns _) (nh c 30 ns _)
   |zero=>exact jX.bad _
   |more=>exact jX.bad _
  |zero=>exact jX.bad _
  |more=>exact jX.bad _
 |_=>exact jX.bad _
set_option smartUnfolding false in
theorem Ik (c:l6 X K G Ms r n b) ns e:jX X r n b ns (EZ G Ms ns e) e:=by
 have g:=(iA c 30).t ns e
 induction e using aR with
 |BoolOp op d p=>
  induction d using Vw with
  |two x y=>
   have:=jX.bools (ns:=ns) p (tM.more (op:=op) (Cv c ns x) (tM.one (Cv c ns y)));rcases op<;>exact this
  |zero=>exact jX.bad _
  |one=>exact jX.bad _
  |more=>exact jX.bad _
 |Compare a f d p=>exact Cv c ns (.Compare a f d p)
 |_=>exact g
set_option smartUnfolding false in
theorem Il (c:l6 X K G Ms r n b) ns e:cQ X r n b ns (JT G Ms ns e) e:=zo (P:=λx=>cQ X r n b ns x e) (λa=>(iA c 30).e ns e) λa=>nh c 30 ns e
set_option smartUnfolding false in
theorem Im (c:l6 X K G Ms r n b) ns e:cQ X r n b ns (JV G Ms ns e) e:=by
 have i:=nh c 30 ns e
 induction e using aR with
 |Call f args d p=>
  induction d using zL with
  |cons=>exact cQ.bad _
  |nil=>exact Yv λa=>zo (P:=λx=>cQ X r n b ns x (.Call f args [] p)) (λj=>(iA c 30).e ns _) λg=>cQ.call c.rk p (λo m q h=>by rw [h] at g;exact ft g) a ((iA c 30).e ns f) (qd (nh c 30 ns) a)
 |_=>exact i
set_option smartUnfolding false in
theorem Io (c:l6 X K G Ms r n b) ns e:CP X r n b ns e (JU G Ms ns e):=
 zo (P:=CP X r n b ns e) (λa=>Ij c ns e) λa=>CP.unless λh=>CP.no h (Il c ns e)
theorem i8.pad (m:bw X):i8 X r n b ns E1 []:=by
 intro A q env ρ w h s t he o u res e Q p;refine jo (lG (show Mine.jump aj h (λh=>Mine.jump aj h λh=>o ρ h)=af res from e)) λh1 z B e=>aC (t.jump m B z) λC f=>jo (lG e) λh2 D E e=>aC (f.jump m E D) λF g=> ?_;have x:=C.trans F;exact i8.nil (r:=r) A q env ρ w h2 s g (he.ext x) o u res e Q ⟨λi j k l a c d e=>p.next i j k l a c (x.none.trans d) e,λj k l v y a d hv e=>p.ret j k l v y a (x.none.trans d) hv e⟩
set_option smartUnfolding false in
theorem Ip (c:l6 X K G Ms r n b) ns (t e):CP X r n b ns e (JX G Ms ns t e):=
 zo (P:=CP X r n b ns e) (λa=>CP.if λh=>CP.no (Be h) (cQ.jump c.ax ((iA c 30).e ns e))) λa=>Io c ns e
theorem LA (c:l6 X K G Ms r n b) p (d:nD t e=ao) (he:CP X r n b ns e a):jR X r n b ns (jq (Dk G Ms ns t) a) (.Assign [t] e p):=by
 have f:br t=false:=by rcases t<;>first|rfl|exact ff d
 induction g:jr e using zB with
 |true=>exact jR.GI c.ax p he.1 (he.2 g) (xZ c ns t) g f
 |false=>exact jR.assign c.ax p he.1 (xZ c ns t) g d (λts z p q=>cR q DZ) (λts p q=>cR q (λi i i i=>rfl)) f
set_option smartUnfolding false in
theorem Iq (c:l6 X K G Ms r n b) ns s:jR X r n b ns (JY G Ms ns s) s:=by
 have d:=(Fz c 100).1 ns s
 induction s using eX with
 |Assign ts e p=>
  induction ts using BL with
  |one t=>
   exact Yw λf=>Yw λh=>Yw λa=>LA c p a (CP.no (Be h) (cQ.jump c.ax ((iA c 30).e ns e)))
  |zero=>exact jR.bad _
  |more=>exact jR.bad _
 |_=>exact d
set_option smartUnfolding false in
theorem Ir (c:l6 X K G Ms r n b) ns s:jR X r n b ns (E2 G Ms ns s) s:=by
 have g:=(Fz c 100).1 ns s
 induction s using eX with
 |Return e p=>
  induction e using zO with
  |none=>exact jR.bad _
  |some e=>exact jR.ret p (Im c ns e)
 |Assign ts e p=>
  induction ts using BL with
  |one t=>
   exact Yw λf=>LA c p f (Ip c ns t e)
  |zero=>exact jR.bad _
  |more=>exact jR.bad _
 |If t a d p=>
  induction d using zL with
  |cons=>exact jR.bad _
  |nil=>
   refine jR.ite p (Ik c ns t) ?_ (i8.pad c.ax)
   induction a using BL with
   |one s=>
    exact i8.cons (Iq c ns s) i8.nil
   |zero=>exact i8.bad _
   |more=>exact i8.bad _
 |_=>exact g
theorem LB (c:l6 X K G Ms r n b) ns:∀body:List Stmt,i8 X r n b ns (J3 G Ms ns body) body:=by
 intro body
 induction body with
 |nil=>
  exact i8.nil
 |cons s d a=>
  exact i8.cons (jR.jump c.ax (Ir c ns s)) a
end
section
variable {prog:Program} {ww:World} {A:Around}
theorem LC (n:A.handled=au) (I d) (l:d≠I) es ep:Walks prog ww A I [I,d] [I] es.size (λi v=>∃j,es[i]? =af j/\v=j.key) (λi h=>h.IsKeyIter I d i es.size ep/\h.get? d=af (cJ es ep)) where
 sub:=λb hb=>by simp at hb;simp [hb]
 frame:=λg g g a hk=>⟨a.1.at λo e=>hk I aE o e,hk d (mL rfl) _ a.2⟩
 item:=λi s Q E hi a k=>by
  refine v9 n a.1 a.2 rfl (λj hx h' c f=> ?_) (λhx=> ?_)
  .exact k _ h' s.toks (bW j hx rfl) ⟨c,f.extBut _ _ l a.2⟩ λb o hb e=>f.extBut b o (λh=>hb (by simp [h])) e
  .rw [ez] at hx;lia
 done:=λs Q E a k=>by
  refine v9 n a.1 a.2 rfl (λj hx h' c f=> ?_) (λhx h' m=> ?_)
  .have:=(fJ.mp hx).1;lia
  .exact k h' s.toks λb o hb e=>m b o (λh=>hb (by simp [h])) e
 self:=λg g g g a k=>wpAny_pyIter_keyiter a.1 k
theorem GN d (c:(d==k9)=aj) es ep (X:dw):KdlSrc X.prog X.w "dict" d d es.size (λi v=>∃b,es[i]? =af b/\v=b.key) (λh=>h.get? d=af (cJ es ep)) where
 type:=λa hm=>bW _ hm rfl
 there:=λa hm=>⟨bk hm,bk hm⟩
 keep:=λa a hm hk=>hk d (.inl rfl) _ hm
 notList:=rfl
 notTuple:=rfl
 hint:=λa a a a hm hq=>kdl_hint_dict (bW _ hm rfl) hq
 iter:=λA s e hm=>jV _ _ (λa a hq=>DU c hm hq) (LC e _ d (cj (bk hm)) es ep) ⟨(f5 _ (aJ _ rfl) rfl rfl),az _ hm⟩
end
section
variable {X:dw} {w:Wd} {h:H} {s:Shared}
theorem St.tabAt (b:St X w h s) (c:h.l.get i=af o) (ht:o.t=2):∃a ep,s.heap.get? (w.ρ i)=af (cJ a ep)/\a.size<=1000000/\gS X s.heap w h.n o.kvs a.toList/\w.role (w.ρ i)=af i:=by
 obtain⟨a,ep,d,e,hn,f,_⟩:=(b.rep i o c).2.kI ht;exact lA a ep e hn f d
theorem FA (b:St X w h s) (a:10<=X.h₀.objs.size) (c:w.role (w.ρ i)=af i):(w.ρ i==k9)=false:=by
 have:=(b.lim _ i c).2.1;have h2:k9<10:=by decide
 exact beq_eq_false_iff_ne.mpr (iw (aQ h2 (aI a this)))
theorem D3 (a:iR (qS X g w n) kvs es):ef X g w n (kvs.map eB) (es.map DictEntry.key):=by
 induction a with
 |nil=>exact .nil
 |cons x _ b=>exact .cons _ _ _ _ x.key b
theorem zu {b:Array aV} (h:ItemsOf (λi v=>∃c,b[i]? =af c/\v=c.key) acc b.size):acc.toList=b.toList.map DictEntry.key:=by
 apply List.ext_getElem?;intro i;refine cR kY (cR bz (cR bz ?_))
 induction d:acc[i]? using zO with
 |none=>
  rw [ez] at d;have:b[i]? =none:=by rw [ez];have:=h.1;exact le_of_eq_of_le (id (gA this)) d
  refine cR this ?_;rfl
 |some v=>
  refine aL (h.2 i v d) λc e=> ?_;subst e;intro f;refine cR f ?_;rfl
theorem Bf (m:bw X) (p:St X w h s) {b:Addr} (hb:s.heap.objs.size<=b) (hk:∀b o,s.heap.get? b=af o->h'.get? b=af o) (c:h'.get? b=af (gn acc c')) (hv:ef X s.heap w h.n xs acc.toList) (hn:acc.size<=1000000)
 (e:k (bP h.n) ⟨HT.ins (bL xs) h.l h.n,h.n+1⟩=af res) (q:Goes (PV X) X w h.n s k res Q):Q (.ref b) {s with heap:=h',toks:=tk}:=by
 have d:=bk c;refine f7 (p.new m (o:=bL xs) (b:=b) (own:=λa=>a==b) (ReflBEq.rfl) (s':={s with heap:=h',toks:=tk}) (aI hb (gM d))
  (λa r=>by have:a=b:=(by simpa using r);subst this;exact⟨hb,d⟩) (λa f e=>hk a f e) rfl rfl 0 _ rfl
  (λt u j y=> .list xs acc c' (cR j u) (cR j c) hn (hv.mono t))) λv x=> ?_
 refine q _ _ _ _ _ v x ?_ e;have:=VR.ref (X:=X) (g:=h') (w:=⟨λi=>if i=h.n then b else w.ρ i,λa=>if(a==b)=ao then af h.n else w.role a,λi=>if i=h.n then 0 else w.ua i⟩) (n:=h.n+1) h.n (bN _);simpa using this
theorem D4 (l:List (V×V)):lY eB l=l.map eB:=by
 induction l with
 |nil=>rfl
 |cons a l b=>show a.1::lY eB l=_;refine cR b ?_;rfl
theorem OI (l:bw X) (b:10<=X.h₀.objs.size):qb X 5:=by
 intro n A x w h s f vs ys hv k res g Q m;refine eT ?_;refine dM (eu g) λv c=> ?_;subst c;intro e;refine dM hv.one λy c=> ?_;subst c;intro hy;refine su e (λz e=> ?_) λi e=> ?_
 .refine aC (dK e) λe i=>fF (hy.g6 (aH z)) λt items ep j q r ht hn d=>cR q ?_;exact D0 l f (.inr rfl) j rfl rfl hn d e m
 refine dD (dj e) λo e B u=>cR ((hy.er B).1) (su e (λh1 e=> ?_) λi e=> ?_)
 .exact aC (dK e) λe i=>sO (f.listAt u (aH h1)) λitems ep j hn d i=>D0 l f (.inl rfl) j rfl rfl hn d e m
 refine aC (dK e) λe h2=>aC (dK e) λe i=>sO (f.tabAt u (aH h2)) λC ep j hn D r=>kdl_call (GN _ (FA f b r) C ep X) x.handled j (aI hn bx) λh' tk acc c' hk p a=> ?_;have E:=a.1;rw [D4] at e;exact Bf l f (bu _) hk p (cR (zu a) (D3 D.all)) (by lia) e m
end
theorem Bg lt (x y) l:EO lt x (y::l)=bif lt x y then x::y::l else y::EO lt x l:=by
 refine(?_:(ah (y::EO lt x l) (x::y::l) (lt x y):List V)=_);rcases lt x y<;>rfl
theorem Bh lt x:∀l:List V,(EO lt x l).Perm (x::l):=by
 intro l
 induction l with
 |nil=>
  exact List.Perm.refl _
 |cons y l a=>
  refine cR (Bg ..) ?_
  induction lt x y using zB with
  |true=>exact List.Perm.refl _
  |false=>exact((a).cons y).trans (List.Perm.swap x y l)
theorem FD lt x l:oA lt (x::l)=EO lt x (oA lt l):=rfl
theorem jT lt:∀l:List V,(oA lt l).Perm l:=by
 intro l
 induction l with
 |nil=>
  exact List.Perm.refl _
 |cons x l a=>
  refine cR (FD ..) ?_;exact(Bh lt x _).trans ((a).cons x)
section
variable {α:Type} (R:α->α->Prop) (f:V->α) (lt:V->V->Bool)
theorem D5 (d:∀a b c,R a b->R b c->R a c) {x:V}:∀{l},(∀y∈l,(lt x y=ao->R (f x) (f y))/\(lt x y=aj->R (f y) (f x)))->l.Pairwise (λa b=>R (f a) (f b))->(EO lt x l).Pairwise (λa b=>R (f a) (f b)):=by
 intro l
 induction l with
 |nil=>
  intro _ _;show([x]:List V).Pairwise _;exact List.pairwise_singleton _ _
 |cons y l i=>
  intro h p;refine cR (Bg ..) ?_;have hy:=h y aE;rw [iT] at p
  induction e:lt x y using zB with
  |true=>
   refine iT.mpr ⟨λz hz=> ?_,iT.mpr p⟩;rcases aT.mp hz with rfl|hz
   .exact hy.1 e
   .exact d _ _ _ (hy.1 e) (p.1 z hz)
  |false=>
   refine iT.mpr ⟨λz hz=> ?_,i (λz hz=>h z (aD _ hz)) p.2⟩;rcases aT.mp ((Bh lt x l).mem_iff.mp hz) with rfl|hz
   .exact hy.2 e
   .exact p.1 z hz
theorem uW (d:∀a b c,R a b->R b c->R a c):∀{l},(∀x∈l,∀y∈l,(lt x y=ao->R (f x) (f y))/\(lt x y=aj->R (f y) (f x)))->(oA lt l).Pairwise (λa b=>R (f a) (f b)):=by
 intro l
 induction l with
 |nil=>
  intro _;exact List.Pairwise.nil
 |cons x l e=>
  intro h;refine D5 R f lt d (λy hy=>h x aE y (aD _ ((jT lt l).mem_iff.mp hy))) (e λa i b hb=>h a (aD _ i) b (aD _ hb))
end
section
variable {X:dw} {g:Heap} {w:Wd} {n:Nat}
theorem ef.mem (h:ef X g w n vs ys) (hv:v∈vs):∃y,y∈ys/\VR X g w n v y:=by
 obtain⟨i,hi,rfl⟩:=nj hv;refine aL (h.get (bB hi)) λy r hy=> ?_;exact bW y (cY hy) r
theorem VR.int_at (h:VR X g w n v y) (h2:v.t=2) t:VR X g w n v (.int (dS v) t):=by
 induction h using Mine.VR.casesOn with
 |nat k a=>exact .nat k t
 |neg k a=>exact .neg k t
 |_=>exact nn h2 rfl
theorem VR.T5 (h:VR X g w n v y) (a:v.t=3) t:VR X g w n v (.str ⟨v.l.toArray⟩ t):=by
 induction h using Mine.VR.casesOn with
 |str l b hn=>exact .str l t hn
 |_=>exact nn a rfl
theorem ef.ints (h:ef X g w n vs ys) (h2:∀v∈vs,v.t=2):IntsAre ys (vs.map dS):=by
 induction vs generalizing ys with
 |nil=>cases h;exact .nil
 |cons v vs b=>
  cases h with
  |cons _ y _ ys hv c=>
   refine fB (hv.cS (cR (h2 v aE) rfl)) λt a=> ?_;subst a;exact .cons _ _ (b c λu hu=>h2 u (aD _ hu))
theorem ef.strs (h:ef X g w n vs ys) (b:∀v∈vs,v.t=3):StrsAre ys (vs.map λv=>⟨v.l.toArray⟩):=by
 induction vs generalizing ys with
 |nil=>cases h;exact .nil
 |cons v vs c=>
  cases h with
  |cons _ y _ ys hv d=>
   have a:=b v aE
   induction hv using Mine.VR.casesOn with
   |str l t hn=>exact .cons _ _ (c d λu hu=>b u (aD _ hu))
   |_=>exact nn a rfl
theorem LD:∀{vs} {ys},(∀v∈vs,v.t=2/\∃y,VR X g w n v y)->IntsAre ys (vs.map dS)->ef X g w n vs ys:=by
 intro vs
 induction vs with
 |nil=>
  intro ys _ h;cases h;exact .nil
 |cons v vs a=>
  intro ys hv h;cases h with
  |cons i t b=>
   obtain⟨h2,y,r⟩:=hv v aE;exact .cons _ _ _ _ (r.int_at h2 t) (a (λu hu=>hv u (aD _ hu)) b)
theorem LG:∀{vs} {ys},(∀v∈vs,v.t=3/\∃y,VR X g w n v y)->StrsAre ys (vs.map λv=>⟨v.l.toArray⟩)->ef X g w n vs ys:=by
 intro vs
 induction vs with
 |nil=>
  intro ys _ h;cases h;exact .nil
 |cons v vs a=>
  intro ys hv h;cases h with
  |cons i t b=>
   obtain⟨c,y,r⟩:=hv v aE;exact .cons _ _ _ _ (r.T5 c t) (a (λu hu=>hv u (aD _ hu)) b)
theorem zv:∀{l},qt t l=ao->∀v∈l,v.t=t:=by
 intro l
 induction l with
 |nil=>
  intro _ v hv;exact(aU hv).elim
 |cons u l c=>
  intro e v hv;refine aC (vZ e) λb a=> ?_;rcases aT.mp hv with rfl|hv
  .exact a
  .exact c b v hv
theorem zx (h:ef X g w n l ys) (h2:∀v∈l,v.t=2) (ho:IntsAre out ns') (hp:ns'.Perm (l.map dS)) (hs:ns'.Pairwise (·<= ·)):ef X g w n (oA wN l) out:=by
 have mem:∀v∈oA wN l,v∈l:=λv hv=>(jT wN l).mem_iff.mp hv;have e:(oA wN l).map dS=ns':=by
  refine ym (le:=λa b:Int=>a<=b) (λa b U U h1 h2=>Int.le_antisymm h1 h2) ?_ hs (((jT wN l).map dS).trans hp.symm);rw [wK];refine uW (λa b:Int=>a<=b) dS wN (λa b c=>eg) λx hx y hy=>dM (h.mem hx) λa U ra=>dM (h.mem hy) λb U rb=> ?_;rw [tL ra rb (cR (h2 x hx) rfl) (cR (h2 y hy) rfl)];simp only [decide_eq_true_eq,decide_eq_false_iff_not];lia
 refine LD (λv hv=>⟨h2 v (mem v hv), ?_⟩) (cR e ho);exact dM (h.mem (mem v hv)) λy U r=>⟨y,r⟩
theorem zy (h:ef X g w n l ys) (h3:∀v∈l,v.t=3) (ho:StrsAre out ss') (hp:ss'.Perm (l.map λv=>⟨v.l.toArray⟩)) (hs:ss'.Pairwise (λa b=>¬b.cps.toList<a.cps.toList)):ef X g w n (oA Rx l) out:=by
 have mem:∀v∈oA Rx l,v∈l:=λv hv=>(jT Rx l).mem_iff.mp hv;have e:(oA Rx l).map (λv=>(⟨v.l.toArray⟩:Str))=ss':=by
  refine ym (le:=λa b:Str=>¬b.cps.toList<a.cps.toList) (λa b U U h1 h2=> ?_) ?_ hs (((jT Rx l).map _).trans hp.symm)
  .obtain⟨a⟩:=a;obtain⟨b⟩:=b;have:a.toList=b.toList:=List.le_antisymm (jy.mp h1) (jy.mp h2);exact cR (Array.toList_inj.mp this) rfl
  .rw [wK];refine uW (λa b:Str=>¬b.cps.toList<a.cps.toList) (λv=>⟨v.l.toArray⟩) Rx (λa b c h1 h2=>jy.mpr (List.le_trans (jy.mp h1) (jy.mp h2))) λx hx y hy=>(?_:(NH x.l y.l=ao->_)/\(NH x.l y.l=aj->_));refine cR (Ky ..) ?_;simp only [decide_eq_true_eq,decide_eq_false_iff_not];exact⟨λq=>jy.mpr (List.le_of_lt q),λq=>q⟩
 refine LG (λv hv=>⟨h3 v (mem v hv), ?_⟩) (cR e ho);exact dM (h.mem (mem v hv)) λy U r=>⟨y,r⟩
end
section
variable {prog:Program} {ww:World} {A:Around} {E:Value->Shared->Prop} {s:Shared}
theorem LH (f:s.heap.get? a=af (seqObj "list" vs.toArray n)) (h2:vs.length<2) (h:P (.done (.ret .none)) {s with heap:=sortedHeap s.heap a vs vs.toArray}):
 wpAny (model prog ww) A (Builtin.«list.sort» ⟨[.ref a],[]⟩) P E s:=by
 refine cR (list_sort_plain ..) ?_;have l:=bk f;refine aq (listItems_at f rfl (aq (listUpdate_at f rfl ?_ (aI (by simp;lia) bx) (of_decide_eq_true rfl))));obtain⟨j,c⟩:∃j,(s.heap.update a (eG λk=> #[])).get? a=af (seqObj "list" #[] j):=⟨_,get?_update_seq f (λk=> #[])⟩;have d:(((s.heap.update a (eG λk=> #[])).push (seqObj "tuple" vs.toArray 0)).push (seqObj "list" #[] 0)).get? a=af (seqObj "list" #[] j):=by
  refine cR (o9 _ _ _ (cj (cR (size_push' ..) (cR (jB ..) (cK l))))) (cR (o9 _ _ _ (cj (cR (jB ..) l))) ?_);exact c
 refine aq (seqEpoch_at c rfl (aq (vH (aq (wpAny_newList (bO ((?_:wpAny (model prog ww) A _ P E {s with heap:=((s.heap.update a (eG λk=> #[])).push (seqObj "tuple" vs.toArray 0)).push (seqObj "list" #[] 0)}))))))));have e:=h2;refine cR (if_pos e) (cR (if_pos e) (bp (bp ?_)));dsimp only;have b:(arrOf (SortSt.mk' general' (vs.toArray.zip vs.toArray) #[] 7 au)).map (·.2)=vs.toArray:=by
  refine(?_:(vs.toArray.zip vs.toArray).map (·.2)=_);apply Array.ext (by simp);intro i h1 h2;simp
 refine aq (seqEpoch_at d rfl (aq (listUpdate_at d rfl ?_ (of_decide_eq_true rfl) (by refine cR b ?_;exact aI (by simp;lia) (xu bx)))));simp only [bne_self_eq_false,iS,if_false];exact cR b (av h)
end
theorem zA {c:Nat->Nat->(Bool->Shared->Prop)->Shared->Prop} {d:Nat->Nat->Option Bool} {s:Shared} (f:∀i j b C,d i j=af b->C b s->c i j C s):∀(t:PySem.W.KasT (Array Nat)) {p:Array Nat} {G:Array Nat->Shared->Prop},uA d t=af p->G p s->t.kasWp c G s
 | .ret a,p,G,e,hG=>by
  injection e with e;subst e;exact hG
 | .ask i j k,p,G,e,hG=>by
  exact aL (pS (show(aB au (λb=>uA d (k b)) (d i j):Option (Array Nat))=af p from e)) λb e hb=>f i j b _ hb (zA f (k b) e hG)
section
variable {prog:Program} {ww:World} {A:Around} {E:Value->Shared->Prop} {s:Shared}
theorem LI (y:s.heap.get? a=af (seqObj "list" vs.toArray n)) (h2:2<=vs.length) (z:vs.length<64)
 (f:∀h' Q,(∀b o,b≠a->s.heap.get? b=af o->h'.get? b=af o)->Q κ {s with heap:=h'}->wpAny (model prog ww) A (keyKind' vs.toArray) Q (λc c=>False) {s with heap:=h'})
 (m:∀h' i j b C,(∀b o,b≠a->s.heap.get? b=af o->h'.get? b=af o)->lt i j=af b->C b {s with heap:=h'}->wpAny (model prog ww) A (keyLt' κ (vs.getD i dX) (vs.getD j dX)) C (λc c=>False) {s with heap:=h'})
 (hp:uA lt (vz vs.length)=af p) (h:p.size=vs.length->P (.done (.ret .none)) {s with heap:=sortedHeap s.heap a vs (List.toArray (p.toList.map λi=>vs.getD i dX))}):
 wpAny (model prog ww) A (Builtin.«list.sort» ⟨[.ref a],[]⟩) P E s:=by
 refine cR (list_sort_plain ..) ?_;have F:=bk y;refine aq (listItems_at y rfl (aq (listUpdate_at y rfl ?_ (aI (by simp;lia) bx) (of_decide_eq_true rfl))));obtain⟨B,q⟩:∃B,(s.heap.update a (eG λc=> #[])).get? a=af (seqObj "list" #[] B):=⟨_,get?_update_seq y (λc=> #[])⟩;have r:(((s.heap.update a (eG λc=> #[])).push (seqObj "tuple" vs.toArray 0)).push (seqObj "list" #[] 0)).get? a=af (seqObj "list" #[] B):=by
  refine cR (o9 _ _ _ (cj (cR (size_push' ..) (cR (jB ..) (cK F))))) (cR (o9 _ _ _ (cj (cR (jB ..) F))) ?_);exact q
 have I:∀b o,b≠a->s.heap.get? b=af o->(((s.heap.update a (eG λc=> #[])).push (seqObj "tuple" vs.toArray 0)).push (seqObj "list" #[] 0)).get? b=af o:=λb o hb e=>
  az _ (az _ ((Heap.get?_update_ne _ _ _ _ hb).trans e))
 refine aq (seqEpoch_at q rfl (aq (vH (aq (wpAny_newList (bO ?_))) (by show vs.length<=_;exact aI (by lia) bx))));refine(?_:wpAny (model prog ww) A _ P E {s with heap:=((s.heap.update a (eG λc=> #[])).push (seqObj "tuple" vs.toArray 0)).push (seqObj "list" #[] 0)});have t:¬vs.toArray.size<2:=cR o8 ((λ{a b}=>Iff.mpr bD) h2);refine cR (if_neg t) (cR (if_neg t) (aq (fX (f _ (λu s'=>u=κ/\s'={s with heap:=((s.heap.update a (eG λc=> #[])).push (seqObj "tuple" vs.toArray 0)).push (seqObj "list" #[] 0)}) I ⟨rfl,rfl⟩) (λu R hk=> ?_) λc c x=>x.elim)));refine f7 hk λk l=> ?_;subst k;subst l;refine aq (fX (PySem.W.kat_run (Q:=λd s'=>p.size=vs.length/\arrOf d=p.map (PySem.W.kas_item (vs.toArray.zip vs.toArray))/\failedOf d=au/\s'={s with heap:=((s.heap.update a (eG λc=> #[])).push (seqObj "tuple" vs.toArray 0)).push (seqObj "list" #[] 0)})
  (G:=λJ s'=>J=p/\s'={s with heap:=((s.heap.update a (eG λc=> #[])).push (seqObj "tuple" vs.toArray 0)).push (seqObj "list" #[] 0)}) rfl h2 z (λJ d s' K L a3 M=> ?_) (zA (λi j b C hb N=>m _ i j b C I hb N) _ hp ⟨rfl,rfl⟩)) ?_ λc c e=>e)
 .refine f7 M λk l=> ?_;subst k;subst l;exact qF K L a3 rfl
 rintro⟨⟨⟩,d⟩ s' ⟨v,D,O,rfl⟩;dsimp only;refine cR (PySem.W.kat_snds (ks:=vs) rfl D) (aq (seqEpoch_at r rfl (aq (listUpdate_at r rfl ?_ (iy _) (aI (cX (cR o8 (cR (eF ..) (cR aM (cR v rfl))))) (aI (by lia) (xu bx)))))));refine cR O ?_;simp only [bne_self_eq_false,iS,if_false];exact av (h v)
end
theorem sC:∀{l} {p},risingS p l=ao->(p::l).Pairwise (λa b=>¬b.cps.toList<a.cps.toList):=by
 intro l
 induction l with
 |nil=>
  intro p _;exact List.pairwise_singleton _ _
 |cons x l c=>
  intro p h;have h:(!Spec.ltCps x.cps.toList p.cps.toList&&risingS x l)=true:=h;rw [aP] at h;have h1:¬x.cps.toList<p.cps.toList:=by
   have:=h.1;rw [ltCps_eq] at this;simpa using this
  have c:=c h.2;refine iT.mpr ⟨λy hy=> ?_,c⟩;rcases aT.mp hy with rfl|hy
  .exact h1
  .exact jy.mpr (List.le_trans (jy.mp h1) (jy.mp ((iT.mp c).1 y hy)))
theorem mS (h:sortedS l=ao):l.Pairwise (λa b=>¬b.cps.toList<a.cps.toList):=by
 induction l using zL with
 |nil=>exact .nil
 |cons x l=>exact sC h
section
variable {X:dw} {w:Wd} {h:H} {s:Shared}
theorem LJ (p:St X w h s) (c:10<=X.h₀.objs.size) (hy:VR X s.heap w h.n v y) (e:items v h k=af res):
 ∃l r,ef X s.heap w h.n l r/\r.length<=1000000/\k l h=af res/\∀A E Q,A.handled=au->
  (∀h' tk,(∀b o,s.heap.get? b=af o->h'.get? b=af o)->s.heap.objs.size<=h'.objs.size->Q r {s with heap:=h',toks:=tk})->wpAny (model X.prog X.w) A (collect y) Q E s:=by
 refine su e (λz e=> ?_) λm e=> ?_
 .exact fF (hy.g6 (aH z)) λt items ep f q m m hn d=>lA v.xs _ d (cR aM hn) e (λA E Q u i=>q▸bX (Ar t (.inr rfl) f rfl rfl (λh' hk a=>i h' s.toks hk a) (aI hn bx)))
 refine dD (dj e) λo e B x=> ?_;have hy:=(hy.er B).1;refine su e (λh1 e=> ?_) λm e=> ?_
 .exact sO (p.listAt x (aH h1)) λitems ep f hn d m=>lA o.xs _ d (cR aM hn) e (λA E Q u i=>hy▸bX (Ar _ (.inl rfl) f rfl rfl (λh' hk a=>i h' s.toks hk a) (aI hn bx)))
 refine aC (dK e) λe h2=>sO (p.tabAt x (aH h2)) λC ep f hn D F=> ?_;rw [D4] at e;exact lA _ _ (D3 D.all) (cR (eF ..) (cR aM hn)) e (λA E Q u i=>hy▸bX (kdu_collect (GN _ (FA p c F) C ep X) u f (aI hn bx) λh' tk acc hk j a=>cR (zu j) (i h' tk hk a)))
end
theorem D6 v l:pZ (v::l)=ah aj (ah (ah aj (pZ l) (allInts v.xs)) aj (isNil v.xs)) (ak v.t 5):=rfl
theorem wj (h:pZ (u::l)=ao):(u.t=5/\u.xs≠[]/\allInts u.xs=ao)/\pZ l=true:=by
 rw [D6] at h;exact aC (bT h) λh a=>aC (bF h) λh hn=>f7 (bT (x:=pZ l) (b:=allInts u.xs) h) λhi h=>⟨(iU (aH a) (λq=>by rw [q] at hn;exact ft hn) hi),h⟩
theorem zC:∀{l},pZ l=ao->∀v∈l,v.t=5/\v.xs≠[]/\allInts v.xs=true:=by
 intro l
 induction l with
 |nil=>
  intro _ v hv;exact(aU hv).elim
 |cons u l a=>
  intro h v hv;exact(aT.mp hv).elim (λq=>q▸(wj h).1) (a (wj h).2 v)
section
variable {X:dw} {g:Heap} {w:Wd} {n:Nat} {A:Around}
theorem LK:∀{xs ys} {d f},ef X g w n xs d->ef X g w n ys f->xA xs ys=af t->xs.length=ys.length->Q t s->∀i,PySem.W.KatLex prog ww A ao aj Q (d.zip f) i s:=by
 intro xs
 induction xs with
 |nil=>
  intro ys d f hx _ e _ q i;exact cR hx.nil_of (PySem.W.kat_nil ((uJ e).2▸q))
 |cons a xs r=>
  intro ys d f hx hy e hl q i;refine jH (rX e) λc F l hb m h=> ?_;subst hb;refine vK hx.cons_of λx d u o hx=>vK hy.cons_of λy f z p hy=>fB (o.cS l) λB h1=>fB (p.cS m) λC h2=> ?_;have j:=tH o p l m;refine cR u (cR z (cR h1 (cR h2 (PySem.W.kat_cons ((intKind prog ww).eqBool (a:=dS a) (b:=dS c) (intKind_is _ _ _ _) (intKind_is _ _ _ _) ?_)))));rcases h with⟨h1,h2⟩|⟨h1,D⟩
  .exact cL j (cR h1 (PySem.W.kat_yes (r hx hy h2 (Nat.succ.inj hl) q (i+1))))
  .refine cL j (cR h1 (PySem.W.kat_no ?_));rw [D,(tL o p l m)] at q
   induction i using zN with
   |zero=>exact oneLt_int q
   |succ i=>
    refine(?_:wpAny _ _ (oneLt' aj _ _) _ _ _);exact cR (oneLt'_eq ..) (Nu (aq (CmpOf.ints_lt (P:=λk v=>(k=0/\v= .int (dS a) B)\/(k=1/\v= .int (dS c) C)) (λk=>if k=0 then dS a else dS c) (λk v h=>by rcases h with⟨rfl,rfl⟩|⟨rfl,rfl⟩<;>exact⟨_,rfl⟩) 0 1 _ _ s _ _ (.inl ⟨rfl,rfl⟩) (.inr ⟨rfl,rfl⟩) (gH q))))
end
theorem OJ (c:a.t=5) (e:Sz a b=af t):xA a.xs b.xs=af t/\a.xs.length=b.xs.length:=by
 have e:(ah au
  (ah (ah (ah au (ah au (xA a.xs b.xs) (ak (len a.xs) (len b.xs))) (ak a.t 5)) (af (NH a.l b.l)) (ak a.t 3)) (af (wN a b)) (ak a.t 2)) (ak a.t b.t):Option Bool)=af t:=e
 refine aC (dK e) λe d=> ?_;rw [c] at e;refine f7 (dK e) λhl e=> ?_;rw [len_eq,len_eq] at hl;exact⟨e,aH hl⟩
section
variable {X:dw} {w:Wd} {h:H} {s:Shared} {A:Around}
theorem OL:∀{l} {ys},ef X g w n l ys->pZ l=ao->∃b:List Value,PySem.W.KatTups g ys b/\b.length=l.length/\∀v∈b,∃i t,v=gK i t:=by
 intro l
 induction l with
 |nil=>
  intro _ h _;exact f5 [] (cR h.nil_of trivial) rfl (λv hv=>(aU hv).elim)
 |cons v l e=>
  intro _ hl h;refine vK hl.cons_of λy ys j hv hl=> ?_;obtain⟨⟨k,m,o⟩,a⟩:=wj h;exact cI (e hl a) λb p r x=>fF (hv.g6 k) λt items ep z B C C hn d=>Sw (List.exists_cons_of_ne_nil m) λu us c=>dM (d.get (i:=0) (v:=u) (cR c rfl)) λf D F=>fB (F.cS (by rw [jY o u (cR c (aE ..))];rfl)) λtk G=>cR j (cR B (f5 (f::b) (PySem.W.KatTups.cons z rfl rfl (by refine cL D ?_;simp) r) (congrArg (·+1) x) (λv hv=>(aT.mp hv).elim (λq=>Vh _ _ (q.trans G)) (p v))))
theorem OM {x y} (p:VR X g w n a x) (r:VR X g w n c y) (m:a.t=5) (u:c.t=5) (hb:Sz a c=af b) (v:s.heap=g) (q:C b s):
 wpAny (model prog ww) A (keyLt' (tuples' (cW "int" !=cW "tuple")) x y) C (λf f=>False) s:=by
 refine f7 (OJ m hb) λz k=>fF (p.g6 m) λt items ep o h1 f f hn i=>fF (r.g6 u) λF d B j h2 f f D e=> ?_;rw [<-v] at o j;have l:decide (items.size<d.size)=false:=by
  rw [i.length,e.length,aM,aM] at k;refine cR k ?_;exact decide_eq_false (j4 _)
 exact cR h1 (cR h2 (PySem.W.kat_lt o rfl j rfl (cR l (LK i e z k q 0))))
theorem Iu (hl:ef X g w n l ys):∀p:List Nat,ef X g w n (lY (λi=>aB di (λv=>v) (sP l i)) p) (p.map λi=>ys.getD i dX):=by
 intro p
 induction p with
 |nil=>
  exact .nil
 |cons i p a=>
  refine .cons _ _ _ _ ?_ a;refine(?_:VR X g w n (aB di (λv=>v) (sP l i)) (ys.getD i dX));refine cR (mE ..) ?_
  induction hi:l[i]? using zO with
  |none=>
   have:=hl.get_none hi;refine cR dg (cR this ?_);exact .none
  |some v=>
   refine dM (hl.get hi) λy hy hv=>cR dg (cR hy ?_);exact hv
end
section
variable {X:dw} {w:Wd} {h:H} {s:Shared}
theorem FE (e:Ry l=af r):l.length<64/\((qt 2 l=ao/\r=oA wN l)\/(qt 3 l=ao/\r=oA Rx l)\/(l.length<=1/\r=l)\/(2<=l.length/\JD l=af r)):=by
 refine aC (dK e) λe a=> ?_;have a:=cH.mp a;rw [len_eq] at a;refine⟨a, ?_⟩
 induction h2:qt 2 l using zB with
 |true=>rw [h2] at e;exact .inl ⟨rfl,(aF e).symm⟩
 |false=>
  rw [h2] at e
  induction b:qt 3 l using zB with
  |true=>rw [b] at e;exact .inr (.inl ⟨rfl,(aF e).symm⟩)
  |false=>
   rw [b] at e
   induction h1:bQ (len l) 1 using zB with
   |true=>
    rw [h1] at e;have h1:=aA h1;rw [len_eq] at h1;exact .inr (.inr (.inl ⟨h1,(aF e).symm⟩))
   |false=>
    rw [h1] at e;refine .inr (.inr (.inr ⟨?_,e⟩));rcases Nat.lt_or_ge l.length 2 with q|q
    .have:bQ (len l) 1=true:=cR (len_eq ..) (l8 (pQ q));rw [this] at h1;exact ft h1
    .exact q
theorem Iv (ax:bw X) (B:10<=X.h₀.objs.size):qb X 8:=by
 intro n A hA w h s hs vs ys hv k res K Q hQ;refine eT ?_;refine dM (eu K) λv d=> ?_;subst d;intro e;refine dM hv.one λy d=> ?_;subst d;intro hy;refine uo (LJ hs B hy e) λl zs L hl hz e=>aL (bC e) λr e hr=>aC (dK e) λe J=>aC (FE hr) λD F=> ?_;have u:=hl.length;have hT:∀{p:Array Nat},2<=l.length->JD l=af r->pZ l=ao/\∃p,uA (λi j=>aB au (λa=>aB au (λb=>Sz a b) (sP l j)) (sP l i)) (vz l.length)=af p/\r=lY (λi=>aB di (λv=>v) (sP l i)) p.toList:=by
  intro _ _ e;refine aC (dK e) λe P=>dM (pS e) λp hp e=> ?_;rw [len_eq] at hp;exact yp P p hp ((aF e).symm)
 refine Calls.call_function_entry kind_sorted plain_sorted entry_sorted (args_sorted1 _) (aq (m:=checkCount "sorted" 1 1 _) (av (aq (L _ _ _ hA.handled λh1 tk hk M=>(aq (wpAny_newList ?_ (aI hz bx)))))));have f:(h1.push (seqObj "list" zs.toArray 0)).get? h1.objs.size=af (seqObj "list" zs.toArray 0):=aJ _ rfl;have z:∀out:Array Value,ef X s.heap w h.n r out.toList->out.size<=1000000->Q (.ref h1.objs.size) {s with heap:=sortedHeap (h1.push (seqObj "list" zs.toArray 0)) h1.objs.size zs out,toks:=tk}:=by
  intro out R N;refine fB (sortedHeap_at (out:=out) f) λc' S=>Bf ax hs M (λb o eb=> ?_) S R ?_ e hQ
  .have hb:=bk (hk b o eb);exact cR (sortedHeap_old (cj hb) (cR (size_push' ..) (cK hb))) (az _ (hk b o eb))
  .exact N
 refine aq (bO (bH slot_list_sort (bW _ f rfl) entry_list_sort ?_ (args_list_sort _)));have G:∀{r'} {out:Array Value},ef X s.heap w h.n r' out.toList->r'.length=l.length->out.size<=1000000:=λR q=>by
  have q1:=R.length;simp only [aM] at q1;lia
 rcases D with⟨h2,rfl⟩|⟨h3,rfl⟩|⟨hfew,rfl⟩|⟨h2,T⟩
 .have hm:=zv h2;exact list_sort_tree f (hl.ints hm) (lt_of_eq_of_lt (id (gA u)) F) λout ns' P a2 a3=>bW _ rfl (av (bW _ rfl (z out (zx hl hm P a2 a3) (G (zx hl hm P a2 a3) (jT _ _).length_eq))))
 .have hm:=zv h3;have V:=hl.strs hm;exact list_sort_treeK strKind_oneLt f V.keysOf (λv₁ v₂ rest q=>keyKind_strs (cL q V)) (lt_of_eq_of_lt (id (gA u)) F) λst' hp Y=>bW _ rfl (av (bW _ rfl (jz (sorted_out_str V hp Y) λss' b1 b2 b3=>z _ (zy hl hm b1 b2 (mS b3)) (G (zy hl hm b1 b2 (mS b3)) (jT _ _).length_eq))))
 .exact LH f (by lia) (bW _ rfl (av (bW _ rfl (z _ hl (G hl rfl)))))
 .refine dD (hT (p:= #[]) h2 T) λp d=> ?_;subst d;intro I hp;have O:=u.symm;rw [<-O] at hp h2;have up:∀h',(∀b o,b≠h1.objs.size->(h1.push (seqObj "list" zs.toArray 0)).get? b=af o->h'.get? b=af o)->ef X h' w h.n l zs:=λh' x=>by
   exact hl.mono (⟨bu _,λJ J=>rfl,λJ J=>rfl,λa o c1 J J c2=>⟨c1,x a o (cj (bk (hk a o c2))) (az _ (hk a o c2))⟩⟩)
  refine LI (κ:=tuples' (cW "int" !=cW "tuple")) f h2 (lt_of_eq_of_lt O F) (λh' Q' x q=> ?_) (λh' i j b C x hb q=> ?_) hp λhps=>bW _ rfl (av (bW _ rfl (z _ ((Iu hl p.toList)) (by simp;lia))))
  .refine cI (OL (up h' x) I) λfs f3 f1 f2=>PySem.W.kat_kind (s:={s with heap:=h',toks:=tk}) f1 (by lia) (λv hv=> ?_) rfl q;refine Sw (f3 v hv) λi t d=> ?_;subst d;exact .now
  .have hv:=up h' x;rw [mE,mE] at hb;refine aL (pS hb) λa hb ha=>dM (pS hb) λc hc hb=>dM (hv.get ha) λya Z va=>dM (hv.get hc) λyc hyc vc=>cR dg (cR dg (cR Z (cR hyc ?_)));exact OM va vc (zC I a (cY ha)).1 (zC I c (cY hc)).1 hb rfl q
end
namespace B
theorem LL:mroOf (.type "bytearray")=pure [.type "bytearray",.type "object"]:=by refine cR (mroOf_type ..) ?_;kernel_rfl
theorem AL:typeLookup (.type "bytearray") "__new__"=pure (af (.builtin "bytearray.__new__")):=by refine cR (typeLookup_type ..) (cR bA ?_);kernel_rfl
theorem Cw:Slot "bytearray" "__init__" "bytearray.__init__":=
 .of (owner:="bytearray") (n:="__init__") (by refine cR (typeLookup_type ..) (cR bA ?_);kernel_rfl) rfl rfl rfl
  (by first|exact .inl rfl|exact .inr (by decide+kernel)) (by refine cR (isSubtype_type ..) ?_;kernel_rfl)
theorem Cx:isSubtype (.type "bytearray") (.type "bytearray")=pure true:=by refine cR (isSubtype_type ..) ?_;kernel_rfl
theorem Iw:TypeCalled "bytearray" "bytearray.__new__" "bytearray.__init__":=
 ⟨by exact rfl,by decide+kernel,(Vh _ _ LL),madeBy_type LL AL (by decide+kernel),by decide+kernel,Cx,Cw⟩
theorem D7:checkTypeCall "bytearray" ⟨[],[]⟩=pure ():=by kernel_rfl
theorem FF:checkBuiltinCall "bytearray.__new__" ⟨[.type "bytearray"],[]⟩=pure ():=by kernel_rfl
theorem Cy:plainId "bytearray.__new__"=true:=by decide+kernel
theorem Cz:entryFor table "bytearray.__new__"=af Builtin.«list.__new__»:=entryFor_alias (id':="list.__new__") (by kernel_rfl) rfl (by decide+kernel) (by kernel_rfl)
theorem AO:entryFor table "bytearray.__init__"=af Builtin.«bytearray.__init__»:=by first|exact BK (by kernel_rfl)|exact nq (by kernel_rfl)
theorem CA a:argsOk "bytearray.__init__" ⟨[a],[]⟩:=by unfold argsOk;kernel_rfl
theorem LM:("bytearray.__new__".splitOn ".__new__").headD ""="bytearray":=cR split_bytearray rfl
theorem FG:typeLookup (.type "bytearray") "__release_buffer__"=pure (af (.builtin "bytearray.__release_buffer__")):=by refine cR (typeLookup_type ..) (cR bA ?_);kernel_rfl
theorem wm:typeLookup (.type "bytearray") "__buffer__"=pure (af (.builtin "bytearray.__buffer__")):=by refine cR (typeLookup_type ..) (cR bA ?_);kernel_rfl
theorem j0:typeLookup (.type "bytes") "__buffer__"=pure (af (.builtin "bytes.__buffer__")):=by refine cR (typeLookup_type ..) (cR bA ?_);kernel_rfl
theorem FH:typeLookup (.type "bytes") "__release_buffer__"=pure none:=by refine cR (typeLookup_type ..) (cR bA ?_);kernel_rfl
theorem T6:isSubtype (.type "bytes") (.type "bytes")=pure true:=by refine cR (isSubtype_type ..) ?_;kernel_rfl
theorem D8:typeLookup (.type "bytearray") "__bytes__"=pure none:=by refine cR (typeLookup_type ..) (cR bA ?_);kernel_rfl
theorem D9:typeLookup (.type "bytearray") "__index__"=pure none:=by refine cR (typeLookup_type ..) (cR bA ?_);kernel_rfl
theorem CB:typeLookup (.type "int") "__bytes__"=pure none:=by refine cR (typeLookup_type ..) (cR bA ?_);kernel_rfl
theorem int_index:typeLookup (.type "int") "__index__"=pure (af (.builtin "int.__index__")):=by refine cR (typeLookup_type ..) (cR bA ?_);kernel_rfl
theorem kK:Slot "bytearray" "extend" "bytearray.extend":=
 .of (owner:="bytearray") (n:="extend") (by refine cR (typeLookup_type ..) (cR bA ?_);kernel_rfl) rfl rfl rfl
  (by first|exact .inl (by decide+kernel)|exact .inr rfl) (by refine cR (isSubtype_type ..) ?_;kernel_rfl)
theorem xB:entryFor table "bytearray.extend"=af Builtin.«bytearray.extend»:=by first|exact BK (by kernel_rfl)|exact nq (by kernel_rfl)
theorem zD (a c):argsOk "bytearray.extend" ⟨[a,c],[]⟩:=by unfold argsOk;kernel_rfl
theorem e1:("bytearray.__buffer__".endsWith ("."++"__buffer__"))=true:=by decide+kernel
theorem e2:("bytes.__buffer__".endsWith ("."++"__buffer__"))=true:=by decide+kernel
theorem e3:("bytearray.__release_buffer__".endsWith ("."++"__release_buffer__"))=true:=by decide+kernel
set_option linter.deprecated false in
theorem d1:("bytearray.__buffer__".dropRight ("__buffer__".length+1))="bytearray":=by decide+kernel
set_option linter.deprecated false in
theorem d2:("bytes.__buffer__".dropRight ("__buffer__".length+1))="bytes":=by decide+kernel
set_option linter.deprecated false in
theorem d3:("bytearray.__release_buffer__".dropRight ("__release_buffer__".length+1))="bytearray":=by decide+kernel
end B
section
variable {prog:Program} {ww:World} {A:Around} {E:Value->Shared->Prop} {s:Shared}
theorem ru (b:s.TypeIs a "bytearray") (q:Q aj s):wpAny (model prog ww) A (vI a) Q E s:=by
 refine aq (aq (bV b B.FG ?_));dsimp only;exact cR B.e3 (Nu (cR B.d3 (fH b B.Cx (av q))))
theorem AP (b:s.TypeIs a "bytearray") (q:Q ao s):wpAny (model prog ww) A (wL a "__buffer__") Q E s:=by
 refine bq (bV b B.wm) ?_;dsimp only;exact cR B.e1 (Nu (cR B.d1 (fH b B.Cx q)))
theorem oZ (b:s.TypeIs a "bytes") (q:Q ao s):wpAny (model prog ww) A (wL a "__buffer__") Q E s:=by
 refine bq (bV b B.j0) ?_;dsimp only;exact cR B.e2 (Nu (cR B.d2 (fH b B.T6 q)))
theorem zE (b:s.TypeIs a "bytes") (q:Q aj s):wpAny (model prog ww) A (vI a) Q E s:=aq (aq (bV b B.FH (av (av q))))
theorem Bj {a:Addr} {Q:Bool->Shared->Prop} (q:Q aj s):cG (model prog ww) A (Builtin.Bytes.exported (.ref a)) Q E s:=by
 intro Γ p hΓ hcl;refine(?_:Q (List.any ((Γ.code,p)::Γ.below) _) s);have key:∀f:Code×Pos->Bool,(∀x,yL x.1=ao->f x=aj)->((Γ.code,p)::Γ.below).any f=false:=λf hf=>by
  rw [List.any_eq_false];intro x hx;have:yL x.1=true:=by
   rcases aT.mp hx with rfl|hx
   .exact hcl.1
   .exact hcl.2 x hx
  exact cR (hf x this) bZ
 rw [key]
 .exact q
 .intro x hx;rcases x with⟨c,pp⟩
  induction c using PySem.Code.casesOn with
  |builtin id as=>
   have hx:(!(oG.contains id))=true:=hx;have n:∀k,oG.contains k=ao->¬id=k:=λk hk q=>by rw [q,hk] at hx;exact ff hx
   have dh:Builtin.Bytes.decodersThatHold.contains id=false:=by
    unfold oG at hx;simp only [gq,List.contains_eq_mem,m6,decide_eq_false_iff_not,not_or] at hx⊢;exact hx.2
   delta Builtin.Bytes.exported.match_1;show(dite _ _ _:Bool)=aj;refine cR (dif_neg (n _ rfl)) (cR (dif_neg (n _ rfl)) (cR (dif_neg (n _ rfl)) (cR (dif_neg (n _ rfl)) (cR (dif_neg (n _ rfl)) ?_))));obtain⟨pos,kw⟩:=as
   induction pos using zL with
   |nil=>rfl
   |cons v r=>
    refine(?_:(Builtin.Bytes.sameRef v (ic a)&&Builtin.Bytes.decodersThatHold.contains id)=aj);exact cR dh (Bool.and_false _)
  |_=>rfl
end
section
variable {prog:Program} {ww:World} {A:Around} {E:Value->Shared->Prop} {s:Shared}
theorem zF {M} (c:s.heap.get? a=af (gV b)) (q:Q b s):wpAny M A (Builtin.Bytes.payload (.ref a)) Q E s:=aq (aq (ja c (av (av q))))
theorem ON (c:s.heap.get? a=af (gV b)) (q:Q () s):cG (model prog ww) A (Builtin.Bytes.checkResize (.ref a)) Q E s:=by
 refine ay (ay (Bj ((?_:cG _ _ (wM (.ref a)>>=λn=>pure (decide (n>0))) _ _ s))));exact ay (ay (eT (ja c (aO (aO (V7 (ne_true_of_eq_false rfl) (aO q)))))))
theorem Bk {id} (q:Q (af b) s):wpAny (model prog ww) A (gy id (.bytes b t) full) Q E s:=by
 have a:=j6 s b t;exact bq (bV a B.j0) (bq (oZ a) (Nu (bq (bV a B.j0) (bq (zE a) (aq (av (av q)))))))
theorem Iz {id} (d:s.heap.get? a=af (gV b)) (q:Q (af b) s):wpAny (model prog ww) A (gy id (.ref a) full) Q E s:=by
 have c:s.TypeIs (.ref a) "bytearray":=bW _ d rfl;exact bq (bV c B.wm) (bq (AP c) (Nu (bq (bV c B.wm) (bq (ru c) (aq (zF d (av q)))))))
theorem FI (i:s.heap.get? a=af (gV b)) (hz:(b++c).size<=1000000)
 (q:Q .none {s with heap:=s.heap.update a (gY (·++c))}):cG (model prog ww) A (call (.builtin "bytearray.extend") [.ref a,.bytes c t]) Q E s:=by
 have d:=j6 s c t;refine nJ (jS (plainId_quiet B.kK.plain _) rfl B.xB (B.kK.check _ _ _ _ _ _ _ _ (bW _ i rfl) (B.zD _ _) (cR (jm B.kK.plain ..) (ay (nc (a:=((.ref a:Value),(.bytes c t:Value))) rfl (Nv (bV d B.j0) (iW (λj=> ?_) λh=>absurd rfl h)))))));refine ay (pD (ay (eT (zF i (ay (ay (qT (ay (eT (bV d B.j0 (ay (eT (oZ d (V8 (ay (eT (bV d B.j0 (ay (eT (Bk (aO (aO (iW (λj=> ?_) λh=>absurd rfl h)))))))))))))))))))))));have g:cG (model prog ww) A.in1 (Builtin.Bytes.write (.ref a) (·++c)>>=λj=>ret .none) (λk s'=>match k with| .done f=>(match (Except.ok f:Result) with| .ok (.ret v)=>Q v s'| .ok _=>False| .error e=>E e s')| .again c'=>c'.quiet=ao/\codeN (model prog ww) A c' (λr s'=>match r with| .ok (.ret v)=>Q v s'| .ok _=>False| .error e=>E e s') s') (λe s'=>(match (Except.error e:Result) with| .ok (.ret v)=>Q v s'| .ok _=>False| .error e=>E e s')) s:=by
  refine ay ((?_:cG _ _ (updateBytearray a (·++c)) _ _ s));refine Nv (ja i) (Nv (wpAny_update i) (eT (BJ (bE (gY (·++c)) i rfl) ?_ ?_)))
  .refine(?_:(if(b++c).size>jn then af "bytearray:memory" else au)=au);exact cR (if_neg (bD.mpr (aI hz bx))) rfl
  .exact aO q
 exact iW (λj=>ay (ON i g)) λj=>g
end
theorem AQ:PlainAttrs "bytearray":=
 ⟨(bW ("bytearray.__getattribute__") (by refine cR (typeLookup_type ..) (cR bA ?_);kernel_rfl) rfl),by refine cR (typeLookup_type ..) (cR bA ?_);kernel_rfl⟩
theorem zG:typeOf (.builtin "bytearray.extend")=pure (.type "method_descriptor"):=by show builtinType _=_;refine cR builtinType_eq_fast ?_;kernel_rfl
section
variable {X:dw} {b:Nat}
theorem IA (r:bw X) (g:St X w h s) (j:h.l.get i=af o) (d:o.t=3) (hz:VR X s.heap w h.n v z) (e:(ah au (put i (yx (app o.bs v.l)) h k) (ak v.t 4):Option Res)=af res) (u:Goes (PV X) X w h.n s k res Q):cG (model X.prog X.w) A (call (.builtin "bytearray.extend") [.ref (w.ρ i),z]) Q (λx x=>False) s:=by
 refine aC (dK e) λe y=>aC (dK e) λe a=>ou (hz.jI (aH y)) λc tk B hz hn=>qI ((g.rep _ o j).2.Gr d) λf m p C D=> ?_;have hl:app o.bs v.l=(f++c).toList.map bU:=cR D (cR B (cR (mD ..) (cR fN (cR j5 rfl))));rw [hl] at e a;have a:0+(0+(len ((f++c).toList.map bU)+0))<=1000000:=aA a;rw [len_eq,eF,aM,oh,oh] at a;refine cR hz (FI m a ?_);have q:=g.turn r j (gY (·++c)) s.toks (o':=yx ((f++c).toList.map bU)) (λF p=> .E3 (f++c) p (bE _ m rfl) a) (t8 d rfl);exact u _ _ _ _ _ q.1 q.2 .none e
theorem Ea (a:ef X g w n vs ys) (e:xO ov o vs h k=af res):∃v z,ys=[z]/\VR X g w n v z/\
 (ah (ah au (ah au (put ov.n (yx (app o.bs v.l)) h k) (ak v.t 4)) (ak o.t 3)) (gQ v h λys h=>put ov.n (bL (app o.xs ys)) h k) (ak o.t 1):Option Res)=af res:=by
 refine aL (eu e) λv e q=> ?_;rw [q] at a;exact dM a.one λz c hz=>jV v z c hz e
theorem IB (m:bw X):qm X b "extend" ⟨xO,λt=>ah (ak t 3) ao (ak t 1)⟩:=by
 intro t ht;have f:t=1\/t=3:=by
  have ht:(ah (ak t 3) ao (ak t 1):Bool)=true:=ht
  induction h1:ak t 1 using zB with
  |true=>exact .inl (aH h1)
  |false=>rw [h1] at ht;exact .inr (aH ht)
 rcases f with q|q
 .subst q;refine yp (.inl rfl) ("list.extend") ⟨yl,kR,F.type_list_extend⟩ (λA n p w h s g r y hv i o j a vs ys d k res c Q l=>(ku (Ea d c) λv z e q hz=> ?_));rw [a] at e;refine cR q ?_;exact eT (Ly m g hv i j a hz e l)
 .subst q;refine yp (.inr (.inr rfl)) ("bytearray.extend") ⟨AQ,B.kK,zG⟩ (λA n p w h s g r y hv i o j a vs ys d k res c Q l=>(ku (Ea d c) λv z e q hz=> ?_));rw [a] at e;refine cR q (cR ((hv.er i).1) ?_);exact IA m g j a hz e l
end
section
variable {prog:Program} {ww:World} {A:Around} {E:Value->Shared->Prop} {s:Shared}
theorem IC (h:TypeCalled T newId initId)
 (n:checkTypeCall T ⟨args,[]⟩=pure ()) (i:entryFor table initId=af Bi) (o:oG.contains initId=aj)
 (k:codeAny (model prog ww) A.in1 (.call (.builtin newId) ⟨.type T::args,[]⟩) (wants Q₁ (λb b=>False)) s)
 (j:∀obj d,Q₁ obj d->d.TypeIs obj T/\argsOk initId ⟨obj::args,[]⟩/\
  cG (model prog ww) A.in1.in1 (Bi ⟨obj::args,[]⟩) (λp s'=>match p with| .done f=>wants (λr a=>r= .none/\Q obj a) (λb b=>False) (.ok f) s'| .again c'=>c'.quiet=ao/\codeN (model prog ww) A.in1 c' (wants (λr a=>r= .none/\Q obj a) (λb b=>False)) s') (λb b=>False) d):
 cG (model prog ww) A (call (.type T) args) Q (λb b=>False) s:=by
 refine Sw h.mro λc z l=>nJ (dP rfl ((?_:cG _ _ (callAny (.type T) _) _ _ _)));refine aO ⟨vp _ (by decide+kernel),sW rfl PySem.F.entry_type_call (cR (Around.under_plain (weight_type_call_type T args []) rfl) ?_)⟩;unfold Builtin.«type.__call__»;dsimp only;refine cR (h.notType) (cR (h.canCreate) (cR n (Nx (cR l (Nx (cR h.made (Nx (Nx (ay (bh (eT (wpAny_call (codeAny_mono k λr d y=> ?_)))))))))))));rcases r with e|(_|_|_|obj)<;>first|exact y.elim|skip
 refine iL (j _ _ y) λt u w=>Nv (fH u h.sub) (ay (bh (Nv (bV u h.init.lookup) ?_)));dsimp only;refine cR (h.init.bind obj) (bh (ay (aO (ay (nJ (iN (jS (R:=wants (λr a=>r= .none/\Q obj a) (λb b=>False)) (plainId_quiet h.init.plain _) o i (h.init.check _ _ _ _ _ _ _ _ u w ?_)) λm a g=> ?_))))))
 .exact cR (jm h.init.plain ..) (aW t (λb b q=>q) λb b f=>f.elim)
 .rcases m with e|(_|_|_|v)<;>first|exact g.elim|skip
  refine f7 g λx=> ?_;subst x;intro hq;exact aO (aO hq)
theorem Eb (h:Q₁ (.ref s.heap.objs.size) {s with heap:=s.heap.push (gV #[])}):codeAny (model prog ww) A (.call (.builtin "bytearray.__new__") ⟨[.type "bytearray"],[]⟩) (wants Q₁ E) s:=by
 refine codeAny_of_tree (aq (f6 B.FF (av ⟨plainId_quiet B.Cy _,codeAny_builtin_stack B.Cz rfl λp b=> ?_⟩)));have a:=B.Cx;obtain⟨hp,g,d,tk,os⟩:=s;simp only [(B.LM)];wp_walk;exact h
theorem LN (h:Q (.ref s.heap.objs.size) {s with heap:=(s.heap.push (gV #[])).update s.heap.objs.size (gY λc=> #[])}):cG (model prog ww) A (call (.type "bytearray") []) Q (λc c=>False) s:=by
 refine IC (Q₁:=λobj b=>obj= .ref s.heap.objs.size/\b={s with heap:=s.heap.push (gV #[])}) B.Iw B.D7 B.AO rfl (Eb ⟨rfl,rfl⟩) λobj b d=>f7 d λf g=> ?_;subst f;subst g;have e:(s.heap.push (gV #[])).get? s.heap.objs.size=af (gV #[]):=aJ _ rfl;have i:iu {s with heap:=s.heap.push (gV #[])} (.ref s.heap.objs.size) "bytearray":=bW _ e rfl;refine iU i (B.CA _) (Nv (ru i) (V8 (ay (nc (a:=([au,au,au]:List (Option Value))) (by kernel_rfl) (ay (nc (a:=()) rfl (ay (nc (a:=()) rfl (ay (ay (Bj ((?_:cG _ _ (wM (.ref s.heap.objs.size)>>=λn=>pure (decide (n>0))) _ _ _)))))))))))));refine ay (ay (eT (ja e (aO (aO (iW (λh=>absurd h (ne_true_of_eq_false rfl)) λc=>ay ((?_:cG _ _ (updateBytearray s.heap.objs.size (λc=> #[])) _ _ _))))))));refine Nv (ja e) (Nv (wpAny_update e) (eT (BJ (bE (gY λc=> #[]) e rfl) rfl ((?_:cG _ _ ((pure ():Sem Unit)>>=λc=>ret dX) _ _ _)))));exact ay (aO (aO ⟨rfl,h⟩))
theorem T7 (j:s.TypeIs y T) (h1:typeLookup (.type T) "__bytes__"=pure au) (hz:b.size<=jn)
 (c:∀{l} {E'} {d},d au s->wpAny (model prog ww) l (asStr? y) d E' s)
 (e:(typeLookup (.type T) "__index__"=pure au/\∀{l} {E'} {d},d (af b) s->wpAny (model prog ww) l (gy "bytes.__new__" y ao) d E' s)\/
  (∃i n t,typeLookup (.type T) "__index__"=pure (af i)/\y= .int (aZ n) t/\n<1000000/\b=mU n 0))
 (h:∀t k,Q (.bytes b t) {s with toks:=k}):codeAny (model prog ww) A (.call (.builtin "bytes.__new__") ⟨[.type "bytes",y],[]⟩) (wants Q E) s:=by
 refine codeAny_of_tree (aq (f6 (F.bm_newCall _) (av ⟨plainId_quiet F.bm_plain _,iC F.bm_entry (cR (jm F.bm_plain _) (bq (f6 (a:=ao) rfl) (bm_if_false rfl (bq (f6 F.bm_sub) (bm_if_false rfl (bq (f6 (F.bm_bind _)) (bq (f6 (a:=()) rfl) (bq (f6 (a:=()) rfl) (bm_if_false rfl (bq (bV j h1) (aq (aq (c (av (bm_if_false rfl ?_)))))))))))))))⟩)));rcases e with⟨h2,f⟩|⟨i,n,t,h2,hy,hn,hb⟩
 .refine bq (bV j h2) (tw rfl ?_)
  first
   |show wpAny _ _ (gy "bytes.__new__" y ao>>=_) _ _ _
   |(refine aq ?_;show wpAny _ _ (gy "bytes.__new__" y ao>>=_) _ _ _)
  refine bq f (aq (fh (aq (wpAny_mkBytes ?_ hz))));refine tw rfl ?_
  first
   |exact av (h _ _)
   |exact aq (av (av (h _ _)))
 .refine bq (bV j h2) (Nu (aq (qB (f6 (cR hy rfl) ?_))));dsimp only;have o:(aZ n).toNat=n:=rfl;have m:(aZ n:Int)=(n:Int):=rfl;have g:Builtin.Bytes.fitsIndex (aZ n)=true:=cO.mpr ⟨decide_eq_true (show-(2^63:Int)<=(n:Int) by exact Int.neg_ofNat_le_natCast (2^63) n),decide_eq_true (show(n:Int)<2^63 by lia)⟩;have p:¬(aZ n<0):=cR m (lg n);have q:¬(aZ n>2^63-34):=by refine cR m ?_;lia
  have r:Builtin.Bytes.tooLong n=false:=decide_eq_false (bD.mpr (aI (gM hn) bx));simp only [g,Bool.not_true,iS,if_false,p,q,o,r];refine cL hb (aq (fh (aq (wpAny_mkBytes ?_ hz))));refine tw rfl ?_
  first
   |exact av (h _ _)
   |exact aq (av (av (h _ _)))
theorem GO (h:s.TypeIs y T) (h1:typeLookup (.type T) "__bytes__"=pure au) (hz:b.size<=jn)
 (d:∀{g} {E'} {e},e au s->wpAny (model prog ww) g (asStr? y) e E' s)
 (f:(typeLookup (.type T) "__index__"=pure au/\∀{g} {E'} {e},e (af b) s->wpAny (model prog ww) g (gy "bytes.__new__" y ao) e E' s)\/
  (∃i n t,typeLookup (.type T) "__index__"=pure (af i)/\y= .int (aZ n) t/\n<1000000/\b=mU n 0))
 (j:∀t k,Q (.bytes b t) {s with toks:=k}):wpAny (model prog ww) A (call (.type "bytes") [y]) Q E s:=callType_codes (Q₁:=λobj a=>a.TypeIs obj "bytes"/\Q obj a) F.bm_called (F.bm_typeCall _) F.entry_object_init (T7 h h1 hz d f λt k=>⟨PySem.W.typeIs_bytes _ _ _,j t k⟩) λobj a c=>iU c.1 (uc obj _) (object_init_meets F.bm_called.init.lookup F.bm_called.made rfl prog ww A.in1 _ a (iU c.1 rfl c.2))
end
section
variable {X:dw}
theorem OO (m:bw X):qb X 3:=by
 intro n A B w h s p vs ys hv k res c Q r;refine aC (dK c) λe h1=> ?_
 induction vs using zL with
 |cons=>exact ff h1
 |nil=>
  cases hv;refine LN ?_;have t:(s.heap.push (gV #[])).get? s.heap.objs.size=af (gV #[]):=aJ _ rfl;have d:=bE (gY λj=> #[]) t rfl;have f:=bk d;refine f7 (p.new m (o:=yx []) (b:=s.heap.objs.size) (own:=λa=>a==s.heap.objs.size) (ReflBEq.rfl) (s':={s with heap:=(s.heap.push (gV #[])).update s.heap.objs.size (gY λj=> #[])}) (gM f)
   (λa u=>by have:a=s.heap.objs.size:=(by simpa using u);subst this;exact⟨bu _,f⟩) (λa v e=>(dF _ _ (λq=>absurd (bk e) (by refine cL q ?_;exact j4 _))).trans (az _ e)) rfl rfl 0 _ rfl
   (λC x l D=> .E3 #[] (cR l x) (cR l d) (of_decide_eq_true rfl))) λy z=> ?_
  refine r _ _ _ _ _ y z ?_ e;have:=VR.ref (X:=X) (g:=(s.heap.push (gV #[])).update s.heap.objs.size (gY λj=> #[])) (w:=⟨λi=>if i=h.n then s.heap.objs.size else w.ρ i,λa=>if(a==s.heap.objs.size)=ao then af h.n else w.role a,λi=>if i=h.n then 0 else w.ua i⟩) (n:=h.n+1) h.n (bN _);simpa using this
end
theorem OP n:repl n=List.replicate n 0:=by
 induction n with
 |zero=>rfl
 |succ n a=>show 0::repl n=_;refine cR a ?_;rfl
theorem Ec v l:BP (v::l)=(aB au (λn=>aB au (λl=>af (n::l)) (BP l)) (Dc 256 v):Option (List Nat)):=rfl
theorem Ed:∀{l} {m},BP l=af m->(∀v∈l,v.t=2)/\(∀i∈l.map dS,0<=i/\i<256)/\(byteArr (l.map dS)).toList.map bU=m:=by
 intro l
 induction l with
 |nil=>
  intro m e;injection e with e;subst e
  exact iU (λv hv=>((aU hv).elim)) (λv hv=>((aU hv).elim)) rfl
 |cons v l ih=>
  intro m e;rw [Ec] at e;refine aL (pS e) λn e hn=>aL (pS e) λr e hr=> ?_;injection e with e;subst e
  refine eY (ih hr) λa2 a1 a3=>qH (tR hn) λqY=> ?_;subst qY;intro h2 h3 h4;have ht:=Cu h3;refine iU (λu hu=> ?_) (λi hi=> ?_) ?_
  .rcases aT.mp hu with rfl|hu
   .exact aH h2
   .exact a1 u hu
  .rw [dG] at hi;rcases aT.mp hi with rfl|hi
   .refine cR ht ?_;lia
   .exact a2 i hi
  .skip
   simp only [dG,jE] at a3⊢;refine cR ht ?_;have:((v.n:Int).toNat.toUInt8).toNat=v.n:=by
    refine(?_:v.n %256=v.n);exact yj h4
   exact cons_eq_cons' this a3
section
variable {X:dw}
theorem LO (ax:bw X):qb X 2:=by
 intro n A hA w h s hs vs ys hv k res e₀ Q hQ;refine eT ?_;refine dM (eu e₀) λv qY=> ?_;subst qY;intro e;refine dM hv.one λy qY=> ?_;subst qY;intro hy;have fin:∀b t h' kk,(∀c o,s.heap.get? c=af o->h'.get? c=af o)->s.heap.objs.size<=h'.objs.size->b.size<=1000000->k (fj (b.toList.map bU)) h=af res->Q (.bytes b t) {s with heap:=h',toks:=kk}:=λb t h' kk hk hsz hz e=>by
  exact aC (hs.i7 ax (h':=h') (tk:=kk) hsz hk) λa2 a1=>hQ w h _ _ _ a1 a2 (.bytes b t hz) e
 induction h2:ak v.t 2 using zB with
 |true=>
  rw [h2] at e;refine dM (bC e) λm hm e=>f7 (uM e) λhz e=>qH (tR hm) λqY=> ?_;subst qY;intro _ h3 h4;refine fB (hy.cS h2) λt qY=> ?_;subst qY;rw [OP] at e hz;have hl:(mU v.n (0:UInt8)).toList.map bU=List.replicate v.n 0:=by simp
  rw [<-hl] at e;have Yx:(mU v.n (0:UInt8)).size<=1000000:=by simpa using hz
  refine GO (typeIs_int _ _ _) B.CB (b:=mU v.n 0) (aI Yx bx) (λq=>av q) (.inr (ug _ v.n t B.int_index (cR (Cu h3) rfl) (by lia) rfl)) λt' kk=>fin _ t' _ kk (λU U e=>e) (bu _) Yx e
 |false=>
  rw [h2] at e;refine dD (dj e) λo e h6 ho=>f7 (hy.er h6) λqY=> ?_;subst qY;intro lv
  induction h1:ak o.t 1 using zB with
  |true=>
   rw [h1] at e;refine dM (bC e) λl hl e=>f7 (uM e) λhz e=>eY (Ed hl) λb2 b1 b3=>sO (hs.listAt ho (aH h1)) λitems ep hg hn hvs U=> ?_;have Yx:(byteArr (o.xs.map dS)).size<=1000000:=by
    have:((byteArr (o.xs.map dS)).toList.map bU).length=(byteArr (o.xs.map dS)).size:=by simp
    rw [b3] at this;lia
   rw [<-b3] at e;exact bX (call_bytes_ints (f9 _ (by simpa using hg) rfl _ rfl) (hvs.ints b1) b2 (by simp;exact aI hn bx) hA.handled λh' t kk hk hsz=>fin _ t h' kk hk hsz Yx e)
  |false=>
   rw [h1] at e;refine f7 (dK e) λh3 e=>f7 (uM e) λhz e=> ?_
   induction ((hs.rep _ o ho).2) using Mine.Rep.casesOn with
   |E3 b hr hg hn=>
    refine GO (bW _ hg rfl) B.D8 (aI hn bx) (λq=> ?_) (.inl ⟨B.D9,λq=>Iz hg q⟩) λt' kk=>fin _ t' _ kk (λU U e=>e) (bu _) hn e;exact aq (ja hg (av q))
   |_=>exact nn (aH h3) rfl
end
end
section
open PyProof.Rows PySem.Calls PySem.SeqAt
section
variable {prog:Program} {ww:World} {A:Around} {E:Value->Shared->Prop} {s:Shared}
theorem IE:typeLookup (.type "list") (bY "keys")=pure none:=by rw [typeLookup_type,bA];kernel_rfl
theorem LP:typeLookup (.type "zip") (bY "keys")=pure none:=by rw [typeLookup_type,bA];kernel_rfl
theorem zH:typeLookup (.type "zip") "__getattr__"=pure none:=by rw [typeLookup_type,bA];kernel_rfl
theorem CC:entryFor table "zip.__getattribute__"=af Builtin.«object.__getattribute__»:=
 entryFor_alias (id':="object.__getattribute__") (by kernel_rfl) rfl (by decide+kernel) (by kernel_rfl)
theorem IG:(["__module__","__name__","__qualname__","__doc__","__annotations__"]:List Str).contains (bY "keys")=false:=by decide+kernel
theorem II {a:Addr} {xs:Array Value} {k:Nat} {Q:Option Value->Shared->Prop} (hx:s.heap.get? a=af {cls:= .type "list",data:= .seq xs k}) (l:A.handled=au)
 (h:∀h' tk,(∀b i,s.heap.get? b=af i->h'.get? b=af i)->Q au {s with heap:=h',toks:=tk}):
 wpAny (model prog ww) A (getAttr? (.ref a) (bY "keys")) Q E s:=by
 obtain⟨hp,g,d,tk,os⟩:=s;have j:∀c,(⟨hp,g,d,c,os⟩:Shared).TypeIs (.ref a) "list":=λm=>bW _ hx rfl;have n:=sub_AttributeError;have o:=qp.lookup;have p:=qp.bind (.ref a);have q:=am_list_getattr_none
 repeat (any_goals (first|assumption|exact j _|((with_reducible show wpAny _ _ (call (t6 "list.__getattribute__") _ _) _ _ _);refine call_meets qp (j _) am_entry_list_getattribute (F.args_list_getattribute_2 _ _) (meets_getattribute_miss_list a xs k #[] (bY "keys") _ IE IG) (iU hx l (λh' c e f=> ?_)))|wp_step))
 obtain⟨r,t,he⟩:=f.there;refine(?_:wpAny _ _ (getattributeRaised _ _ _ _ _ _ _) _ _ _);unfold getattributeRaised
 repeat (any_goals (first|assumption|wp_step))
 exact h _ _ f.keeps
theorem zI a vs u:
 Meets (Builtin.«object.__getattribute__» ⟨[.ref a,.str (bY "keys") u],[]⟩) (λA R s=>s.heap.get? a=af {cls:= .type "zip",dict:=au,data:= .fields vs,slots:= #[]}/\raisesAttr (.ref a) (bY "keys") A R s):=
 Meets.of_wp λprog w A R s b=>by
  obtain⟨hp,g,d,tk,os⟩:=s;obtain⟨hx,b⟩:=b;have e:(⟨hp,g,d,tk,os⟩:Shared).TypeIs (.ref a) "zip":=bW _ hx rfl;have c:=LP;unfold Builtin.«object.__getattribute__»
  repeat (any_goals (first|assumption|wp_step))
  exact wpAny_raiseAttrError b.1 b.2 (attrMsg_fits (of_decide_eq_true rfl) (by size_fits))
theorem LQ {a:Addr} {vs:Array Value} {Q:Option Value->Shared->Prop} (hx:s.heap.get? a=af {cls:= .type "zip",data:= .fields vs}) (k:A.handled=au)
 (h:∀h' tk,(∀b i,s.heap.get? b=af i->h'.get? b=af i)->Q au {s with heap:=h',toks:=tk}):
 wpAny (model prog ww) A (getAttr? (.ref a) (bY "keys")) Q E s:=by
 obtain⟨hp,g,d,tk,os⟩:=s;have j:∀c,(⟨hp,g,d,c,os⟩:Shared).TypeIs (.ref a) "zip":=λl=>bW _ hx rfl;have m:=sub_AttributeError;have n:=qE.lookup;have o:=qE.bind (.ref a);have p:=zH
 repeat (any_goals (first|assumption|exact j _|((with_reducible show wpAny _ _ (call (t6 "zip.__getattribute__") _ _) _ _ _);refine call_meets qE (j _) CC (F.args_zip_getattribute_2 _ _) (zI a vs _) (iU hx k (λh' c e f=> ?_)))|wp_step))
 obtain⟨q,r,he⟩:=f.there;refine(?_:wpAny _ _ (getattributeRaised _ _ _ _ _ _ _) _ _ _);unfold getattributeRaised
 repeat (any_goals (first|assumption|wp_step))
 exact h _ _ f.keeps
theorem ry:entryFor table "dict.update.loop"=af Builtin.«dict.update.loop»:=nq (by kernel_rfl)
theorem kM:plainId "dict.update.loop"=true:=by decide+kernel
end
structure OQ (prog:Program) (ww:World) (A:Around) (I L:Addr) (D:Heap->Prop) (v:Option Value) (D':Heap->Prop):Prop where
 frame:∀h h',D h->(∀o,h.get? I=af o->h'.get? I=af o)->(∀o,h.get? L=af o->h'.get? L=af o)->D h'
 frame':∀h h',D' h->(∀o,h.get? I=af o->h'.get? I=af o)->(∀o,h.get? L=af o->h'.get? L=af o)->D' h'
 step:∀{s:Shared} {E:Value->Shared->Prop} {Q:Value->Shared->Prop},D s.heap->(∀x h',v=af x->D' h'->gh I s.heap h'->Q x {s with heap:=h'})->
  (∀h' e,v=au->mK I s.heap h'->(∃o,h'.get? e=af o/\o.cls= .type "StopIteration")->E (.ref e) {s with heap:=h'})->wpAny (model prog ww) A (dH (.ref I)) Q E s
theorem LR {prog:Program} {ww:World} {A:Around} (f:A.handled=au) {I L:Addr} (d:L≠I) (m:Nat) (items:Array Value):
 OQ prog ww A I L (λh=>h.IsListIter I L m/\h.IsList L items) items[m]? (λh=>h.IsListIter I L (m+1)/\h.IsList L items) where
 frame:=λh h' a c b=>⟨a.1.at c,a.2.at b⟩
 frame':=λh h' a c b=>⟨a.1.at c,a.2.at b⟩
 step:=λ{s E Q} a hq he=>by
  cases hx:items[m]? with
  |none=>exact wpAny_nextOf_list_end f a.1 a.2 hx λh' e k o=>he h' e hx k o
  |some x=>exact wpAny_nextOf_list_item a.1 a.2 hx λh' c b=>hq x h' hx ⟨c,a.2.extBut b.extBut d⟩ b
section
variable {prog:Program} {ww:World} {A:Around} {E:Value->Shared->Prop} {s:Shared}
theorem uX {b l:Addr} {i:Nat} {items:Array Value} {x:Value} {Q:Value->Shared->Prop} (a:s.heap.IsTupleIter b l i) (hl:s.heap.IsTuple l items) (hx:items[i]? =af x)
 (g:∀h',h'.IsTupleIter b l (i+1)->gh b s.heap h'->Q x {s with heap:=h'}):wpAny (model prog ww) A (dH (.ref b)) Q E s:=by
 obtain⟨o,d,h,c⟩:=id a;obtain⟨j,e,_,k,f⟩:=hl;refine aq (dU (name:=bY "__next__") a.typeIs fU
  (bH fU a.typeIs oS ?_ (n9 _)))
 refine(?_:wpAny _ _ (field (.ref b) 0>>=_) _ _ s);refine bq (fK d c (x:= .ref l) rfl) ((?_:wpAny _ _ (if(ic l==dX)=ao then _ else _) _ _ s));refine ND bZ ((?_:wpAny _ _ (field (.ref b) 1>>=_) _ _ s));refine bq (fK d c (x:= .int i 0) rfl) ((?_:wpAny _ _ (se (.ref l)>>=_) _ _ s));refine bq (dz e f) ?_;simp only [lq,hx];refine aq (mz d c (fC (fT [])) (av (bW x rfl (av (g _ ?_ (gi ..))))));exact f5 _ (bE _ d (sf (i0 c _))) ((xw ..).trans h) (by
  rw [i0 c];exact rfl)
theorem wo {c l:Addr} {i:Nat} {items:Array Value} {Q:Value->Shared->Prop} (j:A.handled=au) (b:s.heap.IsTupleIter c l i) (hl:s.heap.IsTuple l items) (hx:items[i]? =au)
 (k:∀h' e,mK c s.heap h'->(∃o,h'.get? e=af o/\o.cls= .type "StopIteration")->E (.ref e) {s with heap:=h'}):wpAny (model prog ww) A (dH (.ref c)) Q E s:=by
 obtain⟨o,d,n,f⟩:=id b;obtain⟨p,g,_,q,h⟩:=hl;refine aq (dU (name:=bY "__next__") b.typeIs fU
  (bH fU b.typeIs oS ?_ (n9 _)))
 refine(?_:wpAny _ _ (field (.ref c) 0>>=_) _ _ s);refine bq (fK d f (x:= .ref l) rfl) ((?_:wpAny _ _ (if(ic l==dX)=ao then _ else _) _ _ s));refine ND bZ ((?_:wpAny _ _ (field (.ref c) 1>>=_) _ _ s));refine bq (fK d f (x:= .int i 0) rfl) ((?_:wpAny _ _ (se (.ref l)>>=_) _ _ s));refine bq (dz g h) ?_;simp only [lq,hx];refine aq (fh (aq (mz d f (gj rfl) ((?_:wpAny _ _ (newExc (.type "StopIteration") []>>=_) _ _ _)))));refine aq (aq (dY ?_ (by size_fits)));refine aq (m:=firstArgMember _ _) (f6 (a:=dX) (by first|rfl|(simp only [firstArgMember];rfl)) (dY ?_ (by size_fits)));refine bq wpAny_handled ?_
 first|refine cR j ?_|rw [j]
 exact bp (wpAny_throw (k _ _ (((gi ..).extBut.push _).push _) (bW _ (aJ _ rfl) rfl)))
end
theorem OR {prog:Program} {ww:World} {A:Around} (g:A.handled=au) {I L:Addr} (f:L≠I) (m:Nat) (items:Array Value):
 OQ prog ww A I L (λh=>h.IsTupleIter I L m/\h.IsTuple L items) items[m]? (λh=>h.IsTupleIter I L (m+1)/\h.IsTuple L items) where
 frame:=λh h' b d c=>⟨b.1.at d,b.2.at c⟩
 frame':=λh h' b d c=>⟨b.1.at d,b.2.at c⟩
 step:=λ{s E Q} b hq he=>by
  cases hx:items[m]? with
  |none=>exact wo g b.1 b.2 hx λh' e k o=>he h' e hx k o
  |some x=>exact uX b.1 b.2 hx λh' d c=>hq x h' hx ⟨d,b.2.at λo e=>c.extBut L o f e⟩ c
abbrev lH (h:Heap) (z TI TO:Addr) (v f:Value):Prop:=h.get? z=af {cls:= .type "zip",data:= .fields #[v,f,.bool aj,.ref TI,.ref TO]}
inductive LS (h:Heap):Value->Value->Prop where
 |free:LS h .none (.bool aj)
 |kept (T:Addr) (f:Bool) (o:Obj) (e:h.get? T=af o):LS h (rawInt T) (.bool f)
section
variable {prog:Program} {ww:World} {A:Around} {E:Value->Shared->Prop} {s:Shared}
theorem LU {z H q i1 i2 l1 l2:Addr} {v f a b:Value} {D1 D1' D2 D2':Heap->Prop} {v1 v2:Option Value} {Q:Fin->Shared->Prop} (D:ZipApart z H q i1 i2 l1 l2) (d1:OQ prog ww A i1 l1 D1 v1 D1') (d2:OQ prog ww A i2 l2 D2 v2 D2')
 (hz:lH s.heap z H q v f) (hf:LS s.heap v f) (hTI:IsPair s.heap H (.ref i1) (.ref i2)) (hTO:IsPair s.heap q a b) (h1:D1 s.heap) (h2:D2 s.heap)
 (hQ:∀h' x y w g a' b',v1=af x->v2=af y->lH h' z H q w g->(w=rawInt s.heap.objs.size/\g= .bool aj\/∃(T:Addr) (o:Obj),v=rawInt (T:Int)/\w=v/\g= .bool ao/\s.heap.get? T=af o)->IsPair h' q a' b'->D1' h'->D2' h'->IsPair h' s.heap.objs.size x y->h'.objs.size=s.heap.objs.size+1->
  (∀c o,c≠z->c≠q->c≠i1->c≠i2->s.heap.get? c=af o->h'.get? c=af o)->Q (.done (.ret (.ref s.heap.objs.size))) {s with heap:=h'})
 (hE:∀h' e,(∀c o,c≠z->c≠q->c≠i1->c≠i2->s.heap.get? c=af o->h'.get? c=af o)->(∃o,h'.get? e=af o/\o.cls= .type "StopIteration")->(v1=au\/v2=au)->E (.ref e) {s with heap:=h'}):
 wpAny (model prog ww) A (Builtin.«zip.__next__» ⟨[.ref z],[]⟩) Q E s:=by
 refine(?_:wpAny _ _ (field (.ref z) 2>>=_) _ _ _);refine bq (fK hz rfl (x:= .bool aj) rfl) ((?_:wpAny _ _ (field (.ref z) 3>>=_) _ _ _));refine bq (fK hz rfl (x:= .ref H) rfl) (aq (dz hTI rfl ((?_:wpAny _ _ (Builtin.SmallTypes.ownedTupleIsFree (.ref z)>>=_) _ _ _))));refine aq ?_
 induction hf using Mine.LS.casesOn with
 |free=>
  refine aq (fK hz rfl (x:= .none) rfl (av (bq fh (aq (fK hz rfl (x:= .ref q) rfl (aq (jc hz (gj rfl) λt m i=> ?_)))))));replace m:lH t z H q .ellipsis (.bool aj):=m;refine aq ?_;simp only [List.zipIdx_cons,List.zipIdx_nil,dO,jx];refine aq (aq (wpAny_onRaise ((?_:wpAny _ _ (dH (.ref i1)>>=_) _ _ _))));refine aq (d1.step (d1.frame _ _ h1 (λo e=>i.extBut _ o D.i1z e) (λo e=>i.extBut _ o D.l1z e)) (λx u ex I h=>av ?_) λu e ex h he=> ?_);rotate_left
  .obtain⟨oe,p,S⟩:=he;have V:lH u z H q .ellipsis (.bool aj):=h _ _ D.i1z.symm m;have ZC:e≠z:=λx=>by subst x;rw [V] at p;injection p with p;subst p;simp at S
   exact jc V (gj rfl) λh₃ U d=>hE h₃ e (λc o B U P U x=>d.extBut _ _ B (h _ _ P (i.extBut _ _ B x))) (bW oe (d.extBut _ _ ZC p) S) (.inl ex)
  have N:IsPair u q a b:=h.extBut _ _ D.TOi1 (i.extBut _ _ D.TOz hTO);refine aq (dz N rfl (aq (wpAny_updateSeq_pair N λh₃ C d=> ?_)));replace C:IsPair h₃ q x b:=C;refine aq (wpAny_letGo (av (aq (aq (wpAny_onRaise ((?_:wpAny _ _ (dH (.ref i2)>>=_) _ _ _)))))));have J:D2 h₃:=d2.frame _ _ h2 (λo e=>d.extBut _ o D.TOi2.symm (h.extBut _ o D.i12.symm (i.extBut _ o D.i2z e))) λo e=>d.extBut _ o D.l2TO (h.extBut _ o D.l2i1 (i.extBut _ o D.l2z e));refine aq (d2.step J (λy X ey Wy l=>av ?_) λX e ey l he=> ?_);rotate_left
  .obtain⟨oe,p,S⟩:=he;have Y:lH X z H q .ellipsis (.bool aj):=l _ _ D.i2z.symm (d.extBut _ _ D.TOz.symm (h.extBut _ _ D.i1z.symm m));have ZC:e≠z:=λx=>by subst x;rw [Y] at p;injection p with p;subst p;simp at S
   exact jc Y (gj rfl) λk U j=>hE k e (λc o B c2 P c4 x=>j.extBut _ _ B (l _ _ c4 (d.extBut _ _ c2 (h.extBut _ _ P (i.extBut _ _ B x))))) (bW oe (j.extBut _ _ ZC p) S) (.inr ey)
  have O:IsPair X q x b:=l.extBut _ _ D.TOi2 C;refine aq (dz O rfl (aq (wpAny_updateSeq_pair O λk n j=> ?_)));replace n:IsPair k q x y:=n;refine aq (wpAny_letGo (av (av (aq (dz n rfl (aq (vH ?_)))))));have R:k.objs.size=s.heap.objs.size:=by rw [j.1,l.1,d.1,h.1,i.1]
  have Z:lH k z H q .ellipsis (.bool aj):=j.extBut _ _ D.TOz.symm (l.extBut _ _ D.i2z.symm (d.extBut _ _ D.TOz.symm (h.extBut _ _ D.i1z.symm m)));refine aq ?_;have Wz:z<k.objs.size:=bk Z;have WA:lH (k.push {cls:= .type "tuple",data:= .seq #[x,y]}) z H q .ellipsis (.bool aj):=az _ Z;refine aq (jc WA (gj rfl) λZD K L=> ?_);replace K:lH ZD z H q (rawInt k.objs.size) (.bool aj):=K;refine jc K (fC (fT [Value.bool aj,ic H,ic q])) λG F M=> ?_;replace F:lH G z H q (rawInt k.objs.size) (.bool aj):=F;have up:∀c o,c≠z->k.get? c=af o->G.get? c=af o:=λc o B e=>M.extBut _ _ B (L.extBut _ _ B (az _ e));have R3:IsPair G k.objs.size x y:=M.extBut _ _ (iw Wz) (L.extBut _ _ (iw Wz) (aJ _ rfl));have hz8:G.objs.size=k.objs.size+1:=by rw [M.1,L.1,bJ]
  rw [R] at F R3 hz8;refine av ((?_:Q (.done (.ret (.ref k.objs.size))) _));refine cR R ?_;refine hQ G x y _ _ x y ex ey F (.inl ⟨rfl,rfl⟩) (up _ _ D.TOz n) (d1.frame' _ _ I (λo e=>up _ o D.i1z (j.extBut _ o D.TOi1.symm (l.extBut _ o D.i12 (d.extBut _ o D.TOi1.symm e)))) (λo e=>up _ o D.l1z (j.extBut _ o D.l1TO (l.extBut _ o D.l1i2 (d.extBut _ o D.l1TO e)))))
   (d2.frame' _ _ Wy (λo e=>up _ o D.i2z (j.extBut _ o D.TOi2.symm e)) λo e=>up _ o D.l2z (j.extBut _ o D.l2TO e)) R3 hz8 λc o B c2 P c4 e=>up c o B ((λc o B c2 P c4 e=>j.extBut _ _ c2 (l.extBut _ _ c4 (d.extBut _ _ c2 (h.extBut _ _ P (i.extBut _ _ B e))))) c o B c2 P c4 e)
 |kept T f oT hoT=>
  refine aq (fK hz rfl (x:=rawInt T) rfl ((?_:wpAny _ _ (loadIfAlive ((T:Int).toNat)>>=_) _ _ _)));refine cR (lq ..) (bq (PySem.W.kdx_alive hoT) (aq (fK hz rfl (x:= .bool f) rfl (fX (Q:=λr s'=>r=aj/\∃t,s'={s with heap:=t}/\lH t z H q (rawInt T) (.bool ao)/\gh z s.heap t) ?_ ?_ (λU U e=>e)))))
  .cases f with
   |true=>
    exact ND bZ (av (C6 rfl _ rfl hz (Heap.SameBut.refl _ _)))
   |false=>
    exact Ze rfl (aq (jc hz (fC (fT [Value.bool aj,ic H,ic q])) λh₃ WB d=>av (C6 rfl _ rfl WB d)))
  rintro _ _ ⟨rfl,t,rfl,m,i⟩;simp only [iS,if_false];refine cL Array.forIn_toList ?_;simp only [dO,jx];refine aq (aq (aq (bO ((?_:wpAny _ _ (dH (.ref i1)>>=_) _ _ _)))));refine aq (d1.step (d1.frame _ _ h1 (λo e=>i.extBut _ o D.i1z e) (λo e=>i.extBut _ o D.l1z e)) (λx u ex I h=>av ?_) λu e ex h he=> ?_);rotate_left
  .exact hE u e (λc o B U P U x=>h _ _ P (i.extBut _ _ B x)) he (.inl ex)
  refine av (aq (aq (bO ((?_:wpAny _ _ (dH (.ref i2)>>=_) _ _ _)))));refine aq (d2.step (d2.frame _ _ h2 (λo e=>h.extBut _ o D.i12.symm (i.extBut _ o D.i2z e)) λo e=>h.extBut _ o D.l2i1 (i.extBut _ o D.l2z e)) (λy h₃ ey J d=>av ?_) λh₃ e ey d he=> ?_);rotate_left
  .exact hE h₃ e (λc o B U P c4 x=>d _ _ c4 (h.extBut _ _ P (i.extBut _ _ B x))) he (.inr ey)
  refine av (av (aq (vH ?_ (by show(2:Nat)<=jn;exact fit_le rfl))));have R:h₃.objs.size=s.heap.objs.size:=by rw [d.1,h.1,i.1]
  refine av ((?_:Q (.done (.ret (.ref h₃.objs.size))) _));refine cR R ((hQ _ x y _ _ a b ex ey (az _ (d.extBut _ _ D.i2z.symm (h.extBut _ _ D.i1z.symm m))) (.inr (lA T oT rfl rfl rfl hoT)) (az _ (d.extBut _ _ D.TOi2 (h.extBut _ _ D.TOi1 (i.extBut _ _ D.TOz hTO)))) ?_ ?_ ?_ ?_ λc o B U P c4 e=>az _ (d.extBut _ _ c4 (h.extBut _ _ P (i.extBut _ _ B e)))))
  .exact d1.frame' _ _ I (λo e=>az _ (d.extBut _ o D.i12 e)) λo e=>az _ (d.extBut _ o D.l1i2 e)
  .exact d2.frame' _ _ J (λo e=>az _ e) λo e=>az _ e
  .exact R▸aJ _ rfl
  .rw [bJ,R]
end
end
section
open PyProof.Rows PySem.Calls PySem.SeqAt PySem.W
section
variable {X:dw} {w:Wd} {h:H} {s:Shared} {A:Around}
set_option backward.match.sparseCases false in
theorem Ef (e:pairOf v=af p):v.t=5/\v.xs=[p.1,p.2]:=by
 refine aC (dK e) λe d=>⟨aH d, ?_⟩;revert e;generalize v.xs=l;intro e;rcases l with _|⟨a,_|⟨b,_|⟨c,l⟩⟩⟩
 .exact fn e
 .exact fn e
 .injection e with e;subst e;rfl
 .exact fn e
theorem Eg {v:V} {y:Value} (g:bw X) (m:St X w h s) {i:Nat} (hv:VR X s.heap w h.n v y) {p:V×V} (ep:pairOf v=af p) {k:V->H->Option Res} {res:Res} (e:De (bP i) p.1 p.2 h k=af res) (o:A.units<cLine) {Q:Unit->Shared->Prop} (j:Nat)
 (r:∀h' s',St X w h' s'->h'.n=h.n->Ext X cV w h.n s w h.n s'->k di h'=af res->Q () s'):
 wpAny (model X.prog X.w) A (do
  let d<-(Builtin.Dict.pairItems y).tryCatch λe=>do
   if !(<-isInstance e (.type "TypeError")) then throw e
   rule "dict.update.element-no-sequence"
   raiseError "TypeError" s!"cannot convert dictionary update sequence element #{(j : Int)} to a sequence"
  match d with
  |[k,v]=>holding [k,v] (dictSet (w.ρ i) k v)
  |l=>
   rule "dict.update.element-length"
   raiseError "ValueError" s!"dictionary update sequence element #{(j : Int)} has length {l.length}; 2 is required") Q (λu u=>False) s:=by
 refine aC (Ef ep) λhx x=> ?_
 induction hv using Mine.VR.casesOn with
 |tup xs t items z D ht f hn c=>
  subst hx;have B:s.TypeIs (.ref t) "tuple":=bW _ f rfl;refine aq (wpAny_tryCatch (aq (jb B (tw rfl (aq (dz f rfl (av ((?_:wpAny _ _ (match items.toList with|[k,v]=>_|l=>_) _ _ _)))))))))
  induction hi:items.toList using zL with
  |nil=>rw [hi] at c;cases c
  |cons a l=>
   rw [hi] at c;cases c with
   |cons _ _ _ _ C hl=>
    cases hl with
    |cons _ b _ _ hb hl=>
     cases hl;exact bO (GJ g m C hb e o r)
 |_=>exact absurd x (by first|exact aY rfl|(intro q;exact nn q rfl))
end
section
variable {prog:Program} {ww:World} {A:Around} {E:Value->Shared->Prop} {s:Shared}
theorem zJ
 (h:wpAny (model prog ww) A.in1.in1 (Builtin.Dict.updateFrom "dict.__init__" s.heap.objs.size arg [] .none)
  (λc s'=>match c with| .done f=>wants (λr a=>r= .none/\Q (.ref s.heap.objs.size) a) E (.ok f) s'| .again c'=>c'.quiet=ao/\codeAny (model prog ww) A.in1 c' (wants (λr a=>r= .none/\Q (.ref s.heap.objs.size) a) E) s')
  (λe s'=>wants (λr a=>r= .none/\Q (.ref s.heap.objs.size) a) E (.error e) s') {s with heap:=s.heap.push (cJ #[] 0)}):
 wpAny (model prog ww) A (call (.type "dict") [arg]) Q E s:=by
 refine callType_codes (Q₁:=λobj b=>obj= .ref s.heap.objs.size/\b={s with heap:=s.heap.push (cJ #[] 0)}) F.kt_called_dict (F.kt_typeCall_dict_1 _) F.entry_dict_init (kt_code_dict_new _ ⟨rfl,rfl⟩) ?_;rintro obj b ⟨rfl,rfl⟩;have d:iu {s with heap:=s.heap.push (cJ #[] 0)} (.ref s.heap.objs.size) "dict":=bW _ (aJ _ rfl) rfl;refine iU d (F.args_dict_init_2 _ _) (aq (bq (m7 d) ((?_:wpAny _ _ (pure (s.heap.objs.size,[arg])) _ _ _))));exact av h
end
section
variable {X:dw} {w:Wd} {h:H} {s:Shared} {A:Around}
theorem LV (m:bw X) (b:St X w h s) (hu:VR X s.heap w h.n u x) (hv:VR X s.heap w h.n v y) (e:De (bP i) u v h k=af res) (p:A.units<cLine)
 (q:∀o s',St X w ⟨HT.ins o h.l i,h.n⟩ s'->Ext X cV w h.n s w h.n s'->k di ⟨HT.ins o h.l i,h.n⟩=af res->Q () s'):wpAny (model X.prog X.w) A (dictSetHashed (w.ρ i) x (hashOf X u) y) Q (λf f=>False) s:=by
 refine dD (dj e) λo e f g=>aC (dK e) λe r=> ?_
 induction (b.rep _ o g).2 using Mine.Rep.casesOn with
 |dict t B ep C D hn F G j=>
  exact aL (bC e) λd e z=>aC (dK e) λe hz=>GC m b g hu hv z (qX hz) p s.toks λs' a c=>q _ s' a c e
 |_=>exact nn (aH r) rfl
theorem LW (ax:bw X) (Z:St X w h s) (hj:h.l.get j=af (dZ d c)) (O:j≠i) (h8:d.length<=8) (h3:∀p∈d,p.1.t=3) (P:(w.ρ j==k9)=aj) (R:w.ρ i≠w.ρ j)
 (e:vQ (bP i) d h k=af res) (hA:A.units<cLine)
 (hQ:∀h' s',St X w h' s'->h'.n=h.n->Ext X cV w h.n s w h.n s'->k (bP i) h'=af res->Q () s'):
 wpAny (model X.prog X.w) A (Builtin.Dict.mergeDict "dict.__init__" (w.ρ i) (w.ρ j)) Q (λB B=>False) s:=by
 have D:∀{h'} {s'},St X w h' s'->h'.l.get j=af (dZ d c)->∃g,s'.heap.get? (w.ρ j)=af (cJ g (w.ua j+c))/\gS X s'.heap w h'.n d g.toList:=by
  intro h' s' v y;have r:=(v.rep j _ y).2;generalize ho:dZ d c=o at r
  induction r using Mine.Rep.casesOn with
  |dict kvs' g ep hr G hn N cc I=>
   cases ho;rw [I] at G;exact bW g G N
  |_=>cases ho
 refine dM (D Z hj) λg G N=> ?_;have C:d.length=g.size:=by refine cR N.all.length ?_;simp
 unfold Builtin.Dict.mergeDict;refine ND (by simpa using R) ?_;unfold j7;rw [if_neg (by refine cR P ?_;exact bZ)];refine bp (bq (gI G rfl) ?_);have S:(decide (g.size<=8)&&g.all λe=>(keyPart e.key).isSome)=true:=by
  refine cR (aP ..) (⟨by refine cR decide_eq_true_eq (cL C ?_);exact h8, ?_⟩);rw [Array.all_eq_true];intro n hn;obtain⟨p,hp⟩:∃p,d[n]? =af p:=⟨d[n]'(Nat.lt_of_lt_of_eq hn (id (gA C))),bB _⟩;refine dM (N.all.get hp) λq hq r=> ?_;have x:g[n]? =af q:=by refine cL hq ?_;simp
  rw [oR hn] at x;injection x with x;subst x
  have ht:=h3 p (cY hp);have hk:=r.key;generalize g[n].key=kk at hk;generalize p.1=u at ht hk
  induction hk using Mine.VR.casesOn with
  |str l t hn=>rfl
  |_=>exact absurd ht (by first|exact aY rfl|(intro q;exact nn q rfl))
 refine cR S (bq (t7 G rfl) (bq (gI G rfl) (cR (iI ..) ?_)));simp only [nV,Nat.sub_zero,Nat.add_sub_cancel,Nat.div_one];have go:∀m n h' s',n+m=g.size->St X w h' s'->h'.n=h.n->Ext X cV w h.n s w h.n s'->h'.l.get j=af (dZ d c)->vQ (bP i) (d.drop n) h' k=af res->
  ∀b:PUnit,wpAny (model X.prog X.w) A (forIn (List.range' n m) b λT r=>(do
   let a<-dictEntries (w.ρ j)
   match a[T]? with
    |some e=>do
     holding [e.key,e.val] (dictSetHashed (w.ρ i) e.key e.hash e.val)
     let a<-dictEpoch (w.ρ j)
     if(a !=w.ua j+c)=ao then do
      (unsupported (toString "dict.__init__"++toString ":source-changed-during-callback"):Sem PUnit)
      pure (dI PUnit.unit)
      else pure (dI PUnit.unit)
    |_=>do
     (unsupported "internal:dict-merge":Sem PUnit)
     pure (dI PUnit.unit):Sem (ForInStep PUnit))) (λB F=>Q () F) (λB B=>False) s':=by
  intro m
  induction m with
  |zero=>
   intro n h' s' hn v z hx y e b;rw [List.drop_eq_nil_of_le (by lia)] at e;exact cR List.range'_zero (cR jx (av (hQ h' s' v z hx e)))
  |succ m ih=>
   intro n h' s' hn v z hx y e b;refine cR xH (cR (dO ..) (dM (D v y) λJ V K=> ?_));have W:d.length=J.size:=by refine cR K.all.length ?_;simp
   have L:n<d.length:=by lia
   refine aq (bq (gI V rfl) (aL (K.all.get (bB L)) λq r hq=> ?_));have x:J[n]? =af q:=by refine cL hq ?_;simp
   refine cR x ?_;dsimp only;rw [ie L] at e;refine cR r.hash (aq (bO (LV ax v r.key r.val e hA λo F a1 a2 e2=> ?_)));have M:HT.get (HT.ins o h'.l i) j=af (dZ d c):=by rw [HT.vU _ O];exact y
   exact dM (D a1 M) λWf Y hd2=>bq (t7 Y rfl) (ND (by simp) (av (ih (n+1) _ F (by lia) a1 z (hx.trans (z▸a2)) M e2 _)))
 exact aq (fX (go g.size 0 h s (oh (fG g)) Z rfl .refl hj e _) (λB B q=>av q) λB B f=>f)
end
section
variable {X:dw} {w:Wd} {h:H} {s:Shared} {A:Around}
theorem SrcR.ext (r:SrcR X s.heap w n it a) (x:Ext X F w n s w' n' g) (hF:∀a o,F a->s.heap.get? a=af o->d9 o=aj) (b:w.role it=au) (ht:it∉X.tabs) (c:¬F it):SrcR X g.heap w' n' it a:=
 r.keep (x.keep hF) λo e=>x.old it o b ht c e
theorem LX (D:bw X) (d:10<=X.h₀.objs.size) (f:∀a∈X.tabs,a<X.h₀.objs.size) {b:Addr} (I:A.handled=au) (J:A.units+1<cLine) (hb:X.h₀.objs.size<=b) {R:Shared->Prop}:
 ∀n {a} {h} {s} (j:Nat),St X w h s->w.role b=au->b<s.heap.objs.size->SrcR X s.heap w h.n b a->xN (bP i) k n a h=af res->
  (∀h' s',St X w h' s'->h'.n=h.n->Ext X (λa=>a=b) w h.n s w h.n s'->k (bP i) h'=af res->R s')->
  codeAny (model X.prog X.w) A (.builtin "dict.update.loop" ⟨[.ref (w.ρ i),.ref b,rawInt j,.none],[]⟩) (wants (λr g=>r= .none/\R g) (λl l=>False)) s:=by
 intro n
 induction n with
 |zero=>
  intro a h s j E t m F e u;exact fn e
 |succ n K=>
  intro a h s j E t m F e u;have e:mX a h (k (bP i) h) (λv c=>lift (pairOf v) h λp h=>De (bP i) p.1 p.2 h λl h=>xN (bP i) k n c h)=af res:=e;refine iC ry ((?_:wpAny _ A.in1 (pyNext (.ref b)>>=_) _ _ s));refine aq (yY D d E (A:=A.in1) I t hb F e (λs' x z B=> ?_) λs' y v c x z hy L B=> ?_)
  .exact av ⟨rfl,u h s' x rfl z B⟩
  .refine aL (bC B) λp M ep=>aq (bO (Eg D x hy ep M J j λh2 Y N C G O=>(av ⟨plainId_quiet kM _, ?_⟩)));have o:=z.trans (G.weaken (F':=λa=>a=b) λl q=>q.elim);exact K (j+1) N t (aQ m o.size) (cR C (L.ext G (λl l q=>q.elim) t (λhm=>absurd (f _ hm) (bD.mpr hb)) (λq=>q))) O λP Q S T V W=>u P Q S (T.trans C) (o.trans (C▸V)) W
theorem OS (j:bw X) (d:10<=X.h₀.objs.size) (g:∀a∈X.tabs,a<X.h₀.objs.size):qb X 6:=by
 intro n A D w h s l vs ys hv k res m Q O;refine eT ?_;refine dM (eu (show with1 vs (λv=>look v h λo h=>ah
  (ah au (new (dZ [] 0) h λacc h=>xN acc k 2000 (gm v.n 0) h) (ak o.t 1))
  (ah au (ah au (new (dZ [] 0) h λacc h=>vQ acc o.kvs h k) (bQ (len o.kvs) 8)) (Hz 3 o.kvs)) (ak o.t 2))=af res from m)) λv i=> ?_;subst i;intro e
 refine dM hv.one λy i=> ?_;subst i;intro hy;refine dD (dj e) λo e Y z=>f7 (hy.er Y) λE G=>cR E ?_;have hu:=D.c (k:=2) rfl;refine zJ (jz (l.push j (cJ #[] 0) (dZ [] 0) s.toks rfl 0 λq k h1 h2 Z=> .dict [] #[] 0 h1 h2 (of_decide_eq_true rfl) ⟨.nil,⟨0,λp hp=>(aU hp).elim⟩,iF⟩ 0 (cR Z rfl)) λq P I a3=> ?_);have r:=cj G;have f:=I.ρ _ G;refine su e (λh2 e=> ?_) λU e=> ?_
 .refine aC (dK e) λe k3=>aC (dK e) λe k8=> ?_;have J:o.kvs.length<=8:=by have:=aA k8;rw [len_eq] at this;exact this
  refine sO (l.tabAt z (aH h2)) λes ep B hn hd R=> ?_;have b:iu {s with heap:=s.heap.push (cJ #[] 0)} (.ref (w.ρ v.n)) "dict":=bW _ (az _ B) rfl;exact bq (jb b) (aq (aq (bq (fH b isSubtype_dict_dict) (aq (bV b Aq.lookup (av (bp (cL a3 (cL f (LW j P ((l.rep v.n o z).2.eqs.2 (aH h2)▸(HT.vU _ r z)) r J (λp hp=>uI k3 hd p hp) (cR f (FA l d R)) (cR a3 (cR f (iw (bk B)))) e hu λh' s' K C b3 e2=>(bp (av ⟨rfl,(O q h' s' (bP h.n) _ K (C▸I.trans b3) (.ref h.n (cR C (bN _))) e2)⟩))))))))))))
 .refine aC (dK e) λe h1=>sO (l.listAt z (aH h1)) λitems ep B hn hvs R=> ?_;have b:(s.heap.push (cJ #[] 0)).get? (w.ρ v.n)=af (gn items ep):=az _ B;have L:iu {s with heap:=s.heap.push (cJ #[] 0)} (.ref (w.ρ v.n)) "list":=bW _ b rfl;refine aq (jb L (aq (bX (II (A:=A.in1.in1) b D.handled λh' tk hk u=>(aC (P.i7 j (h':=h') (tk:=tk) u hk) λC K=>tw rfl (bq fh (bq (iD (items:=items) (f9 _ (hk _ _ b) rfl _ rfl)) (qI (K.one j g {cls:= .type "list_iterator",data:= .fields #[.ref (w.ρ v.n),.int 0 0]} tk (a:=gm v.n 0) λU=> .list v.n 0 (cK G) (f5 _ (aJ _ rfl) rfl (cR f rfl))) λS T V M c4=> ?_))))))));refine av ⟨plainId_quiet kM _, ?_⟩;generalize x:h'.objs.size=it at V T M c4;refine cL a3 ?_;have own:q.role it=au/\X.h₀.objs.size<=it/\SrcR X (h'.push {cls:= .type "list_iterator",data:= .fields #[.ref (w.ρ v.n),.int 0 0]}) q (h.n+1) it (gm v.n 0):=by
   cases M.is with
   |one it' a hS N=>
    have o:=M.own it ((hS it).mpr rfl);exact iU o.1 o.2.1 N
  refine LX (A:=A.in1) j d g D.handled hu own.2.1 2000 0 V own.1 (by refine cL x ?_;simp) own.2.2 e λh4 s4 d1 W d3 e4=> ?_;exact O q h4 s4 (bP h.n) _ d1 (W▸I.trans ((C.trans T).nN d3 λa N=> .inr (cR N (cL x u)))) (.ref h.n (cR W (bN _))) e4
end
section
variable {X:dw} {w:Wd} {h:H} {s:Shared} {A:Around}
noncomputable def Eh:Bool->String
 |true=>"max"
 |false=>"min"
def valAt (us:List V) (i:Nat):Int:=dS (us.getD i di)
def pK (gt:Bool) (us:List V) (i j:Nat):Bool:=match gt with
 |true=>decide (valAt us i>valAt us j)
 |false=>decide (valAt us i<valAt us j)
theorem LY (hv:ef X g w n us ys) gt {r}:∀l j m,us.drop (j+1)=l->j<us.length->us[argBest (pK gt us) j]? =af m->m.t=2->Gj gt l m=af r->
 us[argBest (pK gt us) (us.length-1)]? =af r/\r.t=2/\∀x∈l,x.t=2:=by
 intro l
 induction l with
 |nil=>
  intro j m i u hm k e;injection e with e;subst e
  have:us.length<=j+1:=sM.mp i;exact cR (congrArg (· -1) (Nat.le_antisymm this u)) (iU hm k (λx hx=>(aU hx).elim))
 |cons x l v=>
  intro j m i u hm k e;refine aC (dK (show(ah au (ah (Gj gt l m) (Gj gt l x) (ah (wN x m) (wN m x) gt)) (ak x.t 2):Option V)=af r from e)) λe b=> ?_;have hx:us[j+1]? =af x:=by
   have:(us.drop (j+1))[0]? =af x:=cR i rfl;rw [List.getElem?_drop] at this;exact this
  have c:=(cg.mp hx).1;have d:us.drop (j+1+1)=l:=by
   refine cL sN (cR i ?_);rfl
  refine dM (hv.get hx) λI F z=>dM (hv.get hm) λJ G B=> ?_;have C:us.getD (j+1) di=x:=by refine cR dg (cR hx ?_);rfl
  have D:us.getD (argBest (pK gt us) j) di=m:=by refine cR dg (cR hm ?_);rfl
  have f:ak m.t 2=true:=cR k rfl;have hb:(ah (wN x m) (wN m x) gt:Bool)=pK gt us (j+1) (argBest (pK gt us) j):=by
   induction gt using zB with
   |true=>show wN m x=decide (dS (us.getD (j+1) di)>dS (us.getD (argBest (pK ao us) j) di));refine cR C (cR D ?_);exact tL B z f b
   |false=>show wN x m=decide (dS (us.getD (j+1) di)<dS (us.getD (argBest (pK aj us) j) di));refine cR C (cR D ?_);exact tL z B b f
  rw [hb] at e;have a:argBest (pK gt us) (j+1)=if pK gt us (j+1) (argBest (pK gt us) j)=ao then j+1 else argBest (pK gt us) j:=rfl
  induction E:pK gt us (j+1) (argBest (pK gt us) j) using zB with
  |true=>
   rw [E] at e a;rw [if_pos rfl] at a;exact Rt (v (j+1) x d c (cR a hx) (aH b) e) λo p a3=>iU o p (λy hy=>(aT.mp hy).elim (λq=>q▸aH b) (a3 y))
  |false=>
   rw [E] at e a;rw [if_neg bZ] at a;exact Rt (v (j+1) m d c (cR a hm) k e) λo p a3=>iU o p (λy hy=>(aT.mp hy).elim (λq=>q▸aH b) (a3 y))
theorem Bl (hv:ef X g w n us ys) (e:bestOf gt us=af r):
 0<ys.length/\us[argBest (pK gt us) (ys.length-1)]? =af r/\(∀x∈us,x.t=2)/\∀i v,ys[i]? =af v->∃t,v=gK (valAt us i) t:=by
 induction us using zL with
 |nil=>exact fn e
 |cons x l=>
  refine f7 (dK e) λf e=> ?_;have hl:=hv.length.symm;refine Rt (LY hv gt l 0 x rfl (jG _) rfl (aH f) e) λj k a3=> ?_;have a:∀y∈x::l,y.t=2:=λy hy=>(aT.mp hy).elim (λq=>q▸aH f) (a3 y);refine qF (cR hl (jG _)) (cR hl j) a (λi v hi=> ?_);have b:i<(x::l).length:=cL hl ((cg.mp hi).1);have hu:=bB b;refine aL (hv.get hu) λz c hz=> ?_;rw [hi] at hz;injection hz with hz;subst hz
  refine fB (c.cS (cR (a _ (l7 b)) rfl)) λt d=> ?_;subst d;exact⟨t,by unfold valAt;refine cR dg (cR hu ?_);rfl⟩
theorem Bm (D:bw X) gt (m:A.handled=au) (E:St X w h s) {items} (k:ef X s.heap w h.n us items.toList) (e:bestOf gt us=af r) (hl:s.heap.IsList y items\/s.heap.IsTuple y items)
 (F:∀x s',St X w h s'->Ext X cV w h.n s w h.n s'->VR X s'.heap w h.n r x->Q x s'):
 wpAny (model X.prog X.w) A (call (.builtin (Eh gt)) [.ref y]) Q (λG G=>False) s:=by
 refine uq (Bl k e) λI J N K=> ?_;have d:=cj (by rcases hl with⟨_,e,_⟩|⟨_,e,_⟩<;>exact bk e);have q:y<s.heap.objs.size:=by rcases hl with⟨_,e,_⟩|⟨_,e,_⟩<;>exact bk e
 have hz:0<items.size:=by simpa using J
 have f:∀l v h' tk,items[argBest (pK gt us) (items.size-1)]? =af v->s.heap.objs.size<=h'.objs.size->(∀b o,b∉[s.heap.objs.size]->(s.heap.push l).get? b=af o->h'.get? b=af o)->Q v {s with heap:=h',toks:=tk}:=by
  intro l v h' tk g c hk;refine aC (E.i7 D (h':=h') (tk:=tk) c λa o B=>hk a o (by
   intro hm;have h1:=bk B;rw [eE.mp hm] at h1;exact j4 _ h1) (az _ B)) λC L=> ?_
  refine dM (k.get I) λz hz u=> ?_;have M:items.toList[argBest (pK gt us) (items.toList.length-1)]? =af v:=by simpa using g
  rw [M] at hz;injection hz with hz;subst hz
  exact F v _ L C (u.mono C.dW)
 have p:∀l,∀b∈[s.heap.objs.size,y],b<(s.heap.push l).objs.size:=λl b hb=>by
  refine cR (bJ ..) ?_;rcases aT.mp hb with rfl|hb
  .exact bN _
  .refine cR (eE.mp hb) ?_;exact cK q
 have j:∀i v,items[i]? =af v->∃t,v=gK (valAt us i) t:=λi v hi=>K i v (by simpa using hi);rcases hl with hl|hl
 .induction gt using zB with
  |true=>
   refine bX (call_max_walk (iD hl (jd s.heap.objs.size [s.heap.objs.size,y] [s.heap.objs.size] _ _ _ (pK ao us) rfl (Walks.list (A:=A.in1) m _ y d items) ⟨(f5 _ (aJ _ rfl) rfl rfl),hl.push _⟩ (p _) hz (CmpOf.ints_gt (valAt us) j) (λv h' tk g hk c=> ?_))));exact f _ v h' tk g c hk
  |false=>
   refine bX (call_min_walk (iD hl (jd s.heap.objs.size [s.heap.objs.size,y] [s.heap.objs.size] _ _ _ (pK aj us) rfl (Walks.list (A:=A.in1) m _ y d items) ⟨(f5 _ (aJ _ rfl) rfl rfl),hl.push _⟩ (p _) hz (CmpOf.ints_lt (valAt us) j) (λv h' tk g hk c=> ?_))));exact f _ v h' tk g c hk
 .induction gt using zB with
  |true=>
   refine bX (call_max_walk (ly hl (jd s.heap.objs.size [s.heap.objs.size,y] [s.heap.objs.size] _ _ _ (pK ao us) rfl (Walks.tuple (A:=A.in1) m _ y d items) ⟨(f5 _ (aJ _ rfl) rfl rfl),hl.push _⟩ (p _) hz (CmpOf.ints_gt (valAt us) j) (λv h' tk g hk c=> ?_))));exact f _ v h' tk g c hk
  |false=>
   refine bX (call_min_walk (ly hl (jd s.heap.objs.size [s.heap.objs.size,y] [s.heap.objs.size] _ _ _ (pK aj us) rfl (Walks.tuple (A:=A.in1) m _ y d items) ⟨(f5 _ (aJ _ rfl) rfl rfl),hl.push _⟩ (p _) hz (CmpOf.ints_lt (valAt us) j) (λv h' tk g hk c=> ?_))));exact f _ v h' tk g c hk
theorem GP (C:bw X) gt (hm:oE m= .builtin (Eh gt)) (L:BR m=BQ gt):qb X m:=by
 intro n A D w h s z vs ys hv k res i Q x;refine eT ?_;rw [L] at i;refine cR hm ?_;have e:=i;unfold BQ at e;rcases vs with _|⟨a,_|⟨c,_|⟨d,l⟩⟩⟩
 .exact fn e
 .dsimp only at e;refine dM hv.one λy b=> ?_;subst b;intro hy
  induction E:ak a.t 5 using zB with
  |true=>
   rw [E] at e;refine dM (bC e) λr B M=> ?_;clear e i
   induction hy using Mine.VR.casesOn with
   |tup xs t items ep N ht F hn p=>exact Bm C gt D.handled z p B (.inr (f9 _ F rfl _ rfl)) λG s' j g a3=>x w h s' r G j g a3 M
   |_=>exact nn (aH E) rfl
  |false=>
   rw [E] at e;refine gO (fO e) λo e O P R=>dM (bC e) λr B e=>f7 (hy.er O) λb=> ?_;subst b;intro S;exact sO (z.listAt P R) λitems ep F hn p N=>Bm C gt D.handled z p B (.inl (f9 _ F rfl _ rfl)) λG s' j g a3=>x w h s' r G j g a3 e
 .refine dM (bC e) λr B e=>vK hv.two λT W b=> ?_;subst b;intro I q;refine uq (Bl hv B) λJ Y K Z=>fB (I.cS (cR (K a (aE ..)) rfl)) λt b=> ?_;subst b;refine fB (q.cS (cR (K c (aD _ (aE ..))) rfl)) λu b=> ?_;subst b
  induction gt using zB with
  |true=>
   refine bX (max_two_ints D.handled λh' tk hk v=>(aC (z.i7 C (h':=h') (tk:=tk) v hk) λg j=> ?_));have hb:([a,c]:List V)[if decide (dS c>dS a)=ao then 1 else 0]? =af r:=J;by_cases f:dS c>dS a
   .rw [if_pos (decide_eq_true f)] at hb;injection hb with hb;subst hb
    exact cR (if_pos f) (x w h _ _ _ j g (q.mono g.dW) e)
   .rw [if_neg (by simpa using f)] at hb;injection hb with hb;subst hb
    exact cR (if_neg f) (x w h _ _ _ j g (I.mono g.dW) e)
  |false=>
   refine bX (min_two_ints D.handled λh' tk hk v=>(aC (z.i7 C (h':=h') (tk:=tk) v hk) λg j=> ?_));have hb:([a,c]:List V)[if decide (dS c<dS a)=ao then 1 else 0]? =af r:=J;by_cases f:dS c<dS a
   .rw [if_pos (decide_eq_true f)] at hb;injection hb with hb;subst hb
    exact cR (if_pos f) (x w h _ _ _ j g (q.mono g.dW) e)
   .rw [if_neg (by simpa using f)] at hb;injection hb with hb;subst hb
    exact cR (if_neg f) (x w h _ _ _ j g (I.mono g.dW) e)
 .exact fn e
theorem T8 (a:bw X):qb X 12:=GP a ao rfl rfl
theorem T9 (a:bw X):qb X 13:=GP a aj rfl rfl
end
theorem AR:PlainAttrs "bytes":=
 ⟨(bW ("bytes.__getattribute__") (by refine cR (typeLookup_type ..) (cR bA ?_);kernel_rfl) rfl),by refine cR (typeLookup_type ..) (cR bA ?_);kernel_rfl⟩
theorem uY:Slot "bytes" "join" "bytes.join":=
 .of (owner:="bytes") (n:="join") (by refine cR (typeLookup_type ..) (cR bA ?_);kernel_rfl) rfl rfl rfl
  (by first|exact .inl (by decide+kernel)|exact .inr rfl) (by refine cR (isSubtype_type ..) ?_;kernel_rfl)
theorem AS:entryFor table "bytes.join"=af Builtin.«bytes.join»:=by first|exact BK (by kernel_rfl)|exact nq (by kernel_rfl)
theorem CD (a c):argsOk "bytes.join" ⟨[a,c],[]⟩:=by unfold argsOk;kernel_rfl
theorem CG:typeOf (.builtin "bytes.join")=pure (.type "method_descriptor"):=by show builtinType _=_;refine cR builtinType_eq_fast ?_;kernel_rfl
section
variable {prog:Program} {ww:World} {A:Around} {E:Value->Shared->Prop} {s:Shared}
theorem FJ l:(kq #[] l).toList=(l.map Array.toList).flatten:=by
 have a:∀(l:List (Array UInt8)) k acc,((l.zipIdx k).foldl (λout p=>(if p.2>0 then out++(#[]:Array UInt8) else out)++p.1) acc).toList=acc.toList++(l.map Array.toList).flatten:=by
  intro l
  induction l with
  |nil=>intro k acc;simp
  |cons x l b=>
   intro k acc;refine cR List.zipIdx_cons (cR List.foldl_cons (cR (b ..) ?_));have:(if k>0 then acc++(#[]:Array UInt8) else acc)=acc:=by split<;>exact rfl
   simp
 have:=a l 0 #[];exact this
theorem CH {id} (q:Q (af (b,au)) s):wpAny (model prog ww) A (Builtin.Bytes.takeBufferQuiet? id (.bytes b t) 0) Q E s:=by
 have a:=j6 s b t;exact aq (qB (bq (bV a B.j0) (bq (oZ a) (ND (of_decide_eq_true rfl) (bq (bV a B.j0) (aq (Bk (av (av q)))))))))
theorem OT:∀(l:List (Array UInt8×Tok)) a {Q},Q () s->wpAny (model prog ww) A (Builtin.Bytes.joinLetGo (l.map λp=>(iP p.1 p.2,au)) a) Q E s:=by
 intro l
 induction l with
 |nil=>
  intro a Q q;exact av q
 |cons p l b=>
  intro a Q q;exact aq (wpAny_letGo (b a q))
theorem OU (l:List (Array UInt8×Tok)):((l.map λp=>(iP p.1 p.2,(none:Option Value))).any λx=>x.1.onHeap)=false:=by
 induction l with
 |nil=>rfl
 |cons p l a=>refine cR dG (cR gg (cR a ?_));rfl
theorem takes {a:List (Array UInt8×Tok)} {x} h:(((a.take x).map (·.1)).toArray.push a[x].1,((a.take x).map λp=>(iP p.1 p.2,(none:Option Value)))++[(iP a[x].1 a[x].2,none)])=
 (((a.take (x+1)).map (·.1)).toArray,(a.take (x+1)).map λp=>(iP p.1 p.2,none)):=by
 refine cR (wJ h) (cR j5 (cR j5 ?_));simp only [dG,List.map_nil,List.push_toArray]
theorem OV {a:Type} {f} {y} (h:¬l.size=1):Builtin.Bytes.joinM.match_1 (λb=>a) l f y=y l:=by
 obtain⟨l⟩:=l
 induction l using BL with
 |zero=>rfl
 |one=>exact absurd rfl h
 |more=>rfl
theorem IJ (l:List (Array UInt8×Tok)) n:List.foldl (λb c=>b+c.size) n (l.map (·.1))=n+(l.map λp=>p.1.size).sum:=by
 induction l generalizing n with
 |nil=>rfl
 |cons p l d=>exact(d _).trans (j3 ..)
theorem count_loop (a:Nat->σ) (b:∀i,i<m->∀{Q},Q (.yield (a (i+1))) s->wpAny (model prog ww) A (f i (a i)) Q E s) (c:R (a m) s):wpAny (model prog ww) A (forIn [:m] (a 0) f) R E s:=by
 have d:∀k i,i+k=m->wpAny (model prog ww) A (forIn (List.range' i k) (a i) f) R E s:=by
  intro k
  induction k with
  |zero=>exact λi h=>av ((show i=m from h)▸c)
  |succ k e=>exact λi h=>cR xH (cR (dO ..) (aq (b i (h▸Nat.lt_add_of_pos_right (jG k)) (e (i+1) ((pU i k).trans h)))))
 exact cR (iI ..) (cR (show([:m]:Std.Legacy.Range).size=m by simp [nV]) (d m 0 (oh m)))
theorem LZ {a:List (Array UInt8×Tok)} (hz:(a.map λp=>p.1.size).sum<=1000000):Array.foldl (λb c=>b+c.size) ((#[]:Array UInt8).size*(((a.map (·.1)).toArray).size-1)) (a.map (·.1)).toArray<=1000000:=cL (Array.foldl_toList ..) (cR (IJ ..) ((Nat.zero_mul _).symm▸(oh _).symm▸hz))
theorem IK {a:List (Array UInt8×Tok)} (hz:(a.map λp=>p.1.size).sum<=1000000) (b:(kq #[] (a.map (·.1))).toList=(a.map λp=>p.1.toList).flatten):(kq #[] (a.map (·.1))).size<=jn:=by
 have h1:=congrArg fT b;rw [aM,List.length_flatten,jE] at h1;exact aI (h1▸(show(sI (fT∘λp=>p.1.toList) a)=a.map λp=>p.1.size from nu λp c=>aM)▸hz) bx
theorem join_loop {items} {st} (c:List (Array UInt8×Tok)) (g:s.heap.get? a=af {cls:= .type "list",data:= .seq items ep}) (hi:items.toList=c.map λp=>iP p.1 p.2) (hz:(c.map λp=>p.1.size).sum<=1000000)
 {Q:Value->Shared->Prop} (q:∀b t k,b.toList=(c.map λp=>p.1.toList).flatten->Q (.bytes b t) {s with toks:=k}):
 wpAny (model prog ww) A (Builtin.«bytes.join» ⟨[.bytes #[] st,.ref a],[]⟩) (λh s'=>∃v,h= .done (.ret v)/\Q v s') E s:=by
 refine bq (f6 (a:=(iP #[] st,ic a)) rfl) ?_;have j:items=(c.map λp=>iP p.1 p.2).toArray:=cL hi rfl;have e:(Builtin.Bytes.Kind.bytes==Builtin.Bytes.Kind.bytearray)=false:=rfl;refine aq (bq (jb (bW _ g rfl)) (av (bq (dz g rfl) ?_)));dsimp only;refine Ze rfl ?_;have d:items.size=c.length:=cR j (eF ..);by_cases h1:items.size=1
 .exact fB (List.length_eq_one_iff.mp (d.symm.trans h1)) λp hp=>cR j (cR hp (bq (jb (j6 s p.1 p.2)) (aq (fh (av (bW _ rfl (q _ _ s.toks (by refine cR hp ?_;simp))))))))
 refine cR (OV h1) (aq (count_loop (λi=>(((c.take i).map (·.1)).toArray,(c.take i).map λp=>(iP p.1 p.2,au))) (λx l Q q=> ?_) ?_))
 .refine bq (dz g rfl) ?_;have f:=Nat.lt_of_lt_of_eq l d;have hx:items.getD x .none= .bytes c[x].1 c[x].2:=by
   refine cR (Array.getD_eq_getD_getElem?) (cR j ?_);simp [f]
  dsimp only;rw [e,if_neg (by refine cR (OU ..) ?_;exact ne_true_of_eq_false e),hx];refine aq (bO (CH (bq (dz g rfl) ?_)));dsimp only;exact ND (by simp) (av (cR (takes f) q))
 .refine cR d (cR List.take_length (bq (f6 (a:=(#[]:Array UInt8)) rfl) (ND (by unfold Builtin.Bytes.tooLong;refine cR decide_eq_true_eq ?_;exact bD.mpr (aI (LZ hz) bx)) ?_)));have m:(kq #[] (c.map (·.1))).toList=(c.map λp=>p.1.toList).flatten:=cR (FJ ..) (cR jE rfl);refine aq (wpAny_mkBytes ?_ (IK hz m));exact aq (bO (vA (aq (OT c _ (av (bW _ rfl (q _ _ _ m)))))))
theorem Bo t v l:Dd t (v::l)=ah au (aB au (λr=>af (app v.l r)) (Dd t l)) (ak v.t t):=rfl
theorem FL:∀{ys} {m},ef X g w n l ys->Dd 4 l=af m->
 ∃a:List (Array UInt8×Tok),ys=a.map (λp=>iP p.1 p.2)/\((a.map λp=>p.1.toList).flatten).map bU=m:=by
 induction l with
 |nil=>
  intro ys m h e;injection e with e;subst e
  exact bW [] h.nil_of rfl
 |cons v l c=>
  intro ys m h e;refine vK h.cons_of λy d hy hv hl=> ?_;rw [Bo] at e;refine aC (dK e) λe f=>aL (pS e) λr e i=>dM (c hl i) λa hb h2=> ?_;injection e with e;subst e
  obtain⟨j,t,ht,b,_⟩:=hv.jI (aH f);exact bW ((j,t)::a) (cR hy (cR hb (cR ht rfl))) (cR (mD ..) (cL h2 (cR b j5)))
theorem IL:∀{ys} {m},ef X g w n l ys->Dd 3 l=af m->
 ∃a:List (List Nat×Tok),ys=strValues (a.map λp=>(⟨p.1.toArray⟩,p.2))/\(a.map eB).flatten=m:=by
 induction l with
 |nil=>
  intro ys m h e;injection e with e;subst e
  exact bW [] h.nil_of rfl
 |cons v l b=>
  intro ys m h e;refine vK h.cons_of λy c hy hv hl=> ?_;rw [Bo] at e;refine aC (dK e) λe d=>aL (pS e) λr e f=>dM (b hl f) λa hb h2=> ?_;injection e with e;subst e
  exact dM (hv.p6 (aH d)) λt ht i=>bW ((v.l,t)::a) (cR hy (cR hb (cR ht rfl))) (cR (mD ..) (cL h2 rfl))
theorem index_loop {n m} {f:Nat->σ->Sem (ForInStep σ)} {dn:PySem.Fin->σ} {items:Array Value} (Yy:ef X g w n xs items.toList) (a3:qt 3 xs=ao)
 (body:∀i r y {Q},items[i]? =af y->wpAny (model prog ww) A (eqBool y (.str ⟨x.l.toArray⟩ tk)) (λc s'=>ah (Q (.yield r0) s') (wpAny (model prog ww) A (retInt (i:Int)) (λz=>Q (.done (dn z))) E s') c) E s->wpAny (model prog ww) A (f i r) Q E s)
 (fin:R (dn (.done (.ret (.int (m:Int) s.toks)))) {s with toks:=s.toks+1}) l:∀i r,xs.drop i=l->EP x l i=af m->wpAny (model prog ww) A (forIn (List.range' i l.length) r f) R E s:=by
 induction l with
 |nil=>exact λi r hd e=>fn e
 |cons u l ih=>
  intro i r hd e;have hu:=(List.head?_drop ..).symm.trans (congrArg List.head? hd);refine aL (Yy.get hu) λy hv hy=>cR iG (cR xH (cR (dO ..) (aq (body i r y ((bz ..).symm.trans hy) ?_))));refine dM (hv.p6 (zv a3 u (cY hu))) λty hq U=>cR hq (wpAny_eqBool_str (cR ((decide_eq_decide.mpr ⟨λq=>congrArg (λs:Str=>s.cps.toList) q,λq=>congrArg (λl:List Nat=>(⟨l.toArray⟩:Str)) q⟩).trans (tF u.l x.l).symm) ?_));revert e;refine(?_:(ah (EP x l (i+1)) (af i) (qj u.l x.l):Option Nat)=af m->_)
  induction qj u.l x.l using zB with
  |true=>exact λe=>aq (wpAny_mkInt (av (av ((aF e).symm▸fin))))
  |false=>exact λe=>ih (i+1) _ (cL sN (cR hd rfl)) e
theorem L0 (ax:bw X):wW X b "index" ⟨ES,λt=>ak t 5⟩:=by
 intro t ht;refine cR (aH ht) (yp (.inr (.inr rfl)) ("tuple.index") ⟨F.plainAttrs_tuple,F.slot_tuple_index,F.type_tuple_index⟩ (λA n hA w h s hs ov y hv h5 vs ys hvs k res e₀ Q hQ=> ?_));refine dM (eu e₀) λx qY=> ?_;subst qY;intro e;refine dM hvs.one λz qY=> ?_;subst qY;intro hz;refine aC (dK e) λe U=>aC (dK e) λe x3=>aC (dK e) λe a3=>dM (bC e) λm hm e9=>Zf (hv.g6 h5) λt items ep q1 U U hg U Yy=>dM (hz.p6 (aH x3)) λtk q2 U=>cR q1 (cR q2 (bH F.slot_tuple_index (bW _ hg rfl) F.entry_tuple_index ?_ (F.args_tuple_index_2 _ _)));refine bq (f6 (a:=(ic t,[Value.str ⟨x.l.toArray⟩ tk])) rfl) (aq (aq (dz hg rfl (av ?_))));dsimp only;refine aq (av (bp (cR (iI ..) (cR (show([0:min items.size items.size]:Std.Legacy.Range).size=ov.xs.length from(by simp [nV]:_=items.size).trans Yy.length.symm) (aq (index_loop (tk:=tk) (r0:=(au,())) (dn:=λz=>(af z,())) Yy a3 (λi r y {Q} hy h=> ?_) ?_ ov.xs 0 _ rfl hm))))))
 .refine cR hy (aq (fX h (λc s' q=> ?_) λU U q=>q))
  induction c using zB with
  |true=>exact aq (fX q (λz s'' h=>av h) λU U q=>q)
  |false=>exact av q
 .exact aC (hs.i7 ax (h':=s.heap) (tk:=s.toks+1) (bu _) λU U q=>q) λb2 b1=>av (bW _ rfl (hQ w h _ _ _ b1 b2 (.nat _ _) e9))
theorem IQ (a:List (List Nat×Tok)):Builtin.Str.glued (⟨([]:List Nat).toArray⟩:Str) ((a.map λp=>((⟨p.1.toArray⟩:Str),p.2)).map (·.1))=⟨((a.map eB).flatten).toArray⟩:=by
 have b:∀(l:List (List Nat×Tok)) acc,(((l.map λp=>((⟨p.1.toArray⟩:Str),p.2)).map (·.1)).foldl (λacc p=>acc++(⟨([]:List Nat).toArray⟩:Str).cps++p.cps) acc)=acc++((l.map eB).flatten).toArray:=by
  intro l
  induction l with
  |nil=>intro acc;exact rfl
  |cons p l c=>intro acc;simp only [dG,List.foldl_cons];refine cR (c ..) ?_;simp
 induction a using zL with
 |nil=>rfl
 |cons p l=>
  refine(?_:(⟨_⟩:Str)=⟨_⟩);congr 1;refine(b l p.1.toArray).trans ?_;simp
theorem L1 (l:List (List Nat×Tok)) n:List.foldl (λa b=>a+b.length+(⟨([]:List Nat).toArray⟩:Str).length) n ((l.map λp=>((⟨p.1.toArray⟩:Str),p.2)).map (·.1))=n+((l.map eB).flatten).length:=by
 induction l generalizing n with
 |nil=>rfl
 |cons p l c=>exact(c _).trans ((j3 n p.1.length _).trans (congrArg (n+ ·) (dc ..).symm))
theorem OW (R:bw X):wW X b "join" ⟨Gl,λt=>ah (ak t 4) ao (ak t 3)⟩:=by
 intro t ht;have two:t=3\/t=4:=by
  induction S:ak t 3 using zB with
  |true=>exact .inl (aH S)
  |false=>
   have ht:(ah (ak t 4) ao (ak t 3):Bool)=true:=ht;rw [S] at ht;exact .inr (aH ht)
 have T:∀{i x:V} {vs} {h} {k} {res},Gl i vs h k=af res->∃x,vs=[x]/\i.l=[]/\∃o,h.l.get x.n=af o/\ak x.t 6=ao/\ak o.t 1=ao/\(ah (ah au (lift (Dd 4 o.xs) h λs h=>kB s h k) (ak i.t 4)) (lift (Dd 3 o.xs) h λs h=>kS s h k) (ak i.t 3):Option Res)=af res:=by
  intro i _ vs h k res c;refine dM (eu c) λx d=> ?_;subst d;intro e;refine aC (dK e) λe hn=>gO (fO e) λo e W D Y=> ?_;have f:i.l=[]:=by
   induction hl:i.l using zL with
   |nil=>rfl
   |cons a l=>rw [hl] at hn;exact ff hn
  exact⟨x,rfl,f,o,D,by refine cR W ?_;rfl,by refine cR Y ?_;rfl,e⟩
 rcases two with rfl|rfl
 .refine yp (.inl rfl) ("str.join") ⟨F.plainAttrs_str,F.slot_str_join,F.type_str_join⟩ (λA n Z w h s G i y hv H vs ys r k res c Q I=> ?_);obtain⟨x,rfl,f,o,D,J,K,e⟩:=T (x:=i) c;refine dM r.one λz d=> ?_;subst d;intro hz;clear c;refine f7 (hz.er (aH J)) λd=> ?_;subst d;intro lv;refine sO (G.listAt D (aH K)) λitems ep B hn j hr=>dM (hv.p6 H) λtk L C=>cR L (cR f ?_)
  .rw [H] at e;refine dM (bC e) λm hm e=>f7 (dK e) λhz e=> ?_;have hz:=aA hz;rw [len_eq] at hz;refine dM (IL j hm) λu v g=>call_meets F.slot_str_join (typeIs_str s (⟨([]:List Nat).toArray⟩:Str) tk) F.entry_str_join (F.args_str_join_2 _ _) (meets_str_join_list ⟨([]:List Nat).toArray⟩ tk _ (u.map λp=>(⟨p.1.toArray⟩,p.2)) ?_) ⟨(f9 _ B rfl ep (by exact cL v rfl)), ?_⟩
   .exact cL (Array.foldl_toList ..) (cR (L1 u 0) (cR g (decide_eq_false (bD.mpr (aI ((oh _).symm▸hz) bx)))))
   .have B:(Txt.join (⟨([]:List Nat).toArray⟩:Str) ((u.map λp=>((⟨p.1.toArray⟩:Str),p.2)).map (·.1)))=⟨m.toArray⟩:=by
     refine cL g ?_;exact IQ _
    refine post_join _ ⟨?_,λt' M=> ?_⟩
    .refine cR B ((?_:m.toArray.size<=jn));exact aI hz bx
    .exact cR B (aC (G.i7 R (h':=s.heap) (tk:=M) (bu _) λC C q=>q) λN O=>I w h _ (vStr m) _ O N (.str m t' hz) e)
 .refine yp (.inr (.inl rfl)) ("bytes.join") ⟨AR,uY,CG⟩ (λA n Z w h s G i y hv H vs ys r k res c Q I=> ?_);obtain⟨x,rfl,f,o,D,J,K,e⟩:=T (x:=i) c;refine dM r.one λz d=> ?_;subst d;intro hz;clear c;refine f7 (hz.er (aH J)) λd=> ?_;subst d;intro lv;refine sO (G.listAt D (aH K)) λitems ep B hn j hr=>vK (hv.jI H) λll tk L q2 C=>cR L (cR (Array.toList_eq_nil_iff.mp (List.map_eq_nil_iff.mp (q2.symm.trans f))) ?_)
  .rw [H] at e;refine dM (bC e) λm hm e=>f7 (uM e) λhz e=>aL (FL j hm) λu g v=>bH uY (j6 s #[] tk) AS ?_ (CD _ _);refine join_loop u B v ?_ λb t M hb=> ?_
   .rw [<-g,eF,List.length_flatten,jE] at hz;have h2:(sI (fT∘λp=>p.1.toList) u)=u.map λp=>p.1.size:=nu λp C=>aM;rw [h2] at hz;exact hz
   .refine aC (G.i7 R (h':=s.heap) (tk:=M) (bu _) λC C q=>q) λN O=> ?_;have P:b.size<=1000000:=by
     rw [<-g,<-hb,eF,aM] at hz;exact hz
    refine I w h _ (fj m) _ O N ?_ e;exact cL g (cL hb (.bytes b t P))
end
set_option backward.match.sparseCases false
noncomputable abbrev Yz (h:Heap) (t:Addr):Heap:=h.push {cls:= .type "tuple_iterator",data:= .fields #[.ref t,.int 0 0]}
abbrev YA (h:Heap) (t l:Addr):Heap:=(Yz h t).push {cls:= .type "list_iterator",data:= .fields #[.ref l,.int 0 0]}
abbrev YB (h:Heap) (t l:Addr):Heap:=(YA h t l).push {cls:= .type "tuple",data:= .seq #[.ref h.objs.size,.ref (Yz h t).objs.size]}
abbrev YC (h:Heap) (t l:Addr):Heap:=(YB h t l).push {cls:= .type "tuple",data:= .seq #[.none,.none]}
abbrev WC (h:Heap) (t l:Addr):Heap:=(YC h t l).push {cls:= .type "zip",data:= .fields #[.none,.bool aj,.bool aj,.ref (YA h t l).objs.size,.ref (YB h t l).objs.size]}
theorem CI (t l:Addr) (xs ys:Array Value):
 Meets (Builtin.«zip.__new__» ⟨[.type "zip",.ref t,.ref l],[]⟩) (λi R s=>s.heap.IsTuple t xs/\s.heap.IsList l ys/\R (.ok (.ret (.ref (YC s.heap t l).objs.size))) {s with heap:=WC s.heap t l}):=
 .of_wp λprog w A R s h=>by
  obtain⟨hp,g,d,tk,os⟩:=s;refine iL h λh a b=> ?_;have f:=sub_zip;have c:Heap.IsTuple (fR ⟨hp,g,d,tk,os⟩) t xs:=a;have e:Heap.IsList (fR ⟨hp.push {cls:= .type "tuple_iterator",data:= .fields #[.ref t,.int 0 0]},g,d,tk,os⟩) l ys:=Heap.IsList.push b _;wp_walk using ly c,iD e;exact bW _ rfl h
section
variable {prog:Program} {ww:World} {A:Around} {E:Value->Shared->Prop} {s:Shared}
theorem Ei {xs ys} (a:s.heap.IsTuple t xs) (b:s.heap.IsList l ys)
 (h:∀h',lH h' (s.heap.objs.size+4) (s.heap.objs.size+2) (s.heap.objs.size+3) .none (.bool aj)->IsPair h' (s.heap.objs.size+2) (.ref s.heap.objs.size) (.ref (s.heap.objs.size+1))->
  IsPair h' (s.heap.objs.size+3) .none .none->h'.IsTupleIter s.heap.objs.size t 0->h'.IsListIter (s.heap.objs.size+1) l 0->h'.objs.size=s.heap.objs.size+5->
  (∀c o,s.heap.get? c=af o->h'.get? c=af o)->Q (.ref (s.heap.objs.size+4)) {s with heap:=h'}):
 wpAny (model prog ww) A (call (.type "zip") [.ref t,.ref l]) Q E s:=by
 refine callType_new F.called_zip rfl (F.typeCall_zip_2 _ _) (F.newCall_zip_2 _ _) (λobj=>F.args_object_init_3 obj _ _) F.entry_zip_new
  (CI t l xs ys) (iU a b ?_)
 have d:(Yz s.heap t).objs.size=s.heap.objs.size+1:=bJ ..;have e:(YA s.heap t l).objs.size=s.heap.objs.size+2:=cR (bJ ..) (cR d rfl);have f:(YB s.heap t l).objs.size=s.heap.objs.size+3:=cR (bJ ..) (cR e rfl);have g:(YC s.heap t l).objs.size=s.heap.objs.size+4:=cR (bJ ..) (cR f rfl);have i:(WC s.heap t l).get? (YC s.heap t l).objs.size=af _:=aJ _ rfl;have j:(WC s.heap t l).get? (YB s.heap t l).objs.size=af _:=az _ (aJ _ rfl);have k:(WC s.heap t l).get? (YA s.heap t l).objs.size=af _:=az _ (az _ (aJ _ rfl));have m:(WC s.heap t l).get? (Yz s.heap t).objs.size=af _:=az _ (az _ (az _ (aJ _ rfl)));rw [e,f,g] at i;rw [d,e] at k;rw [f] at j;rw [d] at m;refine cR g ?_;exact⟨(bW _ i rfl),h _ i k j (f5 _ (az _ (az _ (az _ (az _ (aJ _ rfl))))) rfl rfl) (f5 _ m rfl rfl) (cR (bJ ..) (cR g rfl)) λc o x=>
  az _ (az _ (az _ (az _ (az _ x))))⟩
end
section
variable {X:dw} {w:Wd} {h:H} {s:Shared} {A:Around}
theorem L2 (ax:bw X) (W:∀a∈X.tabs,a<X.h₀.objs.size) (O:St X w h s) (hh:A.handled=au) {ke:H->Option Res} {ki:V->V->H->Option Res}
 (e:(aB au (λo=>ah au (match o.bs with
  |[c,d]=>aB au (λq=>ah au (aS (ke ⟨HT.ins qK h.l i,h.n⟩) (λx r U=>aB (ke ⟨HT.ins qK h.l i,h.n⟩) (λy=>ki x y ⟨HT.ins (uy r c (aG d 1)) h.l i,h.n⟩) (sP q.xs d)) o.xs) (ak q.t 1)) (HT.get h.l c)
  |_=>au) (ak o.t 7)) (HT.get h.l i):Option Res)=af res)
 (hn:∀h' s',St X w h' s'->h'.n=h.n->Ext X cV w h.n s w h.n s'->ke h'=af res->Q au s')
 (hv:∀h' s' x y v,St X w h' s'->h'.n=h.n->Ext X cV w h.n s w h.n s'->VR X s'.heap w h.n (dJ [x,y]) v->ki x y h'=af res->Q (af v) s'):wpAny (model X.prog X.w) A (pyNext (.ref (w.ρ i))) Q E s:=by
 refine aL (pS e) λo e ho=>aC (dK e) λe h7=> ?_;have p:w.role s.heap.objs.size=au/\s.heap.objs.size∉X.tabs:=⟨lZ O (bu _),λhm=>absurd (W _ hm) (bD.mpr O.size)⟩
 induction (O.rep i o ho).2 using Mine.Rep.casesOn with
 |HF xs Y L TI TO i1 i2 t items ep m aa bb v f M r1 P R S D hj hz h1 h2 ht hg h3 u h4 Z=>
  refine aL (pS e) λq e hq=>aC (dK e) λe q1=>sO (O.listAt hq (aH q1)) λys Kp N9 hn2 B Ti=> ?_;rw [mE] at e;have G:∀{c},w.role c=af i->t≠c:=λj q=>by have:=ht.1;rw [q,j] at this;exact sn this
  have I:∀{c},w.role c=af i->w.ρ Y≠c:=λj q=>hj.2 (aF (Ti.symm.trans (q▸j)));have g:∀{c d} {oc od},s.heap.get? c=af oc->s.heap.get? d=af od->oc.cls≠od.cls->c≠d:=λec ed hne q=>by subst q;injection ec.symm.trans ed with hq;subst hq;exact hne rfl
  refine cI (id h3) λo3 d3 e3 c3=>cI (id h4) λo4 d4 e4 c4=> ?_;have n1:cW "list_iterator"≠cW "zip":=by decide
  have n2:cW "tuple"≠cW "list_iterator":=by decide
  have n3:cW "tuple_iterator"≠cW "zip":=by decide
  have n4:cW "tuple"≠cW "tuple_iterator":=by decide
  have J:ZipApart (w.ρ i) TI TO i1 i2 t (w.ρ Y):=⟨D.2.1,D.2.2.1,g e3 hz (cR c3 n3),g e4 hz (cR c4 n1),D.1,g h1 e3 (cR c3 n4),g h1 e4 (cR c4 n2),g h2 e3 (cR c3 n4),g h2 e4 (cR c4 n2),D.2.2.2,
   G M,G P,G R,G S,I M,I P,I R,I S⟩
  have hT:s.TypeIs (.ref (w.ρ i)) "zip":=bW _ hz rfl;have hf:LS s.heap v f:=by
   rcases Z with⟨rfl,rfl⟩|⟨T,fb,its,Vj,rfl,rfl,t1,t2,t3⟩
   .exact .free
   .exact .kept T fb _ t3
  refine bX (aq (qB (dU (name:=bY "__next__") hT F.slot_zip_next
   (bH F.slot_zip_next hT F.entry_zip_next (LU (Q:=λfin s'=>∃v,fin= .done (.ret v)/\wpAny (model X.prog X.w) A (pure (af v)) (λa s'=>s.heap.objs.size<=s'.heap.objs.size->Q a s') E s') J (OR (prog:=X.prog) (ww:=X.w) (A:=A.in1) hh J.l1i1 m items) (LR (prog:=X.prog) (ww:=X.w) (A:=A.in1) hh J.l2i2 L ys) hz hf h1 h2 ⟨h3,_,hg,rfl,_,rfl⟩ ⟨h4,_,N9,rfl,_,rfl⟩ (λh' xv yv w' g' a' b' ex ey z1 zw zTO z3 z4 z5 z6 z7=>bW _ rfl (av λC=> ?_)) λh' e' hk he hend=> ?_) (F.args_zip_next_1 _)))))
  .induction xs using zL with
   |nil=>
    exact absurd ((jC ..).symm.trans u.length.symm) (iw (xx (fJ.mp ex).1))
   |cons x r=>
    induction z:q.xs[L]? using zO with
    |none=>have:=B.get_none z;rw [bz,ey] at this;exact sn this
    |some y=>
     have e:(aB (ke ⟨HT.ins qK h.l i,h.n⟩) (λy=>ki x y ⟨HT.ins (uy r Y (L+1)) h.l i,h.n⟩) (q.xs[L]?):Option Res)=af res:=e;rw [z] at e;refine dM (B.get z) λyv' k vy=> ?_;rw [bz,ey] at k;injection k with k;subst k
     have hdr:items.toList.drop m=xv::items.toList.drop (m+1):=by
      refine cR (ie (((fJ.mp ex).1))) ?_;have:items.toList[m]? =af xv:=by refine cR bz ?_;exact ex
      exact cR ((cg.mp this).2) rfl
     rw [hdr] at u;cases u with
     |cons _ _ _ _ vx hvr=>
      have N:=O.KZ ax ho (s':={s with heap:=h'}) (o':=uy r Y (L+1)) C
       (λc ob j e=>z7 c ob (λq=>j (q▸M)) (λq=>j (q▸P)) (λq=>j (q▸R)) (λq=>j (q▸S)) e) rfl rfl λkk=>by
        refine .HF r Y (L+1) TI TO i1 i2 t items ep (m+1) a' b' w' g' M r1 P R S D hj z1 (z7 _ _ D.2.1 D.1 J.TIi1 J.TIi2 h1) zTO ht (z7 _ _ J.l1z J.l1TO J.l1i1 J.l1i2 hg) z3.1 (hvr.mono kk) z4.1 (.inr ?_);rcases zw with⟨rfl,rfl⟩|⟨T,oT,q1,rfl,rfl,q2⟩
        .exact⟨_,_,_,_,rfl,rfl,p.1,p.2,z5⟩
        .rcases Z with⟨q3,_⟩|⟨T',fb,its,Vj,q3,_,t1,t2,t3⟩
         .rw [q1] at q3;injection q3
         .have K:∀{c},w.role c=af i->T'≠c:=λj q=>by rw [q,j] at t1;exact sn t1
          exact⟨T',ao,its,Vj,q3,rfl,t1,t2,z7 _ _ (K M) (K P) (K R) (K S) t3⟩
      exact hv _ _ x y _ N.1 rfl N.2 (.tup _ _ #[xv,yv] 0 p.1 p.2 z5 (of_decide_eq_true rfl) (.cons _ _ _ _ (vx.mono N.2.dW) (.cons _ _ _ _ (vy.mono N.2.dW) .nil))) e
  .refine dM he λoe hoe hce=>aq (fH (T:="StopIteration") (b:=ao) (bW oe hoe hce) isSubtype_stop (av λC=> ?_));have N:=O.KZ ax ho (s':={s with heap:=h'}) (o':=qK) C (λc ob j e=>hk c ob (λq=>j (q▸M)) (λq=>j (q▸P)) (λq=>j (q▸R)) (λq=>j (q▸S)) e) rfl rfl λU=> .junk M;refine hn _ _ N.1 rfl N.2 ?_
   induction xs using zL with
   |nil=>exact e
   |cons x r=>
    induction z:q.xs[L]? using zO with
    |none=>rw [z] at e;exact e
    |some y=>
     refine dM (B.get z) λyv' k vy=> ?_;rw [bz] at k;rcases hend with q|q
     .exact absurd (u.length.trans ((jC ..).trans (mh (ez.mp q)))) (Nat.succ_ne_zero _)
     .rw [k] at q;exact sn q
 |_=>exact nn (aH h7) rfl
theorem L3 (q:bw X) (b:∀a∈X.tabs,a<X.h₀.objs.size) (C:A.handled=au) (D:A.units+1<cLine) {R:Shared->Prop}:
 ∀n {h} {s} (j:Nat),St X w h s->BX (bP i) k n z h=af res->
  (∀h' s',St X w h' s'->h'.n=h.n->Ext X cV w h.n s w h.n s'->k (bP i) h'=af res->R s')->
  codeAny (model X.prog X.w) A (.builtin "dict.update.loop" ⟨[.ref (w.ρ i),.ref (w.ρ z),rawInt j,.none],[]⟩) (wants (λr c=>r= .none/\R c) (λt t=>False)) s:=by
 intro n
 induction n with
 |zero=>
  intro h s j u e f;exact fn e
 |succ n F=>
  intro h s j u e f;refine iC ry ((?_:wpAny _ A.in1 (pyNext (.ref (w.ρ z))>>=_) _ _ s));refine aq (L2 (A:=A.in1) (ke:=λh=>k (bP i) h) (ki:=λx y h=>De (bP i) x y h λt h=>BX (bP i) k n z h) q b u C e (λh' s' g d l m=> ?_) λh' s' x y v g d l hv m=> ?_)
  .exact av ⟨rfl,f h' s' g d l m⟩
  .have o:=D;refine aq (bO (Eg q g (d▸hv) (p:=(x,y)) rfl m o j λh2 Q G B I J=>(av ⟨plainId_quiet kM _,((?_:codeAny _ _ (.builtin "dict.update.loop" ⟨[.ref (w.ρ i),.ref (w.ρ z),rawInt ((j:Int)+1),.none],[]⟩) _ _))⟩)));exact F (j+1) G J λK L M N O P=>f K L M ((N.trans B).trans d) (l.trans (d▸I.trans (B▸O))) P
end
set_option backward.match.sparseCases true
section
variable {X:dw} {r:Ap} {n b:Nat} {ns:List (Str×aN)} {G:Str->Option V}
def R4 (a b:XE):XE:=⟨λr ρ h k=>a.f r ρ h λx h=>b.f r ρ h λy h=>ah au (gQ y h λU h=>new (uy x.xs y.n 0) h k) (ak x.t 5)⟩
theorem cQ.ZE (N:bw X) (O:jQ X G) (P:jO G ns 9 fe=ao) (l:cQ X r n b ns a x) (R:cQ X r n b ns c y) (m:br x=aj) (p:br y=aj) pos:cQ X r n b ns (R4 a c) (.Call fe [x,y] [] pos):=by
 intro A S env ρ w h s T he k res e Q W;have B:[x,y].any br=false:=by simp [m,p]
 have e:(dR a (dR c j9)).f r ρ h (λvs h=>match vs with
  |[x,y]=>ah au (gQ y h λC h=>new (uy x.xs y.n 0) h k) (ak x.t 5)
  |_=>au)=af res:=e
 refine qc O P (.cons m l (.cons p R .nil)) B S T he pos e λD h2 d vs ys K Y b3 j=> ?_
 .refine Hw (vX j) λu v hq j=> ?_;subst hq;cases b3 with
  |cons _ yu _ _ hu q=>
   cases q with
   |cons _ yv _ _ hv q=>
    cases q;refine aC (dK j) λj u5=>gO (fO j) λo2 j v6 E t2=>f7 (hv.er v6) λF=> ?_;subst F;intro H;refine sO (K.listAt E t2) λi2 p2 g2 n2 C C=>aC (dK j) λj C=> ?_
    induction hu using Mine.VR.casesOn with
    |tup xs t items ep q ht L hn I=>
     refine eT<|Ei (xs:=items) (ys:=i2) (f9 _ L rfl _ rfl) (f9 _ g2 rfl _ rfl) λh' z1 z2 z3 z4 z5 M z7=> ?_
     obtain⟨c1,c2⟩:=K.new N (o:=uy xs v.n 0) (b:=d.heap.objs.size+4) (own:=λa=>decide (d.heap.objs.size<=a)&&decide (a<d.heap.objs.size+5)) (by simp) (s':={d with heap:=h'}) (cR M (d8 (fG (jD (fR d))) 5))
      (λa l=>by
       simp only [aP,decide_eq_true_eq] at l;exact⟨l.1,by show _<h'.objs.size;refine cR M ?_;exact l.2⟩) (λa ob e=>z7 a ob e) rfl rfl 0 _ rfl
      (λJ q1 z q3=>by
       refine f7 (J.fix t _ q ht rfl L) λk1 k2=> ?_;refine .HF xs v.n 0 (d.heap.objs.size+2) (d.heap.objs.size+3) d.heap.objs.size (d.heap.objs.size+1) t items ep 0 .none .none .none (.bool aj) (cR z q1) (by simp) (by simp) (by simp) (by simp) (qF (Z.off_ne (fG (jD (fR d))) 2 3 rfl) (cR z (Z.off_ne (fG (jD (fR d))) 2 4 rfl)) (cR z (Z.off_ne (fG (jD (fR d))) 3 4 rfl)) (Nat.ne_add_one (fG (jD (fR d)))))
        ⟨cK H,cj H⟩ (cR z z1) z2 z3 ⟨k1,ht⟩ k2 z4 (ef.mono J I) (cR (J.ρ v.n H) z5) (.inl ⟨rfl,rfl⟩))
     refine W _ _ _ (bP h2.n) _ c1 (Y.trans c2) ?_ j;have:=VR.ref (X:=X) (g:=h') (w:=⟨λi=>if i=h2.n then d.heap.objs.size+4 else D.ρ i,λa=>if(decide (d.heap.objs.size<=a)&&decide (a<d.heap.objs.size+5))=ao then af h2.n else D.role a,λi=>if i=h2.n then 0 else D.ua i⟩) (n:=h2.n+1) h2.n (bN _);simpa using this
    |_=>exact nn (aH u5) rfl
theorem cQ.xY (B:bw X) (u:∀a∈X.tabs,a<X.h₀.objs.size) (R:jQ X G) (Z:jO G ns 6 g=ao) (J:jO G ns 9 g'=ao) (K:br x=aj) (L:br y=aj) (ha:cQ X r n b ns a x) (hc:cQ X r n b ns c y) (p p'):
 cQ X r n b ns (yF a c) (.Call g [.Call g' [x,y] [] p'] [] p):=by
 intro A C env ρ w h s hs he k res e Q hQ;have e:(dR (R4 a c) j9).f r ρ h (λvs h=>match vs with
  |[z]=>look z h λo h=>ah au (new (dZ [] 0) h λacc h=>BX acc k 2000 z.n h) (ak o.t 7)
  |_=>au)=af res:=e
 refine qc R Z (.cons rfl (cQ.ZE B R J ha hc K L p') .nil) rfl C hs he p e λE h2 q vs ys S b2 b3 d=> ?_
 .refine dM (tC d) λz hq d=> ?_;subst hq;refine dM b3.one λyz i=> ?_;subst i;intro hz;refine dD (dj d) λo d z6 ho=>aC (dK d) λd o5=>f7 (hz.er z6) λi=> ?_;subst i;intro lz;refine eT ((?_:wpAny _ _ (PySem.call (.type "dict") _) _ _ _));obtain⟨M,f0,H,I,N⟩:∃M f0 H I,lH q.heap (E.ρ z.n) H I M f0:=by
   induction (S.rep z.n o ho).2 using Mine.Rep.casesOn with
   |HF xs j2 k2 H I i1 i2 t items ep m a b v f hr r1 r2 r3 r4 D hj hz=>exact⟨_,_,_,_,hz⟩
   |_=>exact nn (aH o5) rfl
  refine zJ (jz (S.push B (cJ #[] 0) (dZ [] 0) q.toks rfl 0 λT k h1 h2 h3=> .dict [] #[] 0 h1 h2 (of_decide_eq_true rfl) ⟨.nil,⟨0,λp hp=>(aU hp).elim⟩,iF⟩ 0 (cR h3 rfl)) λT a1 W a3=> ?_);have j:lH (q.heap.push (cJ #[] 0)) (E.ρ z.n) H I M f0:=az _ N;have O:iu {q with heap:=q.heap.push (cJ #[] 0)} (.ref (E.ρ z.n)) "zip":=bW _ j rfl;refine aq (jb O (aq (bX (LQ (A:=A.in1.in1) j C.handled λh' tk hk P=>(aC (a1.i7 B (h':=h') (tk:=tk) P hk) λc2 c1=>tw rfl (aq (fh ?_)))))));have l:iu {q with heap:=h',toks:=tk} (.ref (E.ρ z.n)) "zip":=bW _ (hk _ _ j) rfl;refine aq (wpAny_pyIter_slot l F.slot_zip_iter (bH F.slot_zip_iter l F.entry_zip_iter ?_ (F.args_zip_iter_1 _)));exact av ⟨_,rfl,"zip",_,l,F.slot_zip_next.lookup,(av ⟨plainId_quiet kM _,(cL a3 (cL (W.ρ _ lz) (L3 (A:=A.in1) B u C.handled (C.c (k:=2) rfl) 2000 0 c1 d λh4 s4 d1 Y d3 e4=>hQ T h4 s4 (bP h2.n) _ d1 (b2.trans (Y▸W.trans (c2.trans d3))) (.ref h2.n (cR Y (bN _))) e4)))⟩)⟩
end
section
variable {prog:Program} {ww:World} {A:Around} {E:Value->Shared->Prop} {s:Shared}
noncomputable abbrev iO (led:Bool):Obj:={cls:= .type "set",data:= .set #[] 0 (.fresh 0 0 led)}
theorem L4 {items} (f:s.heap.get? t=af {cls:= .type "tuple",data:= .seq items ep}) (hi:∀x∈items.toList,∃i k,x=gK i k) (q:Q ao s):wpAny (model prog ww) A (hashByValue 8 (.ref t)) Q E s:=by
 refine bq (bV (bW _ f rfl) F.slot_tuple_hash.lookup) (bq (dz f rfl) ?_);dsimp only [Option.getD];refine cL Array.forIn_toList ?_;have d:∀(l:List Value) r,(∀x∈l,∃i k,x=gK i k)->r.1=au->wpAny (model prog ww) A (forIn l r λx _=>(do
  let a<-hashByValue 7 x
  if(!a)=ao then pure (ForInStep.done (af aj,())) else pure (dI (au,())):Sem (ForInStep (Option Bool×Unit)))) (λb s'=>b.1=au/\s'=s) E s:=by
  intro l
  induction l with
  |nil=>intro r _ g;refine cR jx ?_;exact av ⟨g,rfl⟩
  |cons x l h=>
   intro r hl g;refine cR (dO ..) ?_;refine Sw (hl x (aE ..)) λi k c=> ?_;subst c;exact aq (bp (av (h _ (λy hy=>hl y (aD _ hy)) rfl)))
 refine aq (fX (d items.toList (au,()) hi rfl) (λb s' hb=> ?_) λj j e=>e);refine aC hb λc=> ?_;subst c;intro hb;exact cR hb (av q)
theorem IS {items} (a:s.heap.get? S=af (iO led)) (e:s.heap.get? t=af {cls:= .type "tuple",data:= .seq items ep}) (hi:∀x∈items.toList,∃i k,x=gK i k)
 (q:∀h' b d n,h'.get? S=af {cls:= .type "set",data:= .set b n d}->b.size=1->d.fits b.size=ao->gh S s.heap h'->Q ao {s with heap:=h'}):wpAny (model prog ww) A (setAddHashed S (.ref t) hh) Q E s:=by
 refine bO (aq (As a rfl rfl (aq ((?_:wpAny _ _ (setState S>>=_) _ _ _)))));refine bq (As a rfl rfl) ?_;dsimp only;have c:(SetTable.fresh 0 0 led).gaveWay=false:=by simp [SetTable.gaveWay,SetTable.fresh]
 refine cR c (Nu (av (bq (As a rfl rfl) (bq (L4 e hi) (aq (wpAny_storeSet_of a rfl ?_ (by show(1:Nat)<=jn;exact fit_le rfl)))))));exact av (q _ _ _ _ (bE _ a rfl) rfl rfl (gi ..))
end
section
variable {prog:Program} {ww:World} {A:Around} {E:Value->Shared->Prop} {s:Shared}
theorem CJ {l:Addr} {x:Value} {j:Nat} {Q:Value->Shared->Prop} (hA:A.handled=au) (hl:s.heap.get? l=af {cls:= .type "list",data:= .seq #[x] j})
 (hx:∀{P:Around} {E':Value->Shared->Prop} {s':Shared} {T:Bool->Shared->Prop} {S:Addr} {a:Bool},P.units=A.units+3->(∀b o,s.heap.get? b=af o->s'.heap.get? b=af o)->s'.heap.get? S=af (iO a)->
  (∀h' tk f g n,h'.get? S=af {cls:= .type "set",data:= .set f n g}->f.size=1->g.fits f.size=ao->gh S s'.heap h'->T ao {s' with heap:=h',toks:=tk})->wpAny (model prog ww) P (setAdd S x) T E' s')
 (h:∀(h':Heap) (tk:Nat) f g n,h'.get? s.heap.objs.size=af {cls:= .type "set",data:= .set f n g}->f.size=1->g.fits f.size=ao->(∀b o,s.heap.get? b=af o->h'.get? b=af o)->Q (.ref s.heap.objs.size) {s with heap:=h',toks:=tk}):
 wpAny (model prog ww) A (call (.type "set") [.ref l]) Q E s:=by
 refine Sw jN.mro λc tl W=> ?_;have C:=jN.made;have Y:=jN.sub;refine wpAny_call (codeAny_of_tree ?_);refine(?_:wpAny _ _ (callAny (.type "set") _) _ _ _);refine av ⟨vp _ (by decide+kernel),iC F.entry_type_call ?_⟩;refine cR (Around.under_plain (weight_type_call_type "set" [.ref l] []) rfl) ?_;have h1:=jN.notType;have h2:=jN.canCreate;have hct:=F.typeCall_set_1 (.ref l)
 repeat (any_goals (first|assumption|wp_step))
 refine codeAny_mono (code_set_new_1 (.ref l) (E:=E) (Q₁:=λobj m=>∃a:Bool,obj= .ref s.heap.objs.size/\m={s with heap:=s.heap.push (iO a)}) λa=>bW a rfl rfl) λr m D=> ?_;rcases r with e|(_|_|_|obj)<;>first|exact D|exact D.elim|skip
 refine dM D λa H I=> ?_;subst H;subst I;have Z:(s.heap.push (iO a)).get? s.heap.objs.size=af (iO a):=aJ _ rfl;have hT:iu {s with heap:=s.heap.push (iO a)} (.ref s.heap.objs.size) "set":=bW _ Z rfl;have hli:=jN.init.lookup;have hbi:=jN.init.bind (.ref s.heap.objs.size)
 repeat (any_goals (first|assumption|wp_step))
 refine codeAny_mono (codeAny_call_builtin (R:=wants (λr p=>r= .none/\∃h' tk f g n,p={s with heap:=h',toks:=tk}/\h'.get? s.heap.objs.size=af {cls:= .type "set",data:= .set f n g}/\f.size=1/\g.fits f.size=ao/\(∀b o,s.heap.get? b=af o->h'.get? b=af o)) E) jN.init.plain F.entry_set_init (check_set_init_1 hT ?_)) λt p d=> ?_
 .have u:(s.heap.push (iO a)).get? l=af {cls:= .type "list",data:= .seq #[x] j}:=az _ hl;have acY:=F.sub_list_set;have acZ:=F.sub_list_frozenset;have hne:(cW "list"==cW "dict")=false:=by decide
  have v:(s.heap.push (iO a)).IsList l #[x]:=f9 _ u rfl j rfl;unfold Builtin.«set.__init__» noKeywords Builtin.Frozenset.updateFrom;generalize J:pyIter=PI;wp_walk;subst J;refine iD v ?_;refine aq (wpAny_runValue ?_);have w:l<s.heap.objs.size:=bk hl;refine iC pR ?_;refine cR (jm i6 _) ?_;have K:s.heap.objs.size≠l:=iw w;have k:(s.heap.push (iO a)).objs.size=s.heap.objs.size+1:=bJ ..;refine(?_:wpAny _ A.in1.in1.in1 (pyNext (.ref (s.heap.push (iO a)).objs.size)>>=_) _ _ _);refine aq (wpAny_pyNext_list_item (l:=l) (i:=0) (items:= #[x]) (x:=x) (f5 _ (aJ _ rfl) rfl rfl) (v.push _) rfl λh1 y z=> ?_);have q:(s.heap.push (iO a)).objs.size≠s.heap.objs.size:=by refine cR k ?_;exact Nat.succ_ne_self _
  have hIl:(s.heap.push (iO a)).objs.size≠l:=by refine cR k ?_;exact iw (cK w)
  have L:∀b o,s.heap.get? b=af o->h1.get? b=af o:=λb o e=>z.extBut b o (by refine cR k ?_;exact cj (cK (bk e))) (az _ (az _ e));have M:h1.get? s.heap.objs.size=af (iO a):=z.extBut _ _ q.symm (az _ Z);refine aq (bO (hx rfl L M λh2 tk f g n b1 b2 b3 N=> ?_));refine av ⟨plainId_quiet i6 _, ?_⟩;refine iC pR ?_;refine cR (jm i6 _) ?_;have B:h2.IsListIter (s.heap.push (iO a)).objs.size l 1:=y.at λo e=>N.extBut _ o q e;have O:h2.IsList l #[x]:=f9 _ (N.extBut _ _ K.symm (L _ _ hl)) rfl j rfl;refine aq (wpAny_pyNext_list_end (l:=l) (i:=1) (items:= #[x]) hA B O rfl λh3 he=> ?_);refine av ?_;refine(?_:wpAny _ _ _ _ _ _);refine av ?_;refine(?_:wpAny _ _ (ret dX) _ _ _);refine av ⟨rfl,h3,tk,f,g,n,rfl,he _ _ q.symm b1,b2,b3,λb o e=>he b o ?_ (N.extBut b o (cj (bk e)) (L b o e))⟩;refine cR k ?_;exact cj (cK (bk e))
 .rcases t with e|(_|_|_|r)<;>first|exact d|exact d.elim|skip
  obtain⟨rfl,h',tk,f,g,n,rfl,a1,a2,a3,a4⟩:=d
  repeat (any_goals (first|assumption|wp_step))
  exact h _ _ _ _ _ a1 a2 a3 a4
end
section
variable {X:dw} {r:Ap} {n b:Nat} {ns:List (Str×aN)} {G:Str->Option V}
theorem OX (hz:VR X s.heap w N u z) (l:ak u.t 5=ao) (o:allInts u.xs=ao) (hu:A.units<cLine) (v:s.heap.get? S=af (iO led))
 (q:∀h' tk c h n,h'.get? S=af {cls:= .type "set",data:= .set c n h}->c.size=1->h.fits c.size=ao->gh S s.heap h'->Q ao {s with heap:=h',toks:=tk}):wpAny (model X.prog X.w) A (setAdd S z) Q E s:=by
 have hk:isKey u=true:=by unfold isKey;refine cR (aH l) ?_;exact o
 unfold setAdd;refine bO (fB (xT hz hk) λd B=>aq (B s.toks hu ?_));obtain⟨a,C,D,rfl,_,_,i,_,f⟩:=hz.g6 (aH l);refine IS (s:={s with toks:=s.toks+d}) v i (λx hx=> ?_) λh' c h m F H I J=>q h' _ c h m F H I J;refine fB (List.mem_iff_getElem?.mp hx) λj p=> ?_;have g:=f.length▸(cg.mp p).1;refine aL (f.get (bB g)) λy k hy=> ?_;exact fB (k.cS (cR (jY o _ (l7 g)) rfl)) λtk e=>Vh _ _ ((aF (p.symm.trans hy)).trans e)
theorem cQ.Ct (Z:bw X) (gx:jQ X G) {g I:Expr} (eb:jO G ns 0 g=ao) (L:jO G ns 7 I=ao) {a:XE} {x:Expr} (B:br x=aj) (ha:cQ X r n b ns a x) (p J:Pos):cQ X r n b ns (BW a) (.Call g [.Call I [x] [] J] [] p):=by
 intro A K env ρ w h s hs he k res e Q hQ;have e:(dR a j9).f r ρ h (λvs h=>match vs with
  |[v]=>gQ v h λl h=>with1 l λv=>ah au (ah au (k (aX 1) h) (allInts v.xs)) (ak v.t 5)
  |_=>au)=af res:=e
 refine cR (DX (GK eb)) (ay (Lk gx eb K hs he λw1 s1 a1 a2=> ?_));have hp:=lD (env:=env) (pos:=p) (xs:=[Expr.Call I [x] [] J]) rfl;refine pH hp (l5 hp ((?_:cG _ _ (eval (.Call I [x] [] J) env>>=λv=>pure [v]>>=λi=>holding i (spliced (backTo p (starEach [] env)))>>=λr=>pure (i++r)) _ _ _)));refine ay ?_;have M:[x].any br=false:=by simp [B]
 refine qc gx L (.cons B ha .nil) M K a1 (he.ext a2) J e λw2 h2 s2 vs ys b1 b2 b3 d=>dM (tC d) λv j=> ?_;subst j;intro d;refine dM b3.one λy j=> ?_;subst j;intro hv;refine gO (fO d) λo d v6 ho t1=>aL (eu d) λu d hu=>aC (dK d) λd u5=>aC (dK d) λd ui=>sO (b1.listAt ho t1) λitems epl hg hn C hr=> ?_;rw [hu] at C;refine dM C.one λz hz N=> ?_;have O:items= #[z]:=cL (sd (xs:=items)) (cR hz rfl);rw [O] at hg;refine eT (cR ((hv.er v6).1) ((?_:wpAny _ _ (PySem.call (.type "set") [.ref (w2.ρ v.n)]) _ _ _)));refine bX (CJ K.handled hg (λ{A' E' s' Q' S led} P R hS q=>OX (N.mono ⟨bu _,λD D=>rfl,λD D=>rfl,λa o T D D W=>⟨T,R a o W⟩⟩) u5 ui ?_ hS q) λh' tk es tb m g1 g2 g3 g4 Y=> ?_)
 .refine cR P ?_;exact K.c (k:=3) rfl
 .refine aC (b1.i7 Z (h':=h') (tk:=tk) Y g4) λW T=>ay (aO (ay (bh (aO (aO (⟨tO _ (wg 0) _,eT ?_⟩))))));have H:iu {s2 with heap:=h',toks:=tk} (.ref s2.heap.objs.size) "set":=bW _ g1 rfl;refine xG (n:=1) H F.slot_set_len (λQ' q'=>bH F.slot_set_len H entry_set_len ?_ (F.args_set_len_1 _)) (by decide) (by decide) ?_
  .unfold Builtin.«frozenset.__len__» Builtin.Frozenset.slot0 slotArgs;simp only [List.isEmpty_nil,Bool.not_true,iS,↓reduceIte,bind_assoc,List.length_nil,bne_self_eq_false];unfold Builtin.Frozenset.addrOf Builtin.Frozenset.sizeOf;refine bp ?_
   try dsimp only
   refine bp (aq (aq (wpAny_setEntries_of g1 rfl g3 (av (cR g2 ((?_:wpAny _ _ (retInt _) _ _ _)))))));unfold retInt;exact aq (wpAny_mkInt (av (bW _ rfl q')))
  .exact aC (T.tk Z (tk+1+1)) λd2 d1=>hQ w2 h2 _ (aX 1) _ d1 (a2.trans (b2.trans (W.trans d2))) (.nat 1 _) d
end
section
variable {prog:Program} {ww:World} {A:Around} {s:Shared}
theorem zK (P:A.handled=au) (p:S≠I) (hz:base.length+n<=1000000):
 ∀k i s d acc f,n-i=k->i<=n->vE s.heap I (a+(i:Nat)*c) ((n:Int)-(i:Nat)) c->s.heap.get? S=af {cls:= .type "list",data:= .seq acc f}->acc.toList=base++d->d.length=i->
  (∀(j:Nat) v,d[j]? =af v->∃t,v=gK (a+(j:Int)*c) t)->
  (∀h' tk d g c',(∀b o,b≠S->b≠I->s.heap.get? b=af o->h'.get? b=af o)->h'.get? S=af {cls:= .type "list",data:= .seq g c'}->g.toList=base++d->d.length=n->(∀(j:Nat) v,d[j]? =af v->∃t,v=gK (a+(j:Int)*c) t)->R (.ok (.ret .none)) {s with heap:=h',toks:=tk})->
  codeAny (model prog ww) A (.builtin "list.extend.loop" ⟨[.ref S,.ref I,.none],[]⟩) R s:=by
 have W:=Walks.range (prog:=prog) (w:=ww) (A:=A.in1) P I a c n;have O:=bx;intro k
 induction k with
 |zero=>
  intro i s d acc f hk hi q D h l E H;have J:i=n:=by lia
  subst J;refine iC F.entry_extend_loop ((?_:wpAny _ A.in1 (pyNext (.ref I)>>=_) _ _ s));exact aq (W.done s _ _ q λh' tk hm=>(av (H h' tk d acc f (λb o U hb e=>hm b o (notIn_one hb) e) (hm S _ (notIn_one p) D) h l E)))
 |succ k Q=>
  intro i s d acc f hk hi q D h l E H;have y:=Nat.lt_of_sub_eq_succ hk;have T:acc.size=base.length+i:=cL aM (cR h (cR dc (cR l rfl)));refine iC F.entry_extend_loop ((?_:wpAny _ A.in1 (pyNext (.ref I)>>=_) _ _ s));refine aq (W.item i s _ _ y q λv h' tk hv z hm=> ?_);have B:=hm S _ (notIn_one p) D;refine aq ?_;refine kZ (s:={s with heap:=h',toks:=tk}) B rfl (av ⟨plainId_quiet vJ _,Q (i+1) _ (d++[v]) (acc.push v) _ (by lia) y ?_ (bE _ B rfl) ?_ ?_ ?_ λL M x g c' h1 h2 Y Z h5=> ?_⟩)
   (by lia) (by show(acc.push v).size<=jn+1;refine cR (qx ..) ?_;lia)
  .exact(dF _ _ p).trans z
  .exact cR o7 (cR h (cR (List.append_assoc ..) rfl))
  .refine cR dc (cR l ?_);rfl
  .intro j u m;rcases Nat.lt_or_ge j d.length with hl|hl
   .rw [List.getElem?_append_left hl] at m;exact E j u m
   .rw [List.getElem?_append_right hl] at m;have:j-d.length=0:=by
     have:=(cg.mp m).1;simp at this;exact this
    rw [this] at m;injection m with m;subst m
    have N:j=i:=by lia
    refine cR N ?_;exact hv
  .exact H L M x g c' (λb o hb C e=>h1 b o hb C ((dF _ _ (rK hb)).trans (hm b o (notIn_one C) e))) h2 Y Z h5
theorem uZ (I:A.handled=au) {items} {n:Nat} (w:s.heap.get? S=af {cls:= .type "list",data:= .seq items c₀}) (y:IsRange s.heap r a b c t u v) (p:pV a b c=ao)
 (hn:cN a b c=n) (hz:items.size+n<=1000000)
 (J:∀h' tk f g c',(∀b o,b≠S->s.heap.get? b=af o->h'.get? b=af o)->h'.get? S=af {cls:= .type "list",data:= .seq g c'}->g.toList=items.toList++f->f.length=n->(∀(j:Nat) v,f[j]? =af v->∃t,v=gK (a+(j:Int)*c) t)->Q .none {s with heap:=h',toks:=tk}):
 wpAny (model prog ww) A (call (.builtin "list.extend") [.ref S,.ref r]) Q E s:=by
 have z:S≠r:=λe=>by rw [e,y] at w;simp at w
 have q:=cj (bk w);refine wpAny_call (codeAny_call_builtin kR.plain F.entry_list_extend (kR.check _ _ _ _ _ _ _ _ (bW _ w rfl) (F.args_list_extend_2 _ _) ((?_:wpAny _ _ (ud (.ref S) (.ref r) .none) _ _ s))));have x:∀h k tk,vE h s.heap.objs.size (a+((0:Nat):Int)*c) ((n:Int)-((0:Nat):Int)) c->(∀b o,b≠S->s.heap.get? b=af o->h.get? b=af o)->
  h.get? S=af {cls:= .type "list",data:= .seq items k}->codeAny (model prog ww) A (.builtin "list.extend.loop" ⟨[.ref S,.ref s.heap.objs.size,.none],[]⟩) (wants Q E) {s with heap:=h,toks:=tk}:=by
  intro h k tk B hk d;exact zK I q (base:=items.toList) hz n 0 {s with heap:=h,toks:=tk} [] items k rfl (iy _) B d (gA (qD (Array.toList items))) rfl (λj v L=>by simp at L) λh' C f g c' h1 h2 M N O=>J h' C f g c' (λb o hb e=>h1 b o hb (cj (bk e)) (hk b o hb e)) h2 M N O
 refine bq (jb (T:="range") (bW _ y rfl)) ?_;have h1:m8 (.ref S) (.ref r)=false:=by simp [m8,z]
 have h2:(cW "range"==cW "list")=false:=rfl;refine cR h1 (bq (wpAny_pyIter_range y p) (aq (bO (wpAny_hint_range (n:=n) (az _ y) hn (by lia) ?_))));have i:vE (s.heap.push {cls:= .type "range_iterator",data:= .fields #[rawInt a,rawInt (cN a b c),rawInt c]}) s.heap.objs.size (a+((0:Nat):Int)*c) ((n:Int)-((0:Nat):Int)) c:=by
  show vE _ _ _ _ _;refine cR hn ?_;simpa using aJ _ rfl
 have d:=az {cls:= .type "range_iterator",data:= .fields #[rawInt a,rawInt (cN a b c),rawInt c]} w;have H:=bx;refine tZ (λD=> ?_) (λD=>av ⟨plainId_quiet vJ _,x _ c₀ _ i (λb o D e=>az _ e) d⟩);refine bq fh (aq ((?_:wpAny _ _ (updateSeq S (·.push .none)>>=λD=>updateSeq S (·.pop)) _ _ _)));refine aq (kZ d rfl ?_ (by lia) (by show(items.push dX).size<=jn+1;refine cR (qx ..) ?_;lia));have l:=bE (eG (·.push dX)) d rfl;refine kZ l rfl ?_ (by refine cR (qx ..) (cR sizeLine_eq ?_);lia) (by show((items.push dX).pop).size<=jn+1;simp;lia);have m:=bE (eG (·.pop)) l rfl;have P:eG (·.pop) (eG (·.push dX) {cls:= .type "list",data:= .seq items c₀})={cls:= .type "list",data:= .seq ((items.push dX).pop) _}:=rfl;rw [P,Array.pop_push] at m;refine av ⟨plainId_quiet vJ _,x _ _ _ ?_ (λb o hb e=> ?_) m⟩
 .exact(dF _ _ q).trans ((dF _ _ q).trans i)
 .exact(dF _ _ (rK hb)).trans ((dF _ _ (rK hb)).trans (az _ e))
end
section
variable {X:dw} {K:Frag} {r:Ap} {n b:Nat} {ns:List (Str×aN)} {G:Str->Option V}
theorem oX.vrs:∀{l} {a} {tail},oX X c l a->tail.length=l.length->(∀(j:Nat) v,tail[j]? =af v->∃t,v=gK (a+(j:Int)*c) t)->ef X g w m l tail:=by
 intro l a tail h
 induction h generalizing tail with
 |nil=>exact λhl e=>cR (iH.mp hl) .nil
 |cons v l a hv o f=>
  intro hl e;rcases tail with _|⟨y,tail⟩
  .injection hl
  refine fB (e 0 y rfl) λt d=> ?_;subst d;refine cR ((congrArg (a+ ·) (Int.zero_mul c)).trans (Int.add_zero a)) (.cons _ _ _ _ (hv _ _ _ _) (f (Nat.add_right_cancel hl) λj u i=> ?_));refine fB (e (j+1) u i) λk d=> ?_;subst d;refine⟨k, ?_⟩;have:a+((j+1:Nat):Int)*c=a+c+(j:Int)*c:=by push_cast;refine cR (Int.add_mul ..) (cR (Int.one_mul ..) ?_);lia
  exact cR this rfl
theorem FN {w:Wd} (R:wh X ys l a c' c)
 (d:∀t u v tk,Q (.ref s.heap.objs.size) {s with heap:=s.heap.push {cls:= .type "range",data:= .fields #[.int a t,.int c' u,.int c v]},toks:=tk}):wpAny (model X.prog X.w) A (PySem.call (.type "range") ys) Q (λf f=>False) s:=by
 rcases R.args with⟨u,rfl,rfl,rfl⟩|⟨t,u,rfl,rfl⟩|⟨t,u,v,rfl⟩
 .exact call_range_1 (d _ _ _ _)
 .exact call_range_2 (d _ _ _ _)
 .refine call_range_3 R.ne (d _ _ _ _) (.inl (oO ?_));by_cases e:c.natAbs=0
  .refine cR e ?_;decide+kernel
  .have:c.natAbs.log2<64:=(Nat.log2_lt e).mpr (iX R.hc (by decide));lia
theorem cQ.uT (ax:bw X) (gx:jQ X G) (ap p p') (hm:nm m=nm "extend") (M:bg m=ao) (hn:lS v=ao) (C:ak ap.endLine p.line=ao) (eb:jO G ns 1 g=ao) (N:args.any br=aj)
 (ho:cQ X r n b ns o v) (hl:Ay X r n b ns l args):cQ X r n b ns (vR o l) (.Call (.Attribute v m ap) [.Call g args [] p'] [] p):=by
 intro A O env ρ w h s hs he k res e Q hQ;refine cR (gR M rfl hm) ?_;have hp:=lD (env:=env) (pos:=p) (xs:=[Expr.Call g args [] p']) rfl;refine(?_:cG _ _ (attributeBase v "extend" env (eval v env)>>=λP=>standAt ap.atName>>=λU=>methodCall v "extend" ap p env P 1 (backTo p (starEach [Expr.Call g args [] p'] env)) []) _ _ s);refine ay (KV hn (ho A O env ρ w h s hs he _ res e _ λw1 h1 s1 P y D x1 S E=>(ay (bG (sR hp (fC 28) C ?_)))));refine dD (dj E) λob E h6 W=>aC (dK E) λE t1=>f7 (S.er h6) λY=> ?_;subst Y;intro Z;refine sO (D.listAt W (aH t1)) λL ep0 H hn0 ac1 hr0=>eT (getMethod_builtin (T:="list") (id:="list.extend") (bW _ H rfl) yl kR F.type_list_extend (λa' e=>by cases e;exact bW _ H rfl) (pH hp (l5 hp ((?_:cG _ _ (eval (.Call g args [] p') env>>=λv=>pure [v]>>=λi=>holding i (spliced (backTo p (starEach [] env)))>>=λr=>pure (i++r)) _ _ _)))));refine ay (qc gx eb hl N O D (he.ext x1) p' E λw2 h2 s2 vs ys b1 b2 b3 f=>aL (bC f) λl' f el=>dD (dj f) λob2 f U j=>aC (dK f) λf t2=>aC (dK f) λf hle=>Vx (zm b3 el) λa c' c R=>(sO (b1.listAt j (aH t2)) λitems ep hg hn2 x I=> ?_));have z:=nM hle;rw [mD] at f z;rw [dc] at z;have hl2:=x.length;simp only [aM] at hl2;refine eT (FN (w:=w2) R λt u vv tk=>(aC (b1.junk ax {cls:= .type "range",data:= .fields #[.int a t,.int c' u,.int c vv]} tk) λc2 c1=>ay (aO (ay (bh (aO (aO (⟨p9 _ _ _,eT ((?_:wpAny _ _ (PySem.call (.builtin "list.extend") [.ref (w1.ρ P.n),.ref s2.heap.objs.size]) _ _ _))⟩))))))));refine cL (b2.ρ _ Z) (bX (uZ (n:=l'.length) O.handled (az _ hg) (IsRange.new s2.heap a c' c t u vv) (w9 R.ha R.hb R.hc) R.len.symm (by lia) λh' tk' tail B ep' g1 g2 g3 g4 g5 hsz=> ?_));have J:B.size=items.size+l'.length:=cL aM (cR g3 (cR dc (cR g4 (cR aM rfl))));have ab:=c1.KZ ax j (s':={s2 with heap:=h',toks:=tk'}) (o':=bL (ob2.xs++l')) hsz (λd od hd e=>g1 d od (λq=>hd (q▸I)) e) rfl rfl λkk=>
  .list _ B ep' I g2 (by refine cR J ?_;lia) (cR g3 (((x.mono c2.dW).mono kk).append (R.val.vrs g4 g5)))
 exact hQ w2 _ _ di .none ab.1 (x1.trans (b2.trans (c2.trans ab.2))) .none f
end
section
variable {X:dw} {env:dB} {ns:List (Str×aN)} {ρ:Env} {w:Wd} {n:Nat} {s:Shared}
theorem eW.ZF (he:eW X env ns ρ w n s) (A:sc.kind= .function) (b:wX ns sc.names) (g:gC sc.names=ao) (i:∀x k,bf (nm x) sc.names=af k->(x==("__classdict__":Str))=aj) (j:∀x k,bf (nm x) sc.names=af k->(x==("__debug__":Str))=aj)
 {cl} (f:∀q∈cl,env.cells.lookup q.1=af q.2) (B:∀p∈sc.names,p.2= .free->∃c,(p.1,c)∈cl) (H:s.heap.Ns C m) (I:w.role C=au) (hb:X.h₀.objs.size<=C) (ht:C∉X.tabs)
 (hm:∀x v,bg x=ao->bf (nm x) sc.names=af .local->find (nm x) l=af v->∃y,m x=af y/\VR X s.heap w n v y) (D:∀y v,find y l=af v->bf y sc.names=af .local) qual func code:
 eW X (newEnv sc C mainNs cl qual func code au builtinsNs) sc.names ⟨l,app ρ.loc ρ.out⟩ w n s:=by
 have o:∀p∈sc.names,bg p.1=true:=λp hp=>(b p hp).1;have free:∀x,bg x=ao->bf (nm x) sc.names=af .free->∃c,cl.lookup x=af c/\env.cells.lookup x=af c/\(bf (nm x) ns=af .cell\/bf (nm x) ns=af .free):=by
  intro x hx hk;refine jz (lF hk) λp hp J r=> ?_;have t:=gR hx (o p hp) J;refine fB (B p hp r) λc E=>fB (mem_lookup E) λc' hl=> ?_;rw [<-t] at hl;refine f5 c' hl (f _ (mem_of_lookup hl)) ?_;rcases(b p hp).2 with⟨_,q⟩|q|q
  .refine cR t ?_;exact q
  .rw [r] at q;injection q
  .rw [r] at q;injection q
 have a:∀y,bf y sc.names≠af .cell:=λy e=>by
  refine jz (lF e) λp hp G r=> ?_;rcases(b p hp).2 with⟨q,_⟩|q|q<;>rw [r] at q<;>injection q
 refine⟨A,rfl,rfl,λx k hx hk=> ?_,i,j,(bW m H hm),(iU I hb ht),λx hx hk=> ?_,λx v c G hk=>absurd hk (a _),λx v c hx hk d hl=> ?_,λx y c h1 h2=> ?_,λy v h=> .inl (D y v h),λy v G=>a y,λq=>absurd g (cR q bZ)⟩
 .have hl:=jZ o hx hk;have this:=hl
  induction k using dN with
  |«local»=>exact this
  |cell=>exact absurd hk (a _)
  |free=>exact .inr this
  |globalImplicit=>exact this
  |_=>trivial
 .have hk:=hk.resolve_left (a _);refine cI (free x hx hk) λc a3 F z=>Hx (he.cell x hx a3) λc' K L M N O P=> ?_;injection z.symm.trans L with hq;subst hq
  exact lN c K F M N O P
 .refine cI (free x hx hk) λc' a3 F z=> ?_;injection hl.symm.trans F with hq;subst hq
  rw [Dn] at d;rcases a3 with a3|a3
  .induction hq:find (nm x) ρ.loc using zO with
   |none=>rw [hq] at d;exact absurd a3 (he.outs _ v d)
   |some u=>rw [hq] at d;injection d with d;subst d;exact he.wQ x _ c hx a3 hq z
  .induction hq:find (nm x) ρ.loc using zO with
   |none=>rw [hq] at d;exact he.wR x v c hx a3 d z
   |some u=>
    rcases he.locs _ u hq with q|q<;>rw [a3] at q<;>cases q
 .exact he.apart x y c (f _ (mem_of_lookup h1)) (f _ (mem_of_lookup h2))
theorem IT {nn} (ax:bw X) (u:X.h₀.NoLimit) (K:cStatics∉X.tabs) (z:∀a∈X.tabs,a<X.h₀.objs.size) (B:St X w h s) (he:eW X env ns ρ w h.n s) {cl}
 (hf:s.heap.get? f=af o) (hd:o.data= .func (kla_fn "<lambda>" q params body sc cl pm cv ctv)) (C:s.heap.CodeRec cv q) (L:sc.isCoroutine=aj) (D:sc.isGenerator=aj)
 (E:sc.kind= .function) (g:wX ns sc.names) (M:sc.names.lookup x0=af .local) (F:gC sc.names=ao) (G:∀x k,bf (nm x) sc.names=af k->(x==("__classdict__":Str))=aj) (H:∀x k,bf (nm x) sc.names=af k->(x==("__debug__":Str))=aj)
 (hp:params.posonlyargs=[]/\params.args.map (·.arg)=[x0]/\params.kwonlyargs=[]/\params.vararg=au/\params.kwarg=au) (I:bg x0=ao) (N:bf (nm x0) sc.names=af .local)
 (O:∀q∈cl,env.cells.lookup q.1=af q.2) (P:∀p∈sc.names,p.2= .free->∃c,(p.1,c)∈cl) (hb:cQ X r nn bb sc.names e body) (R:A.depth<mC) (hA:∀env,fL nn bb (A.deeper env))
 (ek:e.f r ⟨[(nm x0,aX 0)],app ρ.loc ρ.out⟩ h k=af res) (hQ:Goes (PV X) X w h.n s k res Q):codeN (model X.prog X.w) A (.call (.ref f) ⟨[.int 0 t],[]⟩) (RV Q) s:=by
 refine oJ R hf hd L D rfl C ?_;have S:s.heap.NoLimit:=by
  exact aL u λmc h2 h1=>bW mc (uG h1 λo e=>B.base _ o e K) h2
 have m:wpAny (model X.prog X.w) A.in1 (bindArgs (kla_fn "<lambda>" q params body sc cl pm cv ctv) ⟨[.int 0 t],[]⟩) (λi s'=>s'=s/\i=[(x0,gK 0 t)]) (λT T=>False) s:=
  wZ (names:=[x0]) hp.1 hp.2.1 hp.2.2.1 hp.2.2.2.1 hp.2.2.2.2 (of_decide_eq_true rfl) (vals:=[.int 0 t]) (ds:=[]) (od:=au) (λq=>av q) rfl (of_decide_eq_true rfl) (by simp) (Nat.sub_le (fT [x0]) (fT [])) ⟨rfl,rfl⟩
 refine aW (eT m) (λi s' hq=> ?_) λT T f=>f;refine f7 hq λV W=> ?_;subst V;subst W;have j:∀p∈sc.names,p.2≠.cell:=λp hp e=>by
  rcases(g p hp).2 with⟨q,_⟩|q|q<;>rw [e] at q<;>injection q
 refine eT (wpAny_newFunctionEnv j (λx hx=>cR (eE.mp hx) M) (λh' Y J=> ?_) E);have up:∀b o,s'.heap.get? b=af o->h'.get? b=af o:=λb o eb=>J.extBut b o (cj (bk eb)) (az _ eb);have Z:s'.heap.objs.size<=h'.objs.size:=by
  have:=J.1;have hpz:(s'.heap.push {cls:= .type (if(none:Option dB).isSome then "dict" else "frame"),data:= .dict #[]}).objs.size=s'.heap.objs.size+1:=bJ ..;lia
 refine aC (B.i7 ax (h':=h') (tk:=s'.toks+[(x0,gK 0 t)].length) Z up) λx2 hs2=> ?_;have Vm:=(he.ext x2).ZF E g F G H O P Y (lZ B (bu _)) B.size (λht=>absurd (z _ ht) (bD.mpr B.size)) (l:=[(nm x0,aX 0)]) (λx v hx hk d=>by
  rw [eU] at d;by_cases hb:nm x=nm x0
  .rw [if_pos hb] at d;refine cR (gR hx I hb) ?_;injection d with d;subst d
   exact bW (.int 0 t) (by simp) (.nat 0 t)
  .rw [if_neg hb] at d;exact fn d) (λy v d=>by
  rw [eU] at d;by_cases hb:y=nm x0
  .refine cR hb ?_;exact N
  .rw [if_neg hb] at d;exact fn d) (q++".<locals>.") (some f) cv
 exact⟨S.keeps up,yO (hb _ (hA _) _ _ w h _ hs2 Vm k res ek _ λw3 h3 s3 v y a1 a2 a3 a4=>hQ w3 h3 s3 v y a1 (x2.trans a2) a3 a4)⟩
end
structure FnAt (X:dw) (g:Heap) (w:Wd) (f:Addr) (fd:mu):Prop where
 hr:w.role f=au
 ht:f∉X.tabs
 obj:∃o,g.get? f=af o/\o.data= .func fd
 code:∃c,fd.code= .ref c/\w.role c=au/\c∉X.tabs/\g.CodeRec (.ref c) fd.qualname
section
variable {X:dw} {w w':Wd} {s s':Shared} {h:H} {n n':Nat}
theorem FnAt.ext (i:FnAt X s.heap w f fd) (x:Ext X cV w n s w' n' s'):FnAt X s'.heap w' f fd:=by
 obtain⟨g,ht,⟨o,j,l⟩,c,m,a,b,d⟩:=i;refine pg d λc' k vs t p e h1 h2=> ?_;cases e;exact⟨(x.role f (bk j)).trans g,ht,(bW o (x.old f o g ht (λq=>q) j) l),c,m,(x.role c (bk h1)).trans a,b,(uh c k vs t rfl (x.old c k a b (λq=>q) h1) h2 p)⟩
theorem FnAt.ZG (i:FnAt X g w f fd):g.CodeRec fd.code fd.qualname:=by
 refine pq i.code λc d e d b=>cR e ?_;exact b
theorem IU (L:bw X) {env:dB} {ns:List (Str×aN)} {ρ:Env} {d:Arguments} {g:Expr} {scope:Scope} (pos:Pos) {c P:Addr} {q M:Str} (y:gC ns=aj) (hc:X.jL ns=af (c,M)) (N:M++"<lambda>"=q) (hP:P∈X.tabs)
 (z:∀w h s,St X w h s->CodeHd s.heap c P) (B:X.ql P pos.line pos.col=af q) (O:∀w h s,St X w h s->∃C,s.heap.Ns g8 C/\s.heap.BuiltinsAt C P) (R:g8≠P)
 (D:∀env,defaultsOf d env=([],[])) {cl:List (Str×Addr)} (t:closureFor scope env=pure cl) (x:St X w h s) (he:eW X env ns ρ w h.n s) {A:Around} {E:Value->Shared->Prop} {Q:Value->Shared->Prop}
 (hQ:∀s' f pm S k,St X w h s'->Ext X cV w h.n s w h.n s'->FnAt X s'.heap w f (kla_fn "<lambda>" q d g scope cl pm S k)->Q (.ref f) s'):
 wpAny (model X.prog X.w) A (eval (.Lambda d g scope pos) env) Q E s:=by
 refine f7 (he.NW y c M hc) λl u=> ?_;obtain⟨low,ps,hp,ht,T⟩:=x.tab P hP;refine dM (O w h s x) λC F I=>kla_eval (D env) (cR u (cR N ?_));have m:∀s' a,St X w h s'->s'.heap.objs.size<=a->w.role a=au/\a∉X.tabs:=λs' a h1 h2=>⟨by
  induction J:w.role a using zO with
  |none=>rfl
  |some i=>exact absurd (h1.lim a i J).2.2 (bD.mpr h2),λq=>absurd (h1.tab a q).low (bD.mpr (aI h1.size h2))⟩
 induction p:codeAmong pos ps.toList using zO with
 |some S=>
  refine Sx (T pos q S B p) λc' W=> ?_;subst W;intro J v j;refine kla_makeFunctionHit t he.glob F l (z w h s x) hp ht p I λk h' tk hk Y=>aC (x.i7 L (h':=h') (tk:=tk) Y hk) λZ K=>aC (K.i7 L (h':=h'.push {cls:= .type "function",data:= .func (kla_fn "<lambda>" q d g scope cl ((C "__name__").getD .none) (.ref c') k)}) (tk:=tk) (by show h'.objs.size<=_;refine cR (bJ ..) ?_;exact gU _) (λa o e=>az _ e)) λx2 s2=> ?_;exact aC (m _ h'.objs.size K (bu _)) λn2 n1=>hQ _ h'.objs.size _ _ _ s2 (Z.trans x2) ⟨n1,n2,(bW _ (aJ _ rfl) rfl),c',rfl,J,v,j.keeps λb o e=>az _ (hk b o e)⟩
 |none=>
  refine kla_makeFunction t he.glob F l (z w h s x) hp ht p R I λc' k h' tk hx hge hlt j Vn=>uq (x.code L hP hp ht p (λq'' e=>aF (e.symm.trans B)) (tk:=tk) hx hge hlt j Vn) λZ K J v=>aC (K.i7 L (h':=h'.push (kla_obj "<lambda>" q d g scope cl ((C "__name__").getD .none) c' k)) (tk:=tk) (by show h'.objs.size<=_;refine cR (bJ ..) ?_;exact gU _) (λa o e=>az _ e)) λx2 s2=> ?_;exact aC (m _ h'.objs.size K (bu _)) λn2 n1=>hQ _ h'.objs.size _ _ _ s2 (Z.trans x2) ⟨n1,n2,(bW _ (aJ _ rfl) rfl),c',rfl,J,v,j.push _⟩
end
structure L5 (X:dw) (G:Str->Option V) (a:Addr) (Fp:Nat) where
 fd:mu
 nA:Str
 nB:Str
 nL:Str
 nE:Str
 nF:Str
 n0:Str
 nW:Str
 nX:Str
 pL:Pos
 pE:Pos
 pc:Pos
 pr:Pos
 pos:Pos
 params:Arguments
 sc:Scope
 pA:Pos
 pB:Pos
 pF:Pos
 p0:Pos
 pb:Pos
 L:Addr
 m:Nat
 L6:mu
 pw:Pos
 ck:Nat
 pz:Pos
 YD:Pos
 prr:Pos
 pt:Pos
 hh:kU
 hs:List kU
 c:Addr
 P:Addr
 q:Str
 q':Str
 obj:∃o,X.h₀.get? a=af o/\o.data= .func fd
 nt:a∉X.tabs
 data:Vo X fd [nA,nB] []
 code:∀w h s,St X w h s->s.heap.CodeRec fd.code fd.qualname
 text:fd.body= .stmts [.Return (af (.Call (.Name nL pL) [.Lambda params (.Call (.Name nB pB) [.Name nA pA,.Name nF pF,.Name n0 p0] [] pb) sc pos,.Name nE pE] [] pc)) pr]
 kA:bg nA=ao/\bf (nm nA) fd.scope.names=af .cell
 kB:bg nB=ao/\bf (nm nB) fd.scope.names=af .cell
 ne:ak (nm nB) (nm nA)=aj
 kL:bg nL=ao/\bf (nm nL) fd.scope.names=af .globalImplicit
 kE:bg nE=ao/\bf (nm nE) fd.scope.names=af .globalImplicit
 gL:G nL=af (bM L)
 gE:G nE=af (aX m)
 gF:G nF=af (bM Fp)
 hloc:gC fd.scope.names=aj
 hc:X.jL fd.scope.names=af (c,q')
 hq':q'++"<lambda>"=q
 hP:P∈X.tabs
 YE:∀w h s,St X w h s->CodeHd s.heap c P
 hla:X.ql P pos.line pos.col=af q
 hbm:∀w h s,St X w h s->∃mg,s.heap.Ns g8 mg/\s.heap.BuiltinsAt mg P
 hgP:g8≠P
 hdef:∀env,defaultsOf params env=([],[])
 sco:sc.isCoroutine=aj
 WD:sc.isGenerator=aj
 sfn:sc.kind= .function
 ZH:wX fd.scope.names sc.names
 WE:gC sc.names=ao
 WG:∀x k,bf (nm x) sc.names=af k->(x==("__classdict__":Str))=aj
 WH:∀x k,bf (nm x) sc.names=af k->(x==("__debug__":Str))=aj
 sp:params.posonlyargs=[]/\params.args.map (·.arg)=[n0]/\params.kwonlyargs=[]/\params.vararg=au/\params.kwarg=au
 s0:bg n0=ao/\bf (nm n0) sc.names=af .local/\sc.names.lookup n0=af .local
 sA:bf (nm nA) sc.names=af .free
 sB:bf (nm nB) sc.names=af .free
 sF:bg nF=ao/\bf (nm nF) sc.names=af .globalImplicit
 WI:∃o,X.h₀.get? L=af o/\o.data= .func L6
 ntL:L∉X.tabs
 GQ:Vo X L6 [nW,nX] []
 R5:∀w h s,St X w h s->s.heap.CodeRec L6.code L6.qualname
 R6:L6.body= .stmts [.Try [.Return (af (.Call (.Name nW pw) [.Constant (.int 0) ck pz] [] YD)) prr] (hh::hs) [] [] pt]
 kW:bg nW=ao/\(bf (nm nW) L6.scope.names=af .local\/bf (nm nW) L6.scope.names=af .cell)
section
variable {X:dw} {w:Wd} {s:Shared} {h:H} {G:Str->Option V} {A:Around} {r:Ap} {n:Nat}
theorem GS {h h'} (e:af (⟨⟨[],[]⟩,u,h⟩:Res)=af ⟨⟨[],[]⟩,v,h'⟩):u=v/\h=h':=by injection e with e;injection e with _ a b;exact⟨a,b⟩
theorem cQ.give (hx:cQ X r n b ns a x) (l:fL n b A) (m:St X w h s) (he:eW X env ns ρ w h.n s) (o:∀k,a.f r ρ h k=k v h)
 (p:∀d c y,St X d h c->Ext X cV w h.n s d h.n c->VR X c.heap d h.n v y->Q y c):cG (model X.prog X.w) A (eval x env) Q (λq q=>False) s:=
 hx A l env ρ w h s m he (λu h'=>af ⟨⟨[],[]⟩,u,h'⟩) _ (o _) Q λd h2 c u y g t hu e=>by
  refine f7 (GS e) λi j=> ?_;subst i;subst j;exact p d c y g t hu
theorem Ay.give (hx:Ay X r n b ns a l) (m:fL n b A) (o:St X w h s) (he:eW X env ns ρ w h.n s) (p:∀k,a.f r ρ h k=k [v] h) pos
 (t:∀g d y,St X g h d->Ext X cV w h.n s g h.n d->VR X d.heap g h.n v y->Q [y] d):cG (model X.prog X.w) A (spliced (backTo pos (starEach l env))) Q (λu u=>False) s:=
 hx A m env ρ w h s o he (λvs h'=>af ⟨⟨[],[]⟩,dJ vs,h'⟩) _ (p _) pos Q λg h2 d us ys i x j e=>by
  refine aC (GS e) λc=> ?_;subst c;intro q;injection q with _ _ _ _ q
  subst q;refine dM j.one λy c=> ?_;subst c;intro hy;exact t g d y i x hy
theorem WJ (a:fL (n+1) 0 A):fL n 0 ((A.deeper env).deeper envL):=a.next rfl (j:=6) rfl (aA rfl) rfl (d:=2) rfl
theorem WK (a:fL (n+1) 0 A):fL n 0 (((A.deeper env).deeper envL).deeper env'):=a.next rfl (j:=9) rfl (aA rfl) rfl (d:=3) rfl
theorem VR.R7 (h:VR X g w n (bM a) y):y= .ref a:=by cases h;rfl
theorem R8 (x y) (u v):nI [] [x,y] [u,v]=af [(x,u),(y,v)]:=rfl
theorem OY (ax:bw X) (d:∀a∈X.tabs,a<X.h₀.objs.size) (i:X.h₀.NoLimit) (u:cStatics∉X.tabs) (gx:jQ X G) (R:L5 X G a Fp) (rk:Cf X r n) (D:fL (n+1) 0 A) (hs:St X w h s) (hv:ef X s.heap w h.n vs ys)
 (e:with2 vs (λa w=>r w [a,bM Fp,aX 0] h k)=af res) (hQ:Goes (PV X) X w h.n s k res Q):codeN (model X.prog X.w) A (.call (.ref a) ⟨ys,[]⟩) (RV Q) s:=by
 refine ny (tS e) λva vw e9 F=> ?_;rw [F] at hv;clear e F;refine aL R.obj λo hd ho=>jA (zh D) (hs.base a o ho R.nt) hd R.data.sc.co R.data.sc.gen R.text (R.code w h s hs) (aW (eT (uS ax d i u R.data hs hv (R8 _ _ _ _) (E:=λc c=>False) (E':=λc c=>False) (P:=λenv s1=>codeN (model X.prog X.w) A (.func _ env) (RV Q) s1) λenv s1 hs1 I x1 J=>tD ?_)) (λc c q=>eT q) λc c f=>f);have K:=rm D (iy _) env;refine kJ (mF (ay (cQ.give (cQ.glob (r:=r) (n:=n) (b:=0) gx R.nL R.pL R.kL.1 R.kL.2 _ R.gL) K hs1 I (v:=bM R.L) (λc=>rfl) λw2 s2 y2 hs2 x2 hu2=>(cR hu2.R7 ?_))));have x:=I.ext x2;have hp:=lD (env:=env) (pos:=R.pc) (xs:=[.Lambda R.params (.Call (.Name R.nB R.pB) [.Name R.nA R.pA,.Name R.nF R.pF,.Name R.n0 R.p0] [] R.pb) R.sc R.pos,.Name R.nE R.pE]) rfl;refine pH hp (l5 hp ((?_:cG _ _ (eval (.Lambda _ _ _ _) env>>=λv=>pure [v]>>=λl=>holding l (spliced (backTo R.pc (starEach [.Name R.nE R.pE] env)))>>=λr=>pure (l++r)) _ _ _)));refine cI (y9 x R.ZH) λcl J M hcl=>ay (eT (IU ax R.pos R.hloc R.hc R.hq' R.hP R.YE R.hla R.hbm R.hgP R.hdef M hs2 x λs3 f pm cv ctv Jt x3 hf=> ?_));have N:=x.ext x3;refine ay (aO (ay (bh (Ay.give (Ay.cons (r:=r) (n:=n) (b:=0) rfl (cQ.glob gx R.nE R.pE R.kE.1 R.kE.2 _ R.gE) .nil) K Jt N (v:=aX R.m) (λc=>rfl) R.pc λw4 s4 ye y x4 hye=>aO (dM R.WI λoL O S=> ?_)))));have T:=y.base _ oL O R.ntL;refine⟨xX T S,nJ ?_⟩;have W:(A.deeper env).depth=A.depth+1:=rfl;have hD:=D.depth;have Y:(A.deeper env).depth<mC:=by refine cR W ?_;unfold mC;lia
 refine iN (R:=RV λv s'=>Q v s') (jA Y T S R.GQ.sc.co R.GQ.sc.gen R.R6 (R.R5 w4 h s4 y) ?_) (λr' s' B=> ?_);rotate_left
 .rcases r' with e|(_|_|_|v)<;>first|exact B.elim|exact B
 refine aW (eT (uS ax d i u R.GQ y (.cons _ _ _ _ (.fn f) (.cons _ _ _ _ hye .nil)) (R8 _ _ _ _) (E:=λc c=>False) (E':=λc c=>False) (P:=λp s1=>codeN (model X.prog X.w) (A.deeper env) (.func _ p) (RV Q) s1) λt s5 Zx Z x5 ac6=>tD ?_)) (λc c q=>eT q) λc c f=>f;have hA2:fL n 0 ((A.deeper env).deeper t):=WJ D;refine kJ (ay (bG ?_));unfold tryStmt;refine cR List.isEmpty_cons (ay (qT (Gu (kJ (mF ?_)))));refine ay (cQ.give (cQ.loc (r:=r) (n:=n) (b:=0) R.nW R.pw R.kW.1 R.kW.2) hA2 Zx Z (v:=bM f) (λk=>by
  refine(?_:(aB au (λv=>k v h) (find (nm R.nW) [(nm R.nW,bM f),(nm R.nX,aX R.m)]):Option Res)=_);exact cR (eU ..) (cR (if_pos rfl) rfl)) λw6 s6 y6 hs6 x6 hu6=> ?_)
 refine cR hu6.R7 ?_;have hp2:=lD (env:=t) (pos:=R.YD) (xs:=[.Constant (.int 0) R.ck R.pz]) rfl;refine pH hp2 (l5 hp2 (Ay.give (Ay.cons (r:=r) (n:=n) (b:=0) rfl (cQ.const (.int 0) R.ck R.pz) .nil) hA2 hs6 (Z.ext x6) (v:=mj 0) (λc=>rfl) R.YD λw7 s7 y0 hs7 x7 hy0=>fB (hy0.cS (v:=mj 0) rfl) λt0 ht0=>cR ht0 ?_));have hf7:=(((hf.ext x4).ext x5).ext x6).ext x7;refine aL hf7.obj λoF hdF hoF=>⟨xX hoF hdF,nJ ((?_:codeN _ _ (.call (.ref f) ⟨[.int 0 t0],[]⟩) _ _))⟩;have C:cQ X r n 0 R.sc.names (kF (Df (nm R.nB)) (dR (Df (nm R.nA)) (dR (xC (bM Fp)) (dR (qu (nm R.n0)) j9)))) (.Call (.Name R.nB R.pB) [.Name R.nA R.pA,.Name R.nF R.pF,.Name R.n0 R.p0] [] R.pb):=
  cQ.call rk R.pb (λc c c q=>(by injection q)) rfl (cQ.free R.nB R.pB R.kB.1 R.sB) (.cons rfl (cQ.free R.nA R.pA R.kA.1 R.sA) (.cons rfl (cQ.glob gx R.nF R.pF R.sF.1 R.sF.2 _ R.gF) (.cons rfl (cQ.loc R.n0 R.p0 R.s0.1 (.inl R.s0.2.1)) .nil)))
 refine iN (R:=RV Q) (IT ax i u d hs7 ((((N.ext x4).ext x5).ext x6).ext x7) hoF hdF hf7.ZG R.sco R.WD R.sfn R.ZH R.s0.2.2 R.WE R.WG R.WH R.sp R.s0.1 R.s0.2.1 hcl J C (iX (iY (Kg (j:=2) D.depth (aA rfl))) (aA rfl)) (λp=>WK D) (k:=k) (res:=res) ?_ (hQ.ext ((((((x1.trans x2).trans x3).trans x4).trans x5).trans x6).trans x7))) (λr' s' B=> ?_)
 .refine(?_:(aB au (λg=>aB au (λa=>aB au (λz=>r g [a,bM Fp,z] h k) (find (nm R.n0) [(nm R.n0,aX 0)])) (find (nm R.nA) [(nm R.nA,va),(nm R.nB,vw)])) (find (nm R.nB) [(nm R.nA,va),(nm R.nB,vw)]):Option Res)=af res);have f1:find (nm R.nB) [(nm R.nA,va),(nm R.nB,vw)]=af vw:=cR (eU ..) (cR (if_neg (fS R.ne)) (cR (eU ..) (cR (if_pos rfl) rfl)));have f2:find (nm R.nA) [(nm R.nA,va),(nm R.nB,vw)]=af va:=cR (eU ..) (cR (if_pos rfl) rfl);have f3:find (nm R.n0) [(nm R.n0,aX 0)]=af (aX 0):=cR (eU ..) (cR (if_pos rfl) rfl);exact cR f1 (cR f2 (cR f3 e9))
 .rcases r' with e|(_|_|_|v)<;>first|exact B.elim|exact aO (aO B)|exact aO B|exact B
end
section
variable {X:dw} {K:Frag} {G:Str->Option V} {Ms:Nat->List (Nat×Nat)} {r:Ap} {n b:Nat}
theorem Ua (d:bw X) (c:10<=X.h₀.objs.size) (e:∀a∈X.tabs,a<X.h₀.objs.size) m:qb X m:=by
 rcases m with _|_|_|_|_|_|_|_|_|_|_|_|_|_|_|_|_|_|m
 .exact TP d c
 .exact uV 1 (.inl rfl)
 .exact LO d
 .exact OO d
 .exact Lv d e
 .exact OI d c
 .exact OS d c e
 .exact uV 7 (.inr (.inl rfl))
 .exact Iv d c
 .exact uV 9 (.inr (.inr (.inl rfl)))
 .exact uV 10 (.inr (.inr (.inr (.inl rfl))))
 .exact TS d
 .exact T8 d
 .exact T9 d
 .exact TJ d
 .exact TL d
 .exact TM d
 .exact TN d
 .exact uV _ (.inr (.inr (.inr (.inr (rN 18 m)))))
structure Base (X:dw) (K:Frag) (G:Str->Option V) (Ms:Nat->List (Nat×Nat)):Prop where
 ax:bw X
 kx:Js X K
 gx:jQ X G
 hbase:10<=X.h₀.objs.size
 htab:∀a∈X.tabs,a<X.h₀.objs.size
 mo:∀x,bg x=ao->Cg X K (Ms (nm x)) x
 fl:∀x,bg x=ao->∀c,find c (Ms (aG (cM (nm x) 128) 1))≠au->X.fld c x
theorem Base.ctx (B:Base X K G Ms) (rk:Cf X r n):l6 X K G Ms r n b where
 ax:=B.ax
 kx:=B.kx
 gx:=B.gx
 hbase:=B.hbase
 htab:=B.htab
 rk:=rk
 mo:=B.mo
 om:=λx hx=>TY (Ih B.ax) (IB B.ax) (TQ B.hbase B.ax) (AK B.ax B.hbase) hx
 vm:=λx hx=>T4 (L0 B.ax) (OW B.ax) hx
 fl:=B.fl
 Ct:=λns a x g j p d h1 h2 e f=>cQ.Ct B.ax B.gx h1 h2 e f p d
 xY:=λns a c x y g j p d h1 h2 e f h i=>cQ.xY B.ax B.htab B.gx h1 h2 e f h i p d
 uT:=λns o v l args m k g p d h1 h2 e f h i q s=>cQ.uT B.ax B.gx k p d h2 h1 e f h i q s
end
end
section
set_option backward.match.sparseCases false
section
inductive NT (α:Type) where
 |l
 |n (l:NT α) (k:Nat) (v:α) (r:NT α)
def NT.find {α:Type} (t:NT α) (n:Nat):Option α:=NT.rec au (λ_ k v _ ihl ihr=>ah (ah ihr ihl (bI n k)) (af v) (ak n k)) t
noncomputable abbrev NT.o {α:Type} (k:Nat) (v:α):NT α:= .n .l k v .l
namespace K
noncomputable def prog:Program:=kj
def sD (l:List Stmt):Nat->Stmt:=aS (λ_=> .Pass default) (λs _ ih n=>ah (ih (fm n 1)) s (ak n 0)) l
def Ej (l:List Expr):Nat->Expr:=aS (λ_=> .Constant .none 0 default) (λs _ ih n=>ah (ih (fm n 1)) s (ak n 0)) l
noncomputable def u0:Stmt->List Stmt
 | .ClassDef _ _ _ b _ _ _ _ _ _ _=>b
 |_=>[]
noncomputable def u7:List Stmt->List Expr
 |[.Return (af (.Dict _ vs _)) _]=>vs
 |_=>[]
noncomputable def fnBody:Stmt->List Stmt
 | .FunctionDef _ _ b _ _ _ _ _ _ _=>b
 |_=>[]
def top (i:Nat):Stmt:=sD prog.main.body i
def glob:NT V:=(.n (.n (.n (.n (.n (.n (.n (.n (.o 1653103 (BN 17)) 1800947 (BN 11) .l) 1815276 (BN 0) (.n (.o 1815789 (BN 13)) 1848570 (BN 9) .l)) 1881187 (BN 16) (.n (.n (.o 1896801 (BN 14)) 1913587 (BN 7) .l) 1914729 (BN 15) (.n (.o 1962220 (bM 2810)) 1978605 (BN 12) .l))) 173170896 (aX 6) (.n (.n (.n (.o 211448044 (bM 291)) 213596882 (je 1129) .l) 215577159 (je 992) (.n (.o 228325328 (je 2651)) 244905188 (BN 6) .l)) 245086150 (je 2698) (.n (.n (.o 245167340 (BN 5)) 22424036555 (dJ [(vStr []),(vStr [115,105,110,103,108,101]),(vStr [109,117,108,116,105,112,108,101]),(vStr [97,108,116,101,114,110,97,116,101]),(vStr [108,105,103,97,116,117,114,101]),(vStr [99,111,110,116,101,120,116]),(vStr [99,104,97,105,110]),(vStr []),(vStr [114,101,118,101,114,115,101])]) .l) 22723715788 (aX 2) (.o 27329802482 (BN 1))))) 27340323572 (BN 4) (.n (.n (.n (.n (.o 27359129814 (je 2008)) 29219126239 (bM 21) .l) 31083805922 (BN 2) (.n (.o 2870272419014 (aX 4)) 2874305454529 (aX 4) .l)) 2904915699662 (qJ 1) (.n (.n (.o 3463318205683 (bM 103)) 3463330969587 (BN 8) .l) 3499542426835 (je 1469) (.o 3879923873740 (je 2370)))) 3947026249537 (je 1662) (.n (.n (.n (.o 4011968010485 (bM 96)) 4016016503251 (je 2424) .l) 4016846844481 (je 2067) (.n (.o 4017371377868 (je 2478)) 371829209393621 (aX 16) .l)) 448151359615686 (je 2452) (.n (.n (.o 448184882934482 (je 1431)) 448285575527107 (je 1777) .l) 452098138830830 (bM 1003) (.o 452440390284531 (bM 2024)))))) 452440406931430 (bM 2045) (.n (.n (.n (.n (.n (.o 487286833314167 (bM 1694)) 487287338564073 (bM 2081) .l) 487624791390183 (bM 681) (.n (.o 495935014073411 (je 572)) 504877905704035 (bM 695) .l)) 505216945910514 (bM 2716) (.n (.n (.o 509205389587149 (je 322)) 509955375083724 (je 2398) .l) 513532036428016 (bM 1906) (.n (.o 535556628658150 (bM 2723)) 39145144394541903 (aX 8) .l))) 46450200064354253 (aX 4294967295) (.n (.n (.n (.o 57314307796219843 (je 790)) 57336811040225997 (je 1495) .l) 57363374030845132 (je 1364) (.n (.o 57367071481966797 (je 1841)) 57867465521657411 (je 895) .l)) 57912368870142692 (bM 1570) (.n (.n (.o 57912369908053616 (bM 1375)) 57912373687400422 (bM 2210) .l) 59043563102010594 (bM 852) (.o 60740376108773581 (je 1895))))) 62249534993805775 (je 187) (.n (.n (.n (.n (.o 65253568564410307 (je 1170)) 65266456912018160 (bM 1291) .l) 65732096623685876 (bM 333) (.n (.o 65750374377091826 (bM 2179)) 67483170342728434 (bM 1537) .l)) 67483170342909940 (bM 1805) (.n (.n (.o 67483170363767653 (bM 1946)) 5018486001850705869 (aX 255) .l) 5594946513635960781 (aX 255) (.o 5814435663309940684 (aX 65536)))) 6021667624083516610 (aX 1) (.n (.n (.n (.o 7260813351097758450 (bM 1913)) 7267050193396855024 (bM 2094) .l) 7268149395757495026 (bM 1617) (.n (.o 7334603603662435054 (bM 471)) 7339134106964882162 (bM 1207) .l)) 7342986245952795378 (bM 1927) (.n (.n (.o 7343549613325760065 (je 1521)) 7343549747291846501 (BN 10) .l) 7346962664114385640 (bM 2608) (.o 7407175906581050098 (bM 1055))))))) 7412783829808149744 (bM 688) (.n (.n (.n (.n (.n (.n (.o 7412783829816684786 (bM 808)) 7412783832798853479 (bM 734) .l) 7550151931891053298 (bM 1015) (.n (.o 7557576077057276656 (bM 590)) 7559783550671155954 (bM 2172) .l)) 7774769238184063730 (bM 1941) (.n (.n (.o 7917270102705944550 (bM 2737)) 7918945758392906482 (bM 2019) .l) 7981438047945782002 (bM 822) (.n (.o 7985866882390980208 (bM 1380)) 7990959543696777928 (aX 14) .l))) 7990959543764415218 (bM 2326) (.n (.n (.n (.o 8274105949947982578 (bM 2205)) 8345037781557868127 (bM 2805) .l) 8352373688738804466 (bM 1221) (.n (.o 8354106484704441074 (bM 1549)) 8354106484706882796 (bM 1342) .l)) 8413708812629539566 (bM 89) (.n (.n (.o 8419997426741131206 (je 73)) 8421097116884563551 (bM 2800) .l) 8424897481346462159 (je 279) (.o 8629964675023926879 (bM 2786))))) 8774080344635555042 (BN 3) (.n (.n (.n (.n (.o 8774559767153127668 (bM 2751)) 623266388825099756232 (aX 1594834165) .l) 642369615688090773454 (aX 65535) (.n (.o 705707651995876501448 (aX 1)) 744247764907170456659 (aX 20480) .l)) 770558945185483975874 (aX 2) (.n (.n (.o 770773455882689914433 (aX 65536)) 771489985764137428941 (aX 10920) .l) 771634158298616621005 (aX 16384) (.o 780716766390117523660 (aX 65535)))) 929681940731898917618 (bM 2277) (.n (.n (.n (.o 930323122657267710327 (bM 1631)) 939409165693388158051 (bM 1270) .l) 939902239482266155383 (bM 1965) (.n (.o 940052543510412817138 (bM 2031)) 948118516042682759543 (bM 1098) .l)) 948836330219767363171 (bM 1800) (.n (.n (.o 967652294486216309111 (bM 2217)) 995170462487868504439 (bM 1977) .l) 1013408937070619620451 (bM 82) (.o 1022842821602153494903 (bM 2348)))))) 1059085561593650116983 (bM 2248) (.n (.n (.n (.n (.n (.o 1059521791147225444584 (bM 1810)) 1059527485209817150547 (je 48) .l) 1068022387841961587442 (bM 660) (.n (.o 1068027991262454379250 (bM 354)) 1068245360306806223056 (je 2129) .l)) 1068462553476415644360 (aX 12) (.n (.n (.o 1068462553476483281650 (bM 1709)) 1068462553476483463156 (bM 1719) .l) 1068669222286244999922 (bM 829) (.o 1068677072834174693590 (je 460)))) 1068680489399611848291 (bM 911) (.n (.n (.n (.o 1068961890188247200498 (bM 2312)) 1068961890188268304362 (bM 2319) .l) 1069103832158875318647 (bM 1091) (.n (.o 1069103836697001276147 (bM 2231)) 1069103836697001326578 (bM 1583) .l)) 1069106062722726392562 (bM 347) (.n (.n (.o 1069325630042476804471 (bM 1958)) 1077253579605513106162 (bM 1036) .l) 1077759670618833858772 (je 61) (.o 1077903848374365876978 (bM 361))))) 1077903848374372382700 (bM 382) (.n (.n (.n (.n (.o 1105644263033265484531 (bM 2333)) 98769172262222927258316 (aX 16) .l) 99812129308210770536397 (aX 65535) (.n (.o 118961165944803372562412 (bM 2601)) 118998497416701646762738 (bM 2284) .l)) 118999143771278887697136 (bM 1284) (.n (.n (.o 118999288413683369802103 (bM 2298)) 119063350368686042935532 (bM 2709) .l) 119118681057071593976562 (bM 492) (.o 120243362194891606618866 (bM 1530)))) 120326725569333148940663 (bM 2038) (.n (.n (.n (.o 121451042395008232437731 (bM 801)) 121451042949265469503075 (bM 904) .l) 121451050333925388448499 (bM 707) (.n (.o 123823326446507721013601 (bM 604)) 123859073171099907388130 (bM 1337) .l)) 129716553362697413505268 (bM 2779) (.n (.n (.o 133313169190588689969906 (bM 2534)) 135618789266844825449202 (bM 1680) .l) 135618789266844825630708 (bM 1673) (.o 136707081245458649608946 (bM 478)))))))) 136707948751123226718416 (je 2161) (.n (.n (.n (.n (.n (.n (.n (.o 136735406120365597422322 (bM 485)) 136735682516148343567090 (bM 368) .l) 136763206844990168398199 (bM 1714) (.n (.o 136790665322840893242096 (bM 1277)) 136809547781519370121970 (bM 639) .l)) 136827121944095950010743 (bM 2340) (.n (.n (.o 136845291097216123499624 (bM 396)) 136845291097216125860327 (bM 2758) .l) 136845291097216129725160 (bM 389) (.n (.o 136845291097216132004594 (bM 1298)) 136845291097216155267309 (bM 403) .l))) 136845291097216161413223 (bM 2765) (.n (.n (.n (.o 136845291097216161493747 (bM 1308)) 136845291097216163575020 (bM 2574) .l) 136845291097216171980520 (bM 410) (.n (.o 136845933475923901313778 (bM 1029)) 137851214036553017422574 (bM 583) .l)) 137888458189505985935735 (bM 1081) (.n (.n (.o 137971692591922896467555 (bM 1726)) 137989276334399805747954 (bM 2510) .l) 138017806641818769060594 (bM 2076) (.o 138035829471761369953010 (bM 2546))))) 138035829471761409799775 (bM 2793) (.n (.n (.n (.n (.o 7995869041531642652947186 (bM 611)) 8298100496435299946623730 (bM 625) .l) 10506764375021921697293004 (aX 16) (.n (.o 10533917780832119422051027 (aX 8)) 12623647655791468010070722 (dJ [(dJ [(aX 3),(aX 10)]),(dJ [(aX 0),(aX 6)]),(dJ [(aX 0),(aX 4)]),(dJ [(aX 3),(aX 1)]),(dJ [(aX 0),(aX 3)]),(dJ [(aX 0),(aX 2)]),(dJ [(aX 0),(aX 1)]),(dJ [(aX 0),(aX 0)])]) .l)) 12624725789957845897702594 (aX 3) (.n (.n (.o 12624837757918969450522573 (aX 65536)) 15231807669337811093977463 (bM 2305) .l) 15231825760320224384021234 (bM 618) (.o 15231871308024227493868274 (bM 1022)))) 15242468808826696465496045 (bM 2099) (.n (.n (.n (.o 15242525020989226879711607 (bM 1953)) 15391150360946125955561847 (bM 1576) .l) 15398363465659577213154034 (bM 2524) (.n (.o 15399515318122634829918962 (bM 1442)) 15402975089260825436254962 (bM 1788) .l)) 16607232935166914733012083 (bM 940) (.n (.n (.o 16754752494912545469592302 (bM 340)) 17040492478999104482472690 (bM 674) .l) 17359205026156137965844855 (bM 1687) (.o 17496163961791076399346418 (bM 375)))))) 17496163961791076399411950 (bM 417) (.n (.n (.n (.n (.n (.o 17497427338017365980377842 (bM 2496)) 17498617440144867420828402 (bM 2193) .l) 17509205161323634301104882 (bM 1193) (.n (.o 17511621826150883076371186 (bM 2539)) 17516279484918259676510583 (bM 1074) .l)) 17516297933294694192149234 (bM 2517) (.n (.n (.o 17522228415138367312261874 (bM 2503)) 17644826346071697837814514 (bM 1542) .l) 17666279250152802748103031 (bM 2087) (.o 17668586172385455662332279 (bM 2668)))) 17672035360570948487508722 (bM 1263) (.n (.n (.n (.o 935997551323211362886775538 (bM 632)) 974683177550879496477373170 (bM 646) .l) 994025990664713563272671986 (bM 653) (.n (.o 1023471237316050259885586807 (bM 727)) 1949679527427101119523486071 (bM 1067) .l)) 1951028970087382846476449633 (bM 1701) (.n (.n (.o 1951028970087382912534688623 (bM 2489)) 1969304620621137590114349810 (bM 836) .l) 1970077826197620305736266482 (bM 1556) (.o 1970990523605565422670738162 (bM 1392))))) 1971137960719697258537974135 (bM 1447) (.n (.n (.n (.n (.o 1971580811425385656148982135 (bM 1795)) 1988348754275273362074268402 (bM 928) .l) 2028721380499582530317137908 (bM 1817) (.n (.o 2028721380499582530348775410 (bM 1920)) 2144608327931510606414770930 (bM 2270) .l)) 2181183037311885374064851319 (bM 752) (.n (.n (.o 2221063403675625147193651954 (bM 2179)) 2239508987109257779424688503 (bM 424) .l) 2239821871556577258672517874 (bM 2529) (.o 2239823032338543030174382455 (bM 1062)))) 2241487593747313036476577392 (bM 2620) (.n (.n (.n (.o 2241770870158271529449420651 (bM 2730)) 2241771018316025211056289643 (bM 2772) .l) 2242073249336789487115302892 (bM 2615) (.n (.o 2242073249336789551520905966 (bM 196)) 2242073249336789585891143922 (bM 513) .l)) 2242073249336789586715506279 (bM 520) (.n (.n (.o 2242073249336789623207932403 (bM 2579)) 2242073249336789624562807020 (bM 2744) .l) 2242083737026894217218945762 (bM 702) (.o 2242088422711605885721408611 (bM 746))))))) 2260509313610995964179165389 (je 1867) (.n (.n (.n (.n (.n (.n (.o 2261276595556167982473933555 (bM 714)) 2261280193164428091351528171 (bM 2224) .l) 2262020526153081406709463415 (bM 1330) (.n (.o 124759446726512575549412112759 (bM 739)) 206825231721686031451529996240 (dJ [(vStr [97,100,106,117,115,116]),(vStr [112,97,105,114]),(vStr [99,117,114,115,105,118,101]),(vStr [98,97,115,101]),(vStr [99,111,109,112,111,110,101,110,116]),(vStr [109,97,114,107]),(vStr [99,111,110,116,101,120,116]),(vStr [99,104,97,105,110])]) .l)) 244916857625732646695848979525 (aX 7) (.n (.n (.o 252070991439505611534945122679 (bM 844)) 252169961753295399134550456695 (bM 1595) .l) 252286787021512374102162831735 (bM 1409) (.n (.o 252322443406300683313366987506 (bM 1563)) 254508626196969650773737108210 (bM 1048) .l))) 254508640547234990345814702455 (bM 948) (.n (.n (.n (.o 257159343767759579956951675634 (bM 815)) 274509864839752640910383936242 (bM 1610) .l) 274509865975233357621399026039 (bM 2291) (.n (.o 286676931061197235372720599272 (bM 721)) 286695513656258600816912921330 (bM 1249) .l)) 286695528848076168695662621412 (bM 506) (.n (.n (.o 286696270259758067789011253623 (bM 2594)) 286697348139333507895317624818 (bM 933) .l) 286754930416137045757115527922 (bM 1228) (.o 286813232761394933049648166900 (bM 1805))))) 286890308735570216155706895429 (aX 9) (.n (.n (.n (.n (.o 286985375915109066962661602034 (bM 2567)) 286985375915109067440181181166 (bM 2553) .l) 286985375915109067684467945708 (bM 2560) (.n (.o 286986718339442459801575584867 (bM 597)) 289345192142207484511194215154 (bM 1934) .l)) 296794122023719055574575903474 (bM 916) (.n (.n (.o 296794122031943143065596228338 (bM 1043)) 21754620659536464674526856422099 (dJ [(aX 0),(aX 5)]) .l) 32277581761758900051371466715890 (bM 1537) (.o 32297272756006487464111282747767 (bM 1602)))) 32601768222163670161184792573801 (bM 1200) (.n (.n (.n (.o 36380018200890331181796032313328 (bM 2256)) 36389902805813292114523522413299 (bM 2231) .l) 36697260561834689093716823012082 (bM 1242) (.n (.o 36719464622462322722084190974706 (bM 499)) 37036184594202558017433167886711 (bM 1970) .l)) 37989647620088722312396625574263 (bM 1086) (.n (.n (.o 4092886715862218373754291058719845 (bM 2627)) 4131530465505135591693163193983688 (aX 6) .l) 4497569625534507268675733909287650 (bM 2263) (.o 4699148005562658264452579806837111 (bM 1958)))))) 4700056944600384509658401590506226 (bM 921) (.n (.n (.n (.n (.n (.o 4700091471675177308426776753109367 (bM 527)) 4700740190202365023425939105463397 (bM 2660) .l) 4701344111645595755523557614449394 (bM 2186) (.n (.o 4701344111645697415277808809702130 (bM 2198)) 4701968398993146955359597425589474 (bM 1313) .l)) 4702943856457703250897603260871410 (bM 1731) (.n (.n (.o 4742874986059582077864430395220680 (aX 10)) 528835899584657781901243912411805682 (bM 1583) .l) 528835899584657782123037257887283575 (bM 1588) (.o 529083739975738718373639599492200048 (bM 1375)))) 529083739975738718383210399926874866 (bM 1387) (.n (.n (.n (.o 529242194155823406263589706402915016 (aX 6)) 533743274446209717313503230114165490 (bM 1010) .l) 575688914681950414279124450801119986 (bM 1624) (.n (.o 585506863240280962273848360028135628 (aX 1114111)) 596212167570427398184054589731926770 (bM 2193) .l)) 601244069855250037220482958491153138 (bM 1256) (.n (.n (.o 601772046290636256707015374957869431 (bM 2236)) 601772046290649269155559527950219639 (bM 2241) .l) 601851955071122810071517773335887074 (bM 1318) (.o 601857939601968164259791255073486448 (bM 1186))))) 601857939601968164267629259542524658 (bM 1214) (.n (.n (.n (.n (.o 601857939601968164269362055508342772 (bM 1179)) 601976813626586016114893217699887479 (bM 1736) .l) 52253071017454156795389214197477074896 (aX 9) (.n (.o 73688181079289653027727929702851705207 (bM 1638)) 77037050249103720998148579112613884403 (bM 2584) .l)) 77037816269051925026192870989914206962 (bM 1221) (.n (.n (.o 77707263771600192763730827599879922386 (aX 8)) 8668507995762503161953978766203656418035 (bM 1404) .l) 8668507995762503161953978766203656468466 (bM 1399) (.o 9849464687341924065599428424155553654733 (aX 65535)))) 9859465126833567109120200753796816888012 (aX 1114111) (.n (.n (.n (.o 9859465126833567109120213112857235055304 (aX 10)) 9860742431885276120099779237220200217826 (bM 1323) .l) 9860742431885276287763018060515824399078 (bM 2589) (.n (.o 9860840482438646403352687491247452795635 (bM 1303)) 9946529762764831637267103188259830264562 (bM 2496) .l)) 1227896889258081707583954021459867052045042 (bM 667) (.n (.n (.o 161405946953043442708370758265997993360811981 (aX 65536)) 161537476638041163515825571641052943730402002 (aX 11) .l) 161560010464274782672512852036299465116119794 (bM 1235) (.o 14026576945970690538465802410588192241831946963 (aX 7)))))))))
def ms:NT (List (Nat×Nat)):=(.n (.n (.n (.n (.n (.n (.o 7285 [(187,139),(279,217)]) 15361 [(1662,1)] (.o 15489 [(1662,1)])) 825845 [(187,167),(279,245)] (.n (.o 858485 [(187,160),(279,238)]) 891113 [(187,153),(279,231)] .l)) 891125 [(187,146),(279,224)] (.n (.n (.o 1651297 [(279,262)]) 1700084 [(187,172),(279,250)] .l) 1896680 [(790,780)] (.n (.o 1912961 [(187,1),(2651,1)]) 211383022 [(187,125)] .l))) 211498996 [(322,319),(460,457),(572,569),(790,787),(895,892),(992,989),(1129,1119),(1170,1153),(1364,1361),(1431,1428),(1469,1466),(1495,1492),(1521,1518),(1662,1659),(1777,1774),(1841,1838),(1867,1864),(1895,1892),(2008,1998),(2067,2064),(2129,2126),(2161,2158),(2370,2367),(2398,2395),(2424,2421),(2452,2449),(2478,2475),(2698,2695)] (.n (.n (.n (.o 211530982 [(2129,2121),(2161,2153)]) 213693160 [(187,184)] .l) 213824755 [(279,269)] (.n (.o 217610753 [(2424,1),(2452,1)]) 243136498 [(187,177),(279,255)] .l)) 245005413 [(1777,1764)] (.n (.n (.o 26283110913 [(187,1)]) 26553938817 [(2698,1)] .l) 27075966337 [(2370,1)] (.n (.o 27323299457 [(279,1)]) 27593880449 [(2698,1)] .l)))) 27854058241 [(2370,1)] (.n (.n (.n (.n (.o 28126507762 [(1129,1126)]) 28154164839 [(572,557)] (.o 28931813633 [(1129,1),(1431,1)])) 29500371713 [(1170,1)] (.n (.o 29768643969 [(2698,1)]) 31081607809 [(1777,1)] .l)) 31083674354 [(1170,1167)] (.n (.n (.o 31104709505 [(2698,1)]) 31115016577 [(992,1),(1170,1),(1364,1)] .l) 31121471745 [(2161,1)] (.n (.o 31371130851 [(895,887)]) 32425719657 [(790,773)] .l))) 32721680229 [(1777,1757)] (.n (.n (.n (.o 3462225604737 [(1129,1),(1431,1)]) 3944329476846 [(187,132)] .l) 3978693439873 [(572,1)] (.n (.o 3978724667649 [(1841,1)]) 3979524077159 [(1777,1769)] .l)) 3980333184641 [(1841,1),(1867,1),(1895,1)] (.n (.n (.o 3982193358849 [(2129,1)]) 3982722150895 [(279,276)] .l) 3982730443393 [(322,1)] (.n (.o 3982749104129 [(2651,1)]) 447667100169345 [(1129,1)] .l))))) 460824734675073 [(992,1)] (.n (.n (.n (.n (.n (.o 509272462669825 [(2651,1)]) 509274880506369 [(2370,1)] (.o 509277317397249 [(2067,1)])) 509379081876353 [(790,1)] (.n (.o 509719690950529 [(460,1),(1895,1)]) 509788431085953 [(992,1)] .l)) 509790828361729 [(992,1)] (.n (.n (.o 509792189313793 [(2161,1)]) 513980288004225 [(322,1)] .l) 53902074141372383 [(187,118),(279,210),(322,305),(460,438),(572,550),(790,766),(895,866),(992,963),(1129,1112),(1170,1148),(1364,1356),(1431,1423),(1469,1461),(1495,1487),(1521,1513),(1662,1652),(1777,1750),(1841,1831),(1867,1859),(1895,1885),(2008,1991),(2067,2059),(2129,2114),(2161,2146),(2370,2362),(2398,2388),(2424,2416),(2452,2442),(2478,2470),(2651,2641),(2698,2682)] (.n (.o 57912369908053616 [(2651,2648)]) 57912370741016167 [(572,564)] .l))) 57912373699704419 [(895,873)] (.n (.n (.n (.o 58471268392400513 [(1431,1),(1469,1),(1495,1),(1521,1)]) 63480781313028481 [(2698,1)] .l) 65178289867159169 [(2698,1)] (.n (.o 65182858871404929 [(2161,1)]) 65187429786268033 [(895,1),(992,1),(1170,1)] .l)) 65226872121258113 [(1129,1)] (.n (.n (.o 65235874899293697 [(2452,1),(2478,1)]) 65253294755871105 [(2478,1)] .l) 65781229963276801 [(2424,1)] (.n (.o 65789476864619009 [(322,1)]) 7263122365808736513 [(2398,1)] .l)))) 7336231397916144001 [(1170,1),(2161,1)] (.n (.n (.n (.n (.o 7412783830641047143 [(895,880)]) 8343920472120438913 [(322,1)] .l) 8343986688392524545 [(2398,1),(2478,1)] (.n (.o 8345094583259590913 [(322,1)]) 8351264767095847919 [(460,452)] .l)) 8352404544324989441 [(460,1)] (.n (.n (.o 8416047922182387329 [(2370,1)]) 8416047922968787433 [(992,984)] .l) 8416048161352055809 [(2008,1)] (.n (.o 8416048161352055937 [(2008,1)]) 930326465382488798337 [(2129,1),(2161,1)] .l))) 938756632718972812289 [(2008,1)] (.n (.n (.n (.o 938756632718972812417 [(2008,1)]) 957993226297918618089 [(2008,2005)] .l) 1068024015739814442497 [(2424,1)] (.n (.o 1068030296114247398913 [(1867,1)]) 1077759671718328662505 [(460,445)] .l)) 118998708522763444614273 [(1170,1)] (.n (.n (.o 136790665322774360783617 [(572,1)]) 136835774990656181532263 [(992,970)] .l) 137971692591919937779303 [(322,312)] (.n (.o 17498617440144867420895733 [(1170,1160)]) 17514979198803987696269921 [(992,977)] .l))))))
def G (x:Str):Option V:=NT.find glob (nm x)
def Ms (x:Nat):List (Nat×Nat):=aB [] (λl=>l) (NT.find ms x)
def fnOf (s:Stmt) (ds:List V):Fn:=match s with
 | .FunctionDef _ a b _ _ _ sc _ _ _=>⟨lY (λx=>nm x.arg) a.args,ds,qP G Ms sc.names b,0⟩
 |_=>⟨[],[],kX,0⟩
def YF (s:Stmt) (ds:List V):Fn:=match s with
 | .FunctionDef _ a b _ _ _ sc _ _ _=>⟨lY (λx=>nm x.arg) a.args,ds,J3 G Ms sc.names b,0⟩
 |_=>⟨[],[],kX,0⟩
def fD (i:Nat) (ds:List V):Fn:=fnOf (top i) ds
def fDJ (i:Nat) (ds:List V):Fn:=YF (top i) ds
def fM (i j:Nat) (ds:List V):Fn:=fnOf (sD (u0 (top i)) j) ds
def fMJ (i j:Nat) (ds:List V):Fn:=YF (sD (u0 (top i)) j) ds
def fP (k:Nat):Fn:=⟨[],[],kX,k⟩
structure Ny where
 t:Nat
 i:Nat
 j:Nat
 ds:List V
def CK (d:Ny):Fn:=ah (ah (ah (ah (fP d.j) (fMJ d.i d.j d.ds) (ak d.t 4)) (fM d.i d.j d.ds) (ak d.t 2)) (fDJ d.i d.ds) (ak d.t 1)) (fD d.i d.ds) (ak d.t 0)
def L7 (e:Expr):Lm:=match e with
 | .Lambda a b sc _=>⟨lY (λx=>nm x.arg) a.args,cU G Ms 30 sc.names b⟩
 |_=>⟨[],fk⟩
noncomputable def L8:Expr->Bool
 | .Lambda .. =>ao
 |_=>aj
def lams:List Expr->List Expr:=aS [] (λe _ ih=>ah ih (e::ih) (L8 e))
def ql (i j:Nat):Lm:=L7 (Ej (lams (u7 (fnBody (top i)))) j)
def init:NT Nat:=(.n (.n (.n (.n (.o 187 118) 279 210 (.o 322 305)) 460 438 (.n (.o 572 550) 790 766 (.o 895 866))) 992 963 (.n (.n (.o 1129 1112) 1170 1148 (.o 1364 1356)) 1431 1423 (.n (.o 1469 1461) 1495 1487 (.o 1521 1513)))) 1662 1652 (.n (.n (.n (.o 1777 1750) 1841 1831 (.o 1867 1859)) 1895 1885 (.n (.o 2008 1991) 2067 2059 (.o 2129 2114))) 2161 2146 (.n (.n (.o 2370 2362) 2398 2388 (.o 2424 2416)) 2452 2442 (.n (.o 2478 2470) 2651 2641 (.o 2698 2682)))))
def Ub:NT Lm:=(.n (.n (.o 9519104 (ql 360 0)) 9523200 (ql 360 1) .l) 9629696 (ql 366 0) (.o 9633792 (ql 366 1)))
def dT:NT Ny:=(.n (.n (.n (.n (.n (.n (.n (.n (.o 21 ⟨0,0,0,[]⟩) 82 ⟨0,7,0,[]⟩ .l) 89 ⟨0,8,0,[]⟩ (.n (.o 96 ⟨0,9,0,[]⟩) 103 ⟨0,10,0,[]⟩ .l)) 118 ⟨2,11,0,[(aX 0)]⟩ (.n (.n (.o 125 ⟨2,11,1,[]⟩) 132 ⟨2,11,2,[]⟩ .l) 139 ⟨2,11,3,[]⟩ (.o 146 ⟨2,11,4,[]⟩))) 153 ⟨2,11,5,[]⟩ (.n (.n (.n (.o 160 ⟨2,11,6,[]⟩) 167 ⟨2,11,7,[]⟩ .l) 172 ⟨2,11,8,[]⟩ (.n (.o 177 ⟨2,11,9,[]⟩) 184 ⟨2,11,10,[]⟩ .l)) 196 ⟨0,12,0,[]⟩ (.n (.n (.o 210 ⟨2,13,0,[]⟩) 217 ⟨2,13,1,[]⟩ .l) 224 ⟨2,13,2,[]⟩ (.o 231 ⟨2,13,3,[]⟩)))) 238 ⟨2,13,4,[]⟩ (.n (.n (.n (.n (.o 245 ⟨2,13,5,[]⟩) 250 ⟨2,13,6,[]⟩ .l) 255 ⟨2,13,7,[]⟩ (.n (.o 262 ⟨2,13,8,[]⟩) 269 ⟨2,13,9,[]⟩ .l)) 276 ⟨2,13,10,[]⟩ (.n (.n (.o 291 ⟨0,14,0,[(vBool ao),(aX 65535)]⟩) 305 ⟨2,22,0,[]⟩ .l) 312 ⟨2,22,1,[]⟩ (.o 319 ⟨2,22,2,[]⟩))) 333 ⟨0,23,0,[]⟩ (.n (.n (.n (.o 340 ⟨0,24,0,[]⟩) 347 ⟨0,25,0,[]⟩ .l) 354 ⟨0,26,0,[]⟩ (.n (.o 361 ⟨0,27,0,[]⟩) 368 ⟨0,28,0,[]⟩ .l)) 375 ⟨0,29,0,[]⟩ (.n (.n (.o 382 ⟨0,30,0,[]⟩) 389 ⟨0,31,0,[]⟩ .l) 396 ⟨0,32,0,[]⟩ (.o 403 ⟨0,33,0,[]⟩))))) 410 ⟨0,34,0,[]⟩ (.n (.n (.n (.n (.n (.o 417 ⟨0,35,0,[]⟩) 424 ⟨0,36,0,[]⟩ .l) 438 ⟨2,42,0,[]⟩ (.n (.o 445 ⟨2,42,1,[]⟩) 452 ⟨2,42,2,[]⟩ .l)) 457 ⟨2,42,3,[]⟩ (.n (.n (.o 471 ⟨0,43,0,[]⟩) 478 ⟨0,44,0,[]⟩ .l) 485 ⟨0,45,0,[]⟩ (.o 492 ⟨0,46,0,[]⟩))) 499 ⟨0,47,0,[]⟩ (.n (.n (.n (.o 506 ⟨0,48,0,[]⟩) 513 ⟨0,49,0,[]⟩ .l) 520 ⟨0,50,0,[]⟩ (.n (.o 527 ⟨0,51,0,[]⟩) 550 ⟨2,58,0,[di]⟩ .l)) 557 ⟨2,58,1,[]⟩ (.n (.n (.o 564 ⟨2,58,2,[]⟩) 569 ⟨2,58,3,[]⟩ .l) 583 ⟨0,59,0,[]⟩ (.o 590 ⟨0,60,0,[]⟩)))) 597 ⟨0,61,0,[]⟩ (.n (.n (.n (.n (.o 604 ⟨0,62,0,[]⟩) 611 ⟨0,63,0,[]⟩ .l) 618 ⟨0,64,0,[]⟩ (.n (.o 625 ⟨0,65,0,[]⟩) 632 ⟨0,66,0,[]⟩ .l)) 639 ⟨0,67,0,[]⟩ (.n (.n (.o 646 ⟨0,68,0,[]⟩) 653 ⟨0,69,0,[]⟩ .l) 660 ⟨0,70,0,[]⟩ (.o 667 ⟨0,71,0,[]⟩))) 674 ⟨0,73,0,[]⟩ (.n (.n (.n (.o 681 ⟨0,74,0,[]⟩) 688 ⟨0,75,0,[]⟩ .l) 695 ⟨0,76,0,[]⟩ (.n (.o 702 ⟨0,77,0,[]⟩) 707 ⟨0,78,0,[]⟩ .l)) 714 ⟨0,79,0,[]⟩ (.n (.n (.o 721 ⟨0,80,0,[]⟩) 727 ⟨0,81,0,[(aX 65535)]⟩ .l) 734 ⟨0,82,0,[]⟩ (.o 739 ⟨0,83,0,[]⟩)))))) 746 ⟨0,84,0,[]⟩ (.n (.n (.n (.n (.n (.n (.o 752 ⟨0,85,0,[(aX 65535)]⟩) 766 ⟨2,87,0,[]⟩ .l) 773 ⟨2,87,1,[]⟩ (.n (.o 780 ⟨2,87,2,[]⟩) 787 ⟨2,87,3,[]⟩ .l)) 801 ⟨0,88,0,[]⟩ (.n (.n (.o 808 ⟨0,89,0,[]⟩) 815 ⟨0,90,0,[]⟩ .l) 822 ⟨0,91,0,[]⟩ (.o 829 ⟨0,92,0,[]⟩))) 836 ⟨0,93,0,[]⟩ (.n (.n (.n (.o 844 ⟨0,94,0,[(aX 0)]⟩) 852 ⟨0,95,0,[(qJ 1)]⟩ .l) 866 ⟨2,98,0,[]⟩ (.n (.o 873 ⟨2,98,1,[]⟩) 880 ⟨2,98,2,[]⟩ .l)) 887 ⟨2,98,3,[]⟩ (.n (.n (.o 892 ⟨2,98,4,[]⟩) 904 ⟨0,99,0,[]⟩ .l) 911 ⟨0,100,0,[]⟩ (.o 916 ⟨0,101,0,[]⟩)))) 921 ⟨0,102,0,[]⟩ (.n (.n (.n (.n (.o 928 ⟨0,103,0,[]⟩) 933 ⟨0,104,0,[]⟩ .l) 940 ⟨0,105,0,[]⟩ (.n (.o 948 ⟨0,106,0,[(aX 0)]⟩) 963 ⟨2,109,0,[di,di]⟩ .l)) 970 ⟨2,109,1,[]⟩ (.n (.n (.o 977 ⟨2,109,2,[]⟩) 984 ⟨2,109,3,[]⟩ .l) 989 ⟨2,109,4,[]⟩ (.o 1003 ⟨0,110,0,[]⟩))) 1010 ⟨0,111,0,[]⟩ (.n (.n (.n (.o 1015 ⟨0,113,0,[]⟩) 1022 ⟨0,114,0,[]⟩ .l) 1029 ⟨0,115,0,[]⟩ (.n (.o 1036 ⟨0,116,0,[]⟩) 1043 ⟨0,117,0,[]⟩ .l)) 1048 ⟨0,118,0,[]⟩ (.n (.n (.o 1055 ⟨0,120,0,[]⟩) 1062 ⟨0,121,0,[]⟩ .l) 1067 ⟨0,122,0,[]⟩ (.o 1074 ⟨0,123,0,[]⟩))))) 1081 ⟨0,124,0,[]⟩ (.n (.n (.n (.n (.n (.o 1086 ⟨0,125,0,[]⟩) 1091 ⟨0,126,0,[]⟩ .l) 1098 ⟨0,127,0,[]⟩ (.n (.o 1112 ⟨2,132,0,[]⟩) 1119 ⟨2,132,1,[]⟩ .l)) 1126 ⟨2,132,2,[]⟩ (.n (.n (.o 1148 ⟨2,133,0,[di,di]⟩) 1153 ⟨2,133,1,[]⟩ .l) 1160 ⟨2,133,2,[]⟩ (.o 1167 ⟨2,133,3,[]⟩))) 1179 ⟨0,134,0,[]⟩ (.n (.n (.n (.o 1186 ⟨0,136,0,[]⟩) 1193 ⟨0,138,0,[]⟩ .l) 1200 ⟨0,139,0,[]⟩ (.n (.o 1207 ⟨0,140,0,[]⟩) 1214 ⟨0,141,0,[]⟩ .l)) 1221 ⟨0,143,0,[]⟩ (.n (.n (.o 1228 ⟨0,145,0,[]⟩) 1235 ⟨0,146,0,[]⟩ .l) 1242 ⟨0,148,0,[]⟩ (.o 1249 ⟨0,149,0,[]⟩)))) 1256 ⟨0,150,0,[]⟩ (.n (.n (.n (.n (.o 1263 ⟨0,151,0,[]⟩) 1270 ⟨0,152,0,[]⟩ .l) 1277 ⟨0,153,0,[]⟩ (.n (.o 1284 ⟨0,154,0,[]⟩) 1291 ⟨0,155,0,[]⟩ .l)) 1298 ⟨0,156,0,[]⟩ (.n (.n (.o 1303 ⟨0,157,0,[]⟩) 1308 ⟨0,159,0,[]⟩ .l) 1313 ⟨0,160,0,[]⟩ (.o 1318 ⟨0,161,0,[]⟩))) 1323 ⟨0,162,0,[]⟩ (.n (.n (.n (.o 1330 ⟨0,163,0,[]⟩) 1337 ⟨0,165,0,[]⟩ .l) 1342 ⟨0,166,0,[]⟩ (.n (.o 1356 ⟨2,167,0,[]⟩) 1361 ⟨2,167,1,[]⟩ .l)) 1375 ⟨0,168,0,[]⟩ (.n (.n (.o 1380 ⟨0,170,0,[]⟩) 1387 ⟨0,171,0,[]⟩ .l) 1392 ⟨0,173,0,[]⟩ (.o 1399 ⟨0,174,0,[]⟩))))))) 1404 ⟨0,176,0,[]⟩ (.n (.n (.n (.n (.n (.n (.n (.o 1409 ⟨0,178,0,[]⟩) 1423 ⟨2,180,0,[]⟩ .l) 1428 ⟨2,180,1,[]⟩ (.n (.o 1442 ⟨0,181,0,[]⟩) 1447 ⟨0,182,0,[]⟩ .l)) 1461 ⟨2,186,0,[]⟩ (.n (.n (.o 1466 ⟨2,186,1,[]⟩) 1487 ⟨2,187,0,[]⟩ .l) 1492 ⟨2,187,1,[]⟩ (.o 1513 ⟨2,188,0,[]⟩))) 1518 ⟨2,188,1,[]⟩ (.n (.n (.n (.o 1530 ⟨0,189,0,[]⟩) 1537 ⟨0,190,0,[]⟩ .l) 1542 ⟨0,192,0,[]⟩ (.n (.o 1549 ⟨0,193,0,[]⟩) 1556 ⟨0,194,0,[]⟩ .l)) 1563 ⟨0,195,0,[]⟩ (.n (.n (.o 1570 ⟨0,196,0,[]⟩) 1576 ⟨0,197,0,[(aX 0)]⟩ .l) 1583 ⟨0,198,0,[]⟩ (.o 1588 ⟨0,200,0,[]⟩)))) 1595 ⟨0,202,0,[]⟩ (.n (.n (.n (.n (.o 1602 ⟨0,203,0,[]⟩) 1610 ⟨0,207,0,[]⟩ .l) 1617 ⟨0,208,0,[]⟩ (.n (.o 1624 ⟨0,209,0,[]⟩) 1631 ⟨0,210,0,[]⟩ .l)) 1638 ⟨0,211,0,[]⟩ (.n (.n (.o 1652 ⟨2,214,0,[]⟩) 1659 ⟨2,214,1,[]⟩ .l) 1673 ⟨0,215,0,[]⟩ (.o 1680 ⟨0,216,0,[]⟩))) 1687 ⟨0,217,0,[]⟩ (.n (.n (.n (.o 1694 ⟨0,218,0,[]⟩) 1701 ⟨0,219,0,[]⟩ .l) 1709 ⟨0,220,0,[(aX 65536)]⟩ (.n (.o 1714 ⟨0,221,0,[]⟩) 1719 ⟨0,222,0,[]⟩ .l)) 1726 ⟨0,223,0,[]⟩ (.n (.n (.o 1731 ⟨0,224,0,[]⟩) 1736 ⟨0,225,0,[]⟩ .l) 1750 ⟨2,228,0,[]⟩ (.o 1757 ⟨2,228,1,[]⟩))))) 1764 ⟨2,228,2,[]⟩ (.n (.n (.n (.n (.n (.o 1769 ⟨2,228,3,[]⟩) 1774 ⟨2,228,4,[]⟩ .l) 1788 ⟨0,229,0,[]⟩ (.n (.o 1795 ⟨0,230,0,[]⟩) 1800 ⟨0,233,0,[]⟩ .l)) 1805 ⟨0,234,0,[]⟩ (.n (.n (.o 1810 ⟨0,236,0,[]⟩) 1817 ⟨0,237,0,[]⟩ .l) 1831 ⟨2,238,0,[]⟩ (.o 1838 ⟨2,238,1,[]⟩))) 1859 ⟨2,239,0,[]⟩ (.n (.n (.n (.o 1864 ⟨2,239,1,[]⟩) 1885 ⟨2,240,0,[]⟩ .l) 1892 ⟨2,240,1,[]⟩ (.n (.o 1906 ⟨0,241,0,[]⟩) 1913 ⟨0,242,0,[]⟩ .l)) 1920 ⟨0,243,0,[]⟩ (.n (.n (.o 1927 ⟨0,244,0,[]⟩) 1934 ⟨0,245,0,[]⟩ .l) 1941 ⟨0,246,0,[]⟩ (.o 1946 ⟨0,247,0,[]⟩)))) 1953 ⟨0,248,0,[]⟩ (.n (.n (.n (.n (.o 1958 ⟨0,249,0,[]⟩) 1965 ⟨0,251,0,[]⟩ .l) 1970 ⟨0,252,0,[]⟩ (.n (.o 1977 ⟨0,253,0,[]⟩) 1991 ⟨2,258,0,[]⟩ .l)) 1998 ⟨2,258,1,[]⟩ (.n (.n (.o 2005 ⟨2,258,2,[]⟩) 2019 ⟨0,259,0,[]⟩ .l) 2024 ⟨0,260,0,[]⟩ (.o 2031 ⟨0,261,0,[]⟩))) 2038 ⟨0,262,0,[]⟩ (.n (.n (.n (.o 2045 ⟨0,263,0,[]⟩) 2059 ⟨2,264,0,[]⟩ .l) 2064 ⟨2,264,1,[]⟩ (.n (.o 2076 ⟨0,265,0,[]⟩) 2081 ⟨0,266,0,[]⟩ .l)) 2087 ⟨0,267,0,[(aX 0)]⟩ (.n (.n (.o 2094 ⟨0,269,0,[]⟩) 2099 ⟨0,270,0,[]⟩ .l) 2114 ⟨2,271,0,[(vBool aj)]⟩ (.o 2121 ⟨2,271,1,[]⟩)))))) 2126 ⟨2,271,2,[]⟩ (.n (.n (.n (.n (.n (.n (.o 2146 ⟨2,272,0,[(vBool aj)]⟩) 2153 ⟨2,272,1,[]⟩ .l) 2158 ⟨2,272,2,[]⟩ (.n (.o 2172 ⟨0,273,0,[]⟩) 2179 ⟨0,274,0,[]⟩ .l)) 2186 ⟨0,276,0,[]⟩ (.n (.n (.o 2193 ⟨0,277,0,[]⟩) 2198 ⟨0,279,0,[]⟩ .l) 2205 ⟨0,280,0,[]⟩ (.o 2210 ⟨0,281,0,[]⟩))) 2217 ⟨0,282,0,[]⟩ (.n (.n (.n (.o 2224 ⟨0,283,0,[]⟩) 2231 ⟨0,284,0,[]⟩ .l) 2236 ⟨0,286,0,[]⟩ (.n (.o 2241 ⟨0,287,0,[]⟩) 2248 ⟨0,288,0,[]⟩ .l)) 2256 ⟨0,292,0,[]⟩ (.n (.n (.o 2263 ⟨0,293,0,[]⟩) 2270 ⟨0,294,0,[]⟩ .l) 2277 ⟨0,295,0,[]⟩ (.o 2284 ⟨0,296,0,[]⟩)))) 2291 ⟨0,297,0,[]⟩ (.n (.n (.n (.n (.o 2298 ⟨0,298,0,[]⟩) 2305 ⟨0,299,0,[]⟩ .l) 2312 ⟨0,308,0,[]⟩ (.n (.o 2319 ⟨0,309,0,[]⟩) 2326 ⟨0,310,0,[]⟩ .l)) 2333 ⟨0,311,0,[]⟩ (.n (.n (.o 2340 ⟨0,312,0,[]⟩) 2348 ⟨0,313,0,[(aX 10920)]⟩ .l) 2362 ⟨2,316,0,[]⟩ (.o 2367 ⟨2,316,1,[]⟩))) 2388 ⟨2,322,0,[]⟩ (.n (.n (.n (.o 2395 ⟨2,322,1,[]⟩) 2416 ⟨2,323,0,[]⟩ .l) 2421 ⟨2,323,1,[]⟩ (.n (.o 2442 ⟨2,324,0,[]⟩) 2449 ⟨2,324,1,[]⟩ .l)) 2470 ⟨2,325,0,[]⟩ (.n (.n (.o 2475 ⟨2,325,1,[]⟩) 2489 ⟨0,326,0,[]⟩ .l) 2496 ⟨0,327,0,[]⟩ (.o 2503 ⟨0,329,0,[]⟩))))) 2510 ⟨0,330,0,[]⟩ (.n (.n (.n (.n (.n (.o 2517 ⟨0,331,0,[]⟩) 2524 ⟨0,332,0,[]⟩ .l) 2529 ⟨0,333,0,[]⟩ (.n (.o 2534 ⟨0,334,0,[]⟩) 2539 ⟨0,335,0,[]⟩ .l)) 2546 ⟨0,336,0,[]⟩ (.n (.n (.o 2553 ⟨0,337,0,[]⟩) 2560 ⟨0,338,0,[]⟩ .l) 2567 ⟨0,339,0,[]⟩ (.o 2574 ⟨0,340,0,[]⟩))) 2579 ⟨0,341,0,[]⟩ (.n (.n (.n (.o 2584 ⟨0,342,0,[]⟩) 2589 ⟨0,343,0,[]⟩ .l) 2594 ⟨0,344,0,[]⟩ (.n (.o 2601 ⟨0,345,0,[]⟩) 2608 ⟨0,346,0,[]⟩ .l)) 2615 ⟨0,347,0,[]⟩ (.n (.n (.o 2620 ⟨0,348,0,[]⟩) 2627 ⟨0,349,0,[]⟩ .l) 2641 ⟨2,350,0,[]⟩ (.o 2648 ⟨2,350,1,[]⟩)))) 2660 ⟨0,351,0,[]⟩ (.n (.n (.n (.n (.o 2668 ⟨0,352,0,[(aX 0)]⟩) 2682 ⟨2,356,0,[]⟩ .l) 2689 ⟨2,356,1,[]⟩ (.n (.o 2695 ⟨4,356,2,[]⟩) 2709 ⟨0,357,0,[]⟩ .l)) 2716 ⟨0,358,0,[]⟩ (.n (.n (.o 2723 ⟨1,359,0,[]⟩) 2730 ⟨0,360,0,[]⟩ .l) 2737 ⟨1,361,0,[]⟩ (.o 2744 ⟨0,362,0,[]⟩))) 2751 ⟨1,363,0,[]⟩ (.n (.n (.n (.o 2758 ⟨3,364,1638,[]⟩) 2765 ⟨3,365,2291,[]⟩ .l) 2772 ⟨0,366,0,[]⟩ (.o 2779 ⟨1,367,0,[]⟩)) 2786 ⟨0,369,0,[]⟩ (.n (.n (.o 2793 ⟨0,370,0,[]⟩) 2800 ⟨1,371,0,[]⟩ .l) 2805 ⟨0,372,0,[]⟩ (.o 2810 ⟨1,373,0,[]⟩))))))))
end K
def KT:B4:=⟨λa=>K.Ub.find a,λa=>aB au (λd=>af (K.CK d)) (K.dT.find a),λa=>K.init.find a⟩
end
end
section
open PyProof.Rows PySem.Calls PySem.SeqAt PySem.W
section
noncomputable def CL:aN->Bool
 | .free=>aj
 |_=>ao
noncomputable def wu:Option aN->Bool
 |some .local=>ao
 |some .cell=>ao
 |_=>aj
def WL (sc:Scope) (names:List Str):Bool:=isFn sc.kind&&(!sc.isCoroutine&&(!sc.isGenerator&&(sc.names.all (λp=>bg p.1&&CL p.2)&&(!sr (nm "__debug__") sc.names&&(!sr (nm "__classdict__") sc.names&&(names.all (λx=>bg x&&wu (bf (nm x) sc.names))&&g9 (names.map nm)))))))
theorem OZ (e:bf x l=af k):sr x l=true:=by unfold sr;exact cR e rfl
theorem r5 (h:sr (nm y) l=aj) x k (e:bf (nm x) l=af k):(x==y)=false:=by
 induction hb:x==y using zB with
 |false=>rfl
 |true=>
  have a:x=y:=by simpa using hb
  subst a;rw [OZ e] at h;exact ft h
theorem u9 (h:wu o=ao):o=af .local\/o=af .cell:=by
 rcases o with _|k
 .exact ff h
 .rcases k<;>first|exact .inl rfl|exact .inr rfl|exact ff h
theorem GU (h:WL sc names=ao):Ot sc names:=by
 unfold WL at h;simp only [aP,gq,aK] at h;obtain⟨h1,h2,c,a,d,e,b,f⟩:=h;refine⟨?_,h2,c,λp hp=>(a p hp).1,λp hp q=> ?_,r5 d,r5 e,λx hx=>⟨(b x hx).1,u9 (b x hx).2⟩, ?_⟩
 .revert h1;generalize sc.kind=k;intro h1;rcases k<;>first|rfl|exact ff h1
 .have:=(a p hp).2;rw [q] at this;exact ff this
 .have g:=uR f;exact(wK.mp g).imp λh q=>h (congrArg nm q)
end
set_option backward.match.sparseCases false
section
def GV (v:V) (t s n:Nat):Bool:=ak v.t t&&(ak v.s s&&(ak v.n n&&(isNil v.l&&isNil v.xs)))
theorem qe (h:GV v t s n=ao):v=⟨t,s,n,[],[]⟩:=by
 unfold GV at h;simp only [aP] at h;obtain⟨h1,h2,a,b,c⟩:=h;obtain⟨d,vs,e,f,i⟩:=v;have j:d=t:=aH h1;have k:vs=s:=aH h2;have l:e=n:=aH a;subst j;subst k;subst l
 induction f using zL with
 |nil=>
  induction i using zL with
  |nil=>rfl
  |cons _ _=>exact ff c
 |cons _ _=>exact ff b
def YG (v:V):Value->Bool
 | .none=>GV v 0 0 0
 | .bool b=>GV v 1 0 (ah 0 1 b)
 | .int i _=>match i with
  | .ofNat n=>GV v 2 0 n
  | .negSucc n=>GV v 2 1 (n+1)
 |_=>aj
theorem Ma (h:YG v x=ao):VR X g w n v x:=by
 induction x using gk with
 |none=>exact cR (qe h) .none
 |bool b=>exact cR (qe h) (.bool b)
 |int i t=>
  rcases i with k|k
  .exact cR (qe h) (VR.mj (aZ k) t)
  .exact cR (qe h) (VR.mj (Int.negSucc k) t)
 |_=>exact ff h
def O0:List V->List Value->Bool
 |[],[]=>ao
 |v::vs,x::xs=>YG v x&&O0 vs xs
 |_,_=>aj
theorem GW {X:dw} {g:Heap} {w:Wd} {n:Nat}:∀{vs:List V} {xs:List Value},O0 vs xs=ao->ef X g w n vs xs
 |[],[],_=> .nil
 |v::vs,x::xs,h=>by
  have h:(YG v x&&O0 vs xs)=true:=h;rw [aP] at h;exact .cons _ _ _ _ (Ma h.1) (GW h.2)
 |[],_::_,h=>ff h
 |_::_,[],h=>ff h
def ji (a:Nat) (l:List Nat):Bool:=aS ao (λb U ih=>ah ih aj (ak a b)) l
theorem fW:∀{l},ji a l=ao->a∉l:=by
 intro l
 induction l with
 |nil=>
  intro _;exact λh=>(aU h).elim
 |cons b l c=>
  intro h;have h:(ah (ji a l) aj (ak a b):Bool)=true:=h
  induction hb:ak a b using zB with
  |true=>rw [hb] at h;exact ff h
  |false=>
   rw [hb] at h;intro hm;rcases aT.mp hm with rfl|hm
   .rw [fq] at hb;exact ft hb
   .exact c h hm
def codeB (g:Nat->Option Obj) (tabs:List Nat) (cd:Value) (q:Str):Bool:=match cd with
 | .ref c=>ji c tabs&&(match g c with
  |some o=>match o.data with
   | .fields vs=>match (vs[1]? :Option Value) with
    |some (.str q' _)=>q'==q
    |_=>aj
   |_=>aj
  |none=>aj)
 |_=>aj
def Mb (g:Nat->Option Obj) (tabs:List Nat) (d:Value) (ds:List V):Bool:=match d with
 | .none=>isNil ds
 | .ref t=>ji t tabs&&(match g t with
  |some o=>match o.data with
   | .seq vs _=>O0 ds vs.toList
   |_=>aj
  |none=>aj)
 |_=>aj
def Uc (lc:List (Str×aN)->Option (Addr×Str)) (fd:mu):Bool:=match lc fd.scope.names with
 |none=>ao
 |some p=>gC fd.scope.names||(fd.code== .ref p.1&&fd.qualname++".<locals>."==p.2)
def YH (g:Nat->Option Obj) (tabs:List Nat) (lc:List (Str×aN)->Option (Addr×Str)) (fd:mu) (names:List Str) (ds:List V):Bool:=
 WL fd.scope names&&(fd.closure.isEmpty&&(ak fd.globals mainNs&&(ak fd.builtins builtinsNs&&(Uc lc fd&&(fd.params.posonlyargs.isEmpty&&(fd.params.kwonlyargs.isEmpty&&(fd.params.vararg.isNone&&(fd.params.kwarg.isNone&&(bQ (len ds) names.length&&(Mb g tabs fd.defaults ds&&codeB g tabs fd.code fd.qualname))))))))))
section
variable {X:dw} {g:Nat->Option Obj}
theorem Mc (f:∀a o,g a=af o->X.h₀.get? a=af o) (h:codeB g X.tabs cd q=ao):∀w e s,St X w e s->s.heap.CodeRec cd q:=by
 intro w e s i
 induction cd using gk with
 |ref c=>
  refine aC (mW h) λh2 h1=> ?_
  induction b:g c using zO with
  |none=>rw [b] at h2;exact ff h2
  |some o=>
   rw [b] at h2
   induction d:o.data using mP with
   |fields vs=>
    dsimp only at h2;rw [d] at h2;dsimp only at h2
    induction hv:vs[1]? using zO with
    |none=>rw [hv] at h2;exact ff h2
    |some v=>
     rw [hv] at h2
     induction v using gk with
     |str j t=>exact uh c o vs t rfl (i.base c o (f c o b) (fW h1)) d ((show j=q by simpa using h2)▸hv)
     |_=>exact ff h2
   |_=>dsimp only at h2;rw [d] at h2;exact ff h2
 |_=>exact ff h
theorem IV (f:∀a o,g a=af o->X.h₀.get? a=af o) (h:Mb g X.tabs d ds=ao):∀w b s,St X w b s->∃od,(∀{M} {A} {E} {Q},Q od s->wpAny M A (se d) Q E s)/\ef X s.heap w b.n ds (od.getD #[]).toList:=by
 intro w b s i
 induction d using gk with
 |none=>
  refine bW au (λq=>av q) ?_
  induction ds using zL with
  |nil=>exact .nil
  |cons _ _=>exact ff h
 |ref t=>
  refine aC (mW h) λh2 h1=> ?_
  induction c:g t using zO with
  |none=>rw [c] at h2;exact ff h2
  |some o=>
   rw [c] at h2;dsimp only at h2
   induction e:o.data using mP with
   |seq vs n=>rw [e] at h2;exact bW (af vs) (λq=>dz (i.base t o (f t o c) (fW h1)) e q) (GW h2)
   |_=>rw [e] at h2;exact ff h2
 |_=>exact ff h
theorem O1 (h:Uc lc fd=ao):gC fd.scope.names=aj->∀c q,lc fd.scope.names=af (c,q)->fd.code= .ref c/\fd.qualname++".<locals>."=q:=by
 intro hl c q e;unfold Uc at h;rw [e,hl] at h;simp only [Bool.false_or,aP,beq_iff_eq] at h;exact h
theorem FO (e:∀a o,g a=af o->X.h₀.get? a=af o) (h:YH g X.tabs X.jL fd (fd.params.args.map (·.arg)) ds=ao):Vo X fd (fd.params.args.map (·.arg)) ds/\∀w f s,St X w f s->s.heap.CodeRec fd.code fd.qualname:=by
 unfold YH at h;simp only [aP] at h;obtain⟨h1,h2,i,j,k,l,m,n,p,b,c,d⟩:=h;refine⟨⟨GU h1,cZ.mp h2,aH i,aH j,O1 k,cZ.mp l,rfl,cZ.mp m,cT.mp n,cT.mp p, ?_,IV e c⟩,Mc e d⟩;have:=aA b;rw [len_eq] at this;exact this
end
end
section
def x8 (d:K.Ny):Stmt:=ah (ah (K.top d.i) (K.sD (K.u0 (K.top d.i)) d.j) (ak d.t 4)) (K.sD (K.u0 (K.top d.i)) d.j) (ak d.t 2)
noncomputable def rz:Stmt->Arguments
 | .FunctionDef _ a _ _ _ _ _ _ _ _=>a
 |_=>default
noncomputable def oK:Stmt->Scope
 | .FunctionDef _ _ _ _ _ _ sc _ _ _=>sc
 |_=>default
noncomputable def R9:Stmt->Bool
 | .FunctionDef .. =>ao
 |_=>aj
noncomputable def mH:Expr->Bool
 | .Lambda .. =>ao
 |_=>aj
def FP:List Stmt->Bool
 |[.Return (af (.Dict ks vs _)) _]=>ks.all (λk=>match k with|some e=> !mH e|none=>ao)&&vs.all λe=> !mH e
 |_=>ao
def xh (g:Nat->Option Obj) (tabs:List Nat) (lc:List (Str×aN)->Option (Addr×Str)) (ds:List V) (a:Nat):Option (FuncBody×Scope×Arguments×Bool):=match g a with
 |some o=>match o.data with
  | .func fd=>af (fd.body,fd.scope,fd.params,YH g tabs lc fd (fd.params.args.map (·.arg)) ds)
  |_=>au
 |none=>au
def zM (d:K.Ny):Option (FuncBody×Scope×Arguments×Bool):=af (.stmts (K.fnBody (x8 d)),oK (x8 d),rz (x8 d),ao)
section
variable {X:dw} {K':Frag} {g:Nat->Option Obj}
theorem nQ (e:xh g tabs lc ds a=zM d):∃o fd,g a=af o/\o.data= .func fd/\fd.body= .stmts (K.fnBody (x8 d))/\fd.scope=oK (x8 d)/\fd.params=rz (x8 d)/\YH g tabs lc fd (fd.params.args.map (·.arg)) ds=true:=by
 unfold xh at e;revert e
 induction c:g a using zO with
 |none=>exact λe=>fn e
 |some o=>
  dsimp only
  induction b:o.data using mP with
  |func fd=>
   intro e;have e:=aF e;exact⟨o,fd,rfl,b,congrArg eB e,congrArg (λx=>x.2.1) e,congrArg (λx=>x.2.2.1) e,congrArg (λx=>x.2.2.2) e⟩
  |_=>exact λe=>fn e
theorem Me {body} (h:FP body=ao):∀ks vs p c,body=[.Return (af (.Dict ks vs p)) c]->(∀e,af e∈ks->pJ X r n b ns e)/\∀e∈vs,pJ X r n b ns e:=by
 intro ks vs p c hb;subst hb;have h:(ks.all (λk=>match k with|some e=> !mH e|none=>ao)&&vs.all λe=> !mH e)=true:=h;simp only [aP,aK] at h;have d:∀e,(!mH e)=ao->pJ X r n b ns e:=λe he a f sc pos q=>by subst q;exact ff he
 exact⟨λe he=>d e (h.1 _ he),λe he=>d e (h.2 e he)⟩
theorem Ud (j:∀a o,g a=af o->X.h₀.get? a=af o) (B:Base X K' K.G K.Ms) (e:xh g X.tabs X.jL d.ds a=zM d) (y:ji a X.tabs=ao) (z:R9 (x8 d)=ao) (A:ak d.t 3=aj/\bQ d.t 4=ao)
 (hl:∀r n,Cf X r n->∀ks vs p L,K.fnBody (x8 d)=[.Return (af (.Dict ks vs p)) L]->(∀e,af e∈ks->pJ X r n 0 (oK (x8 d)).names e)/\∀e∈vs,pJ X r n 0 (oK (x8 d)).names e):
 ∃b names fd body,b<=190/\∀r n,Cf X r n->Zv X r n b a (K.CK d) names fd body:=by
 refine tB (nQ e) λo fd M D c h1 h2 l=>aC (FO j M) λE F=>⟨0,fd.params.args.map (·.arg),fd,K.fnBody (x8 d),iy _,λr n H=> ?_⟩;have s:∃f,x8 d=f/\(K.CK d=K.fnOf f d.ds\/K.CK d=K.YF f d.ds):=by
  refine bW _ rfl ?_;unfold K.CK x8;have i:∀{m k},ak d.t m=ao->m≠k->ak d.t k=false:=λ{m k} e q=>by
   induction h:ak d.t k using zB with
   |false=>rfl
   |true=>exact absurd ((aH e).symm.trans (aH h)) q
  induction u:ak d.t 0 using zB with
  |true=>refine cR (i u (k:=2) (Nat.zero_ne_add_one 1)) (cR (i u (k:=4) (Nat.zero_ne_add_one 3)) ?_);exact .inl rfl
  |false=>
   induction v:ak d.t 1 using zB with
   |true=>refine cR (i v (k:=2) (aY rfl)) (cR (i v (k:=4) (aY rfl)) ?_);exact .inr rfl
   |false=>
    induction N:ak d.t 2 using zB with
    |true=>exact .inl rfl
    |false=>
     induction O:ak d.t 4 using zB with
     |true=>exact .inr rfl
     |false=>
      have R:=fS u;have S:=fS v;have T:=fS N;have V:=fS A.1;have W:=fS O;exact absurd (aA A.2) (by lia)
 refine aL s λf hF w=> ?_;rw [w] at h1 h2 l z hl⊢
 induction f using eX with
 |FunctionDef P I J Q ret Y sc ts bi pos=>
  have C:=B.ctx (r:=r) (n:=n) (b:=0) H;rcases hF with hF|hF
  .exact cR hF (⟨(bW o (j a o D) c),fW y,F,h1,E,by show lY (λx=>nm x.arg) I.args=_;refine cR (p5 ..) (cR l (cR jE ?_));rfl,by refine cR h2 ?_;exact Lz C sc.names J (hl r n H)⟩)
  .exact cR hF (⟨(bW o (j a o D) c),fW y,F,h1,E,by show lY (λx=>nm x.arg) I.args=_;refine cR (p5 ..) (cR l (cR jE ?_));rfl,by refine cR h2 ?_;exact LB C sc.names J⟩)
 |_=>exact ff z
end
end
set_option backward.match.sparseCases true
section
def NT.list {α:Type} (t:NT α):List (Nat×α):=NT.rec [] (λU k v U ihl ihr=>ihl++(k,v)::ihr) t
theorem NT.jj:∀{t} {a} {v:α},NT.find t a=af v->(a,v)∈NT.list t:=by
 intro t
 induction t with
 |l=>exact λh=>fn h
 |n l k u r b c=>
  intro a v h;have h:(ah (ah (NT.find r a) (NT.find l a) (bI a k)) (af u) (ak a k):Option α)=af v:=h;refine(?_:(a,v)∈NT.list l++(k,u)::NT.list r)
  induction hb:ak a k using zB with
  |true=>
   rw [hb] at h;injection h with h;subst h
   exact cR (aH hb) (List.mem_append_right _ (aE ..))
  |false=>
   rw [hb] at h
   induction hl:bI a k using zB with
   |true=>rw [hl] at h;exact List.mem_append_left _ (b h)
   |false=>rw [hl] at h;exact List.mem_append_right _ (aD _ (c h))
theorem zP:∀{l} {v:α},find x l=af v->(x,v)∈l:=by
 intro l
 induction l with
 |nil=>
  intro v h;exact fn h
 |cons p l b=>
  intro v h;rw [eU] at h;by_cases hb:x=p.1
  .rw [if_pos hb] at h;injection h with h;subst h
   refine cR hb ?_;exact aE ..
  .rw [if_neg hb] at h;exact aD _ (b h)
def ZI (n:Nat):Nat->List Nat:=gJ (λU=>[]) (λU ih k=>ah (kg k 128::ih (g7 k 128)) [] (ak k 0)) n
def strOf (k:Nat):Str:=⟨(ZI 60 k).toArray⟩
def isName (k:Nat):Bool:=bg (strOf k)&&ak (nm (strOf k)) k
theorem Bp (h:isName k=ao) (hx:bg x=ao) (e:nm x=k):strOf k=x:=by
 unfold isName at h;rw [aP] at h;exact gR h.1 hx ((aH h.2).trans e.symm)
theorem IW (hx:bg x=ao):nm x %128≠1/\nm x %128≠2:=by
 have hx:qL x.cps.toList=true:=hx;refine(?_:JA x.cps.toList %128≠1/\JA x.cps.toList %128≠2)
 induction h:x.cps.toList using zL with
 |nil=>exact⟨by decide,by exact aY rfl⟩
 |cons c r=>
  rw [h] at hx;have hx:(ah aj (ah aj (qL r) (bI 2 c)) (bI c 128):Bool)=true:=hx;have e:JA (c::r)=c+128*JA r:=rfl
  induction h1:bI c 128 using zB with
  |false=>rw [h1] at hx;exact ff hx
  |true=>
   rw [h1] at hx;have h1:=cH.mp h1
   induction h2:bI 2 c using zB with
   |false=>rw [h2] at hx;exact ff hx
   |true=>have h2:=cH.mp h2;lia
def Mf (p:Nat×List (Nat×Nat)):Bool:=match kg p.1 128 with
 |1=>isName (g7 p.1 128)
 |2=>ao
 |_=>isName p.1
def FQ (F:Frag) (C:Nat) (p:Nat×List (Nat×Nat)):Bool:=match kg p.1 128 with
 |1=>p.2.all λq=>ah ao (KR F q.1 (strOf (g7 p.1 128))) (ak q.1 C)
 |2=>ao
 |_=>p.2.all λq=>ah ao (GG F q.1 (strOf p.1) q.2) (ak q.1 C)
section
variable {X:dw} {K':Frag}
theorem GX (h:find c (K.Ms k)=af v):∃l,(k,l)∈NT.list K.ms/\(c,v)∈l:=by
 have e:K.Ms k=aB [] (λl=>l) (NT.find K.ms k):=rfl
 induction a:NT.find K.ms k using zO with
 |none=>rw [e,a] at h;exact fn h
 |some l=>rw [e,a] at h;exact bW l (NT.jj a) (zP h)
theorem WM (hn:(NT.list K.ms).all Mf=ao) (hc:∀p∈NT.list K.ms,∀q∈p.2,∃F,Fi X F/\FQ F q.1 p=ao):∀x,bg x=ao->Cg X K' (K.Ms (nm x)) x:=by
 intro x hx;refine⟨λc g hf=>(dM (GX hf) λl hm hcg=> ?_)⟩;have hb1:=aK.mp hn _ hm;refine aL (hc _ hm _ hcg) λF hb hF=>f7 (IW hx) λm1 m2=> ?_;unfold Mf at hb1;unfold FQ at hb;split at hb
 .rename_i q;exact absurd q m1
 .rename_i q;exact absurd q m2
 .split at hb1
  .rename_i q;exact absurd q m1
  .rename_i q;exact absurd q m2
  .have hb2:=aK.mp hb _ hcg;rw [fq,Bp hb1 hx rfl] at hb2;exact bW F hF hb2
theorem WN (hn:(NT.list K.ms).all Mf=ao) (hc:∀p∈NT.list K.ms,∀q∈p.2,∃F,Fi X F/\FQ F q.1 p=ao):∀x,bg x=ao->∀c,find c (K.Ms (aG (cM (nm x) 128) 1))≠au->∃F,Fi X F/\KR F c x=true:=by
 intro x hx c hf
 induction hv:find c (K.Ms (aG (cM (nm x) 128) 1)) using zO with
 |none=>exact absurd hv hf
 |some v=>
  refine dM (GX hv) λl hm hcg=> ?_;have hb1:=aK.mp hn _ hm;refine aL (hc _ hm _ hcg) λF hb hF=> ?_;have hmod:kg (aG (cM (nm x) 128) 1) 128=1:=by show(nm x*128+1) %128=1;lia
  have hdiv:g7 (aG (cM (nm x) 128) 1) 128=nm x:=by show(nm x*128+1)/128=nm x;lia
  unfold Mf at hb1;unfold FQ at hb;dsimp only at hb hb1;rw [hmod,hdiv] at hb hb1;have hb2:=hb;have hb2:=aK.mp hb2 _ hcg;dsimp only at hb2;rw [fq,Bp hb1 hx rfl] at hb2;exact bW F hF hb2
end
end
section
theorem Mg {a b:Type} {f g:a->b}:∀{l:List a},l.map f=l.map g->∀x∈l,f x=g x:=by
 intro l
 induction l with
 |nil=>
  intro _ x hx;exact(aU hx).elim
 |cons y l c=>
  intro h x hx;rw [dG,dG] at h;injection h with h1 h2
  rcases aT.mp hx with rfl|hx
  .exact h1
  .exact c h2 x hx
end
set_option backward.match.sparseCases false
section
noncomputable def dictOf (o:Obj):List aV:=match o.data with
 | .dict es _=>es.toList
 |_=>[]
noncomputable def GY (o:Obj):Bool:=match o.data with
 | .dict _ _=>ao
 |_=>aj
def keyOk (e:aV):Bool:=match e.key with
 | .str s _=>bg s
 |_=>aj
def Ek (k:Nat) (e:aV):Bool:=match e.key with
 | .str s _=>ak (nm s) k
 |_=>aj
def Nz (k:Nat) (l:List aV):Option Value:=aS au (λe U ih=>ah ih (af e.val) (Ek k e)) l
set_option tactic.hygienic true in
theorem Ue (hx:bg x=ao):∀{l},l.all keyOk=ao->(l.find? λe=>e.key.isStr x).map (·.val)=Nz (nm x) l:=by
 intro l
 induction l with
 |nil=>
  intro _;exact rfl
 |cons e l a=>
  intro h;rw [iz,aP] at h;have hk:e.key.isStr x=Ek (nm x) e:=by
   have h1:=h.1;unfold keyOk at h1;unfold Ek;split at h1
   .rename_i s t b;refine cR b ((?_:(s==x)=ak (nm s) (nm x)))
    induction hb:ak (nm s) (nm x) using zB with
    |true=>refine cR (gR h1 hx (aH hb)) ?_;exact beq_self_eq_true _
    |false=>exact beq_eq_false_iff_ne.mpr λq=>fS hb (cR q rfl)
   .exact ff h1
  have c:Nz (nm x) (e::l)=ah (Nz (nm x) l) (af e.val) (Ek (nm x) e):=rfl;refine cR c (cR (List.find?_cons) (cR hk ?_))
  induction Ek (nm x) e using zB with
  |true=>rfl
  |false=>exact(a h.2)
def Sb (o:Obj):Bool:=GY o&&(dictOf o).all keyOk
set_option tactic.hygienic true in
theorem Bq {h:Heap} {a:Nat} (d:h.get? a=af o) (hb:Sb o=ao):∃m,h.Ns a m/\∀x,bg x=ao->m x=Nz (nm x) (dictOf o):=by
 unfold Sb at hb;rw [aP] at hb;obtain⟨h1,h2⟩:=hb;unfold GY at h1;split at h1
 .rename_i b ep c;have hl:dictOf o=b.toList:=by unfold dictOf;exact cR c rfl
  rw [hl] at h2;refine bW (nsFind b) (ug o b ep d c (λe he=> ?_) (λi=>rfl)) (λx hx=> ?_)
  .have:=aK.mp h2 e (mw.mpr he);unfold keyOk at this;split at this
   .rename_i s t f;exact Vh s t f
   .exact ff this
  .refine cR hl (cL (Ue hx h2) ?_);unfold nsFind findBy;exact cL (Array.find?_toList) rfl
 .exact ff h1
def Ug (g:Nat->Option Obj) (tabs:List Nat) (f:V->Value->Bool) (xs:List V) (a:Nat):Bool:=ji a tabs&&(match g a with
 |some o=>match o with
  |⟨c,d,dt,sl⟩=>match dt with
   | .seq items ep=>c== .type "tuple"&&(d.isNone&&(sl.isEmpty&&(bQ items.size 1000000&&aS (λl=>aS ao (λU U U=>aj) l) (λv U ih l=>aS aj (λx r U=>f v x&&ih r) l) xs items.toList)))
   |_=>aj
 |none=>aj)
def El (g:Nat->Option Obj) (tabs:List Nat) (ih:V->Value->Bool) (v:V) (y:Value):Bool:=match y with
 | .str s _=>ak v.t 3&&(ak v.s 0&&(ak v.n 0&&(qj v.l s.cps.toList&&(isNil v.xs&&bQ (len v.l) 1000000))))
 | .ref a=>GV v 7 0 a||(GV v 8 0 a||(ak v.t 5&&(ak v.s 0&&(ak v.n 0&&(isNil v.l&&Ug g tabs ih v.xs a)))))
 | .builtin i=>GV v 9 0 v.n&&(oE v.n== .builtin i)
 | .type i=>GV v 9 0 v.n&&(oE v.n== .type i)
 |y=>YG v y
def vG (g:Nat->Option Obj) (tabs:List Nat) (n:Nat):V->Value->Bool:=gJ (λU U=>aj) (λU ih=>El g tabs ih) n
theorem GZ (h:qj x y=ao):x=y:=of_decide_eq_true ((tF x y).symm.trans h)
theorem zQ (h:isNil l=ao):l=[]:=by induction l using zL with|nil=>rfl|cons _ _=>exact ff h
section
variable {X:dw} {g:Nat->Option Obj} {w:Wd} {h:H} {s:Shared}
theorem vMk {v:V} {t:Nat} (h1:ak v.t t=ao) (h2:ak v.s 0=ao) (d:ak v.n 0=ao):v=⟨t,0,0,v.l,v.xs⟩:=by
 obtain⟨a,b,c,l,x⟩:=v;obtain rfl:a=t:=aH h1;obtain rfl:b=0:=aH h2;obtain rfl:c=0:=aH d;rfl
theorem Uh {g} {f:V->Value->Bool} (c:∀{v y},f v y=ao->VR X g w m v y):∀{l},(aS (λl=>aS ao (λa a a=>aj) l) (λv a b l=>aS aj (λx r a=>f v x&&b r) l) xs l:Bool)=ao->ef X g w m xs l:=by
 induction xs with
 |nil=>intro l h;rcases l with _|⟨x,l⟩;exact .nil;exact ff h
 |cons v xs b=>
  intro l h;rcases l with _|⟨x,l⟩
  .exact ff h
  .exact e2 h λh1 h2=> .cons _ _ _ _ (c h1) (b h2)
theorem O2 (n:∀a o,g a=af o->X.h₀.get? a=af o) (j:St X w h s) (p:∀{v y},f v y=ao->VR X s.heap w m v y) (e:Ug g X.tabs f xs a=ao):VR X s.heap w m (dJ xs) (.ref a):=by
 refine e2 e λk b=> ?_;clear e;revert b
 induction r:g a using zO with
 |none=>exact λb=>ff b
 |some o=>
  obtain⟨c,d,t,u⟩:=o;dsimp only
  induction t using mP with
  |seq items ep=>
   intro b;refine e2 b λx b=>e2 b λz b=>e2 b λA b=>e2 b λB C=> ?_;obtain rfl:c= .type "tuple":=beq_iff_eq.mp x;obtain rfl:d=none:=cT.mp z;obtain rfl:u= #[]:=Array.isEmpty_iff.mp A;have l:=n a _ r;have D:w.role a=none:=by
    induction q:w.role a using zO with
    |none=>rfl
    |some i=>exact absurd (bk l) (bD.mpr (j.lim a i q).2.1)
   exact .tup xs a items ep D (fW k) (j.base a _ l (fW k)) (aA B) (Uh p C)
  |_=>exact λb=>ff b
theorem Mh (l:∀a o,g a=af o->X.h₀.get? a=af o) (p:St X w h s) m n:∀{v} {y},vG g X.tabs n v y=ao->VR X s.heap w m v y:=by
 induction n with
 |zero=>exact λe=>ff e
 |succ n r=>
  intro v y e;replace e:El g X.tabs (vG g X.tabs n) v y=true:=e
  induction y using gk with
  |str q t=>
   refine e2 e λc e=>e2 e λd e=>e2 e λj e=>e2 e λf e=>e2 e λk u=> ?_;have hv:v=vStr q.cps.toList:=(vMk c d j).trans (by rw [GZ f,zQ k];rfl);exact cR hv (VR.str q.cps.toList t (by have:=aA u;rwa [len_eq,GZ f] at this))
  |ref a=>
   rcases cD.mp e with e|e
   .exact cR (qe e) (.fn a)
   rcases cD.mp e with e|e
   .exact cR (qe e) (.cls a)
   refine e2 e λc e=>e2 e λd e=>e2 e λj e=>e2 e λf k=> ?_;have hv:v=dJ v.xs:=(vMk c d j).trans (by rw [zQ f];rfl);exact cR hv (O2 l p r k)
  |builtin i=>exact e2 e λc d=>cR (qe c) (cL (beq_iff_eq.mp d) (.bi _))
  |type i=>exact e2 e λc d=>cR (qe c) (cL (beq_iff_eq.mp d) (.bi _))
  |_=>exact Ma e
def gB (m b:List aV) (tg:List (Nat×Nat)) (p:Nat×V):Bool:=isName p.1&&(match Nz p.1 m with
 |some y=>vG (λU=>au) [] 5 p.2 y||(match y with| .ref a=>tg.any λq=>ak q.1 p.1&&ak q.2 a|_=>aj)
 |none=>match Nz p.1 b with
  |some y=>vG (λU=>au) [] 5 p.2 y
  |none=>aj)
theorem O3 (hm:X.h₀.get? mainNs=af om) (hb:X.h₀.get? builtinsNs=af ob) (k:Sb om=ao) (l:Sb ob=ao) (m:ji mainNs X.tabs=ao) (r:ji builtinsNs X.tabs=ao)
 (t:(NT.list K.glob).all (gB (dictOf om) (dictOf ob) u)=ao) (ht:∀q∈u,∃g:Nat->Option Obj,(∀a o,g a=af o->X.h₀.get? a=af o)/\∀v,NT.find K.glob q.1=af v->vG g X.tabs 5 v (.ref q.2)=ao):jQ X K.G:=by
 obtain⟨z,A,f⟩:=Bq hm k;obtain⟨B,C,D⟩:=Bq hb l;have nil:∀n v y,vG (λb=>au) [] n v y=ao->vG (λb=>au) X.tabs n v y=true:=by
  intro n
  induction n with
  |zero=>intro v y h;exact ff h
  |succ n F=>
   intro v y h;replace h:El (λb=>au) [] (vG (λb=>au) [] n) v y=true:=h;refine(?_:El (λb=>au) X.tabs (vG (λb=>au) X.tabs n) v y=ao);unfold El Ug at h⊢;rcases y<;>first|exact h|skip
   simpa using h
 refine⟨λw I s c x v hx e=> ?_⟩;have hm:=aK.mp t _ (NT.jj e);unfold gB at hm;rw [aP] at hm;have hm:=hm.2;refine Vh z B ?_;have i:=uG A λo e=>c.base _ o e (fW m);have j:=uG C λo e=>c.base _ o e (fW r);dsimp only at hm
 induction q:Nz (nm x) (dictOf om) using zO with
 |some y=>
  rw [q] at hm;refine qG y i j (.inl ((f x hx).trans q)) (λn=> ?_);rcases cD.mp hm with hm|hm
  .exact Mh (λb o e=>fn e) c n 5 (nil 5 v y hm)
  .induction y using gk with
   |ref a=>
    refine dM (iJ.mp hm) λp hq hk=> ?_;rw [aP] at hk;exact dM (ht _ hq) λg E hv=>aH hk.2▸Mh E c n 5 (hv v ((aH hk.1).symm▸e))
   |_=>exact ff hm
 |none=>
  rw [q] at hm
  induction d:Nz (nm x) (dictOf ob) using zO with
  |some y=>rw [d] at hm;exact qG y i j (.inr ⟨(f x hx).trans q,(D x hx).trans d⟩) (λn=>Mh (λb o e=>fn e) c n 5 (nil 5 v y hm))
  |none=>rw [d] at hm;exact ff hm
end
end
section
def Al (i:Nat):List (Str×aN):=(oK (K.top i)).names
def WO (ns:List (Str×aN)):List Nat:=lY (λp=>nm p.1) ns
structure Mk where
 i:Nat
 c:Nat
 P:Nat
 q:String
noncomputable def O4:List Mk:=[⟨360,2729,2725,"known_readers"⟩,⟨364,2757,2753,"gsub_octets"⟩,⟨365,2764,2760,"gpos_octets"⟩,⟨366,2771,2767,"known_writers"⟩]
def ZJ (k:List Nat) (l:List Mk):Option (Addr×Str):=aS au (λm U ih=>ah ih (af (m.c,(bY m.q)++".<locals>.")) (qj k (WO (Al m.i)))) l
def O5 (ns:List (Str×aN)):Option (Addr×Str):=ZJ (WO ns) O4
noncomputable def iK:List Nat:=[2725,2753,2760,2767]
def mZ (i k:Nat):Expr:=K.Ej (K.lams (K.u7 (K.fnBody (K.top i)))) k
def ju:List (Nat×Expr):=[(9519104,mZ 360 0),(9523200,mZ 360 1),(9629696,mZ 366 0),(9633792,mZ 366 1)]
noncomputable def O6 (i:String):Str:=(bY i)++".<locals>."++"<lambda>"
def CM (P line col:Nat):Option Str:=ah (ah (ah (ah au (af (O6 "known_writers")) (ak P 2767)) (af (O6 "gpos_octets")) (ak P 2760)) (af (O6 "gsub_octets")) (ak P 2753)) (af (O6 "known_readers")) (ak P 2725)
def Sd (j:Nat) (fd:mu):Prop:=∃a b sc pos q pm cv ctv,find j ju=af (.Lambda a b sc pos)/\fd=kla_fn "<lambda>" q a b sc [] pm cv ctv
def kP (w:World) (h:Heap):dw:=⟨K.prog,w,h,iK,Sd,λc x=>∃F:Frag,(∀a o,F.lookup a=af o->h.get? a=af o/\a∉iK)/\KR F c x=ao,CM,O5⟩
def x9 (sc:Scope):Bool:=sc.names.all λp=>CL p.2
def Mi (e:Expr):Bool:=match e with
 | .Lambda a b sc pos=>WL sc (a.args.map (·.arg))&&(a.posonlyargs.isEmpty&&(a.kwonlyargs.isEmpty&&(a.vararg.isNone&&(a.kwarg.isNone&&(a.defaults.isEmpty&&(a.kw_defaults.isEmpty&&(gC sc.names&&x9 sc)))))))
 |_=>aj
theorem sY (h1:a.defaults=[]) (h2:a.kw_defaults=[]) env:defaultsOf a env=([],[]):=by
 obtain⟨b,c,d,e,f,h,i⟩:=a;subst h1;subst h2;rfl
theorem CN (h:x9 sc=ao) env:closureFor sc env=pure []:=by
 have e:closureFor sc env=(forIn sc.names ([]:List (Str×Addr)) (λ(x,k) b=>if k== .free then(do let a<-cellOf env x;pure (dI ((x,a)::b))) else pure (dI b))>>=λb=>pure b):=rfl;have c:∀(l:List (Str×aN)),l.all (λp=>CL p.2)=ao->(forIn l ([]:List (Str×Addr)) (λ(x,k) b=>if k== .free then(do let a<-cellOf env x;pure (dI ((x,a)::b))) else pure (dI b)):Sem (List (Str×Addr)))=pure []:=by
  intro l
  induction l with
  |nil=>intro _;exact jx
  |cons p l d=>
   intro hl;obtain⟨x,k⟩:=p;rw [iz,aP] at hl;have hk:(k==lu)=false:=by
    rcases k<;>first|rfl|exact ff hl.1
   refine cR (dO ..) ?_;dsimp only;refine cR hk ((?_:(forIn l ([]:List (Str×Addr)) _:Sem _)=_));exact d hl.2
 refine cR e (cR (c _ h) ?_);rfl
section
variable {X:dw} {Kf:Frag} {w:World} {h₀:Heap} {g:Nat->Option Obj}
theorem Br (h:Mi (.Lambda a b sc pos)=ao):Ot sc (a.args.map (·.arg))/\a.posonlyargs=[]/\a.kwonlyargs=[]/\a.vararg=au/\a.kwarg=au/\a.defaults=[]/\a.kw_defaults=[]/\gC sc.names=ao/\x9 sc=true:=by
 have h:(WL sc (a.args.map (·.arg))&&(a.posonlyargs.isEmpty&&(a.kwonlyargs.isEmpty&&(a.vararg.isNone&&(a.kwarg.isNone&&(a.defaults.isEmpty&&(a.kw_defaults.isEmpty&&(gC sc.names&&x9 sc))))))))=true:=h;simp only [aP] at h;exact Zg h λh1 h2 c d e f i j k=>⟨GU h1,cZ.mp h2,cZ.mp c,cT.mp d,cT.mp e,cZ.mp f,cZ.mp i,j,k⟩
theorem O7 (B:Base (kP w h₀) Kf K.G K.Ms) (hl:ju.all (λq=>Mi q.2)=ao) (d:find j ju=af e) (h:L=K.L7 e):∃b names body,b<=190/\∀fd,(kP w h₀).lam j fd->∀r n,Cf (kP w h₀) r n->Tv (kP w h₀) r n b L fd names body:=by
 have hb:Mi e=true:=aK.mp hl _ (zP d)
 induction e using aR with
 |Lambda a b sc pos=>
  refine Zg (Br hb) λi k l m o z A p C=>⟨0,a.args.map (·.arg),b,iy _,λfd c r n t=> ?_⟩;obtain⟨D,E,u,f,q,F,H,v,y,rfl⟩:=c;cases d.symm.trans y;subst h;refine⟨⟨i,rfl,rfl,rfl,λq=>absurd p (cR q bZ),k,rfl,l,m,o,iy _,λw I s J=>(bW au (λq=>av q) .nil)⟩,rfl, ?_,(iA (B.ctx t) 30).e sc.names b⟩;refine(?_:lY (λx=>nm x.arg) a.args=_);refine cR (p5 ..) (cR jE ?_);rfl
 |_=>exact ff hb
theorem Mj (u:bw X) {m:Mk} (d:gC (Al i)=aj) (v:X.jL (Al i)=af (m.c,qq)) (x:m.P∈X.tabs) (l:∀w h s,St X w h s->CodeHd s.heap m.c m.P)
 (o:∀w h s,St X w h s->∃t,s.heap.Ns g8 t/\s.heap.BuiltinsAt t m.P) (p:g8≠m.P) (f:∀j fd,X.lam j fd=Sd j fd) {e} (hb:mH e=ao->Mi e=ao)
 (k:∀a b sc pos,e= .Lambda a b sc pos->find (aG (cM pos.line 4096) pos.col) ju=af e/\X.ql m.P pos.line pos.col=af (qq++"<lambda>")):pJ X r n 0 (Al i) e:=by
 intro a b sc pos he;subst he;refine Zg (Br (hb rfl)) λF G H I J y z K A=>f7 (k _ _ _ _ rfl) λB C=> ?_;exact cQ.lam u pos d v rfl x l C o p (sY y z) (CN A) λD E q=>by
  refine cR (f ..) ?_;exact⟨a,b,sc,pos,_,D,E,q,B,rfl⟩
end
end
section
def rxE (b:List Stmt):Expr:=match K.sD b 0 with
 | .Return (af e) _=>e
 |_=> .Constant .none 0 default
def rxP (b:List Stmt):Pos:=match K.sD b 0 with
 | .Return _ p=>p
 |_=>default
noncomputable def cF:Expr->Expr
 | .Call f _ _ _=>f
 |e=>e
def lI (k:Nat):Expr->Expr
 | .Call _ a _ _=>K.Ej a k
 |e=>e
noncomputable def cP:Expr->Pos
 | .Call _ _ _ p=>p
 |_=>default
noncomputable def nS:Expr->Str
 | .Name x _=>x
 |_=>⟨#[]⟩
noncomputable def nP:Expr->Pos
 | .Name _ p=>p
 | .Constant _ _ p=>p
 |_=>default
noncomputable def kN:Expr->Nat
 | .Constant _ k _=>k
 |_=>0
noncomputable def ZK:Expr->Arguments
 | .Lambda a _ _ _=>a
 |_=>default
noncomputable def laB:Expr->Expr
 | .Lambda _ b _ _=>b
 |e=>e
noncomputable def O8:Expr->Scope
 | .Lambda _ _ s _=>s
 |_=>default
noncomputable def FT:Expr->Pos
 | .Lambda _ _ _ p=>p
 |_=>default
def trB (b:List Stmt):List Stmt:=match K.sD b 0 with
 | .Try b _ _ _ _=>b
 |_=>[]
def trH (b:List Stmt):List kU:=match K.sD b 0 with
 | .Try _ h _ _ _=>h
 |_=>[]
def trP (b:List Stmt):Pos:=match K.sD b 0 with
 | .Try _ _ _ _ p=>p
 |_=>default
def hdH (l:List kU):kU:=aS (.ExceptHandler au au [] default) (λh U U=>h) l
def tlH (l:List kU):List kU:=aS [] (λU t U=>t) l
def pB (i:Nat):List Stmt:=K.fnBody (K.top i)
def pE (i:Nat):Expr:=rxE (pB i)
def sE (i:Nat):Expr:=lI 0 (pE i)
def wz (i:Nat):Expr:=laB (sE i)
def lB:List Stmt:=K.fnBody (K.top 362)
def lE:Expr:=rxE (trB lB)
def Se (a:Arguments) (sc:Scope) (x0:Str):Bool:= !sc.isCoroutine&&(!sc.isGenerator&&(isFn sc.kind&&(gC sc.names&&(!sr (nm "__classdict__") sc.names&&(!sr (nm "__debug__") sc.names&&(a.posonlyargs.isEmpty&&(a.kwonlyargs.isEmpty&&(a.vararg.isNone&&(a.kwarg.isNone&&(a.defaults.isEmpty&&a.kw_defaults.isEmpty))))))))))
structure Ml (i m Fp:Nat) (mk:Mk):Prop where
 text:pB i=[.Return (af (.Call (.Name (nS (cF (pE i))) (nP (cF (pE i)))) [.Lambda (ZK (sE i)) (.Call (.Name (nS (cF (wz i))) (nP (cF (wz i)))) [.Name (nS (lI 0 (wz i))) (nP (lI 0 (wz i))),.Name (nS (lI 1 (wz i))) (nP (lI 1 (wz i))),.Name (nS (lI 2 (wz i))) (nP (lI 2 (wz i)))] [] (cP (wz i))) (O8 (sE i)) (FT (sE i)),.Name (nS (lI 1 (pE i))) (nP (lI 1 (pE i)))] [] (cP (pE i)))) (rxP (pB i))]
 args:(rz (K.top i)).args.map (·.arg)=[nS (lI 0 (wz i)),nS (cF (wz i))]
 b1:(bg (nS (lI 0 (wz i)))&&(bg (nS (cF (wz i)))&&(bg (nS (cF (pE i)))&&(bg (nS (lI 1 (pE i)))&&(bg (nS (lI 2 (wz i)))&&(bg (nS (lI 1 (wz i)))&&(!ak (nm (nS (cF (wz i)))) (nm (nS (lI 0 (wz i))))&&(!gC (Al i)&&(Se (ZK (sE i)) (O8 (sE i)) (nS (lI 2 (wz i)))&&lO (Al i) (O8 (sE i)).names)))))))))=ao
 ka:bf (nm (nS (lI 0 (wz i)))) (Al i)=af .cell
 kb:bf (nm (nS (cF (wz i)))) (Al i)=af .cell
 kl:bf (nm (nS (cF (pE i)))) (Al i)=af .globalImplicit
 ke:bf (nm (nS (lI 1 (pE i)))) (Al i)=af .globalImplicit
 gL:K.G (nS (cF (pE i)))=af (bM 2744)
 gE:K.G (nS (lI 1 (pE i)))=af (aX m)
 gF:K.G (nS (lI 1 (wz i)))=af (bM Fp)
 hc:O5 (Al i)=af (mk.c,(bY mk.q)++".<locals>.")
 hla:CM mk.P (FT (sE i)).line (FT (sE i)).col=af ((bY mk.q)++".<locals>."++"<lambda>")
 sp:(ZK (sE i)).args.map (·.arg)=[nS (lI 2 (wz i))]
 s0:bf (nm (nS (lI 2 (wz i)))) (O8 (sE i)).names=af .local
 s0':(O8 (sE i)).names.lookup (nS (lI 2 (wz i)))=af .local
 sA:bf (nm (nS (lI 0 (wz i)))) (O8 (sE i)).names=af .free
 sB:bf (nm (nS (cF (wz i)))) (O8 (sE i)).names=af .free
 sF:bf (nm (nS (lI 1 (wz i)))) (O8 (sE i)).names=af .globalImplicit
structure WQ:Prop where
 text:lB=[.Try [.Return (af (.Call (.Name (nS (cF lE)) (nP (cF lE))) [.Constant (.int 0) (kN (lI 0 lE)) (nP (lI 0 lE))] [] (cP lE))) (rxP (trB lB))] (hdH (trH lB)::tlH (trH lB)) [] [] (trP lB)]
 args:(rz (K.top 362)).args.map (·.arg)=[nS (cF lE),"extension"]
 pW:bg (nS (cF lE))=ao
 kW:wu (bf (nm (nS (cF lE))) (Al 362))=ao
theorem G0:WQ:=⟨by kernel_rfl,by kernel_rfl,by kernel_rfl,by kernel_rfl⟩
theorem O9:Ml 364 7 1638 ⟨364,2757,2753,"gsub_octets"⟩:=⟨by kernel_rfl,by kernel_rfl,by kernel_rfl,by kernel_rfl,by kernel_rfl,by kernel_rfl,by kernel_rfl,by kernel_rfl,by kernel_rfl,by kernel_rfl,by kernel_rfl,by kernel_rfl,by kernel_rfl,by kernel_rfl,by kernel_rfl,by kernel_rfl,by kernel_rfl,by kernel_rfl⟩
theorem Pa:Ml 365 9 2291 ⟨365,2764,2760,"gpos_octets"⟩:=⟨by kernel_rfl,by kernel_rfl,by kernel_rfl,by kernel_rfl,by kernel_rfl,by kernel_rfl,by kernel_rfl,by kernel_rfl,by kernel_rfl,by kernel_rfl,by kernel_rfl,by kernel_rfl,by kernel_rfl,by kernel_rfl,by kernel_rfl,by kernel_rfl,by kernel_rfl,by kernel_rfl⟩
section
variable {X:dw} {g g2:Nat->Option Obj} {i m Fp a:Nat} {mk:Mk}
theorem G1 (S:Ml i m Fp mk) (z:∀a o,g a=af o->X.h₀.get? a=af o) (b:∀a o,g2 a=af o->X.h₀.get? a=af o) (j:X.jL=O5) (hla:X.ql=CM) (hP:mk.P∈X.tabs) (YE:∀w h s,St X w h s->CodeHd s.heap mk.c mk.P) (hbm:∀w h s,St X w h s->∃A,s.heap.Ns g8 A/\s.heap.BuiltinsAt A mk.P) (hgP:g8≠mk.P)
 (I:ji a X.tabs=ao) (J:ji 2744 X.tabs=ao) (M:x8 d=K.top i) (e:xh g X.tabs X.jL [] a=zM d) (N:xh g2 X.tabs X.jL [] 2744=zM ⟨0,362,0,[]⟩):Nonempty (L5 X K.G a Fp):=by
 refine tB (nQ e) λo fd O Q k h1 h2 B=> ?_;obtain⟨R,L6,l,f,C,D,E,T⟩:=nQ N;refine aC (FO z O) λV F=>aC (FO b T) λW H=> ?_;rw [M] at h1 h2 B;have n:x8 ⟨0,362,0,[]⟩=K.top 362:=rfl;rw [n] at C D E;have hs:fd.scope.names=Al i:=cR h2 rfl;have p:L6.scope.names=Al 362:=cR D rfl;have hb:=S.b1;unfold Se at hb;simp only [aP,gq] at hb;obtain⟨Y,Z,b3,b4,b5,b6,b7,b8,⟨c1,c2,r,c4,c5,c6,c7,c8,c9,t,u,v⟩,x⟩:=hb;have y:(O8 (sE i)).kind= .function:=by
  unfold isFn at r;split at r
  .assumption
  .exact ff r
 exact⟨{
  fd:=fd,nA:=_,nB:=_,nL:=_,nE:=_,nF:=_,n0:=_,nW:=_,nX:="extension",pL:=_,pE:=_,pc:=_,pr:=_,pos:=_,params:=_,sc:=_,pA:=_,pB:=_,pF:=_,p0:=_,pb:=_,L:=2744,m:=m,L6:=L6,pw:=_,ck:=_,pz:=_,YD:=_,prr:=_,pt:=_,hh:=_,hs:=_,
  c:=mk.c,P:=mk.P,q:=_,q':=_
  obj:=bW o (z a o Q) k
  nt:=fW I
  data:=by rw [B,S.args] at F;exact F
  code:=V
  text:=cR h1 (congrArg FuncBody.stmts S.text)
  kA:=⟨Y,by refine cR hs ?_;exact S.ka⟩
  kB:=⟨Z,by refine cR hs ?_;exact S.kb⟩
  ne:=b7
  kL:=⟨b3,by refine cR hs ?_;exact S.kl⟩
  kE:=⟨b4,by refine cR hs ?_;exact S.ke⟩
  gL:=S.gL
  gE:=S.gE
  gF:=S.gF
  hloc:=cR hs b8
  hc:=cR hs (cR j S.hc)
  hq':=rfl
  hP:=hP
  YE:=YE
  hla:=cR hla S.hla
  hbm:=hbm
  hgP:=hgP
  hdef:=sY (cZ.mp u) (cZ.mp v)
  sco:=c1
  WD:=c2
  sfn:=y
  ZH:=cR hs (DJ x)
  WE:=c4
  WG:=r5 c5
  WH:=r5 c6
  sp:=AY (cZ.mp c7) S.sp (cZ.mp c8) (cT.mp c9) (cT.mp t)
  s0:=iU b5 S.s0 S.s0'
  sA:=S.sA
  sB:=S.sB
  sF:=⟨b6,S.sF⟩
  WI:=bW R (b _ _ l) f
  ntL:=fW J
  GQ:=by rw [E,G0.args] at H;exact H
  R5:=W
  R6:=cR C (congrArg FuncBody.stmts G0.text)
  kW:=⟨G0.pW,by refine cR p ?_;exact u9 G0.kW⟩}⟩
end
end
section
def qo (g:Nat->Option Obj):List Nat->Frag:=aS [] (λa U ih=>aB ih (λo=>(a,o)::ih) (g a))
theorem vd:∀{as} {a:Nat} {o},(qo g as).lookup a=af o->g a=af o/\a∈as:=by
 intro as
 induction as with
 |nil=>
  intro a o e;exact fn e
 |cons b as c=>
  intro a o e;have d:qo g (b::as)=aB (qo g as) (λo=>(b,o)::qo g as) (g b):=rfl;rw [d] at e
  induction hb:g b using zO with
  |none=>rw [hb] at e;refine f7 (c e) λh1 h2=> ?_;exact⟨h1,aD _ h2⟩
  |some x=>
   rw [hb] at e;rw [bK] at e;split at e
   .rename_i q;have q:a=b:=by simpa using q
    injection e with e;subst e
    exact⟨q▸hb,q▸aE ..⟩
   .refine f7 (c e) λh1 h2=> ?_;exact⟨h1,aD _ h2⟩
def ZL (g:Nat->Option Obj) (c:Nat):List Nat:=aB [c] (λo=>match o.data with
 | .cls cd=>[c,cd.ns]
 |_=>[c]) (g c)
def WR (a:Nat) (l:List Nat):List Nat:=ah l (a::l) (ji a l)
def Pb:List Nat:=aS [] (λp U ih=>aS ih (λq U ih2=>WR q.1 ih2) p.2) (NT.list K.ms)
def G2:List Nat:=aS Pb (λp U ih=>WR p.1 ih) (NT.list K.init)
noncomputable def Ui (F:Frag) (p:Nat×Nat):Bool:=makesIn F p.1&&(findIn F (.ref p.1) "__init__"==af (af (.ref p.2))&&typeIn F (.ref p.2)==af (.type "function"))
noncomputable def Uj (g:Nat->Option Obj) (P:Nat):Bool:=match g P with
 |some o=>match o with
  |⟨c,d,dt,sl⟩=>(match c with| .none=>ao|_=>aj)&&(d.isNone&&(sl.isEmpty&&(match dt with| .fields ps=>ps.isEmpty|_=>aj)))
 |none=>aj
def Mm (p:Nat×K.Ny):Bool:=ji p.1 iK&&(R9 (x8 p.2)&&bQ p.2.t 4)
def Mn (d:K.Ny):Bool:=ah aj (ah (ak d.i 366) ao (ak d.i 360)) (ak d.t 0)
def WS (p:Nat×K.Ny):Bool:=ah (FP (K.fnBody (x8 p.2))) ao (Mn p.2)
end
section
noncomputable def hole:Obj:={cls:= .none,data:= .freed}
def IX (d:Nat):BT:=gJ .nil (λU t=> .node hole t t) d
def zR:dB:={scope:=P0.main.scope,locals:=3,globals:=3,cells:=[],code:= .ref 13,frame:=af 14}
def pM:List Stmt:=behindTheImports P0
def cB:Code:= .body pM zR
noncomputable def p0:Pos:=⟨0,0,0,0⟩
def Pd:List Frame:=[topFrame p0]
noncomputable def en (w:World) (x:String) (t:Nat) (v:Value):aV:=⟨nT w.params (bY x),.str (bY x) t,v⟩
def o2 (w:World):Nat->Obj:=gJ {cls:= .none,data:= .dict #[]} (λU U=>{cls:= .none,data:= .dict #[en w "type.__subclasses__.Exception.0" 234 (.int (aZ 48) 0),en w "type.__subclasses__.Exception.n" 235 (.int (aZ 1) 0)] 2})
noncomputable def o3 (L:List aV) (n:Nat):Obj:={cls:= .type "dict",data:= .dict L.toArray n}
noncomputable def WT (R:List Value):Obj:={cls:= .none,data:= .fields R.toArray}
noncomputable def AU (n:Nat):Value:= .int (aZ n) 0
def WU:Obj:={cls:= .type "code",data:= .fields #[.str "<module>" 182,.str "<module>" 183,.str "/claim/cut.py" 184,AU 1,AU 0,AU 0,AU 0,AU 0,.ref 11,.bool aj,AU 181,.ref 12,.none,.none,.none,.none,AU 185,AU 1,.str "/claim/cut.py" 186]}
def six (a b c d e f:Obj):BT:=((((((IX 12).ins 0 a).ins 2 b).ins 3 c).ins 4 d).ins 12 e).ins 13 f
def tK (w:World) (j:Nat) (L:List aV) (n:Nat) (R:List Value):BT:=six (sq w.params) (o2 w j) (o3 L n) (boot_o_4 w.params) (WT R) WU
def stK (w:World) (os:OsState) (j:Nat) (L:List aV) (n:Nat) (R:List Value) (m k:Nat):SharedT:=⟨tK w j L n R,m,{},#[],{},k,os⟩
def ZM (i:Nat) (v:Value) (L:List aV):List aV:=aS (λU=>[]) (λe l ih i=>ah (e::ih (fm i 1)) (⟨e.hash,e.key,v⟩::l) (ak i 0)) L i
def gu (l:List (Nat×Value)) (L:List aV):List aV:=aS L (λp U ih=>ZM p.1 p.2 ih) l
def gp (w:World) (l:List (String×Nat×Value)) (L:List aV):List aV:=L++lY (λp=>en w p.1 p.2.1 p.2.2) l
def sG (l:List (Nat×Nat×Nat)) (R:List Value):List Value:=R++aS [] (λp U ih=>AU p.1::AU p.2.1:: .ref p.2.2::ih) l
def slice (i m:Nat):List Stmt:=(pM.drop i).take m
noncomputable def Pe (t:Thread):Option Flow:=match t.cur with
 | .pure (.done f)=>(match t.stack with
  |[_]=>af f
  |_=>au)
 |_=>au
theorem Pf t:endAt 1 t=Pe t:=by
 obtain⟨b,e,pos,d⟩:=t;unfold endAt Pe;dsimp only
 induction b using PySem.Sem.casesOn with
 |pure f=>
  induction f using PySem.Fin.casesOn with
  |done f=>induction d using zL with
   |nil=>rfl
   |cons a r=>rcases r<;>rfl
  |again c=>induction hb:(d.length==1) using zB<;>rfl
 |_=>induction hb:(d.length==1) using zB<;>rfl
def Mp (p:Program) (w:World) (n₀:Nat) (ann:Option Value) (n:Nat):SharedT->Thread->Option (Flow×SharedT×Code×Pos):=gJ (λU U=>au)
 (λU ih s t=>aB (ah au (ah au (aB au (λq=>Prod.rec (λs t=>ih s t) q) (Au (Av Aw) p w s t)) (Vi s t)) (AW n₀ ann t)) (λf=>af (f,s,t.code,t.pos)) (Pe t)) n
theorem Pg:∀n s t,Jz treeTable p w n₀ ann 1 n s t=Mp p w n₀ ann n s t:=by
 intro n
 induction n with
 |zero=>
  intro _ _;exact rfl
 |succ n b=>
  intro s t;have e:Mp p w n₀ ann (n+1) s t=aB (ah au (ah au (aB au (λq=>Prod.rec (λs t=>Mp p w n₀ ann n s t) q) (Au (Av Aw) p w s t)) (Vi s t)) (AW n₀ ann t)) (λf=>af (f,s,t.code,t.pos)) (Pe t):=rfl;refine cR e (cL Fast.te10156331382660048174 (cL Fast.te11892475500146522536 (cL Fast.te14364793385576792824 (cL Fast.te6613529449190102663 (cL (Pf ..) ?_)))));unfold Jz
  induction endAt 1 t using zO with
  |some f=>rfl
  |none=>
   induction stepOk n₀ ann t using zB with
   |false=>rfl
   |true=>
    induction Vi s t using zB with
    |false=>rfl
    |true=>
     induction stepT (denote treeTable) p w s t using zO with
     |none=>rfl
     |some r=>exact b r.1 r.2
def gT (lo:Nat) (s:SharedT):Nat->Option Obj:=λa=>ah au (ah au (aB au (λo=>alive o) (BT.get s.tree a)) (bI a s.n)) (bQ lo a)
def methsOf (C:Nat):List Nat:=aS [] (λp U ih=>aS ih (λq U ih2=>ah ih2 (q.2::ih2) (ak q.1 C)) p.2) (NT.list K.ms)
def wA (g:Nat->Option Obj) (C:Nat):List Nat:=ZL g C++methsOf C
def ve (g:Nat->Option Obj) (C:Nat):Bool:=(wA g C).all (λa=>ji a iK)&&((NT.list K.init).all (λp=>ah ao (Ui (qo g (wA g C)) p) (ak p.1 C))&&(NT.list K.ms).all (FQ (qo g (wA g C)) C))
noncomputable def Ph (g:Nat->Option Obj) (a:Nat):Bool:=match g a with
 |some o=>match o.data with
  | .func fd=>fd.name=="law"&&(fd.qualname=="law"&&(ak fd.globals mainNs&&(fd.closure.isEmpty&&(ak fd.builtins builtinsNs&&((match fd.defaults with| .none=>ao|_=>aj)&&(match fd.kwdefaults with| .none=>ao|_=>aj))))))
  |_=>aj
 |none=>aj
def facts (g:Nat->Option Obj) (cs:List Nat) (ms:List Mk) (ts:List Nat) (tg:List (Nat×Nat)) (lw:Nat):Bool:=cs.all (ve g)&&(ms.all (λm=>codeHdIn (qo g [m.c]) m.c m.P&&ji m.c iK)&&(ts.all (Uj g)&&(tg.all (λq=>aB aj (λv=>vG g iK 5 v (.ref q.2)) (NT.find K.glob q.1))&&ah (Ph g lw) ao (ak lw 0))))
def G3 (lo hi:Nat):List (Nat×K.Ny):=(NT.list K.dT).filter λp=>bQ lo p.1&&bI p.1 hi
structure Pc where
 lo:Nat
 hi:Nat
 cs:List Nat
 ms:List Mk
 ts:List Nat
 tg:List (Nat×Nat)
 lw:Nat
def Pj (p:Pc) (q:Flow×SharedT×Code×Pos):=
 (q.1,q.2.2.1,q.2.2.2,(q.2.1.n,q.2.1.toks,q.2.1.life,q.2.1.gens,q.2.1.drawn,q.2.1.os),[q.2.1.tree.get 0,q.2.1.tree.get 2,q.2.1.tree.get 3,q.2.1.tree.get 4,q.2.1.tree.get 12,q.2.1.tree.get 13],
  (G3 p.lo p.hi).map (λd=>xh (gT p.lo q.2.1) iK O5 d.2.ds d.1),facts (gT p.lo q.2.1) p.cs p.ms p.ts p.tg p.lw)
def Uk (w:World) (os:OsState) (j:Nat) (L:List aV) (n:Nat) (R:List Value) (p:Pc) (k:Nat) (e:Pos):=
 (s8,cB,e,((p.hi,k,({}:Life),(#[]:Array GenState),({}:Drawn),os):Nat×Nat×Life×Array GenState×Drawn×OsState),[af (sq w.params),af (o2 w j),af (o3 L n),af (boot_o_4 w.params),af (WT R),af WU],(G3 p.lo p.hi).map (λd=>zM d.2),ao)
def Piece (i m N:Nat) (pa pe:Pos) (p:Pc) (j j':Nat) (L L':World->List aV) (n n':Nat) (R R':List Value) (k k':Nat):Prop:=
 ∀(w:World) (os:OsState),(Mp P0 w p.lo (af (.ref 12)) N (stK w os j (L w) n R p.lo k) (piecesOf (slice i m) zR cB pa Pd)).map (Pj p)=af (Uk w os j' (L' w) n' R' p k' pe)
end
set_option backward.match.sparseCases true
section
def Vq (w:World):List aV:=gp w [("__name__",165,(.str "__main__" 164)),("__doc__",166,.none),("__package__",167,.none),("__loader__",168,(.builtin "__main__.__loader__#opaque")),("__spec__",169,.none),("__annotations__",170,(.ref 6)),("__builtins__",171,(.ref 4)),("__file__",173,(.str "/claim/cut.py" 172)),("__cached__",174,.none)] []
noncomputable def Vr:List Value:=[]
def YI (w:World):List aV:=gp w [("_wall",193,(.ref 21)),("ShapeError",237,(.ref 48)),("TableFault",253,(.ref 61)),("FontFault",269,(.ref 73))] (gu [(0,(.str "joinedhand.errors" 194))] (Vq w))
def YJ:List Value:=sG [(1,0,20),(5,0,28),(14,0,57),(16,0,69)] Vr
noncomputable def q0:Pc:=⟨15,76,[],[],[],[],0⟩
def YK (w:World):List aV:=gp w [("MOST_OFFSET",273,(.int (aZ 65535) 272)),("check_room",282,(.ref 82)),("number_at",293,(.ref 89)),("u16_at",301,(.ref 96)),("signed",309,(.ref 103))] (gu [(0,(.str "joinedhand.octets" 270))] (YI w))
def YL:List Value:=sG [(20,0,81),(23,0,88),(29,0,95),(31,0,102)] YJ
noncomputable def q1:Pc:=⟨76,104,[],[],[],[],0⟩
def YM (w:World):List aV:=gp w [("OctetsIn",413,(.ref 187)),("number_octets",419,(.ref 196))] (gu [] (YK w))
def YN:List Value:=sG [(35,0,109),(76,0,195)] YL
noncomputable def q2:Pc:=⟨104,197,[187],[],[],[],0⟩
def YO (w:World):List aV:=gp w [("OctetsOut",521,(.ref 279)),("laid",536,(.ref 291)),("HEAD_MAGIC",540,(.int (aZ 1594834165) 539)),("LEAST_UNITS",542,(.int (aZ 16) 541)),("MOST_UNITS",544,(.int (aZ 16384) 543)),("MOST_GLYPHS_metrics",546,(.int (aZ 65535) 545)),("SHORT_MAXP",548,(.int (aZ 20480) 547)),("LONG_MAXP",550,(.int (aZ 65536) 549))] (gu [(0,(.str "joinedhand.metrics" 537))] (YM w))
def YQ:List Value:=sG [(80,0,202),(118,0,290)] YN
noncomputable def q3:Pc:=⟨197,292,[279],[],[],[],0⟩
def YR (w:World):List aV:=gp w [("Metrics",601,(.ref 322)),("table_at",609,(.ref 333)),("need_version",619,(.ref 340)),("read_units",628,(.ref 347)),("read_lines",638,(.ref 354)),("read_count",648,(.ref 361)),("read_widths",661,(.ref 368)),("read_metrics",675,(.ref 375)),("long_count",683,(.ref 382)),("head_octets",691,(.ref 389)),("hhea_octets",699,(.ref 396)),("maxp_octets",707,(.ref 403))] (gu [] (YO w))
def YS:List Value:=sG [(142,0,297),(156,0,332),(160,0,339),(166,0,346),(176,0,353),(185,0,360),(193,0,367),(203,0,374),(211,0,381),(216,0,388),(225,0,395),(236,0,402)] YQ
noncomputable def q4:Pc:=⟨292,404,[322],[],[],[],0⟩
def YT (w:World):List aV:=gp w [("hmtx_octets",717,(.ref 410)),("need_metrics",724,(.ref 417)),("write_metrics",731,(.ref 424)),("LAST_CODE_selectors",735,(.int (aZ 1114111) 734)),("MOST_MORE",737,(.int (aZ 255) 736)),("HEAD_SIZE_selectors",739,(.int (aZ 10) 738)),("RECORD_SIZE_selectors",741,(.int (aZ 11) 740)),("Variations",796,(.ref 460)),("need_code",804,(.ref 471)),("read_ranges",817,(.ref 478)),("read_glyphs",829,(.ref 485)),("read_record",847,(.ref 492)),("read_variations",860,(.ref 499))] (gu [(0,(.str "joinedhand.selectors" 732))] (YR w))
def YU:List Value:=sG [(241,0,409),(249,0,416),(254,0,423),(262,0,430),(281,0,470),(284,0,477),(297,0,484),(309,0,491),(325,0,498)] YS
noncomputable def q5:Pc:=⟨404,500,[460],[],[],[],0⟩
def YV (w:World):List aV:=gp w [("default_ranges",869,(.ref 506)),("ranges_octets",880,(.ref 513)),("glyphs_octets",890,(.ref 520)),("write_variations",905,(.ref 527)),("BEST_RECORDS",924,(.ref 536)),("SELECTOR_RECORD",927,(.ref 537)),("LAST_SHORT",929,(.int (aZ 65535) 928)),("LAST_CODE_charmap",931,(.int (aZ 1114111) 930)),("SEGMENT_SIZE",933,(.int (aZ 8) 932)),("CharMap",984,(.ref 572)),("need_format",993,(.ref 583)),("put_glyph",1002,(.ref 590)),("check_segments",1014,(.ref 597))] (gu [(0,(.str "joinedhand.charmap" 906))] (YT w))
def YW:List Value:=sG [(336,0,505),(344,0,512),(354,0,519),(363,0,526),(390,0,543),(405,0,582),(409,0,589),(412,0,596)] YU
noncomputable def q6:Pc:=⟨500,598,[572],[],[],[(12623647655791468010070722,536),(21754620659536464674526856422099,537)],0⟩
def YX (w:World):List aV:=gp w [("array_glyph",1025,(.ref 604)),("read_format4",1047,(.ref 611)),("read_trimmed",1060,(.ref 618)),("read_format6",1069,(.ref 625)),("read_format10",1078,(.ref 632)),("read_groups",1098,(.ref 639)),("read_format12",1106,(.ref 646)),("read_format13",1114,(.ref 653)),("read_codes",1123,(.ref 660)),("read_records",1136,(.ref 667)),("read_records_charmap",1137,(.ref 667)),("read_charmap",1147,(.ref 674)),("goes_on",1156,(.ref 681)),("pieces_of",1166,(.ref 688)),("cheaper",1174,(.ref 695)),("best_segments",1191,(.ref 702)),("segments_of",1197,(.ref 707)),("segments_cost",1208,(.ref 714)),("halving_fields",1216,(.ref 721)),("write_format4",1222,(.ref 727))] (gu [] (YV w))
def YY:List Value:=sG [(420,0,603),(425,0,610),(452,0,617),(462,0,624),(467,0,631),(472,0,638),(493,0,645),(495,0,652),(497,0,659),(510,0,666),(525,0,673),(536,0,680),(540,0,687),(549,0,694),(551,0,701),(563,0,706),(567,0,713),(572,0,720),(577,0,726)] YW
noncomputable def q7:Pc:=⟨598,728,[],[],[],[],0⟩
def YZ (w:World):List aV:=gp w [("groups_of",1231,(.ref 734)),("write_format12",1237,(.ref 739)),("charmap_parts",1248,(.ref 746)),("write_charmap",1254,(.ref 752)),("Coverage",1311,(.ref 790)),("coverage_of",1320,(.ref 801)),("ranges_of",1329,(.ref 808)),("read_ascending",1340,(.ref 815)),("read_span",1351,(.ref 822)),("read_spans",1364,(.ref 829)),("read_coverage",1374,(.ref 836))] (gu [(0,(.str "joinedhand.coverage" 1255))] (YX w))
def Y0:List Value:=sG [(597,0,733),(605,0,738),(616,0,745),(627,0,751),(642,0,758),(665,0,800),(670,0,807),(678,0,814),(687,0,821),(697,0,828),(708,0,835)] YY
noncomputable def q8:Pc:=⟨728,837,[790],[],[],[],0⟩
def Pk (w:World):List aV:=gp w [("write_coverage",1389,(.ref 844)),("by_glyph",1402,(.ref 852)),("MOST_GLYPHS_classdefs",1406,(.int (aZ 65536) 1405)),("ClassDef",1466,(.ref 895)),("classdef_of",1472,(.ref 904)),("class_runs",1482,(.ref 911)),("read_class_row",1488,(.ref 916)),("read_class_spans",1494,(.ref 921)),("read_classdef",1504,(.ref 928)),("row_of_classes",1510,(.ref 933)),("shorter_form",1519,(.ref 940))] (gu [(0,(.str "joinedhand.classdefs" 1403))] (YZ w))
def Pn:List Value:=sG [(716,0,843),(737,0,851),(746,0,858),(765,0,903),(772,0,910),(780,0,915),(787,0,920),(803,0,927),(811,0,932),(816,0,939)] Y0
noncomputable def q9:Pc:=⟨837,941,[895],[],[],[],0⟩
def Po (w:World):List aV:=gp w [("write_classdef",1534,(.ref 948)),("MOST_FAR",1538,(.int (aZ 4294967295) 1537)),("Gdef",1606,(.ref 992)),("no_gdef",1612,(.ref 1003)),("read_classes",1620,(.ref 1010)),("read_classes_gdef",1621,(.ref 1010)),("read_each",1627,(.ref 1015)),("read_covered",1640,(.ref 1022)),("read_points",1651,(.ref 1029)),("read_caret",1662,(.ref 1036)),("read_caret_row",1672,(.ref 1043))] (gu [(0,(.str "joinedhand.gdef" 1535))] (Pk w))
def Pp:List Value:=sG [(822,0,947),(845,0,954),(867,0,1002),(869,0,1009),(872,0,1014),(878,0,1021),(890,0,1028),(897,0,1035),(908,0,1042)] Pn
noncomputable def q10:Pc:=⟨941,1044,[992],[],[],[],0⟩
def Pq (w:World):List aV:=gp w [("read_sets",1678,(.ref 1048)),("read_sets_gdef",1679,(.ref 1048)),("read_gdef",1694,(.ref 1055)),("write_classes",1701,(.ref 1062)),("write_covered",1707,(.ref 1067)),("write_points",1716,(.ref 1074)),("write_caret",1724,(.ref 1081)),("write_caret_row",1730,(.ref 1086)),("write_sets",1736,(.ref 1091)),("write_gdef",1749,(.ref 1098)),("BY_GLYPHS",1753,(.int (aZ 1) 1752)),("BY_CLASSES",1755,(.int (aZ 2) 1754)),("BY_COVERAGES",1757,(.int (aZ 3) 1756)),("Rule",1806,(.ref 1129))] (gu [(0,(.str "joinedhand.contexts" 1750))] (Po w))
def Pr:List Value:=sG [(914,0,1047),(923,0,1054),(937,0,1061),(939,0,1066),(952,0,1073),(958,0,1080),(967,0,1085),(975,0,1090),(986,0,1097),(1001,0,1104)] Pp
noncomputable def q11:Pc:=⟨1044,1134,[1129],[],[],[],0⟩
def Pu (w:World):List aV:=gp w [("Contexts",1866,(.ref 1170)),("told_row",1872,(.ref 1179)),("told_row_contexts",1873,(.ref 1179)),("place_of",1883,(.ref 1186)),("place_of_contexts",1884,(.ref 1186)),("read_actions",1898,(.ref 1193)),("inside_count_of",1907,(.ref 1200)),("read_rule",1923,(.ref 1207)),("read_set",1938,(.ref 1214)),("read_set_contexts",1939,(.ref 1214)),("read_sets_contexts",1953,(.ref 1221)),("read_by_glyphs",1966,(.ref 1228))] (gu [(119,(.ref 1221))] (Pq w))
def Pw:List Value:=sG [(1014,0,1139),(1038,0,1178),(1041,0,1185),(1048,0,1192),(1058,0,1199),(1064,0,1206),(1075,0,1213),(1086,0,1220),(1093,0,1227)] Pr
noncomputable def q12:Pc:=⟨1134,1229,[1170],[],[],[],0⟩
def Px (w:World):List aV:=gp w [("read_classes_contexts",1977,(.ref 1235)),("read_by_classes",1993,(.ref 1242)),("read_coverages",2007,(.ref 1249)),("read_by_coverages",2023,(.ref 1256)),("read_context",2034,(.ref 1263)),("check_rule",2044,(.ref 1270)),("put_actions",2054,(.ref 1277)),("put_counted",2062,(.ref 1284)),("put_rows",2075,(.ref 1291)),("rule_octets",2084,(.ref 1298)),("set_octets",2090,(.ref 1303)),("set_octets_contexts",2091,(.ref 1303)),("sets_octets",2097,(.ref 1308)),("by_glyphs_octets",2103,(.ref 1313)),("by_classes_octets",2109,(.ref 1318)),("by_coverages_octets",2115,(.ref 1323)),("write_context",2122,(.ref 1330)),("begins_with",2132,(.ref 1337)),("live_rows",2138,(.ref 1342))] (gu [(0,(.str "joinedhand.ligature" 2123)),(112,(.ref 1235))] (Pu w))
def Py:List Value:=sG [(1100,0,1234),(1104,0,1241),(1112,0,1248),(1121,0,1255),(1132,0,1262),(1142,0,1269),(1150,0,1276),(1154,0,1283),(1157,0,1290),(1168,0,1297),(1173,0,1302),(1185,0,1307),(1194,0,1312),(1197,0,1317),(1202,0,1322),(1218,0,1329),(1225,0,1336),(1227,0,1341)] Pw
noncomputable def q13:Pc:=⟨1229,1343,[],[],[],[],0⟩
def Pz (w:World):List aV:=gp w [("Ligature",2173,(.ref 1364)),("place_of_ligature",2183,(.ref 1375)),("places_in",2189,(.ref 1380)),("read_row",2200,(.ref 1387)),("read_row_ligature",2201,(.ref 1387)),("read_ligature",2207,(.ref 1392)),("row_octets",2217,(.ref 1399)),("row_octets_ligature",2218,(.ref 1399)),("set_octets_ligature",2225,(.ref 1404)),("write_ligature",2231,(.ref 1409))] (gu [(0,(.str "joinedhand.reverse" 2232)),(136,(.ref 1375)),(155,(.ref 1404))] (Px w))
def PB:List Value:=sG [(1233,0,1348),(1241,0,1374),(1246,0,1379),(1251,0,1386),(1259,0,1391),(1270,0,1398),(1276,0,1403),(1282,0,1408)] Py
noncomputable def q14:Pc:=⟨1343,1410,[1364],[],[],[],0⟩
def PC (w:World):List aV:=gp w [("Reverse",2272,(.ref 1431)),("read_reverse",2286,(.ref 1442)),("write_reverse",2292,(.ref 1447)),("ALL_GLYPHS",2296,(.int (aZ 65536) 2295)),("HEAD_SIZE_single",2298,(.int (aZ 6) 2297)),("Single",2333,(.ref 1469))] (gu [(0,(.str "joinedhand.single" 2293))] (Pz w))
def PD:List Value:=sG [(1290,0,1415),(1301,0,1441),(1313,0,1446),(1329,0,1453)] PB
noncomputable def q15:Pc:=⟨1410,1474,[1431,1469],[],[],[],0⟩
def PE (w:World):List aV:=gp w [("Multiple",2368,(.ref 1495)),("Alternate",2403,(.ref 1521)),("read_single",2409,(.ref 1530)),("read_row_single",2419,(.ref 1537)),("read_rows_at",2425,(.ref 1542)),("read_rows",2437,(.ref 1549))] (gu [(167,(.ref 1537))] (PC w))
def PF:List Value:=sG [(1336,0,1479),(1343,0,1505),(1350,0,1529),(1365,0,1536),(1369,0,1541),(1377,0,1548)] PD
noncomputable def q16:Pc:=⟨1474,1550,[1495,1521],[],[],[],0⟩
def PG (w:World):List aV:=gp w [("read_multiple",2445,(.ref 1556)),("read_alternate",2453,(.ref 1563)),("delta_of",2463,(.ref 1570)),("write_single",2470,(.ref 1576)),("row_octets_single",2479,(.ref 1583)),("write_rows",2485,(.ref 1588)),("write_rows_single",2486,(.ref 1588)),("write_multiple",2493,(.ref 1595)),("write_alternate",2500,(.ref 1602)),("EXTENSION_gsub",2504,(.int (aZ 7) 2503)),("KINDS",2514,(.ref 1603)),("read_extension",2524,(.ref 1610)),("read_kind",2533,(.ref 1617)),("read_substitution",2542,(.ref 1624)),("write_kind",2550,(.ref 1631)),("write_substitution",2558,(.ref 1638)),("MOST_CLASSES",2562,(.int (aZ 65536) 2561))] (gu [(0,(.str "joinedhand.anchors" 2559)),(170,(.ref 1583))] (PE w))
def PJ:List Value:=sG [(1387,0,1555),(1389,0,1562),(1391,0,1569),(1399,0,1575),(1420,0,1582),(1426,0,1587),(1438,0,1594),(1440,0,1601),(1445,0,1609),(1453,0,1616),(1465,0,1623),(1471,0,1630),(1483,0,1637)] PF
noncomputable def q17:Pc:=⟨1550,1639,[],[],[],[(22424036555,1603)],0⟩
def PK (w:World):List aV:=gp w [("Anchor",2600,(.ref 1662)),("told_anchor",2607,(.ref 1673)),("read_anchor",2619,(.ref 1680)),("write_anchor",2627,(.ref 1687)),("written",2634,(.ref 1694)),("anchor_behind",2643,(.ref 1701)),("read_marks",2659,(.ref 1709)),("write_marks",2665,(.ref 1714)),("told_marks",2671,(.ref 1719)),("class_count",2680,(.ref 1726)),("read_anchor_rows",2686,(.ref 1731)),("write_anchor_rows",2692,(.ref 1736)),("HEAD_SIZE_cursive",2696,(.int (aZ 6) 2695))] (gu [(0,(.str "joinedhand.cursive" 2693))] (PG w))
def PN:List Value:=sG [(1489,0,1644),(1497,0,1672),(1499,0,1679),(1508,0,1686),(1514,0,1693),(1516,0,1700),(1520,0,1708),(1535,0,1713),(1545,0,1718),(1547,0,1725),(1552,0,1730),(1564,0,1735)] PJ
noncomputable def q18:Pc:=⟨1639,1737,[1662],[],[],[],0⟩
def PO (w:World):List aV:=gp w [("Cursive",2753,(.ref 1777)),("read_cursive",2766,(.ref 1788)),("write_cursive",2779,(.ref 1795)),("HEAD_marks",2783,(.int (aZ 12) 2782)),("classes_of",2789,(.ref 1800)),("told_row_marks",2796,(.ref 1805)),("has_anchor",2802,(.ref 1810)),("told_by_glyph",2813,(.ref 1817))] (gu [(0,(.str "joinedhand.marks" 2780)),(134,(.ref 1805))] (PK w))
def PR:List Value:=sG [(1578,0,1742),(1594,0,1787),(1606,0,1794),(1622,0,1799),(1624,0,1804),(1627,0,1809),(1629,0,1816)] PN
noncomputable def q19:Pc:=⟨1737,1818,[1777],[],[],[],0⟩
def PS (w:World):List aV:=gp w [("MarkBase",2851,(.ref 1841)),("MarkComponent",2888,(.ref 1867))] (gu [] (PO w))
def PU:List Value:=sG [(1636,0,1823),(1644,0,1851)] PR
noncomputable def q20:Pc:=⟨1818,1872,[1841,1867],[],[],[],0⟩
def PW (w:World):List aV:=gp w [("MarkMark",2926,(.ref 1895)),("part_at",2936,(.ref 1906)),("read_head",2949,(.ref 1913)),("rows_by_glyph",2960,(.ref 1920)),("read_base",2972,(.ref 1927)),("read_component",2988,(.ref 1934)),("read_mark",3000,(.ref 1941)),("even_row",3006,(.ref 1946)),("write_around",3019,(.ref 1953)),("write_rows_marks",3026,(.ref 1958)),("write_base",3033,(.ref 1965)),("write_component",3039,(.ref 1970)),("write_mark",3046,(.ref 1977))] (gu [(191,(.ref 1958))] (PS w))
def PX:List Value:=sG [(1658,0,1877),(1666,0,1905),(1671,0,1912),(1680,0,1919),(1683,0,1926),(1686,0,1933),(1697,0,1940),(1700,0,1945),(1702,0,1952),(1709,0,1957),(1713,0,1964),(1715,0,1969),(1725,0,1976)] PU
noncomputable def q21:Pc:=⟨1872,1978,[1895],[],[],[],0⟩
def PY (w:World):List aV:=gp w [("FIELDS",3050,(.int (aZ 4) 3049)),("MOST_FORM",3052,(.int (aZ 255) 3051)),("LEAST_DEVICE",3054,(.int (aZ 16) 3053)),("Value",3103,(.ref 2008)),("read_form",3112,(.ref 2019)),("size_of",3118,(.ref 2024)),("read_value",3128,(.ref 2031)),("write_value",3139,(.ref 2038)),("form_of",3150,(.ref 2045))] (gu [(0,(.str "joinedhand.values" 3047))] (PW w))
def PZ:List Value:=sG [(1731,0,1983),(1744,0,2018),(1750,0,2023),(1752,0,2030),(1760,0,2037),(1768,0,2044)] PX
noncomputable def q22:Pc:=⟨1978,2046,[2008],[],[],[],0⟩
def P1 (w:World):List aV:=gp w [("Adjust",3185,(.ref 2067)),("read_adjust",3191,(.ref 2076)),("is_even",3197,(.ref 2081)),("write_adjust",3204,(.ref 2087)),("pair_told",3213,(.ref 2094)),("moves_second",3219,(.ref 2099))] (gu [(0,(.str "joinedhand.pair" 3205))] (PY w))
def P4:List Value:=sG [(1775,0,2051),(1782,0,2075),(1796,0,2080),(1798,0,2086),(1818,0,2093),(1820,0,2098)] PZ
noncomputable def q23:Pc:=⟨2046,2100,[2067],[],[],[],0⟩
def P5 (w:World):List aV:=gp w [("PairGlyphs",3265,(.ref 2129)),("PairClasses",3311,(.ref 2161)),("read_both",3320,(.ref 2172)),("read_set_pair",3335,(.ref 2179))] (gu [(141,(.ref 2179))] (P1 w))
def P6:List Value:=sG [(1822,0,2105),(1834,0,2139),(1849,0,2171),(1852,0,2178)] P4
noncomputable def q24:Pc:=⟨2100,2180,[2129,2161],[],[],[],0⟩
def P7 (w:World):List aV:=gp w [("read_glyph_pairs",3351,(.ref 2186)),("read_classes_pair",3361,(.ref 2193)),("read_class_pairs",3367,(.ref 2198)),("read_pair",3380,(.ref 2205)),("forms_of",3386,(.ref 2210)),("write_both",3395,(.ref 2217)),("keys_by_first",3404,(.ref 2224)),("set_octets_pair",3416,(.ref 2231)),("write_glyph_pairs",3422,(.ref 2236)),("write_class_pairs",3428,(.ref 2241)),("write_pair",3435,(.ref 2248)),("POSITION_KINDS",3446,(.ref 2249)),("EXTENSION_gpos",3448,(.int (aZ 9) 3447)),("position_number",3455,(.ref 2256)),("behind_extension",3465,(.ref 2263)),("read_position",3475,(.ref 2270)),("read_moved",3484,(.ref 2277)),("read_marked",3493,(.ref 2284)),("write_position",3502,(.ref 2291)),("write_moved",3510,(.ref 2298)),("write_marked",3518,(.ref 2305))] (gu [(0,(.str "joinedhand.kern" 3519)),(112,(.ref 2193)),(155,(.ref 2231))] (P5 w))
def P8:List Value:=sG [(1862,0,2185),(1873,0,2192),(1876,0,2197),(1887,0,2204),(1898,0,2209),(1901,0,2216),(1904,0,2223),(1911,0,2230),(1919,0,2235),(1928,0,2240),(1944,0,2247),(1951,0,2255),(1955,0,2262),(1963,0,2269),(1974,0,2276),(1980,0,2283),(1986,0,2290),(1993,0,2297),(1999,0,2304)] P6
noncomputable def q25:Pc:=⟨2180,2306,[],[],[],[(206825231721686031451529996240,2249)],0⟩
def P9 (w:World):List aV:=gp w [("HORIZONTAL",3522,(.int (aZ 1) 3521)),("LEAST",3524,(.int (aZ 2) 3523)),("ACROSS",3526,(.int (aZ 4) 3525)),("OVERRIDE",3528,(.int (aZ 8) 3527)),("HEAD_kern",3530,(.int (aZ 14) 3529)),("PAIR",3532,(.int (aZ 6) 3531)),("MOST_PAIRS",3534,(.int (aZ 10920) 3533)),("read_pairs",3549,(.ref 2312)),("join_pairs",3559,(.ref 2319)),("read_kern",3572,(.ref 2326)),("search_row",3580,(.ref 2333)),("write_pairs",3590,(.ref 2340)),("write_kern",3601,(.ref 2348)),("USE_SET",3605,(.int (aZ 16) 3604)),("Lookup",3646,(.ref 2370)),("NO_FEATURE",3650,(.int (aZ 65535) 3649)),("NO_SET",3653,(.int (Int.negSucc 0) 3652)),("HEAD_SIZE_layout",3655,(.int (aZ 10) 3654)),("RECORD_SIZE_layout",3657,(.int (aZ 8) 3656))] (gu [(0,(.str "joinedhand.layout" 3647))] (P7 w))
def Qa:List Value:=sG [(2013,0,2311),(2030,0,2318),(2033,0,2325),(2052,0,2332),(2059,0,2339),(2064,0,2347),(2073,0,2354)] P8
noncomputable def q26:Pc:=⟨2306,2375,[2370],[],[],[],0⟩
def Qc (w:World):List aV:=gp w [("LangSys",3695,(.ref 2398)),("Script",3734,(.ref 2424))] (gu [] (P9 w))
def Qd:List Value:=sG [(2089,0,2380),(2097,0,2408)] Qa
noncomputable def q27:Pc:=⟨2375,2429,[2398,2424],[],[],[],0⟩
def Qe (w:World):List aV:=gp w [("Feature",3772,(.ref 2452)),("Layout",3811,(.ref 2478)),("offset_behind",3821,(.ref 2489)),("read_records_layout",3837,(.ref 2496)),("read_langsys",3848,(.ref 2503))] (gu [(75,(.ref 2496))] (Qc w))
def Qf:List Value:=sG [(2107,0,2434),(2115,0,2462),(2126,0,2488),(2132,0,2495),(2143,0,2502)] Qd
noncomputable def q28:Pc:=⟨2429,2504,[2452,2478],[],[],[],0⟩
def Qg (w:World):List aV:=gp w [("read_script",3862,(.ref 2510)),("read_scripts",3873,(.ref 2517)),("read_feature",3883,(.ref 2524)),("read_features",3889,(.ref 2529)),("read_lookup",3895,(.ref 2534)),("read_lookups",3901,(.ref 2539)),("read_layout",3913,(.ref 2546)),("numbers_octets",3922,(.ref 2553)),("langsys_octets",3929,(.ref 2560)),("records_octets",3941,(.ref 2567)),("list_octets",3951,(.ref 2574)),("script_octets",3957,(.ref 2579)),("script_list_octets",3963,(.ref 2584)),("feature_list_octets",3969,(.ref 2589)),("written_tables",3975,(.ref 2594)),("lookup_head",3985,(.ref 2601)),("head_size",3992,(.ref 2608)),("lookup_octets",4004,(.ref 2615)),("plain_lookups",4010,(.ref 2620)),("extension_record",4019,(.ref 2627))] (gu [] (Qe w))
def Qh:List Value:=sG [(2149,0,2509),(2156,0,2516),(2161,0,2523),(2165,0,2528),(2167,0,2533),(2185,0,2538),(2189,0,2545),(2197,0,2552),(2201,0,2559),(2203,0,2566),(2210,0,2573),(2213,0,2578),(2219,0,2583),(2222,0,2588),(2225,0,2593),(2233,0,2600),(2239,0,2607),(2241,0,2614),(2245,0,2619),(2249,0,2626)] Qf
noncomputable def q29:Pc:=⟨2504,2628,[],[],[],[],0⟩
def Qi (w:World):List aV:=gp w [("Pool",4058,(.ref 2651)),("extended_lookups",4064,(.ref 2660)),("write_layout",4078,(.ref 2668)),("SUBSTITUTION_EXTENSION",4082,(.int (aZ 7) 4081)),("POSITION_EXTENSION",4084,(.int (aZ 9) 4083))] (gu [(0,(.str "joinedhand.font" 4079))] (Qg w))
def Qj:List Value:=sG [(2254,0,2633),(2267,0,2659),(2283,0,2667)] Qh
noncomputable def q30:Pc:=⟨2628,2669,[2651],[],[],[],0⟩
def Qk (w:World):List aV:=gp w [("Font",4137,(.ref 2698)),("layout_told",4144,(.ref 2709)),("read_or",4154,(.ref 2716)),("font_by",4167,(.ref 2723)),("known_readers",4173,(.ref 2730)),("font_from",4180,(.ref 2737)),("layout_octets",4188,(.ref 2744)),("tables_by",4198,(.ref 2751)),("gsub_octets",4208,(.ref 2758)),("gpos_octets",4218,(.ref 2765))] (gu [] (Qi w))
def Ql:List Value:=sG [(2296,0,2674),(2312,0,2708),(2314,0,2715),(2316,0,2722),(2322,0,2729),(2326,0,2736),(2328,0,2743),(2333,0,2750),(2345,0,2757),(2347,0,2764)] Qj
noncomputable def q31:Pc:=⟨2669,2766,[2698],[⟨360,2729,2725,"known_readers"⟩,⟨364,2757,2753,"gsub_octets"⟩,⟨365,2764,2760,"gpos_octets"⟩],[2725,2753,2760],[],0⟩
def tT (w:World):List aV:=gp w [("known_writers",4224,(.ref 2772)),("tables_from",4231,(.ref 2779)),("_law_draw",4243,(.ref 2786)),("_law_layout",4252,(.ref 2793)),("_law_font",4268,(.ref 2800)),("_law_tags",4274,(.ref 2805)),("law",4280,(.ref 2810))] (gu [(0,(.str "law_pf0157_01" 4232))] (Qk w))
def Mq:List Value:=sG [(2349,0,2771),(2353,0,2778),(2356,0,2785),(2363,0,2792),(2365,0,2799),(2375,0,2804),(2381,0,2809)] Ql
noncomputable def ZN:Pc:=⟨2766,2811,[],[⟨366,2771,2767,"known_writers"⟩],[2767],[],2810⟩
end
section
theorem Mr:∀d a o,(IX d).get a=af o->o=hole:=by
 intro d
 induction d with
 |zero=>
  intro a o h;exact fn h
 |succ d b=>
  intro a o h;have h:(BT.node hole (IX d) (IX d)).get a=af o:=h;rw [BT.get_node] at h;split at h
  .exact(aF h).symm
  .split at h
   .exact b _ o h
   .exact b _ o h
theorem G4 (a b c d e f) i:(six a b c d e f).get i=if i=13 then af f else if i=12 then af e else if i=4 then af d else if i=3 then af c else if i=2 then af b else if i=0 then af a else(IX 12).get i:=cR (o6 f _ 13 (by kernel_rfl) ..) (cR (o6 e _ 12 (by kernel_rfl) ..) (cR (o6 d _ 4 (by kernel_rfl) ..) (cR (o6 c _ 3 (by kernel_rfl) ..) (cR (o6 b _ 2 (by kernel_rfl) ..) (cR (o6 a _ 0 (by kernel_rfl) ..) rfl)))))
theorem Em {x:Nat->Option Obj} (l:x 0=af a) (h2:x 2=af b) (m:x 3=af c) (n:x 4=af d) (g:x 12=af e) (h:x 13=af f)
 (p:alive a=af a) (r:alive b=af b) (s:alive c=af c) (t:alive d=af d) (j:alive e=af e) (k:alive f=af f) i:pick (x i) ((six a b c d e f).get i)=x i:=by
 refine cR (G4 ..) ?_;by_cases q:i=13
 .subst q;exact cR (if_pos rfl) (cR (eL k) (cR h rfl))
 refine cR (if_neg q) ?_;by_cases q:i=12
 .subst q;exact cR (if_pos rfl) (cR (eL j) (cR g rfl))
 refine cR (if_neg q) ?_;by_cases q:i=4
 .subst q;exact cR (if_pos rfl) (cR (eL t) (cR n rfl))
 refine cR (if_neg q) ?_;by_cases q:i=3
 .subst q;exact cR (if_pos rfl) (cR (eL s) (cR m rfl))
 refine cR (if_neg q) ?_;by_cases q:i=2
 .subst q;exact cR (if_pos rfl) (cR (eL r) (cR h2 rfl))
 refine cR (if_neg q) ?_;by_cases q:i=0
 .subst q;exact cR (if_pos rfl) (cR (eL p) (cR l rfl))
 refine cR (if_neg q) ?_
 induction u:(IX 12).get i using zO with
 |none=>rfl
 |some o=>refine cR (Mr 12 i o u) ?_;rfl
theorem FU {life} (h:∀i,i<n->pick (x i) (T.get i)=pick (x' i) (T'.get i)):nC x T n life=nC x' T' n life:=by
 unfold nC;congr 2;exact nu λi hi=>cR (h i (List.mem_range.mp hi)) rfl
theorem Mt {life} (h:∀i,i<n->pick (x i) (T.get i)=t.get i):absHeap t n life=nC x T n life:=by
 unfold nC absHeap BT.list;congr 2;exact nu λi hi=>cR (h i (List.mem_range.mp hi)) rfl
theorem Bs w j L n R:alive (sq w.params)=af (sq w.params)/\alive (o2 w j)=af (o2 w j)/\alive (o3 L n)=af (o3 L n)/\alive (boot_o_4 w.params)=af (boot_o_4 w.params)/\alive (WT R)=af (WT R)/\alive WU=af WU:=
 ⟨rfl,by rcases j<;>rfl,rfl,rfl,rfl,rfl⟩
def m5 (h:Heap) (p:Pc):Prop:=∃g:Nat->Option Obj,(∀a o,g a=af o->p.lo<=a/\a<p.hi/\h.get? a=af o)/\(G3 p.lo p.hi).map (λd=>xh g iK O5 d.2.ds d.1)=(G3 p.lo p.hi).map (λd=>zM d.2)/\facts g p.cs p.ms p.ts p.tg p.lw=ao
abbrev qf (w:World) (M:Nat) (s:Shared) (t:Thread):Option Shared:=topRun treeTable P0 w 11 (af (.ref 6)) M s t
theorem stx {s:SharedT} (h:(s.n,s.toks,s.life,s.gens,s.drawn,s.os)=(n,k,l,g,d,o)):s=⟨s.tree,n,l,g,d,k,o⟩:=by
 obtain⟨T,f,i,j,m,p,q⟩:=s;injection h with h1 h
 injection h with h2 h
 injection h with a h
 injection h with b h
 injection h with c e
 subst h1 h2 a b c e;rfl
theorem G5 {os} (h:Pj p q=Uk w os j L n R p k e):q=(s8,⟨q.2.1.tree,p.hi,{},#[],{},k,os⟩,cB,e):=
 Prod.ext (congrArg (λz=>z.1) h) (Prod.ext (stx (congrArg (λz=>z.2.2.2.1) h)) (Prod.ext (congrArg (λz=>z.2.1) h) (congrArg (λz=>z.2.2.1) h)))
theorem WV {a b c d e f g i c' j l m:α} (h:[a,b,c,d,e,f]=[g,i,c',j,l,m]) {P:Prop} (k:a=g->b=i->c=c'->d=j->e=l->f=m->P):P:=by
 injection h with h1 h
 injection h with h2 h
 injection h with n h
 injection h with o h
 injection h with p h
 injection h with q h
 exact k h1 h2 n o p q
theorem Qm {lo n a} {os} {o} (e:gT lo ⟨T,n,l,g,d,k,os⟩ a=af o):lo<=a/\a<n/\BT.get T a=af o/\alive o=af o:=by
 refine aC (dK (show(ah au (ah au (aB au (λo=>alive o) (BT.get T a)) (bI a n)) (bQ lo a):Option Obj)=af o from e)) λe b=>aC (dK e) λe c=>aL (pS e) λy e f=> ?_;have hy:=pY e;subst hy;exact⟨aA b,aA c,f,e⟩
theorem Qn {L c:World->List aV} (g:15<=p.lo) w os x
 (t:Mp P0 w p.lo (af (.ref 12)) N (stK w os j (L w) n R p.lo k) (piecesOf (slice i m) zR cB pa Pd)=af (s8,⟨T,p.hi,{},#[],{},k',os⟩,cB,pe))
 (h:Pj p (s8,⟨T,p.hi,{},#[],{},k',os⟩,cB,pe)=Uk w os j' (c w) n' R' p k' pe):
 ∃l,(∀M r,qf w M (mQ l (stK w os j' (c w) n' R' p.hi k')) (restOf (pM.drop (i+m)) zR cB pe Pd)=af r->qf w (N+M) (mQ x (stK w os j (L w) n R p.lo k)) (restOf (pM.drop i) zR cB pa Pd)=af r)/\
  (∀b o,b<p.lo->b≠3->b≠2->b≠12->(mQ x (stK w os j (L w) n R p.lo k)).heap.get? b=af o->(mQ l (stK w os j' (c w) n' R' p.hi k')).heap.get? b=af o)/\
  m5 (mQ l (stK w os j' (c w) n' R' p.hi k')).heap p:=by
 refine WV (congrArg (λz=>z.2.2.2.2.1) h) λD E F G q s=> ?_;rw [<-Pg] at t;refine f7 (NF (x:=x) (m:=11) (P:=12) (ann:=af (.ref 6)) (fZ g) (aA rfl) t) λh1 h2=>yr (Bs w j' (c w) n' R') λu v y A d f=> ?_;have hx:mQ (λa=>pick (x a) (T.get a)) (stK w os j' (c w) n' R' p.hi k')=mQ x ⟨T,p.hi,{},#[],{},k',os⟩:=by
  refine(?_:Shared.mk _ _ _ _ _=Shared.mk _ _ _ _ _);congr 1;exact FU λa W=>Em (x:=λa=>pick (x a) (T.get a)) (by show pick _ _=_;exact cR D (cR (eL v) rfl)) (by show pick _ _=_;exact cR E (cR (eL y) rfl)) (by show pick _ _=_;exact cR F (cR (eL u) rfl)) (by show pick _ _=_;exact cR G (cR (eL A) rfl)) (by show pick _ _=_;exact cR q (cR (eL d) rfl)) (by show pick _ _=_;exact cR s (cR (eL f) rfl)) v y u A d f a
 refine f5 (λa=>pick (x a) (T.get a)) (λM r B=> ?_) (λb o H I J K e=> ?_) ⟨gT p.lo ⟨T,p.hi,{},#[],{},k',os⟩,λa o e=> ?_,congrArg (λz=>z.2.2.2.2.2.1) h,congrArg (λz=>z.2.2.2.2.2.2) h⟩
 .rw [hx] at B;have O:pM.drop i=slice i m++pM.drop (i+m):=by unfold slice;refine cL sN ?_;exact(lX m _).symm
  exact cR O (piece_app h1 B)
 .refine cR hx ?_;exact h2 b o H I J K e
 .exact cR hx (z04 (Qm e) λQ C S V=>iU Q C (uv C S V))
theorem glue (P:Piece i m N pa pe p j j' L L' n n' R R' k k') (a:15<=p.lo) w os x:
 ∃c,(∀M r,qf w M (mQ c (stK w os j' (L' w) n' R' p.hi k')) (restOf (pM.drop (i+m)) zR cB pe Pd)=af r->qf w (N+M) (mQ x (stK w os j (L w) n R p.lo k)) (restOf (pM.drop i) zR cB pa Pd)=af r)/\
  (∀b o,b<p.lo->b≠3->b≠2->b≠12->(mQ x (stK w os j (L w) n R p.lo k)).heap.get? b=af o->(mQ c (stK w os j' (L' w) n' R' p.hi k')).heap.get? b=af o)/\
  m5 (mQ c (stK w os j' (L' w) n' R' p.hi k')).heap p:=
 dM (qi.mp (P w os)) λq e d=>Qn a w os x (e.trans (congrArg af (G5 d))) ((congrArg (Pj p) (G5 d)).symm.trans d)
def Reach (w:World) (os:OsState) (i:Nat) (pe:Pos) (j:Nat) (L:World->List aV) (n:Nat) (R:List Value) (m k:Nat) (l:List Pc):Prop:=
 ∃(x:Nat->Option Obj) (N:Nat),(∀M r,qf w M (mQ x (stK w os j (L w) n R m k)) (restOf (pM.drop i) zR cB pe Pd)=af r->qf w (N+M) ⟨boot_heap w.params,#[],boot_drawn,boot_toks,os⟩ (topStub P0)=af r)/\
  ∀p∈l,15<=p.lo/\p.hi<=m/\m5 (mQ x (stK w os j (L w) n R m k)).heap p
theorem bR {os} (P:Piece i m N pa pe p j j' L L' n n' R R' k k') (c:(bQ 15 p.lo&&bQ p.lo p.hi)=ao)
 (H:Reach w os i pa j L n R p.lo k l):Reach w os (i+m) pe j' L' n' R' p.hi k' (p::l):=by
 refine Hw H λx q h1 h2=>f7 (cO.mp c) λb d=> ?_;have b:=aA b;refine jz (glue P b w os x) λs t u v=>nv s (q+N) (λM r y=> ?_) (λz hp=> ?_)
 .refine cR (j3 ..) ?_;exact h1 _ r (t M r y)
 .rcases aT.mp hp with rfl|hp
  .exact iU b (bu _) v
  .obtain⟨A,f,g,a3,B,C⟩:=h2 z hp;refine⟨A,aI f (aA d),g,λa o e=> ?_,B,C⟩;exact iL (a3 a o e) λD E h=>iU E h (u a o (aQ h f) (by lia) (by lia) (by lia) D)
end
section
def st0 (w:World) (os:OsState):SharedT:=⟨Rv w.params,11,(boot_heap w.params).life,#[],boot_drawn,boot_toks,os⟩
theorem boot_abs (w:World):absHeap (Rv w.params) 11 (boot_heap w.params).life=boot_heap w.params:=by kernel_rfl
def CO (w:World):Nat->SharedT->Thread->Option (SharedT×Thread)
 |0,s,t=>af (s,t)
 |n+1,s,t=>match through t with
  |true=>au
  |false=>match stepOk 11 (af (.ref 6)) t with
   |false=>au
   |true=>match stepT (denote treeTable) P0 w s t with
    |some (s',t')=>CO w n s' t'
    |none=>au
theorem Mu:∀{n} {s s'} {t a},CO w n s t=af (s',a)->topGo treeTable P0 w 11 (af (.ref 6)) n s.abs t=af (s'.abs,a):=by
 intro n
 induction n with
 |zero=>
  intro _ _ _ _ h;cases h;rfl
 |succ n e=>
  intro s s' t a h;unfold CO at h;unfold topGo
  induction ht:through t using zB with
  |true=>rw [ht] at h;exact fn h
  |false=>
   rw [ht] at h
   induction hk:stepOk 11 (af (.ref 6)) t using zB with
   |false=>rw [hk] at h;exact fn h
   |true=>
    rw [hk] at h
    induction b:stepT (denote treeTable) P0 w s t using zO with
    |none=>rw [b] at h;exact fn h
    |some r=>obtain⟨c,d⟩:=r;rw [b] at h;refine cR (stepT_spec b) ?_;exact e h
def thB:Thread:=⟨denote treeTable (.body pM zR),cB,p0,Pd⟩
theorem Qo w os:(CO w 12 (st0 w os) (topStub P0)).map (λq=>(q.2,(q.1.n,q.1.toks,q.1.life,q.1.gens,q.1.drawn,q.1.os),[q.1.tree.get 0,q.1.tree.get 2,q.1.tree.get 3,q.1.tree.get 4,q.1.tree.get 12,q.1.tree.get 13]))=
 af (thB,((15,187,({}:Life),(#[]:Array GenState),({}:Drawn),os):Nat×Nat×Life×Array GenState×Drawn×OsState),[af (sq w.params),af (o2 w 0),af (o3 (Vq w) 9),af (boot_o_4 w.params),af (WT Vr),af WU]):=by kernel_rfl
theorem Ul w h g d k os:segRun treeTable P0 w 11 (af (.ref 6)) 1 1 ⟨h,g,d,k,os⟩ (blockOf pM zR cB p0 [topFrame p0])=af (.next,⟨h,g,d,k,os⟩,cB,p0):=by kernel_rfl
theorem WW w h g d k os pe:qf w 2 ⟨h,g,d,k,os⟩ (restOf [] zR cB pe Pd)=af ⟨h,g,d,k,os⟩:=by kernel_rfl
theorem Um w os:Reach w os 0 p0 0 Vq 9 Vr 15 187 []:=by
 refine dM (qi.mp (Qo w os)) λq d e=> ?_;have d:=d.trans (congrArg af (show q=(⟨q.1.tree,15,{},#[],{},187,os⟩,thB) from Prod.ext (stx (congrArg (λz=>z.2.1) e)) (congrArg (λz=>z.1) e)));refine WV (congrArg (λz=>z.2.2) e) λh i j k b c=> ?_;generalize q.1.tree=T at d h i j k b c;refine yr (Bs w 0 (Vq w) 9 Vr) λm n o s f g=> ?_;have hx:mQ (λa=>T.get a) (stK w os 0 (Vq w) 9 Vr 15 187)=SharedT.abs ⟨T,15,{},#[],{},187,os⟩:=by
  refine(?_:Shared.mk _ _ _ _ _=Shared.mk _ _ _ _ _);congr 1;exact(Mt λa u=>Em (x:=λa=>T.get a) h i j k b c n o m s f g a).symm
 have t:(st0 w os).abs=⟨boot_heap w.params,#[],boot_drawn,boot_toks,os⟩:=by
  refine cL (boot_abs w) ?_;rfl
 refine nv (λa=>T.get a) (12+1) (λM r l=> ?_) (λp hp=>(aU hp).elim);rw [hx] at l;exact cL t (cR (j3 ..) (go_top (Mu d) (piece_block (Ul w _ _ _ _ _) l)))
theorem IY {os} (hi:pM.drop i=[]) (H:Reach w os i pe j L n R m k l):
 ∃x N,qf w N ⟨boot_heap w.params,#[],boot_drawn,boot_toks,os⟩ (topStub P0)=af (mQ x (stK w os j (L w) n R m k))/\∀p∈l,m5 (mQ x (stK w os j (L w) n R m k)).heap p:=by
 refine Hw H λx N h1 h2=>nv x (N+2) (h1 2 _ ?_) (λp hp=>(h2 p hp).2.2);exact cR hi (WW w _ _ _ _ _ pe)
end
section
theorem pc0:Piece 0 5 749 ⟨0,0,0,0⟩ ⟨16,0,17,8⟩ q0 0 1 Vq YI 9 13 Vr YJ 187 270:=λw os=>by kernel_rfl
theorem pc5:Piece 34 14 628 ⟨236,0,240,23⟩ ⟨325,0,335,16⟩ q5 1 1 YR YT 40 53 YS YU 708 861:=λw os=>by kernel_rfl
theorem ZO:Piece 106 12 640 ⟨816,0,821,107⟩ ⟨908,0,913,64⟩ q10 1 1 Pk Po 108 119 Pn Pp 1520 1673:=λw os=>by kernel_rfl
theorem ZP:Piece 180 7 594 ⟨1289,0,1289,8⟩ ⟨1329,0,1335,100⟩ q15 1 1 Pz PC 174 180 PB PD 2234 2334:=λw os=>by kernel_rfl
theorem ZQ:Piece 238 2 508 ⟨1629,0,1635,23⟩ ⟨1644,0,1657,66⟩ q20 1 1 PO PS 224 226 PR PU 2814 2889:=λw os=>by kernel_rfl
theorem ZR:Piece 276 25 644 ⟨1861,0,1861,13⟩ ⟨2005,0,2005,8⟩ q25 1 1 P5 P7 258 279 P6 P8 3336 3521:=λw os=>by kernel_rfl
theorem ZS:Piece 350 6 347 ⟨2249,0,2253,23⟩ ⟨2295,0,2295,18⟩ q30 1 1 Qg Qi 325 330 Qh Qj 4020 4085:=λw os=>by kernel_rfl
end
section
theorem pc1:Piece 5 6 143 ⟨16,0,17,8⟩ ⟨31,0,34,17⟩ q1 1 1 YI YK 13 18 YJ YL 270 310:=λw os=>by kernel_rfl
theorem pc6:Piece 48 14 633 ⟨325,0,335,16⟩ ⟨412,0,419,88⟩ q6 1 1 YT YV 53 66 YU YW 861 1015:=λw os=>by kernel_rfl
theorem ZT:Piece 118 15 603 ⟨908,0,913,64⟩ ⟨1001,0,1013,49⟩ q11 1 1 Po Pq 119 133 Pp Pr 1673 1807:=λw os=>by kernel_rfl
theorem ZU:Piece 187 7 628 ⟨1329,0,1335,100⟩ ⟨1377,0,1386,61⟩ q16 1 1 PC PE 180 186 PD PF 2334 2438:=λw os=>by kernel_rfl
theorem ZV:Piece 240 14 643 ⟨1644,0,1657,66⟩ ⟨1725,0,1726,54⟩ q21 1 1 PS PW 226 239 PU PX 2889 3047:=λw os=>by kernel_rfl
theorem ZW:Piece 301 21 590 ⟨2005,0,2005,8⟩ ⟨2088,0,2088,18⟩ q26 1 1 P7 P9 279 298 P8 Qa 3521 3658:=λw os=>by kernel_rfl
theorem ZX:Piece 356 10 629 ⟨2295,0,2295,18⟩ ⟨2347,0,2348,98⟩ q31 1 1 Qi Qk 330 340 Qj Ql 4085 4219:=λw os=>by kernel_rfl
end
section
theorem pc2:Piece 11 2 561 ⟨31,0,34,17⟩ ⟨76,0,79,83⟩ q2 1 1 YK YM 18 20 YL YN 310 420:=λw os=>by kernel_rfl
theorem pc7:Piece 62 20 635 ⟨412,0,419,88⟩ ⟨577,0,596,23⟩ q7 1 1 YV YX 66 86 YW YY 1015 1223:=λw os=>by kernel_rfl
theorem ZY:Piece 133 13 635 ⟨1001,0,1013,49⟩ ⟨1093,0,1099,119⟩ q12 1 1 Pq Pu 133 145 Pr Pw 1807 1967:=λw os=>by kernel_rfl
theorem ZZ:Piece 194 20 464 ⟨1377,0,1386,61⟩ ⟨1488,0,1488,12⟩ q17 1 1 PE PG 186 203 PF PJ 2438 2563:=λw os=>by kernel_rfl
theorem Z0:Piece 254 10 482 ⟨1725,0,1726,54⟩ ⟨1768,0,1774,15⟩ q22 1 1 PW PY 239 248 PX PZ 3047 3151:=λw os=>by kernel_rfl
theorem Z1:Piece 322 2 510 ⟨2088,0,2088,18⟩ ⟨2097,0,2106,86⟩ q27 1 1 P9 Qc 298 300 Qa Qd 3658 3735:=λw os=>by kernel_rfl
theorem Z2:Piece 366 8 220 ⟨2347,0,2348,98⟩ ⟨2381,0,2392,56⟩ ZN 1 1 Qk tT 340 347 Ql Mq 4219 4281:=λw os=>by kernel_rfl
end
section
theorem pc3:Piece 13 9 635 ⟨76,0,79,83⟩ ⟨141,0,141,9⟩ q3 1 1 YM YO 20 28 YN YQ 420 551:=λw os=>by kernel_rfl
theorem pc8:Piece 82 12 644 ⟨577,0,596,23⟩ ⟨708,0,715,59⟩ q8 1 1 YX YZ 86 97 YY Y0 1223 1375:=λw os=>by kernel_rfl
theorem Z3:Piece 146 21 582 ⟨1093,0,1099,119⟩ ⟨1227,0,1232,16⟩ q13 1 1 Pu Px 145 164 Pw Py 1967 2139:=λw os=>by kernel_rfl
theorem Z4:Piece 214 14 603 ⟨1488,0,1488,12⟩ ⟨1577,0,1577,17⟩ q18 1 1 PG PK 203 216 PJ PN 2563 2697:=λw os=>by kernel_rfl
theorem Z5:Piece 264 7 395 ⟨1768,0,1774,15⟩ ⟨1820,0,1821,69⟩ q23 1 1 PY P1 248 254 PZ P4 3151 3220:=λw os=>by kernel_rfl
theorem Z6:Piece 324 6 622 ⟨2097,0,2106,86⟩ ⟨2143,0,2148,72⟩ q28 1 1 Qc Qe 300 305 Qd Qf 3735 3849:=λw os=>by kernel_rfl
end
section
theorem pc4:Piece 22 12 641 ⟨141,0,141,9⟩ ⟨236,0,240,23⟩ q4 1 1 YO YR 28 40 YQ YS 551 708:=λw os=>by kernel_rfl
theorem pc9:Piece 94 12 643 ⟨708,0,715,59⟩ ⟨816,0,821,107⟩ q9 1 1 YZ Pk 97 108 Y0 Pn 1375 1520:=λw os=>by kernel_rfl
theorem Z7:Piece 167 13 500 ⟨1227,0,1232,16⟩ ⟨1289,0,1289,8⟩ q14 1 1 Px Pz 164 174 Py PB 2139 2234:=λw os=>by kernel_rfl
theorem Z8:Piece 228 10 552 ⟨1577,0,1577,17⟩ ⟨1629,0,1635,23⟩ q19 1 1 PK PO 216 224 PN PR 2697 2814:=λw os=>by kernel_rfl
theorem Z9:Piece 271 5 648 ⟨1820,0,1821,69⟩ ⟨1861,0,1861,13⟩ q24 1 1 P1 P5 254 258 P4 P6 3220 3336:=λw os=>by kernel_rfl
theorem aac:Piece 330 20 596 ⟨2143,0,2148,72⟩ ⟨2249,0,2253,23⟩ q29 1 1 Qe Qg 305 325 Qf Qh 3849 4020:=λw os=>by kernel_rfl
end
section
def pl0:List Pc:=q0::[]
theorem rk0 (w:World) (os:OsState):Reach w os 5 ⟨16,0,17,8⟩ 1 YI 13 YJ 76 270 pl0:=bR pc0 rfl (Um w os)
def pl1:List Pc:=q1::pl0
theorem rk1 (w:World) (os:OsState):Reach w os 11 ⟨31,0,34,17⟩ 1 YK 18 YL 104 310 pl1:=bR pc1 rfl (rk0 w os)
def pl2:List Pc:=q2::pl1
theorem rk2 (w:World) (os:OsState):Reach w os 13 ⟨76,0,79,83⟩ 1 YM 20 YN 197 420 pl2:=bR pc2 rfl (rk1 w os)
def pl3:List Pc:=q3::pl2
theorem rk3 (w:World) (os:OsState):Reach w os 22 ⟨141,0,141,9⟩ 1 YO 28 YQ 292 551 pl3:=bR pc3 rfl (rk2 w os)
def pl4:List Pc:=q4::pl3
theorem rk4 (w:World) (os:OsState):Reach w os 34 ⟨236,0,240,23⟩ 1 YR 40 YS 404 708 pl4:=bR pc4 rfl (rk3 w os)
def pl5:List Pc:=q5::pl4
theorem rk5 (w:World) (os:OsState):Reach w os 48 ⟨325,0,335,16⟩ 1 YT 53 YU 500 861 pl5:=bR pc5 rfl (rk4 w os)
def pl6:List Pc:=q6::pl5
theorem rk6 (w:World) (os:OsState):Reach w os 62 ⟨412,0,419,88⟩ 1 YV 66 YW 598 1015 pl6:=bR pc6 rfl (rk5 w os)
def pl7:List Pc:=q7::pl6
theorem rk7 (w:World) (os:OsState):Reach w os 82 ⟨577,0,596,23⟩ 1 YX 86 YY 728 1223 pl7:=bR pc7 rfl (rk6 w os)
def pl8:List Pc:=q8::pl7
theorem rk8 (w:World) (os:OsState):Reach w os 94 ⟨708,0,715,59⟩ 1 YZ 97 Y0 837 1375 pl8:=bR pc8 rfl (rk7 w os)
def pl9:List Pc:=q9::pl8
theorem rk9 (w:World) (os:OsState):Reach w os 106 ⟨816,0,821,107⟩ 1 Pk 108 Pn 941 1520 pl9:=bR pc9 rfl (rk8 w os)
def WX:List Pc:=q10::pl9
theorem aad (w:World) (os:OsState):Reach w os 118 ⟨908,0,913,64⟩ 1 Po 119 Pp 1044 1673 WX:=bR ZO rfl (rk9 w os)
def WY:List Pc:=q11::WX
theorem aae (w:World) (os:OsState):Reach w os 133 ⟨1001,0,1013,49⟩ 1 Pq 133 Pr 1134 1807 WY:=bR ZT rfl (aad w os)
def WZ:List Pc:=q12::WY
theorem aaf (w:World) (os:OsState):Reach w os 146 ⟨1093,0,1099,119⟩ 1 Pu 145 Pw 1229 1967 WZ:=bR ZY rfl (aae w os)
def W0:List Pc:=q13::WZ
theorem aag (w:World) (os:OsState):Reach w os 167 ⟨1227,0,1232,16⟩ 1 Px 164 Py 1343 2139 W0:=bR Z3 rfl (aaf w os)
def W2:List Pc:=q14::W0
theorem aah (w:World) (os:OsState):Reach w os 180 ⟨1289,0,1289,8⟩ 1 Pz 174 PB 1410 2234 W2:=bR Z7 rfl (aag w os)
def W3:List Pc:=q15::W2
theorem aai (w:World) (os:OsState):Reach w os 187 ⟨1329,0,1335,100⟩ 1 PC 180 PD 1474 2334 W3:=bR ZP rfl (aah w os)
def W4:List Pc:=q16::W3
theorem aaj (w:World) (os:OsState):Reach w os 194 ⟨1377,0,1386,61⟩ 1 PE 186 PF 1550 2438 W4:=bR ZU rfl (aai w os)
def W5:List Pc:=q17::W4
theorem aak (w:World) (os:OsState):Reach w os 214 ⟨1488,0,1488,12⟩ 1 PG 203 PJ 1639 2563 W5:=bR ZZ rfl (aaj w os)
def W6:List Pc:=q18::W5
theorem aal (w:World) (os:OsState):Reach w os 228 ⟨1577,0,1577,17⟩ 1 PK 216 PN 1737 2697 W6:=bR Z4 rfl (aak w os)
def W7:List Pc:=q19::W6
theorem aam (w:World) (os:OsState):Reach w os 238 ⟨1629,0,1635,23⟩ 1 PO 224 PR 1818 2814 W7:=bR Z8 rfl (aal w os)
def W8:List Pc:=q20::W7
theorem aan (w:World) (os:OsState):Reach w os 240 ⟨1644,0,1657,66⟩ 1 PS 226 PU 1872 2889 W8:=bR ZQ rfl (aam w os)
def W9:List Pc:=q21::W8
theorem aao (w:World) (os:OsState):Reach w os 254 ⟨1725,0,1726,54⟩ 1 PW 239 PX 1978 3047 W9:=bR ZV rfl (aan w os)
def Xa:List Pc:=q22::W9
theorem aap (w:World) (os:OsState):Reach w os 264 ⟨1768,0,1774,15⟩ 1 PY 248 PZ 2046 3151 Xa:=bR Z0 rfl (aao w os)
def Xb:List Pc:=q23::Xa
theorem aaq (w:World) (os:OsState):Reach w os 271 ⟨1820,0,1821,69⟩ 1 P1 254 P4 2100 3220 Xb:=bR Z5 rfl (aap w os)
def Xc:List Pc:=q24::Xb
theorem aar (w:World) (os:OsState):Reach w os 276 ⟨1861,0,1861,13⟩ 1 P5 258 P6 2180 3336 Xc:=bR Z9 rfl (aaq w os)
def Xd:List Pc:=q25::Xc
theorem aas (w:World) (os:OsState):Reach w os 301 ⟨2005,0,2005,8⟩ 1 P7 279 P8 2306 3521 Xd:=bR ZR rfl (aar w os)
def Xe:List Pc:=q26::Xd
theorem aat (w:World) (os:OsState):Reach w os 322 ⟨2088,0,2088,18⟩ 1 P9 298 Qa 2375 3658 Xe:=bR ZW rfl (aas w os)
def Xf:List Pc:=q27::Xe
theorem aau (w:World) (os:OsState):Reach w os 324 ⟨2097,0,2106,86⟩ 1 Qc 300 Qd 2429 3735 Xf:=bR Z1 rfl (aat w os)
def Xg:List Pc:=q28::Xf
theorem aav (w:World) (os:OsState):Reach w os 330 ⟨2143,0,2148,72⟩ 1 Qe 305 Qf 2504 3849 Xg:=bR Z6 rfl (aau w os)
def Xh:List Pc:=q29::Xg
theorem aaw (w:World) (os:OsState):Reach w os 350 ⟨2249,0,2253,23⟩ 1 Qg 325 Qh 2628 4020 Xh:=bR aac rfl (aav w os)
def Xi:List Pc:=q30::Xh
theorem aax (w:World) (os:OsState):Reach w os 356 ⟨2295,0,2295,18⟩ 1 Qi 330 Qj 2669 4085 Xi:=bR ZS rfl (aaw w os)
def Xj:List Pc:=q31::Xi
theorem aay (w:World) (os:OsState):Reach w os 366 ⟨2347,0,2348,98⟩ 1 Qk 340 Ql 2766 4219 Xj:=bR ZX rfl (aax w os)
def Xk:List Pc:=ZN::Xj
theorem aaz (w:World) (os:OsState):Reach w os 374 ⟨2381,0,2392,56⟩ 1 tT 347 Mq 2811 4281 Xk:=bR Z2 rfl (aay w os)
end
set_option backward.match.sparseCases false
section
@[irreducible] def dL:List (Nat×K.Ny):=NT.list K.dT
theorem zS:dL=NT.list K.dT:=by unfold dL;rfl
theorem CQ:dL.all Mm=true:=zS▸(by kernel_rfl:(NT.list K.dT).all Mm=ao)
theorem Mv:dL.all WS=true:=zS▸(by kernel_rfl:(NT.list K.dT).all WS=ao)
theorem G6:ju.all (λq=>Mi q.2)=true:=by kernel_rfl
def Sf (p:Nat×K.Ny):Bool:=ah ao (isNil p.2.ds&&(ah (ak p.2.i 365&&ak p.2.j 2291) (ak p.2.j 1638) (ak p.2.i 364))) (ak p.2.t 3)
theorem En:dL.all Sf=true:=zS▸(by kernel_rfl:(NT.list K.dT).all Sf=ao)
theorem Qp:NT.list K.Ub=ju.map (λp=>(p.1,K.L7 p.2)):=by kernel_rfl
theorem Xl i (h:i=360\/i=366):K.lams (K.u7 (K.fnBody (K.top i)))=[mZ i 0,mZ i 1]:=by rcases h with rfl|rfl<;>kernel_rfl
theorem yb:find (aG (cM (FT (mZ 360 0)).line 4096) (FT (mZ 360 0)).col) ju=af (mZ 360 0)/\find (aG (cM (FT (mZ 360 1)).line 4096) (FT (mZ 360 1)).col) ju=af (mZ 360 1)/\
 find (aG (cM (FT (mZ 366 0)).line 4096) (FT (mZ 366 0)).col) ju=af (mZ 366 0)/\find (aG (cM (FT (mZ 366 1)).line 4096) (FT (mZ 366 1)).col) ju=af (mZ 366 1):=qF (by kernel_rfl) (by kernel_rfl) (by kernel_rfl) (by kernel_rfl)
def Mw (i:Nat):Bool:=match K.fnBody (K.top i) with
 |[.Return (af (.Dict ks _ _)) _]=>ks.all λk=>match k with|some e=> !mH e|none=>ao
 |_=>ao
theorem Eo:Mw 360=ao/\Mw 366=true:=⟨by kernel_rfl,by kernel_rfl⟩
theorem Sg:O5 (Al 360)=af (2729,(bY "known_readers")++".<locals>.")/\O5 (Al 366)=af (2771,(bY "known_writers")++".<locals>."):=⟨by kernel_rfl,by kernel_rfl⟩
theorem Ep:gC (Al 360)=aj/\gC (Al 366)=false:=⟨by kernel_rfl,by kernel_rfl⟩
theorem Un:NT.find K.dT 2744=af ⟨0,362,0,[]⟩:=by kernel_rfl
theorem Mx:∀{l},e∈l->mH e=ao->e∈K.lams l:=by
 intro l
 induction l with
 |nil=>
  intro h _;exact(aU h).elim
 |cons x l a=>
  intro h hl;have b:K.lams (x::l)=ah (K.lams l) (x::K.lams l) (K.L8 x):=rfl;have c:K.L8=mH:=by funext y;rcases y<;>rfl
  refine cR b (cR c ?_);rcases aT.mp h with rfl|h
  .refine cR hl ?_;exact aE ..
  .have:=a h hl
   induction mH x using zB with
   |true=>exact aD _ this
   |false=>exact this
section
variable {w:World} {h:Heap}
def pl:List Pc:=Xk
def aaA:List (Nat×Nat):=pl.flatMap (·.tg)
abbrev Tells (h:Heap) (g:Nat->Option Obj):Prop:=∀a o,g a=af o->h.get? a=af o
structure Good (w:World) (h:Heap):Prop where
 main:h.get? mainNs=af (o3 (tT w) 347)
 blt:h.get? builtinsNs=af (sq w.params)
 bmod:h.get? 4=af (boot_o_4 w.params)
 aaB:h.get? cStatics=af (o2 w 1)
 Xm:∀p∈pl,m5 h p
theorem Uo:dL.all (λd=>pl.any λp=>bQ p.lo d.1&&bI d.1 p.hi)=true:=zS▸(by kernel_rfl:(NT.list K.dT).all (λd=>pl.any λp=>bQ p.lo d.1&&bI d.1 p.hi)=ao)
theorem Qq:G2.all (λC=>pl.any λp=> !ji C p.cs)=true:=by kernel_rfl
theorem Qt:iK.all (λC=>pl.any λp=> !ji C p.ts)=true:=by kernel_rfl
theorem Up:pl.reverse.flatMap (·.ms)=O4:=by kernel_rfl
theorem G7:(NT.list K.ms).all Mf=true:=by kernel_rfl
theorem Uq:(NT.list K.ms).all (λp=>p.2.all λq=> !ji q.1 G2)=true:=by kernel_rfl
theorem My:(NT.list K.init).all (λp=> !ji p.1 G2)=true:=by kernel_rfl
theorem Mz w:(NT.list K.glob).all (gB (dictOf (o3 (tT w) 347)) (dictOf (sq w.params)) aaA)=true:=by kernel_rfl
theorem yd w:Sb (o3 (tT w) 347)=true:=by kernel_rfl
theorem Ur (w:World):Sb (sq w.params)=true:=by kernel_rfl
theorem Qu w:Sb (o2 w 1)=true:=by kernel_rfl
theorem Us w:Nz (nm "sys.recursionlimit") (dictOf (o2 w 1))=none:=by kernel_rfl
theorem MA w:Nz (nm "__builtins__") (dictOf (o3 (tT w) 347))=af (.ref 4):=by kernel_rfl
theorem gD:∀{l},(!ji a l)=ao->a∈l:=by
 intro l
 induction l with
 |nil=>
  intro h;exact ff h
 |cons b l c=>
  intro h;have h:(!(ah (ji a l) aj (ak a b):Bool))=true:=h
  induction hb:ak a b using zB with
  |true=>refine cR (aH hb) ?_;exact aE ..
  |false=>rw [hb] at h;exact aD _ (c h)
theorem CR (G:Good w h) (hm:(a,d)∈dL):∃g,Tells h g/\xh g iK O5 d.ds a=zM d:=aL (iJ.mp (aK.mp Uo _ hm)) λp b hp=>jo (G.Xm p hp) λg c f i=>bW g (λa o e=>(f a o e).2.2) (Mg c (a,d) (gw.mpr ⟨zS▸hm,b⟩))
theorem rA {p:Pc} (h:facts g p.cs p.ms p.ts p.tg p.lw=ao):p.cs.all (ve g)=ao/\p.ms.all (λm=>codeHdIn (qo g [m.c]) m.c m.P&&ji m.c iK)=ao/\p.ts.all (Uj g)=ao/\p.tg.all (λq=>aB aj (λv=>vG g iK 5 v (.ref q.2)) (NT.find K.glob q.1))=ao/\(ah (Ph g p.lw) ao (ak p.lw 0):Bool)=true:=by
 unfold facts at h;simp only [aP] at h;exact h
theorem MB (G:Good w h) {C} (b:C∈G2):∃g,Tells h g/\ve g C=true:=dM (iJ.mp (aK.mp Qq _ b)) λp hp c=>jo (G.Xm p hp) λg i d f=>bW g (λa o e=>(d a o e).2.2) (aK.mp (rA f).1 C (gD c))
theorem zT (b:Tells h g) (h1:ve g C=ao):Fi (kP w h) (qo g (wA g C))/\(NT.list K.init).all (λp=>ah ao (Ui (qo g (wA g C)) p) (ak p.1 C))=ao/\(NT.list K.ms).all (FQ (qo g (wA g C)) C)=true:=by
 unfold ve at h1;simp only [aP] at h1;exact⟨λa o e=>⟨b _ _ (vd e).1,fW (aK.mp h1.1 a (vd e).2)⟩,h1.2⟩
set_option tactic.hygienic true in
theorem tab_of (G:Good w h) {P} (b:P∈iK):h.get? P=af ⟨.none,au,.fields #[],#[]⟩:=by
 refine dM (iJ.mp (aK.mp Qt _ b)) λp hp e=>jo (G.Xm p hp) λg l f i=> ?_;have h:=aK.mp (rA i).2.2.1 P (gD e);unfold Uj at h;split at h
 .rename_i o j;obtain⟨c,d,m,n⟩:=o;simp only [aP] at h;refine qH h λa h1 h2 k=> ?_;split at h1
  .split at a
   .rename_i q;have a:=Array.empty_of_isEmpty a;exact cR ((f _ _ j).2.2) (cR (cT.mp h2) (cR (Array.empty_of_isEmpty k) (cR a rfl)))
   .exact ff a
  .exact ff h1
 .exact ff h
theorem MC (G:Good w h) (a:P∈iK):P<h.objs.size:=bk (tab_of G a)
theorem MD (G:Good w h):∀p∈NT.list K.ms,∀q∈p.2,∃F,Fi (kP w h) F/\FQ F q.1 p=true:=λp hp q hq=>by
 exact aL (MB G (gD (aK.mp (aK.mp Uq p hp) q hq))) λg g2 g1=>eY (zT (w:=w) g1 g2) λU f1 f3=>bW _ f1 (aK.mp f3 p hp)
theorem qg (G:Good w h):Base (kP w h) [] K.G K.Ms where
 ax:=⟨⟩
 kx:=⟨λc x e=>e⟩
 gx:=O3 G.main G.blt (yd w) (Ur w) (show ji mainNs iK=ao by rfl) (show ji builtinsNs iK=ao by rfl) (Mz w) λq hq=>by
  refine aL (List.mem_flatMap.mp hq) λp hq hp=>jo (G.Xm p hp) λg U g1 g3=>bW g (λa o e=>(g1 a o e).2.2) (λv hv=> ?_);have:=aK.mp (rA g3).2.2.2.1 q hq;rw [hv] at this;exact this
 hbase:=by have:=MC G (P:=2725) (aE ..);show 10<=h.objs.size;exact fZ this
 htab:=λa ha=>MC G ha
 mo:=WM G7 (MD G)
 fl:=WN G7 (MD G)
theorem ME (G:Good w h):h.NoLimit:=aL (Bq G.aaB (Qu w)) λm a b=>bW m b ((a _ (by kernel_rfl)).trans (Us w))
theorem FW (G:Good w h) (d:P∈iK):∀a h' s,St (kP w h) a h' s->∃b,s.heap.Ns g8 b/\s.heap.BuiltinsAt b P:=by
 intro a h' s c;refine aL (Bq G.main (yd w)) λm f g=>⟨m,uG g λo e=>c.base _ o e (show mainNs∉iK by exact fW rfl),4,_,(f "__builtins__" (by kernel_rfl)).trans (MA w),by exact rK (aY rfl),by exact aY rfl,λq=> ?_,c.base _ _ G.bmod (show 4∉iK by exact fW rfl),rfl,rfl,rfl⟩;subst q;exact(show 4∉iK by exact fW rfl) d
theorem G8 (G:Good w h) (hm:m∈O4):∀b h' s,St (kP w h) b h' s->CodeHd s.heap m.c m.P:=λb h' s d=>by
 rw [<-Up] at hm;refine dM (List.mem_flatMap.mp hm) λp hp hm=>jo (G.Xm p (l9.mp hp)) λg k i j=> ?_;have e:=aK.mp (rA j).2.1 m hm;rw [aP] at e;have f:Fi (kP w h) (qo g [m.c]):=λa o q=>⟨(i _ _ (vd q).1).2.2,by refine cR (eE.mp (vd q).2) ?_;exact fW e.2⟩;exact codeHd_of_K (f.In d) e.1
theorem MF (G:Good w h) (hi:i=360\/i=366) (hm:m∈O4) (l:m.P∈iK) (g:g8≠m.P) (o:O5 (Al i)=af (m.c,qq)) (d:gC (Al i)=aj) (hk:Mw i=ao)
 (hq:∀k,k=0\/k=1->find (aG (cM (FT (mZ i k)).line 4096) (FT (mZ i k)).col) ju=af (mZ i k)/\CM m.P (FT (mZ i k)).line (FT (mZ i k)).col=af (qq++"<lambda>"))
 (hb:K.fnBody (K.top i)=[.Return (af (.Dict ks vs p1)) p2]):(∀e,af e∈ks->pJ (kP w h) r n 0 (Al i) e)/\∀e∈vs,pJ (kP w h) r n 0 (Al i) e:=by
 constructor
 .intro e he a b sc pos q;subst q;have hk:(match K.fnBody (K.top i) with
   |[.Return (af (.Dict ks _ _)) _]=>ks.all λk=>match k with|some e=> !mH e|none=>ao
   |_=>ao)=true:=hk
  rw [hb] at hk;exact ff (aK.mp hk _ he)
 .intro e he;have p:K.u7 (K.fnBody (K.top i))=vs:=cR hb rfl;have hl:=Xl i hi;rw [p] at hl;have f:mH e=ao->∃k,(k=0\/k=1)/\e=mZ i k:=λq=>by
   have:=Mx he q;rw [hl] at this;rcases aT.mp this with q|q
   .exact bW 0 (.inl rfl) q
   .exact bW 1 (.inr rfl) (eE.mp q)
  refine Mj ⟨⟩ d o l (G8 G hm) (FW G l) g (λs s=>rfl) (λq=> ?_) (λa b sc pos q=> ?_)
  .refine aL (f q) λk j=> ?_;subst j;intro hk;exact aK.mp G6 _ (zP (hq k hk).1)
  .refine dM (f (cR q rfl)) λk hk t=> ?_;have:=hq k hk;rw [<-t,q] at this;refine cR q ?_;exact this
theorem Xn (G:Good w h) (hm:(a,d)∈dL):∀r n,Cf (kP w h) r n->∀ks vs b c,K.fnBody (x8 d)=[.Return (af (.Dict ks vs b)) c]->(∀e,af e∈ks->pJ (kP w h) r n 0 (oK (x8 d)).names e)/\∀e∈vs,pJ (kP w h) r n 0 (oK (x8 d)).names e:=by
 intro r n l ks vs b c hb;have ht:=aK.mp Mv _ hm;have ht:(ah (FP (K.fnBody (x8 d))) ao (Mn d):Bool)=true:=ht
 induction hl:Mn d using zB with
 |false=>rw [hl] at ht;exact Me ht ks vs b c hb
 |true=>
  have hl:(ah aj (ah (ak d.i 366) ao (ak d.i 360)) (ak d.t 0):Bool)=true:=hl;have g:ak d.t 0=true:=by
   induction q:ak d.t 0 using zB with
   |true=>rfl
   |false=>rw [q] at hl;exact ff hl
  rw [g] at hl;replace hl:(ah (ak d.i 366) ao (ak d.i 360):Bool)=true:=hl;have f:x8 d=K.top d.i:=by
   unfold x8;refine cR (aH g) ?_;rfl
  rw [f] at hb⊢
  induction j:ak d.i 360 using zB with
  |true=>
   rw [aH j] at hb⊢;refine MF G (m:=⟨360,2729,2725,"known_readers"⟩) (.inl rfl) (aE ..) (aE ..) (aY rfl) Sg.1 Ep.1 Eo.1 (λk hk=> ?_) hb;rcases hk with rfl|rfl
   .exact⟨yb.1,rfl⟩
   .exact⟨yb.2.1,rfl⟩
  |false=>
   rw [j] at hl;rw [aH hl] at hb⊢;refine MF G (m:=⟨366,2771,2767,"known_writers"⟩) (.inr rfl) (mL rfl) (gD rfl) (aY rfl) Sg.2 Ep.2 Eo.2 (λk hk=> ?_) hb;rcases hk with rfl|rfl
   .exact⟨yb.2.2.1,rfl⟩
   .exact⟨yb.2.2.2,rfl⟩
theorem FY {a:Addr} {F} (e:KT.fn a=af F):∃d,(a,d)∈dL/\F=K.CK d:=by
 have e:(aB au (λd=>af (K.CK d)) (K.dT.find a):Option Fn)=af F:=e
 induction b:K.dT.find a using zO with
 |none=>rw [b] at e;exact fn e
 |some d=>
  rw [b] at e;injection e with e;subst e
  exact bW d (zS▸NT.jj b) rfl
theorem IZ (e:ak d.t 3=aj) (f:bQ d.t 4=ao):(K.CK d).prim=0:=by
 obtain⟨t,i,j,ds⟩:=d;have b:∀a,(K.fnOf a ds).prim=0:=λa=>by rcases a<;>rfl
 have c:∀a,(K.YF a ds).prim=0:=λa=>by rcases a<;>rfl
 rcases t with _|_|_|_|_|t
 .exact b _
 .exact c _
 .exact b _
 .exact ft e
 .exact c _
 .exact absurd (aA f) (Nat.not_le.mpr (rN 5 t))
theorem zU (a:ak d.t 3=ao):(K.CK d).prim=d.j/\x8 d=K.top d.i:=by
 obtain⟨t,i,j,ds⟩:=d;have:t=3:=aH a;exact cR this (⟨rfl,rfl⟩)
theorem Qv (G:Good w h):Lb (kP w h) [] KT where
 cls:=λC f e=>by
  have e:NT.find K.init C=af f:=e;have hm:=NT.jj e;refine aL (MB G (gD (aK.mp My _ hm))) λg M S=>eY (zT (w:=w) S M) λT V N=> ?_;have:=aK.mp T _ hm;dsimp only at this;rw [fq] at this;unfold Ui at this;simp only [aP,beq_iff_eq] at this;exact⟨_,V,this.1,this.2.1,this.2.2⟩
 bi:=Ua ⟨⟩ (qg G).hbase (qg G).htab
 fnk:=λa F e=>by
  refine dM (FY e) λd hm N=>aL (CR G hm) λg H u=>ku (nQ H) λo fd N h1 h2=> ?_;have ht:=aK.mp CQ _ hm;unfold Mm at ht;rw [aP] at ht;exact jV o fd (u _ _ h1) h2 (fW ht.1)
 fn:=λa F e hp=>by
  refine aL (FY e) λd c=> ?_;subst c;intro hm;have ht:=aK.mp CQ _ hm;unfold Mm at ht;simp only [aP] at ht;refine iL ht λI z O=> ?_;have D:ak d.t 3=false:=by
   induction q:ak d.t 3 using zB with
   |false=>rfl
   |true=>
    rw [(zU q).1] at hp;have b:(ah ao (isNil d.ds&&(ah (ak d.i 365&&ak d.j 2291) (ak d.j 1638) (ak d.i 364))) (ak d.t 3):Bool)=true:=aK.mp En _ hm;rw [q,aH hp] at b;have b:=(cO.mp b).2
    induction v:ak d.i 364 using zB with
    |true=>rw [v] at b;exact ff b
    |false=>rw [v] at b;exact ff ((cO.mp b).2)
  exact aL (CR G hm) λg H u=>Ud u (qg G) H z O ⟨D,I⟩ (Xn G hm)
 prim:=λa F e hp r n W A X w' h' s Y vs ys hv k res P Q Z=>by
  refine aL (FY e) λd c=> ?_;subst c;intro hm;have ht:=aK.mp CQ _ hm;unfold Mm at ht;simp only [aP] at ht;refine iL ht λI z O=> ?_;have D:ak d.t 3=true:=by
   induction q:ak d.t 3 using zB with
   |true=>rfl
   |false=>rw [IZ q I] at hp;exact ft hp
  refine f7 (zU D) λp1 E=> ?_;have B:=qg G;have b:(ah ao (isNil d.ds&&(ah (ak d.i 365&&ak d.j 2291) (ak d.j 1638) (ak d.i 364))) (ak d.t 3):Bool)=true:=aK.mp En _ hm;rw [D] at b;refine aC (cO.mp b) λb J=>aL (CR G hm) λg l u=> ?_;rw [zQ J] at l;refine aL (CR G (zS▸NT.jj Un)) λM x y=> ?_;have pr:Nonempty (L5 (kP w h) K.G a d.j):=by
   induction v:ak d.i 364 using zB with
   |true=>
    rw [v] at b;rw [aH v] at E;exact cR (aH b) (G1 O9 u y rfl rfl (gD rfl) (G8 G (m:=⟨364,2757,2753,"gsub_octets"⟩) (by simp [O4])) (FW G (gD rfl)) (aY rfl) z (by kernel_rfl) E l x)
   |false=>
    rw [v] at b;refine f7 (cO.mp b) λq1 q2=> ?_;rw [aH q1] at E;exact cR (aH q2) (G1 Pa u y rfl rfl (gD rfl) (G8 G (m:=⟨365,2764,2760,"gpos_octets"⟩) (by simp [O4])) (FW G (gD rfl)) (aY rfl) z (by kernel_rfl) E l x)
  rw [p1] at P;obtain⟨R⟩:=pr;exact OY B.ax B.htab (ME G) (show cStatics∉iK by exact fW rfl) B.gx R W X Y hv P Z
 lam:=λj L e=>by
  have e:NT.find K.Ub j=af L:=e;have hm:=NT.jj e;rw [Qp] at hm;refine aL (gG.mp hm) λp hq hp=> ?_;have hj:j=p.1:=congrArg eB hq.symm;have hf:find j ju=af p.2:=by
   refine cR hj ?_;simp only [ju,aT,aU,or_false] at hp;rcases hp with rfl|rfl|rfl|rfl<;>rfl
  exact O7 (qg G) G6 hf (congrArg Prod.snd hq.symm)
theorem Ut (G:Good w h):∀n,Cf (kP w h) (run KT n) n:=by
 have B:=qg G;exact Ow B.ax B.kx B.htab (ME G) (show cStatics∉iK by exact fW rfl) (Qv G)
end
end
end
section
open PyProof.Rows PySem.Calls PySem.W
theorem CS {prog:Program} {w:World} {t:Sem Fin} {s:Shared} {R:Result->Shared->Prop} (e:s.asleep)
 (h:cG (model prog w) callerA t (λg s'=>∃f,g= .done f/\R (.ok f) s'/\leftWithCleanup s'.gens=aj) (λk k=>False) s):
 ∃n r s' s'',runN (denote table) prog w n s ⟨t,.builtin "claim.caller" {},default,[]⟩= .halted (outcomeOf r) s'/\
  schedN (denote table) prog w n (.single s ⟨t,.builtin "claim.caller" {},default,[]⟩)= .halted (outcomeOf r) s'/\s'.forget=s''.forget/\R r s'':=by
 obtain⟨n,r,i,j,a,b,c,d⟩:=wp_halts_full (M:=model prog w) (R:=R) e (pO (model prog w) ⟨.builtin "claim.caller" {},au,au,[],au⟩ t (λg o s' h'=>by
  refine dM h' λf l=> ?_;subst l;intro m;exact m) (λk k k h'=>h'.elim) default s (h ⟨.builtin "claim.caller" {},au,au,[],au⟩ default caller_in ⟨by exact rfl,λx hx=>(aU hx).elim⟩))
 exact uh n r j i b a c d
def Qw (n:Int) (v:Value):Prop:=∃t,v= .int n t
theorem Qx {cl:Str->Option Addr} {P:Params} {ord:List aV->List aV}:∀(ns:List Int) (s:Shared) (r:List Value×Shared),layAllW [] cl P ord (ofPys (ns.map jU)) s=af r->iR Qw ns r.1/\r.2.heap=s.heap:=by
 intro ns
 induction ns with
 |nil=>
  intro s r e;exact aF e▸⟨.nil,rfl⟩
 |cons n ns f=>
  intro s r e;refine ou (layAllW_cons e) λa q hq b g=> ?_;have b:=aF b;refine aC (f _ q hq) λd c=> ?_;rw [<-b] at d;exact cR g (cL b (⟨.cons ⟨_,rfl⟩ c,d⟩))
theorem Qy {cl:Str->Option Addr} {P:Params} {ord:List aV->List aV} {ns:List Int} {s c:Shared} {vs:List Value} (e:layAllW [] cl P ord [ofPy (.list (ns.map jU))] s=af (vs,c)):
 ∃d:List Value,iR Qw ns d/\vs=[.ref s.heap.objs.size]/\c.heap=s.heap.push {cls:= .type "list",data:= .seq d.toArray}:=by
 simp only [ofPy,layAllW,layW] at e
 induction q:layAllW [] cl P ord (ofPys (sI jU ns)) s using zO with
 |none=>rw [q] at e;exact fn e
 |some r=>
  rw [q] at e;refine f7 (Qx ns s r q) λa b=> ?_;simp only [Option.some.injEq,Prod.mk.injEq] at e;exact f5 r.1 a (cL e.1 (cR b rfl)) (cL e.2 (cR b rfl))
theorem MG:∀(xs:List WData),(xs.all λd=>WShape.has [] d .int)=ao->∃ns:List Int,xs=ofPys (ns.map jU):=by
 intro xs
 induction xs with
 |nil=>
  intro _;exact⟨[],rfl⟩
 |cons d xs b=>
  intro h;rw [iz,aP] at h;refine fB (b h.2) λns a=> ?_
  induction d using PySem.W.WData.casesOn with
  |int i=>exact⟨i::ns,congrArg (WData.int i:: ·) a⟩
  |_=>exact ff h.1
theorem Qz {args:List WData} (h:WShape.hasAll [] args [.list .int]=ao):∃ns:List Int,args=[ofPy (.list (ns.map jU))]:=by
 refine vK (hasAllW_cons h) λd r b=> ?_;subst b;intro h1 h2;obtain rfl:=hasAllW_nil h2
 induction d using PySem.W.WData.casesOn with
 |list xs=>
  have h1:(xs.all λd=>WShape.has [] d .int)=true:=by
   have this:(WShape.hasItems [] xs .int||false)=true:=h1;rw [pP] at this;have c:∀l:List WData,WShape.hasItems [] l .int=ao->(l.all λd=>WShape.has [] d .int)=true:=by
    intro l
    induction l with
    |nil=>intro _;rfl
    |cons a l f=>intro q;rw [WShape.hasItems,aP] at q;refine cR iz (cR q.1 (cR (f q.2) ?_));rfl
   exact c xs this
  exact fB (MG xs h1) λns e=>⟨ns,by refine cR e ?_;rfl⟩
 |_=>exact ff h1
end
section
set_option backward.match.sparseCases false
section
theorem Er (h:f j=t):f=upd f j t:=by
 funext i
 refine(?_:f i=ah (f i) t (ak i j))
 induction e:ak i j using zB with
 |false=>rfl
 |true=>exact cL h (cR (cz e) rfl)
def kQ (l:List (Nat×TR)) (f:Nat->TR):Nat->TR:=aS f (λp U ih=>upd ih p.1 p.2) l
def At (f:Nat->TR) (l:List (Nat×TR)):Prop:=aS True (λp U ih=>f p.1=p.2/\ih) l
theorem At.eq:∀{l},At f l->∃g,f=kQ l g:=by
 intro l
 induction l with
 |nil=>
  intro _;exact⟨f,rfl⟩
 |cons p l a=>
  intro h;exact f7 (show f p.1=p.2/\At f l from h) λh1 h2=>fB (a h2) λg b=>⟨g,(Er h1).trans (congrArg (λx=>upd x p.1 p.2) b)⟩
theorem At.app:∀{l m},At f l->At f m->At f (l++m):=by
 intro l
 induction l with
 |nil=>
  intro _ _ h;exact h
 |cons _ _ a=>
  intro _ h h';exact⟨h.1,a h.2 h'⟩
def Fr (d:Nat) (f:Nat->TR) (J:Nat) (g:Nat->TR):Prop:=∀j,bI j J=ao->ak j d=aj->g j=f j
theorem Fr.refl:Fr d f J f:=λa a a=>rfl
theorem Fr.upd (h:Fr d f J g) (hk:bI k J=aj\/ak k d=ao):Fr d f J (upd g k t):=λj h1 h2=>by
 have a:ak j k=false:=by
  induction e:ak j k using zB with
  |false=>rfl
  |true=>
   have e:=cz e;subst e;rcases hk with q|q
   .rw [h1] at q;exact ft q
   .rw [h2] at q;exact ff q
 refine(?_:ah (g j) t (ak j k)=f j);refine cR a ?_;exact h j h1 h2
theorem Fr.trans (h:Fr d f J g) (h':Fr d g J' k) (a:bQ J J'=ao):Fr d f J k:=λj h1 h2=>
 (h' j (cH.mpr (aQ (cH.mp h1) (aA a))) h2).trans (h j h1 h2)
theorem At.fr (h:Fr d f J g):∀{l},At f l->l.all (λp=>bI p.1 J&& !ak p.1 d)=ao->At g l:=by
 intro l
 induction l with
 |nil=>
  intro _ _;exact trivial
 |cons p l b=>
  intro a c;rw [iz,aP,aP,gq] at c;exact⟨(h p.1 c.1.1 c.1.2).trans a.1,b a.2 c.2⟩
noncomputable def HH (f:Nat->TR) (J:Nat):H:=⟨⟨f,.nil,J⟩,cM 16384 J⟩
noncomputable def HC (f:Nat->TR) (t:TR) (J n:Nat):H:=⟨⟨f,t,J⟩,n⟩
noncomputable def zV:Nat->TR:=λU=> .nil
def Xo (x:Option Res):Res:=aB ⟨⟨[],[]⟩,di,HH zV 0⟩ (λx=>x) x
def ev (X:XS) (r:Ap) (ρ:Env) (l:List (Nat×TR)) (J:Nat):Res:=Xo (X.f r ρ (HH (kQ l zV) J) (λρ h=>af ⟨ρ,di,h⟩) (λv h=>af ⟨⟨[],[]⟩,v,h⟩))
def Y3 (X:XE) (r:Ap) (ρ:Env) (l:List (Nat×TR)) (J:Nat):Res:=Xo (X.f r ρ (HH (kQ l zV) J) (λv h=>af ⟨ρ,v,h⟩))
noncomputable def cu (r:Res):TR:=r.h.l.cur
noncomputable def ol (r:Res) (j:Nat):TR:=r.h.l.old j
def jK (d:Nat) (X:XS) (r:Ap) (ρ:Env) (J:Nat) (l:List (Nat×TR)) (ρ':Env) (J':Nat) (new:List (Nat×TR)):Prop:=
 ∀f,At f l->∃g,(∀kn kr,X.f r ρ (HH f J) kn kr=kn ρ' (HH g J'))/\Fr d f J g/\At g new
def xj (d:Nat) (X:XS) (r:Ap) (ρ:Env) (J:Nat) (l:List (Nat×TR)) (v:V) (J':Nat) (new:List (Nat×TR)):Prop:=
 ∀f,At f l->∃g,(∀kn kr,X.f r ρ (HH f J) kn kr=kr v (HH g J'))/\Fr d f J g/\At g new
def eS (d:Nat) (X:XE) (r:Ap) (ρ:Env) (J:Nat) (l:List (Nat×TR)) (v:V) (J':Nat) (new:List (Nat×TR)):Prop:=
 ∀f,At f l->∃g,(∀k,X.f r ρ (HH f J) k=k v (HH g J'))/\Fr d f J g/\At g new
section
variable {d J J':Nat} {X:XS} {Y:XE} {r:Ap} {ρ ρ':Env} {l new:List (Nat×TR)} {v:V}
theorem jK.mk (G:(Nat->TR)->Nat->TR) (h:∀g c e,X.f r ρ (HH (kQ l g) J) c e=c ρ' (HH (G (kQ l g)) J')) (i:∀f,Fr d f J (G f)) (hn:∀f,At (G f) new):jK d X r ρ J l ρ' J' new:=λf a=>by
 refine fB a.eq λg b=> ?_;subst b;exact f5 _ (h g) (i _) (hn _)
theorem xj.mk (G:(Nat->TR)->Nat->TR) (h:∀g e c,X.f r ρ (HH (kQ l g) J) e c=c v (HH (G (kQ l g)) J')) (i:∀f,Fr d f J (G f)) (hn:∀f,At (G f) new):xj d X r ρ J l v J' new:=λf a=>by
 refine fB a.eq λg b=> ?_;subst b;exact f5 _ (h g) (i _) (hn _)
theorem eS.mk (G:(Nat->TR)->Nat->TR) (h:∀g k,Y.f r ρ (HH (kQ l g) J) k=k v (HH (G (kQ l g)) J')) (c:∀f,Fr d f J (G f)) (hn:∀f,At (G f) new):eS d Y r ρ J l v J' new:=λf a=>by
 refine fB a.eq λg b=> ?_;subst b;exact f5 _ (h g) (c _) (hn _)
end
noncomputable def tl {α:Type} (f:Bool->α):α×α:=(f aj,f ao)
noncomputable def tr {α:Type} (f:Bool->α):α×α:=(f aj,f ao)
section
variable {α:Type}
theorem sH (h:tl f=tr g) a:f a=g a:=by
 rcases a
 .exact congrArg eB h
 .exact congrArg Prod.snd h
theorem CU {f g:Bool->Bool->α} (h:tl (λa=>tl (f a))=tr (λa=>tr (g a))) (a b):f a b=g a b:=sH (sH h a) b
theorem I0 {f g:Bool->Bool->Bool->α} (h:tl (λa=>tl (λb=>tl (f a b)))=tr (λa=>tr (λb=>tr (g a b)))) (a b c):f a b c=g a b c:=sH (CU h a b) c
theorem FZ {f g:Bool->Bool->Bool->Bool->α} (h:tl (λa=>tl (λb=>tl (λc=>tl (f a b c))))=tr (λa=>tr (λb=>tr (λc=>tr (g a b c))))) (a b c d):f a b c d=g a b c d:=sH (I0 h a b c) d
theorem MH {f g:Bool->Bool->Bool->Bool->Bool->α} (h:tl (λa=>tl (λb=>tl (λc=>tl (λd=>tl (f a b c d)))))=tr (λa=>tr (λb=>tr (λc=>tr (λd=>tr (g a b c d)))))) (a b c d e):f a b c d e=g a b c d e:=sH (FZ h a b c d) e
theorem tb8 {f g:Bool->Bool->Bool->Bool->Bool->Bool->Bool->Bool->α} (h:tl (λa=>tl (λb=>tl (λc=>tl (λd=>tl (λe=>tl (λi=>tl (λj=>tl (f a b c d e i j))))))))=tr (λa=>tr (λb=>tr (λc=>tr (λd=>tr (λe=>tr (λi=>tr (λj=>tr (g a b c d e i j))))))))) (a b c d e i j k):f a b c d e i j k=g a b c d e i j k:=
 I0 (MH h a b c d e) i j k
noncomputable def hl {α:Type} (f:Bool->Bool->Bool->Bool->Bool->α):=(f ao,f aj ao,f aj aj ao,f aj aj aj ao,f aj aj aj aj ao)
noncomputable def hr {α:Type} (f:Bool->Bool->Bool->Bool->Bool->α):=(f ao,f aj ao,f aj aj ao,f aj aj aj ao,f aj aj aj aj ao)
theorem h5 (h:hl f=hr g) (i:f aj aj aj aj aj=g aj aj aj aj aj) (a b c d e):f a b c d e=g a b c d e:=by
 rcases a
 .rcases b
  .rcases c
   .rcases d
    .rcases e
     .exact i
     .exact congrArg (λx=>x.2.2.2.2) h
    .exact congrFun (congrArg (λx=>x.2.2.2.1) h) e
   .exact congrFun (congrFun (congrArg (λx=>x.2.2.1) h) d) e
  .exact congrFun (congrFun (congrFun (congrArg (λx=>x.2.1) h) c) d) e
 .exact congrFun (congrFun (congrFun (congrFun (congrArg (λx=>x.1) h) b) c) d) e
def ul {α:Type} (f:Bool->Bool->Bool->Bool->Bool->α):=(tl λb=>tl λc=>tl λd=>tl (f ao b c d),tl λc=>tl λd=>tl (f aj ao c d),tl λd=>tl (f aj aj ao d),tl (f aj aj aj ao),f aj aj aj aj ao)
def ur {α:Type} (f:Bool->Bool->Bool->Bool->Bool->α):=(tr λb=>tr λc=>tr λd=>tr (f ao b c d),tr λc=>tr λd=>tr (f aj ao c d),tr λd=>tr (f aj aj ao d),tr (f aj aj aj ao),f aj aj aj aj ao)
theorem u5 (h:ul f=ur g) (i:f aj aj aj aj aj=g aj aj aj aj aj) (a b c d e):f a b c d e=g a b c d e:=by
 rcases a
 .rcases b
  .rcases c
   .rcases d
    .rcases e
     .exact i
     .exact congrArg (λx=>x.2.2.2.2) h
    .exact sH (congrArg (λx=>x.2.2.2.1) h) e
   .exact CU (congrArg (λx=>x.2.2.1) h) d e
  .exact I0 (congrArg (λx=>x.2.1) h) c d e
 .exact FZ (congrArg (λx=>x.1) h) b c d e
def DT (α:Type) (n:Nat):Type:=gJ (List Nat->α) (λU ih=>α×(Nat->ih)) n
noncomputable def dl (n:Nat):(List Nat->α)->DT α n:=gJ (λf=>f) (λU ih f=>(f [],λu=>ih λl=>f (u::l))) n
noncomputable def dr (n:Nat):(List Nat->α)->DT α n:=gJ (λf=>f) (λU ih f=>(f [],λu=>ih λl=>f (u::l))) n
theorem G9 n:∀{f g:List Nat->α},dl n f=dr n g->∀us,f us=g us:=by
 induction n with
 |zero=>exact λh us=>congrFun h us
 |succ n a=>
  intro f g h us;rcases us with _|⟨u,us⟩
  .exact congrArg eB h
  .exact a (congrFun (congrArg Prod.snd h) u) us
end
structure d7 where
 b0:Bool
 b1:Bool
 b2:Bool
 b3:Bool
 b4:Bool
 b5:Bool
 b6:Bool
 b7:Bool
 b8:Bool
 b9:Bool
 vq:Bool
 oj:Bool
 oq:Bool
 nY:Bool
@[elab_as_elim] theorem gW {P:Bool->Prop} w (a:P aj) (h1:P ao):P w:=by
 rcases w
 .exact a
 .exact h1
def sel {α:Type} (b:Bool) (x y:α):α:=ah y x b
def vB (b:Bool):V:=aX (sel b 1 0)
def Sh (p:d7):List V:=[vB p.b0,vB p.b1,vB p.b2,vB p.b3,vB p.b4,vB p.b5,vB p.b6,vB p.b7,vB p.b8,vB p.b9,vB p.vq,vB p.oj,vB p.oq,vB p.nY]
noncomputable def t1 (o:O):TR:= .node (af o) .nil .nil
def tP (p:d7):TR:=t1 (bL (Sh p))
noncomputable def CV:Stmt->List (Str×aN)
 | .FunctionDef _ _ _ _ _ _ sc _ _ _=>sc.names
 |_=>[]
def Y4 (s:Stmt) (k:Nat):XS:=E2 K.G K.Ms (CV s) (K.sD (K.fnBody s) k)
noncomputable def rh (l:List (Nat×V)):Env:=⟨l,[]⟩
end
set_option backward.match.sparseCases true
section
def jw (w:Bool) (a b:Nat):Nat:=sel w b a
def LF (k:Nat):XS:=Y4 (K.top 371) k
def xD (w:Bool):V:=bP (jw w 49152 573440)
def qv (w:Bool) (p:d7):Nat×TR:=(jw w 3 35,tP p)
def rF1 (w:Bool):List (Nat×V):=[(31115227376,xD w)]
def QA (w:Bool) (p:d7):Nat×V:=(31083542499,bP (aG (jw w 638976 1032192) (sel p.b1 4 1)))
def eF0 (w:Bool) (p:d7):Res:=ev (LF 0) (run KT 38) (rh (rF1 w)) [qv w p] (jw w 39 63)
def Uu (w:Bool):Nat×V:=(213464311,bP (jw w 671744 1064960))
def Y5 (w:Bool) (p:d7):Res:=ev (LF 1) (run KT 38) (rh [(31115227376,xD w),QA w p]) [qv w p] (jw w 41 65)
def Uv (w:Bool):Nat×V:=(509205389587181,bP (jw w 704513 1097729))
def eF2 (w:Bool) (p:d7):Res:=ev (LF 2) (run KT 38) (rh [(31115227376,xD w),QA w p,Uu w]) [qv w p,(jw w 41 65,cu (Y5 w p))] (jw w 43 67)
def Xp (w:Bool):Nat×V:=(509276795205219,bP (jw w 753665 1146881))
def MI (w:Bool):Nat×V:=(3600193239649,bP (jw w 786433 1179649))
def Vs (w:Bool) (p:d7):Res:=ev (LF 3) (run KT 38) (rh [(31115227376,xD w),QA w p,Uu w,Uv w]) [qv w p] (jw w 45 69)
def Y6 (w:Bool) (p:d7):Nat×V:=(243086067,bP (aG (jw w 835584 1228800) (sel p.b6 4 0)))
def eF4 (w:Bool) (p:d7):Res:=ev (LF 4) (run KT 38) (rh [(31115227376,xD w),QA w p,Uu w,Uv w,Xp w,MI w]) [qv w p] (jw w 51 75)
def Y7 (w:Bool):Nat×V:=(215577191,bP (jw w 868354 1261570))
def eF5 (w:Bool) (p:d7):Res:=ev (LF 5) (run KT 38) (rh [(31115227376,xD w),QA w p,Uu w,Uv w,Xp w,MI w,Y6 w p]) [qv w p] (jw w 53 77)
def aF6 (w:Bool) (p:d7):Nat×V:=(207452647,sel p.oj (bP (jw w 901135 1294351)) di)
def eF6 (w:Bool) (p:d7):Res:=ev (LF 6) (run KT 38) (rh [(31115227376,xD w),QA w p,Uu w,Uv w,Xp w,MI w,Y6 w p,Y7 w]) [qv w p] (jw w 55 79)
def aF7 (w:Bool) (p:d7):Nat×V:=(243005543,sel p.oq (bP (jw w 933904 1327120)) di)
def eF7 (w:Bool) (p:d7):Res:=ev (LF 7) (run KT 38) (rh [(31115227376,xD w),QA w p,Uu w,Uv w,Xp w,MI w,Y6 w p,Y7 w,aF6 w p]) [qv w p] (jw w 57 81)
def rF9 (w:Bool) (p:d7):List (Nat×V):=[(31115227376,xD w),QA w p,Uu w,Uv w,Xp w,MI w,Y6 w p,Y7 w,aF6 w p,aF7 w p]
def xE (w:Bool):V:=bP (jw w 966657 1359873)
def Vt (w:Bool) (p:d7):TR:= .node (af (dZ (sel p.nY [(dJ [aX 1,aX 2],qJ 60)] []) (sel p.nY 1 0)))
 (.node (af (ux 2698 [(495943604008035,(QA w p).2),(509205389587181,(Uv w).2),(215577191,(Y7 w).2),(207452647,(aF6 w p).2),(243005543,(aF7 w p).2),(232567531,bP (jw w 966656 1359872))])) .nil .nil) .nil
def Es (w:Bool) (p:d7) (k:Nat):Env:=rh (yy (rF9 w p) k)
def iB (w:Bool) (p:d7):List (Nat×TR):=[(jw w 39 63,cu (eF0 w p)),(jw w 43 67,cu (eF2 w p)),(jw w 46 70,ol (Vs w p) (jw w 46 70)),(jw w 48 72,ol (Vs w p) (jw w 48 72)),(jw w 51 75,cu (eF4 w p)),
 (jw w 53 77,cu (eF5 w p)),(jw w 55 79,cu (eF6 w p)),(jw w 57 81,cu (eF7 w p)),(jw w 59 83,Vt w p)]
theorem lF0 w p:jK 9999 (sJ aj (LF 0)) (run KT 38) (Es w p 1) (jw w 38 62) [qv w p] (Es w p 2) (jw w 40 64) [(jw w 39 63,cu (eF0 w p))]:=
 jK.mk (λf=>upd (upd f (jw w 38 62) .nil) (jw w 39 63) (cu (eF0 w p))) (λg a b=>by
  cases p
  (revert w b0 b1;refine I0 ?_;kernel_rfl)) (λf=>by rcases w<;>exact(Fr.refl.upd (.inl rfl)).upd (.inl rfl)) (λf=>by rcases w<;>exact⟨rfl,trivial⟩)
theorem lF1 w p:jK 9999 (sJ aj (LF 1)) (run KT 38) (Es w p 2) (jw w 40 64) [qv w p] (Es w p 3) (jw w 42 66) [(jw w 41 65,cu (Y5 w p))]:=
 jK.mk (λf=>upd (upd f (jw w 40 64) .nil) (jw w 41 65) (cu (Y5 w p))) (λg a b=>by
  cases p
  (revert w b9;refine CU ?_;kernel_rfl)) (λf=>by rcases w<;>exact(Fr.refl.upd (.inl rfl)).upd (.inl rfl)) (λf=>by rcases w<;>exact⟨rfl,trivial⟩)
theorem lF2 w p:jK 9999 (sJ aj (LF 2)) (run KT 38) (Es w p 3) (jw w 42 66) [qv w p,(jw w 41 65,cu (Y5 w p))] (Es w p 4) (jw w 44 68) [(jw w 43 67,cu (eF2 w p))]:=
 jK.mk (λf=>upd (upd f (jw w 42 66) .nil) (jw w 43 67) (cu (eF2 w p))) (λg a b=>by
  cases p
  (revert w b2 b3 b9 vq;refine MH ?_;kernel_rfl)) (λf=>by rcases w<;>exact(Fr.refl.upd (.inl rfl)).upd (.inl rfl)) (λf=>by rcases w<;>exact⟨rfl,trivial⟩)
theorem lF3 (w:Bool) (p:d7):jK 9999 (sJ aj (LF 3)) (run KT 38) (Es w p 4) (jw w 44 68) [qv w p] (Es w p 6) (jw w 50 74) [(jw w 46 70,ol (Vs w p) (jw w 46 70)),(jw w 48 72,ol (Vs w p) (jw w 48 72))]:=
 jK.mk (λf=>upd (upd (upd (upd (upd (upd f (jw w 44 68) .nil) (jw w 45 69) .nil) (jw w 46 70) (ol (Vs w p) (jw w 46 70))) (jw w 47 71) .nil) (jw w 48 72) (ol (Vs w p) (jw w 48 72))) (jw w 49 73) .nil) (λg a b=>by
  cases p
  (revert w b4 b5;refine I0 ?_;kernel_rfl)) (λf=>by rcases w<;>exact(((((Fr.refl.upd (.inl rfl)).upd (.inl rfl)).upd (.inl rfl)).upd (.inl rfl)).upd (.inl rfl)).upd (.inl rfl)) (λf=>by rcases w<;>exact iU rfl rfl trivial)
theorem lF4 w p:jK 9999 (sJ aj (LF 4)) (run KT 38) (Es w p 6) (jw w 50 74) [qv w p] (Es w p 7) (jw w 52 76) [(jw w 51 75,cu (eF4 w p))]:=
 jK.mk (λf=>upd (upd f (jw w 50 74) .nil) (jw w 51 75) (cu (eF4 w p))) (λg a b=>by
  cases p
  (revert w b6;refine CU ?_;kernel_rfl)) (λf=>by rcases w<;>exact(Fr.refl.upd (.inl rfl)).upd (.inl rfl)) (λf=>by rcases w<;>exact⟨rfl,trivial⟩)
theorem lF5 w p:jK 9999 (sJ aj (LF 5)) (run KT 38) (Es w p 7) (jw w 52 76) [qv w p] (Es w p 8) (jw w 54 78) [(jw w 53 77,cu (eF5 w p))]:=
 jK.mk (λf=>upd (upd f (jw w 52 76) .nil) (jw w 53 77) (cu (eF5 w p))) (λg a b=>by
  cases p
  (revert w b7 b8;refine I0 ?_;kernel_rfl)) (λf=>by rcases w<;>exact(Fr.refl.upd (.inl rfl)).upd (.inl rfl)) (λf=>by rcases w<;>exact⟨rfl,trivial⟩)
theorem lF6 w p:jK 9999 (sJ aj (LF 6)) (run KT 38) (Es w p 8) (jw w 54 78) [qv w p] (Es w p 9) (jw w 56 80) [(jw w 55 79,cu (eF6 w p))]:=
 jK.mk (λf=>upd (upd f (jw w 54 78) .nil) (jw w 55 79) (cu (eF6 w p))) (λg a b=>by
  cases p
  (revert w oj;refine CU ?_;kernel_rfl)) (λf=>by rcases w<;>exact(Fr.refl.upd (.inl rfl)).upd (.inl rfl)) (λf=>by rcases w<;>exact⟨rfl,trivial⟩)
theorem lF7 w p:jK 9999 (sJ aj (LF 7)) (run KT 38) (Es w p 9) (jw w 56 80) [qv w p] (Es w p 10) (jw w 58 82) [(jw w 57 81,cu (eF7 w p))]:=
 jK.mk (λf=>upd (upd f (jw w 56 80) .nil) (jw w 57 81) (cu (eF7 w p))) (λg a b=>by
  cases p
  (revert w oq;refine CU ?_;kernel_rfl)) (λf=>by rcases w<;>exact(Fr.refl.upd (.inl rfl)).upd (.inl rfl)) (λf=>by rcases w<;>exact⟨rfl,trivial⟩)
theorem lF8 w p:xj 9999 (sJ aj (LF 8)) (run KT 38) (Es w p 10) (jw w 58 82) [qv w p] (xE w) (jw w 60 84) [(jw w 59 83,Vt w p)]:=
 xj.mk (λf=>upd (upd f (jw w 58 82) .nil) (jw w 59 83) (Vt w p)) (λg a b=>by
  cases p
  (revert w nY;refine CU ?_;kernel_rfl)) (λf=>by rcases w<;>exact(Fr.refl.upd (.inl rfl)).upd (.inl rfl)) (λf=>by rcases w<;>exact⟨rfl,trivial⟩)
end
section
theorem dm (e:∀a b,A.f r ρ h a b=a ρ' h') (c:B.f r ρ' h' a b=x):(fy A B).f r ρ h a b=x:=
 (e (λρ h=>B.f r ρ h a b) b).trans c
theorem pN (e:∀b a,A.f r ρ h b a=a v h'):(fy A B).f r ρ h b a=a v h':=e _ _
def Uw:XS:=fy (sJ aj (LF 0)) (fy (sJ aj (LF 1)) (fy (sJ aj (LF 2)) (fy (sJ aj (LF 3)) (fy (sJ aj (LF 4)) (fy (sJ aj (LF 5)) (fy (sJ aj (LF 6)) (fy (sJ aj (LF 7)) (fy (sJ aj (LF 8)) vS))))))))
theorem Ux v h k:run KT 39 (bM 2800) [v] h k=Uw.f (run KT 38) (rh [(31115227376,v)]) h (λa h=>k di h) k:=by kernel_rfl
theorem Bt w p f (a:At f [qv w p]):∃g,(∀k,run KT 39 (bM 2800) [xD w] (HH f (jw w 38 62)) k=k (xE w) (HH g (jw w 60 84)))/\Fr 9999 f (jw w 38 62) g/\At g (iB w p):=by
 refine jz (lF0 w p f a) λx y n z=> ?_;have o:=a.fr n (gW w rfl rfl);refine jz (lF1 w p x o) λA B e C=> ?_;have q:=o.fr e (gW w rfl rfl);refine jz (lF2 w p A (q.app C)) λD E h F=> ?_;have r:=q.fr h (gW w rfl rfl);refine cI (lF3 w p D r) λG a3 H i=> ?_;have s:=r.fr i (gW w rfl rfl);refine jz (lF4 w p G s) λI J j K=> ?_;have t:=s.fr j (gW w rfl rfl);refine jz (lF5 w p I t) λL M l N=> ?_;have u:=t.fr l (gW w rfl rfl);refine jz (lF6 w p L u) λO P m Q=> ?_;have v:=u.fr m (gW w rfl rfl);refine jz (lF7 w p O v) λR S c T=>jz (lF8 w p R (v.fr c (gW w rfl rfl))) λV W d X=>f5 V (λk=>(Ux _ _ _).trans (dm y (dm B (dm E (dm H (dm J (dm M (dm P (dm S (pN W)))))))))) ?_ ?_
 .exact(((((((n.trans e (gW w rfl rfl)).trans h (gW w rfl rfl)).trans i (gW w rfl rfl)).trans j (gW w rfl rfl)).trans l (gW w rfl rfl)).trans m (gW w rfl rfl)).trans c (gW w rfl rfl)).trans d (gW w rfl rfl)
 .have Y:=X;have b:=c.trans d (gW w rfl rfl);have b:=m.trans b (gW w rfl rfl);have Z:=(N.fr b (gW w rfl rfl)).app (((Q.fr c (gW w rfl rfl)).fr d (gW w rfl rfl)).app ((T.fr d (gW w rfl rfl)).app Y));have b:=l.trans b (gW w rfl rfl);have c4:=(K.fr b (gW w rfl rfl)).app Z;have b:=j.trans b (gW w rfl rfl);have c3:=(a3.fr b (gW w rfl rfl)).app c4;have b:=i.trans b (gW w rfl rfl);exact(z.fr (e.trans (h.trans b (gW w rfl rfl)) (gW w rfl rfl)) (gW w rfl rfl)).app ((F.fr b (gW w rfl rfl)).app c3)
end
set_option backward.match.sparseCases false
section
theorem yf {J n:Nat} (h:bQ n (cM 16384 (aG J 1))=ao):jump d (HC f t J n) k=k (HH (upd f J (ah t .nil d)) (aG J 1)):=by
 refine(?_:(ah au (k (HH (upd f J (ah t .nil d)) (aG J 1))) (bQ n (cM 16384 (aG J 1))):Option Res)=_);exact cR h rfl
theorem fc:jump d (HH f J) k=k (HH (upd f J .nil) (aG J 1)):=by
 have e:HH f J=HC f .nil J (cM 16384 J):=rfl;refine(yf (l8 (Nat.mul_le_mul_left _ (gU J)))).trans ?_;rcases d<;>rfl
theorem rB:
 (sJ d X).f r ρ (HH f J) kn kr=X.f r ρ (HH (upd f J .nil) (aG J 1)) (λρ h=>jump d h λh=>kn ρ h) (λv h=>jump d h λh=>kr v h):=fc (d:=aj) (k:=λh=>X.f r ρ h (λρ h=>jump d h λh=>kn ρ h) λv h=>jump d h λh=>kr v h)
theorem xm:(xJ d X).f r ρ (HH f J) k=X.f r ρ (HH (upd f J .nil) (aG J 1)) (λv h=>jump d h λh=>k v h):=fc (d:=aj) (k:=λh=>X.f r ρ h λv h=>jump d h λh=>k v h)
noncomputable def F0:Stmt->Expr
 | .Return (af e) _=>e
 | .Assign _ e _=>e
 |_=> .Constant .none 0 default
noncomputable def Xq:Expr->List Expr
 | .Call _ a _ _=>a
 |_=>[]
def Y8 (s:Stmt) (i k:Nat):XE:=cU K.G K.Ms 30 (CV s) (K.Ej (Xq (F0 (K.sD (K.fnBody s) i))) k)
def XM:XE:=Y8 (K.top 367) 0 1
def XK:XE:=Y8 (K.top 367) 0 2
def Uy:XS:=fy (sJ aj (yH (kF (xC (bM 2751)) (dR (qu 245086182) (dR (xJ aj XM) (dR (xJ aj XK) j9)))))) vS
theorem Uz v h k:run KT 39 (bM 2779) [v] h k=Uy.f (run KT 38) (rh [(245086182,v)]) h (λa h=>k di h) k:=by kernel_rfl
def rT (w:Bool):Env:=rh [(245086182,xE w)]
def eM (w:Bool) (p:d7):Res:=Y3 XM (run KT 38) (rT w) (iB w p) (jw w 90 128)
def eK (w:Bool):Res:=Y3 XK (run KT 38) (rT w) [] (jw w 92 130)
def mV (w:Bool):V:=bP (jw w 1474560 2097152)
def kV (w:Bool):V:=bP (jw w 1507328 2129920)
theorem lM w p:eS 9999 (xJ aj XM) (run KT 38) (rT w) (jw w 89 127) (iB w p) (mV w) (jw w 91 129) [(jw w 90 128,cu (eM w p))]:=
 eS.mk (λf=>upd (upd f (jw w 89 127) .nil) (jw w 90 128) (cu (eM w p))) (λg k=>by
  cases p
  (revert w b2 b3 b9 vq;refine MH ?_;kernel_rfl)) (λf=>by rcases w<;>exact(Fr.refl.upd (.inl rfl)).upd (.inl rfl)) (λf=>by rcases w<;>exact⟨rfl,trivial⟩)
theorem lK w:eS 9999 (xJ aj XK) (run KT 38) (rT w) (jw w 91 129) [] (kV w) (jw w 93 131) [(jw w 92 130,cu (eK w))]:=
 eS.mk (λf=>upd (upd f (jw w 91 129) .nil) (jw w 92 130) (cu (eK w))) (λg k=>by(revert w;refine sH ?_;kernel_rfl)) (λf=>by rcases w<;>exact(Fr.refl.upd (.inl rfl)).upd (.inl rfl)) (λf=>by rcases w<;>exact⟨rfl,trivial⟩)
def zW (p:d7):List Nat:=app [0,1,0,0,0,0,0,0,0,0,0,0,95,15,60,245,0,0] (app (sel p.b2 [4,24] [3,232]) (repl 34))
def zX (p:d7):List Nat:=app [0,1,0,0,3,sel p.b3 31 32,255,56,0,0,1,244] (app (sel p.vq [255,253] [0,0]) (app (repl 21) [4]))
def zY (p:d7):List Nat:=app [1,244,0,0,1,44,0,5,1,44] (app (sel p.vq [255,253] [0,0]) (app (sel p.b9 [1,21] [0,200]) [0,1]))
def zZ (p:d7):List Nat:=sel p.b1
 (app [0,0,0,3,0,0,0,3,0,0,0,28,0,0,0,5,0,0,0,sel p.b0 64 60,0,3,0,1,0,0,0,28] (app (sel p.b0 [0,4,0,36,0,0,0,4,0,4,0,1,0,0,0,98,255,255,0,0,0,97,255,255,0,0,0,1,0,4,0,0,0,1,0,3] [0,4,0,32,0,0,0,4,0,4,0,1,0,0,0,98,255,255,0,0,0,97,255,255,255,160,0,1,0,0,0,0])
  [0,14,0,0,0,38,0,0,0,1,0,254,1,0,0,0,21,0,0,0,29,0,0,0,1,0,0,97,0,0,0,0,1,0,0,98,0,3]))
 (app [0,0,0,2,0,0,0,3,0,0,0,20,0,3,0,1,0,0,0,20] (sel p.b0 [0,4,0,36,0,0,0,4,0,4,0,1,0,0,0,98,255,255,0,0,0,97,255,255,0,0,0,1,0,4,0,0,0,1,0,3] [0,4,0,32,0,0,0,4,0,4,0,1,0,0,0,98,255,255,0,0,0,97,255,255,255,160,0,1,0,0,0,0]))
def jk (p:d7):Bool:=sel p.b4 ao (sel p.b5 ao (sel p.b6 ao (sel p.b7 ao p.b8)))
noncomputable def F1 (p:d7):List (Bool×List Nat):=[(p.b4,[0,1,0,3,0,1,0,3]),(p.b7,[0,6,0,1,0,12,0,1,0,1,0,1,0,2,0,0,0,4]),(p.b8,[0,6,0,1,0,12,0,1,0,1,0,2,0,2,0,6,0,10,0,1,0,150,0,2,0,7]),(p.b5,[0,1,0,3,0,1,0,2]),(p.b6,[0,1,0,1,0,0,0,8,0,1,0,2,0,2,0,3])]
def offs (l:List (Bool×List Nat)):Nat->List Nat:=aS (λU=>[]) (λq U ih n=>app [0,sel q.1 n 0] (ih (sel q.1 (aG n (len q.2)) n))) l
def flat (l:List (Bool×List Nat)):List Nat:=aS [] (λq U ih=>app (sel q.1 q.2 []) ih) l
def nR (p:d7):List Nat:=app [0,1,0,sel p.b6 2 0] (app (offs (sel p.b6 (F1 p) (yy (F1 p) 4)) (sel p.b6 14 12)) (flat (F1 p)))
noncomputable def Hf:List Nat:=[0,1,0,0,0,10,0,30,0,44,0,1,68,70,76,84,0,8,0,4,0,0,0,0,255,255,0,1,0,0,0,1,108,105,103,97,0,8,0,0,0,1,0,0,0,1,0,4,0,1,0,0,0,1,0,8,0,1,0,6,0,1,0,1,0,1,0,1]
noncomputable def Hg:List Nat:=[0,1,0,0,0,10,0,30,0,44,0,1,68,70,76,84,0,8,0,4,0,0,0,0,255,255,0,1,0,0,0,1,100,105,115,116,0,8,0,0,0,1,0,0,0,1,0,4,0,1,0,0,0,1,0,8,0,1,0,8,0,4,0,40,0,1,0,1,0,2]
noncomputable def Hh:List Nat:=[0,0,0,1,0,0,0,20,0,1,0,1,0,6,0,0,0,0,0,1,0,2,255,196]
def MJ:V:=vStr [71,68,69,70]
def MK:V:=vStr [71,83,85,66]
def ML:V:=vStr [71,80,79,83]
def MN:V:=vStr [107,101,114,110]
def Xr (p:d7):List (V×V):=[(vStr [104,101,97,100],fj (zW p)),(vStr [104,104,101,97],fj (zX p)),(vStr [104,109,116,120],fj (zY p)),(vStr [109,97,120,112],fj [0,0,80,0,0,4])]
def UA (p:d7) (g s q k:Bool):List (V×V):=app (Xr p) (app [(vStr [99,109,97,112],fj (zZ p))] (app (sel g [(MJ,fj (nR p))] []) (app (sel s [(MK,fj Hf)] []) (app (sel q [(ML,fj Hg)] []) (sel k [(MN,fj Hh)] [])))))
def cA (g s q k:Bool):Nat:=aG 5 (aG (sel g 1 0) (aG (sel s 1 0) (aG (sel q 1 0) (sel k 1 0))))
def tA (p:d7) (g s q k:Bool):TR:=t1 (dZ (UA p g s q k) (cA g s q k))
def TB (k:Nat):XS:=Y4 (K.top 363) k
def rB0 (w:Bool):List (Nat×V):=[(245086182,xE w),(3978710003956,mV w),(509719715936631,kV w)]
def EJ (w:Bool):V:=bP (jw w 1540096 2162688)
def yg (w:Bool):Env:=rh [(245086182,xE w),(3978710003956,mV w),(509719715936631,kV w),(27076163558,EJ w)]
theorem lT0 w p:jK 9999 (sJ aj (TB 0)) (run KT 37) (rh (rB0 w)) (jw w 93 131) [(jw w 90 128,cu (eM w p))] (yg w) (jw w 95 133) [(jw w 94 132,t1 (dZ (Xr p) 4))]:=
 jK.mk (λf=>upd (upd f (jw w 93 131) .nil) (jw w 94 132) (t1 (dZ (Xr p) 4))) (λg a b=>by
  cases p
  (revert w b2 b3 b9 vq;refine MH ?_;kernel_rfl)) (λf=>by rcases w<;>exact(Fr.refl.upd (.inl rfl)).upd (.inl rfl)) (λf=>by rcases w<;>exact⟨rfl,trivial⟩)
end
set_option backward.match.sparseCases true
section
def ig (n:Nat) (f:Nat->TR) (a:Nat):Nat->TR:=gJ f (λi ih=>upd ih (aG a i) .nil) n
theorem Fr.ig {d J a:Nat} (h:Fr d f J g) (b:bQ J a=ao):∀n,Fr d f J (Mine.ig n g a):=by
 intro n
 induction n with
 |zero=>
  exact h
 |succ n c=>
  exact(c).upd (.inl (by
  induction e:bI (aG a n) J using zB with
  |false=>rfl
  |true=>exact absurd (cH.mp e) (bD.mpr (aI (aA b) (d8 a n)))))
theorem MO {b:Env->H->Option Res} (e:F j=X) (h:x=b ρ (HH (upd F a .nil) J)):x=b ρ (HH (upd (upd F j X) a .nil) J):=cL (Er e) h
def base (w:Bool) (p:d7):List (Nat×TR):=(jw w 92 130,cu (eK w))::iB w p
theorem lT1 w p:jK (jw w 94 132) (sJ ao (TB 1)) (run KT 37) (yg w) (jw w 95 133) ((jw w 94 132,t1 (dZ (Xr p) 4))::base w p) (yg w) (jw w 99 137) [(jw w 94 132,tA p aj aj aj aj)]:=
 jK.mk (λf=>upd (upd (ig 3 f (jw w 95 133)) (jw w 94 132) (tA p aj aj aj aj)) (jw w 98 136) .nil) (λg a b=>by
  cases p
  (revert w b0 b1;refine I0 ?_;kernel_rfl)) (λf=>by rcases w<;>exact((Fr.ig Fr.refl rfl 3).upd (.inr rfl)).upd (.inl rfl)) (λf=>by rcases w<;>exact⟨rfl,trivial⟩)
theorem lT2 (w:Bool) (p:d7):jK (jw w 94 132) (sJ ao (TB 2)) (run KT 37) (yg w) (jw w 99 137) ((jw w 94 132,tA p aj aj aj aj)::base w p) (yg w) (jw w 107 145) [(jw w 94 132,tA p (jk p) aj aj aj)]:=
 jK.mk (λf=>upd (upd (ig 7 f (jw w 99 137)) (jw w 94 132) (tA p (jk p) aj aj aj)) (jw w 106 144) .nil) (λg a b=>by
  cases p;revert b4 b5 b6 b7 b8;refine u5 ?_ ?_
  .revert w;refine sH ?_;kernel_rfl
  .rcases w<;>exact MO rfl (by kernel_rfl)) (λf=>by rcases w<;>exact((Fr.ig Fr.refl rfl 7).upd (.inr rfl)).upd (.inl rfl)) (λf=>by rcases w<;>exact⟨rfl,trivial⟩)
end
set_option backward.match.sparseCases false
section
noncomputable def CW:Stmt->Expr
 | .If t _ _ _=>t
 |_=> .Constant .none 0 default
noncomputable def ifB:Stmt->Stmt
 | .If _ [s] _ _=>s
 |s=>s
noncomputable def tgE:Stmt->Expr
 | .Assign [t] _ _=>t
 |_=> .Constant .none 0 default
def sTB (k:Nat):Stmt:=K.sD (K.fnBody (K.top 363)) k
def TT (k:Nat):XT:=EZ K.G K.Ms (CV (K.top 363)) (CW (sTB k))
def TA (k:Nat):XA:=Dk K.G K.Ms (CV (K.top 363)) (tgE (ifB (sTB k)))
def TV (k:Nat):XE:=cU K.G K.Ms 30 (CV (K.top 363)) (F0 (ifB (sTB k)))
def aaL (k:Nat):XS:=Dj (TT k) (fy (jq (TA k) (xJ ao (TV k))) vS) E1
theorem z0 {d J J0 J1 J2 o:Nat} (u:J0=aG J 1) (w:J2=aG J1 2) (x:o=aG J1 3) (p:∀l,(TT k).f r ρ (HH (upd f J .nil) J0) l=l b (HH g1 J1)) (q:Fr d f J g1) (s:bQ J J1=ao)
 (y:b=ao->∃j,(∀l,(xJ ao (TV k)).f r ρ (HH g1 J1) l=l v (HH j J2))/\Fr d g1 J1 j/\∀a,(TA k).f r ρ v (HH j J2) a=a ρ (HH (upd j d X) J2)) (z:b=aj->f d=X) (A:bI d J=ao) (B:b=aj->g1 d=f d):
 ∃g,(∀a n,(sJ ao (aaL k)).f r ρ (HH f J) a n=a ρ (HH g o))/\Fr d f J g/\g d=X:=by
 subst u;subst w;subst x;have m:∀i,bI (aG J1 i) J=false:=λi=>by
  induction e:bI (aG J1 i) J using zB with
  |false=>rfl
  |true=>exact absurd (cH.mp e) (bD.mpr (aI (aA s) (d8 J1 i)))
 have C:∀i,ak d (aG J1 i)=false:=λi=>by
  induction e:ak d (aG J1 i) using zB with
  |false=>rfl
  |true=>have:=m i;rw [<-cz e,A] at this;exact ft this
 have c:∀g i t,upd g (aG J1 i) t d=g d:=λg i t=>by show ah (g d) t (ak d (aG J1 i))=g d;exact cR (C ..) rfl
 induction b using zB with
 |true=>
  refine cI (y rfl) λj D E F=>f5 (upd (upd j d X) (aG J1 2) .nil) (λa n=> ?_) (((q.trans F s).upd (.inr (fq d))).upd (.inl (m 2))) ?_
  .refine rB.trans ((p _).trans ((?_:(xJ ao (TV k)).f r ρ (HH g1 J1) (λv h=>(TA k).f r ρ v h λρ h=>jump ao h λh=>a ρ h)=_)));exact cR (E ..) ((D _).trans fc)
  .refine cR (c ..) ((?_:ah (j d) X (ak d d)=X));exact cR (fq ..) rfl
 |false=>
  refine f5 (upd (upd (upd g1 J1 .nil) (aG J1 1) .nil) (aG J1 2) .nil) (λa n=> ?_) (((q.upd (.inl (m 0))).upd (.inl (m 1))).upd (.inl (m 2))) ?_
  .refine rB.trans ((p _).trans ((?_:jump aj (HH g1 J1) (λh=>jump aj h λh=>jump ao h λh=>a ρ h)=_)));exact fc.trans (fc.trans fc)
  .exact cR (c ..) (cR (c ..) ((c g1 0 .nil).trans ((B rfl).trans (z rfl))))
end
set_option backward.match.sparseCases true
section
theorem Fr.to {d J:Nat} {f g:Nat->TR} (h:Fr 9999 f J g) (a:bQ J 9999=ao):Fr d f J g:=λj h1 b=>h j h1 (by
 induction e:ak j 9999 using zB with
 |false=>rfl
 |true=>rw [cz e] at h1;exact absurd (cH.mp h1) (bD.mpr (aA a)))
theorem t3 w p g k:(TT 3).f (run KT 37) (yg w) (HH (kQ (iB w p) g) (jw w 108 146)) k=k p.oj (HH (kQ (iB w p) g) (jw w 108 146)):=by
 cases p
 (revert w oj;refine CU ?_;kernel_rfl)
theorem t4 w p g k:(TT 4).f (run KT 37) (yg w) (HH (kQ (iB w p) g) (jw w 112 150)) k=k p.oq (HH (kQ (iB w p) g) (jw w 112 150)):=by
 cases p
 (revert w oq;refine CU ?_;kernel_rfl)
theorem t5 w p g k:(TT 5).f (run KT 37) (yg w) (HH (kQ (iB w p) g) (jw w 116 154)) k=k p.nY (HH (ig 2 (kQ (iB w p) g) (jw w 116 154)) (jw w 118 156)):=by
 cases p
 (revert w nY;refine CU ?_;kernel_rfl)
theorem v3 w p (h:p.oj=ao):eS 9999 (xJ ao (TV 3)) (run KT 37) (yg w) (jw w 108 146) (base w p) (fj Hf) (jw w 110 148) []:=
 eS.mk (λf=>ig 2 f (jw w 108 146)) (λg k=>by
  cases p;cases h
  (revert w;refine sH ?_;kernel_rfl)) (λf=>by rcases w<;>exact Fr.ig Fr.refl rfl 2) (λf=>trivial)
theorem v4 w p (h:p.oq=ao):eS 9999 (xJ ao (TV 4)) (run KT 37) (yg w) (jw w 112 150) (base w p) (fj Hg) (jw w 114 152) []:=
 eS.mk (λf=>ig 2 f (jw w 112 150)) (λg k=>by
  cases p;cases h
  (revert w;refine sH ?_;kernel_rfl)) (λf=>by rcases w<;>exact Fr.ig Fr.refl rfl 2) (λf=>trivial)
theorem v5 w p (h:p.nY=ao):eS 9999 (xJ ao (TV 5)) (run KT 37) (yg w) (jw w 118 156) (base w p) (fj Hh) (jw w 120 158) []:=
 eS.mk (λf=>ig 2 f (jw w 118 156)) (λg k=>by
  cases p;cases h
  (revert w;refine sH ?_;kernel_rfl)) (λf=>by rcases w<;>exact Fr.ig Fr.refl rfl 2) (λf=>trivial)
theorem a3 w p g f (h:At f [(jw w 94 132,tA p g aj aj aj)]) kn:(TA 3).f (run KT 37) (yg w) (fj Hf) (HH f (jw w 110 148)) kn=kn (yg w) (HH (upd f (jw w 94 132) (tA p g ao aj aj)) (jw w 110 148)):=by
 refine fB h.eq λf a=> ?_;subst a;clear h
 (revert w g;refine CU ?_;kernel_rfl)
theorem a4 w p (g s) f (h:At f [(jw w 94 132,tA p g s aj aj)]) kn:(TA 4).f (run KT 37) (yg w) (fj Hg) (HH f (jw w 114 152)) kn=kn (yg w) (HH (upd f (jw w 94 132) (tA p g s ao aj)) (jw w 114 152)):=by
 refine fB h.eq λf a=> ?_;subst a;clear h
 (revert w g s;refine I0 ?_;kernel_rfl)
theorem a5 w p (g s q) f (h:At f [(jw w 94 132,tA p g s q aj)]) kn:(TA 5).f (run KT 37) (yg w) (fj Hh) (HH f (jw w 120 158)) kn=kn (yg w) (HH (upd f (jw w 94 132) (tA p g s q ao)) (jw w 120 158)):=by
 refine fB h.eq λf a=> ?_;subst a;clear h
 (revert w g s q;refine FZ ?_;kernel_rfl)
theorem lT6 w:xj 9999 (sJ aj (TB 6)) (run KT 37) (yg w) (jw w 121 159) [] (EJ w) (jw w 123 161) []:=
 xj.mk (λf=>ig 2 f (jw w 121 159)) (λg a b=>by(revert w;refine sH ?_;kernel_rfl)) (λf=>by rcases w<;>exact Fr.ig Fr.refl rfl 2) (λf=>trivial)
theorem jl {a j:Nat} (h:ak j a=aj):upd f a t j=f j:=by show ah (f j) t (ak j a)=f j;exact cR h rfl
theorem QB {a j} (h:bI j a=ao):∀n,ig n f a j=f j:=by
 intro n
 induction n with
 |zero=>
  exact rfl
 |succ n b=>
  exact(jl (by
  induction e:ak j (aG a n) using zB with
  |false=>rfl
  |true=>rw [cz e] at h;exact absurd (cH.mp h) (bD.mpr (d8 a n)))).trans b
theorem At.tail (h:At f (q::l)):At f l:=h.2
theorem lT3 w p g f (h:At f ((jw w 94 132,tA p g aj aj aj)::base w p)):∃d,(∀c l,(sJ ao (TB 3)).f (run KT 37) (yg w) (HH f (jw w 107 145)) c l=c (yg w) (HH d (jw w 111 149)))/\Fr (jw w 94 132) f (jw w 107 145) d/\d (jw w 94 132)=tA p g p.oj aj false:=by
 have e:Fr (jw w 94 132) f (jw w 107 145) (upd f (jw w 107 145) .nil):=Fr.refl.upd (.inl (gW w rfl rfl));have h1:=h.tail.fr e (gW w rfl rfl);refine fB h1.tail.eq λm n=> ?_;have a:upd f (jw w 107 145) .nil (jw w 94 132)=f (jw w 94 132):=jl (gW w rfl rfl);exact z0 (k:=3) (J0:=jw w 108 146) (J1:=jw w 108 146) (J2:=jw w 110 148) (b:=p.oj) (v:=fj Hf) (gW w rfl rfl) (gW w rfl rfl) (gW w rfl rfl) (λo=>by refine cR n ?_;exact t3 w p m o) e (gW w rfl rfl) (λhb=>by
  refine jz (v3 w p hb _ h1) λi q j r=>f5 i q (j.to (gW w rfl rfl)) (λc=>(cR hb ?_));exact a3 w p g i ⟨(j _ (by exact gW w rfl rfl) (by exact gW w rfl rfl)).trans (a.trans h.1),trivial⟩ c) (λhb=>cR hb h.1) (gW w rfl rfl) (λr=>a)
theorem lT4 w p (g s) f (h:At f ((jw w 94 132,tA p g s aj aj)::base w p)):∃d,(∀c l,(sJ ao (TB 4)).f (run KT 37) (yg w) (HH f (jw w 111 149)) c l=c (yg w) (HH d (jw w 115 153)))/\Fr (jw w 94 132) f (jw w 111 149) d/\d (jw w 94 132)=tA p g s p.oq false:=by
 have e:Fr (jw w 94 132) f (jw w 111 149) (upd f (jw w 111 149) .nil):=Fr.refl.upd (.inl (gW w rfl rfl));have h1:=h.tail.fr e (gW w rfl rfl);refine fB h1.tail.eq λm n=> ?_;have a:upd f (jw w 111 149) .nil (jw w 94 132)=f (jw w 94 132):=jl (gW w rfl rfl);exact z0 (k:=4) (J0:=jw w 112 150) (J1:=jw w 112 150) (J2:=jw w 114 152) (b:=p.oq) (v:=fj Hg) (gW w rfl rfl) (gW w rfl rfl) (gW w rfl rfl) (λo=>by refine cR n ?_;exact t4 w p m o) e (gW w rfl rfl) (λhb=>by
  refine jz (v4 w p hb _ h1) λi q j r=>f5 i q (j.to (gW w rfl rfl)) (λc=>(cR hb ?_));exact a4 w p g s i ⟨(j _ (by exact gW w rfl rfl) (by exact gW w rfl rfl)).trans (a.trans h.1),trivial⟩ c) (λhb=>cR hb h.1) (gW w rfl rfl) (λr=>a)
theorem lT5 w p (g s q) f (h:At f ((jw w 94 132,tA p g s q aj)::base w p)):∃e,(∀d m,(sJ ao (TB 5)).f (run KT 37) (yg w) (HH f (jw w 115 153)) d m=d (yg w) (HH e (jw w 121 159)))/\Fr (jw w 94 132) f (jw w 115 153) e/\e (jw w 94 132)=tA p g s q p.nY:=by
 have i:Fr (jw w 94 132) f (jw w 115 153) (upd f (jw w 115 153) .nil):=Fr.refl.upd (.inl (gW w rfl rfl));refine fB (h.tail.fr i (gW w rfl rfl)).tail.eq λn o=> ?_;have c:Fr (jw w 94 132) f (jw w 115 153) (ig 2 (upd f (jw w 115 153) .nil) (jw w 116 154)):=Fr.ig i (by exact gW w rfl rfl) 2;have a:ig 2 (upd f (jw w 115 153) .nil) (jw w 116 154) (jw w 94 132)=f (jw w 94 132):=(QB (by exact gW w rfl rfl) 2).trans (jl (gW w rfl rfl));exact z0 (k:=5) (J0:=jw w 116 154) (J1:=jw w 118 156) (J2:=jw w 120 158) (b:=p.nY) (v:=fj Hh) (gW w rfl rfl) (gW w rfl rfl) (gW w rfl rfl) (λr=>by refine cR o ?_;exact t5 w p n r) c (gW w rfl rfl) (λhb=>by
  refine jz (v5 w p hb _ (h.tail.fr c (gW w rfl rfl))) λj t l u=>f5 j t (l.to (gW w rfl rfl)) (λd=>(cR hb ?_));exact a5 w p g s q j ⟨(l _ (by exact gW w rfl rfl) (by exact gW w rfl rfl)).trans (a.trans h.1),trivial⟩ d) (λhb=>cR hb h.1) (gW w rfl rfl) (λu=>a)
end
section
def UB:XS:=fy (sJ aj (TB 0)) (fy (sJ ao (TB 1)) (fy (sJ ao (TB 2)) (fy (sJ ao (TB 3)) (fy (sJ ao (TB 4)) (fy (sJ ao (TB 5)) (fy (sJ aj (TB 6)) vS))))))
theorem UC (a b c) h k:run KT 38 (bM 2751) [a,b,c] h k=UB.f (run KT 37) (rh [(245086182,a),(3978710003956,b),(509719715936631,c)]) h (λd h=>k di h) k:=by kernel_rfl
theorem At.put (h:At f ((d,X)::l)) (a:Fr d f J g) (b:g d=Y) (c:l.all (λp=>bI p.1 J&& !ak p.1 d)=ao):At g ((d,Y)::l):=⟨b,h.tail.fr a c⟩
theorem QC w p f (h:At f ((jw w 90 128,cu (eM w p))::base w p)):∃g,(∀k,run KT 38 (bM 2751) [xE w,mV w,kV w] (HH f (jw w 93 131)) k=k (EJ w) (HH g (jw w 123 161)))/\Fr 9999 f (jw w 93 131) g/\g (jw w 94 132)=tA p (jk p) p.oj p.oq p.nY:=by
 refine jz (lT0 w p f ⟨h.1,trivial⟩) λb r c s=> ?_;have d:At b ((jw w 94 132,t1 (dZ (Xr p) 4))::base w p):=s.app (h.tail.fr c (gW w rfl rfl));refine jz (lT1 w p b d) λt u i v=> ?_;have h1:=d.put i v.1 (gW w rfl rfl);refine jz (lT2 w p t h1) λx y l z=> ?_;have h2:=h1.put l z.1 (gW w rfl rfl);refine jz (lT3 w p _ x h2) λA B m a3=> ?_;have n:=h2.put m a3 (gW w rfl rfl);refine jz (lT4 w p _ _ A n) λC D o E=>jz (lT5 w p _ _ _ C (n.put o E (gW w rfl rfl))) λG H I J=>jz (lT6 w G trivial) λK L q N=>f5 K (λk=>(UC _ _ _ _ _).trans (dm r (dm u (dm y (dm B (dm D (dm H (pN L)))))))) ?_ ?_
 .have F:=i.trans (l.trans (m.trans (o.trans (I.trans (q.to (gW w rfl rfl)) (gW w rfl rfl)) (gW w rfl rfl)) (gW w rfl rfl)) (gW w rfl rfl)) (gW w rfl rfl);intro j a M;refine(F j ?_ ?_).trans (c j a M)
  .exact cH.mpr (Nat.lt_trans (cH.mp a) (cH.mp (gW w rfl rfl)))
  .induction e:ak j (jw w 94 132) using zB with
   |false=>rfl
   |true=>rw [cz e] at a;exact absurd (cH.mp a) (bD.mpr (aA (gW w rfl rfl)))
 .exact(q _ (by exact gW w rfl rfl) (by exact gW w rfl rfl)).trans J
theorem Hi w p f (h:At f (iB w p)):∃g,(∀k,run KT 39 (bM 2779) [xE w] (HH f (jw w 88 126)) k=k (EJ w) (HH g (jw w 124 162)))/\Fr 9999 f (jw w 88 126) g/\g (jw w 94 132)=tA p (jk p) p.oj p.oq p.nY:=by
 have a:Fr 9999 f (jw w 88 126) (upd f (jw w 88 126) .nil):=Fr.refl.upd (.inl (gW w rfl rfl));have c:=h.fr a (gW w rfl rfl);refine jz (lM w p _ c) λe i d j=>jz (lK w e trivial) λl m b n=>jz (QC w p l (iU ((j.fr b (gW w rfl rfl)).1) n.1 ((c.fr d (gW w rfl rfl)).fr b (gW w rfl rfl)))) λo q r a3=>f5 (upd o (jw w 123 161) .nil) (λk=> ?_) ?_ ?_
 .refine(Uz _ _ _).trans ?_;have s:aG (jw w 88 126) 1=jw w 89 127:=gW w rfl rfl;refine(rB (X:=yH (kF (xC (bM 2751)) (dR (qu 245086182) (dR (xJ aj XM) (dR (xJ aj XK) j9)))))).trans (cR s ((?_:(xJ aj XM).f (run KT 38) (rT w) (HH (upd f (jw w 88 126) .nil) (jw w 89 127)) (λt h=>(xJ aj XK).f (run KT 38) (rT w) h λu h=>run KT 38 (bM 2751) [xE w,t,u] h λv h=>jump aj h λh=>k v h)=_)));refine cR (i ..) (cR (m ..) (cR (q ..) (fc.trans ?_)));have x:aG (jw w 123 161) 1=jw w 124 162:=gW w rfl rfl;exact cR x rfl
 .exact(((a.trans d (gW w rfl rfl)).trans b (gW w rfl rfl)).trans r (gW w rfl rfl)).upd (.inl (gW w rfl rfl))
 .exact(jl (by exact gW w rfl rfl)).trans a3
end
set_option backward.match.sparseCases false
section
def Si:Stmt:=K.sD (K.u0 (K.top 356)) 2
noncomputable def aaM:Expr->List Expr
 | .Tuple es _ _=>es
 |_=>[]
def CT (i:Nat):XE:=cU K.G K.Ms 30 (CV Si) (K.Ej (aaM (F0 (K.sD (K.fnBody Si) 0))) i)
def UD:XS:=fy (sJ aj (yH (BY (dR (xJ ao (CT 0)) (dR (xJ ao (CT 1)) (dR (xJ ao (CT 2)) (dR (xJ ao (CT 3)) (dR (xJ ao (CT 4)) (dR (xJ ao (CT 5)) j9))))))))) vS
theorem UE v h k:run KT 39 (bM 2695) [v] h k=UD.f (run KT 38) (rh [(215692019,v)]) h (λa h=>k di h) k:=by kernel_rfl
def vf (a b:Nat):V:=dJ [aX a,aX b]
def Xs (p:d7):V:=dJ [dJ [vf 97 1,vf 98 (sel p.b0 3 2)],sel p.b1 (dJ [dJ [dJ [aX 65025,dJ [aX 97]]],dJ [dJ [vf 65025 98,aX 3]]]) di]
def Xu (p:d7):V:=dJ [aX (sel p.b2 1048 1000),aX (sel p.b3 799 800),qJ 200,dJ [aX 500,aX 300,aX 300,aX (sel p.b9 277 200)],dJ [aX 0,aX 5,sel p.vq (qJ 3) (aX 0),aX 1]]
def Xv (p:d7):V:=dJ [dJ (sel p.b4 [vf 3 3] []),dJ (sel p.b5 [vf 3 2] []),dJ (sel p.b6 [vf 2 3] []),dJ (sel p.b7 [dJ [aX 1,vf 0 4]] []),dJ (sel p.b8 [dJ [aX 2,dJ [dJ [vStr [97,116],aX 150],dJ [vStr [112,111,105,110,116],aX 7]]]] [])]
def Xw (p:d7):V:=sel p.oj (dJ [dJ [dJ [vStr [68,70,76,84],dJ [qJ 1,dJ [aX 0]],dJ []]],dJ [dJ [vStr [108,105,103,97],dJ [aX 0]]],dJ [dJ [vStr [115,105,110,103,108,101],aX 0,qJ 1,dJ [dJ [vStr [115,105,110,103,108,101],vf 1 2]]]]]) di
def Xx (p:d7):V:=sel p.oq (dJ [dJ [dJ [vStr [68,70,76,84],dJ [qJ 1,dJ [aX 0]],dJ []]],dJ [dJ [vStr [100,105,115,116],dJ [aX 0]]],dJ [dJ [vStr [97,100,106,117,115,116],aX 0,qJ 1,dJ [dJ [vStr [97,100,106,117,115,116],dJ [dJ [aX 2,dJ [aX 0,aX 0,aX 40,aX 0]]]]]]]]) di
def Xy (p:d7):V:=dJ (sel p.nY [dJ [vf 1 2,qJ 60]] [])
def Et (p:d7):V:=dJ [Xs p,Xu p,Xv p,Xw p,Xx p,Xy p]
inductive T3 where
 |a|b|c
def QD (t:T3):Bool:=T3.rec aj ao ao t
def jt (t:T3) (k:Nat):Nat:=aG (T3.rec 166 182 248 t) k
@[elab_as_elim] theorem vt {P:T3->Prop} t (d:P .a) (h1:P .b) (h2:P .c):P t:=by
 rcases t
 .exact d
 .exact h1
 .exact h2
def Vu (t:T3):Env:=rh [(215692019,xE (QD t))]
theorem c0 t p:eS 9999 (xJ ao (CT 0)) (run KT 38) (Vu t) (jt t 1) (iB (QD t) p) (Xs p) (jt t 3) []:=
 eS.mk (λf=>ig 2 f (jt t 1)) (λg k=>by
  cases p;refine vt t ?_ ?_ ?_<;>(revert b0 b1;refine CU ?_;kernel_rfl)) (λf=>Fr.ig Fr.refl (by exact vt t rfl rfl rfl) 2) (λf=>trivial)
theorem c1 t p:eS 9999 (xJ ao (CT 1)) (run KT 38) (Vu t) (jt t 3) (iB (QD t) p) (Xu p) (jt t 5) []:=
 eS.mk (λf=>ig 2 f (jt t 3)) (λg k=>by
  cases p;refine vt t ?_ ?_ ?_<;>(revert b2 b3 b9 vq;refine FZ ?_;kernel_rfl)) (λf=>Fr.ig Fr.refl (by exact vt t rfl rfl rfl) 2) (λf=>trivial)
theorem c2 t p:eS 9999 (xJ ao (CT 2)) (run KT 38) (Vu t) (jt t 5) (iB (QD t) p) (Xv p) (jt t 7) []:=
 eS.mk (λf=>ig 2 f (jt t 5)) (λg k=>by
  cases p;refine vt t ?_ ?_ ?_<;>(revert b4 b5 b6 b7 b8;refine MH ?_;kernel_rfl)) (λf=>Fr.ig Fr.refl (by exact vt t rfl rfl rfl) 2) (λf=>trivial)
theorem c3 t p:eS 9999 (xJ ao (CT 3)) (run KT 38) (Vu t) (jt t 7) (iB (QD t) p) (Xw p) (jt t 9) []:=
 eS.mk (λf=>ig 2 f (jt t 7)) (λg k=>by
  cases p;refine vt t ?_ ?_ ?_<;>(revert oj;refine sH ?_;kernel_rfl)) (λf=>Fr.ig Fr.refl (by exact vt t rfl rfl rfl) 2) (λf=>trivial)
theorem c4 t p:eS 9999 (xJ ao (CT 4)) (run KT 38) (Vu t) (jt t 9) (iB (QD t) p) (Xx p) (jt t 11) []:=
 eS.mk (λf=>ig 2 f (jt t 9)) (λg k=>by
  cases p;refine vt t ?_ ?_ ?_<;>(revert oq;refine sH ?_;kernel_rfl)) (λf=>Fr.ig Fr.refl (by exact vt t rfl rfl rfl) 2) (λf=>trivial)
theorem c5 t p:eS 9999 (xJ ao (CT 5)) (run KT 38) (Vu t) (jt t 11) (iB (QD t) p) (Xy p) (jt t 13) []:=
 eS.mk (λf=>ig 2 f (jt t 11)) (λg k=>by
  cases p;refine vt t ?_ ?_ ?_<;>(revert nY;refine sH ?_;kernel_rfl)) (λf=>Fr.ig Fr.refl (by exact vt t rfl rfl rfl) 2) (λf=>trivial)
theorem kT6 (a b c d e f) h k:kT [a,b,c,d,e,f] h k=k (dJ [a,b,c,d,e,f]) h:=rfl
theorem Eu {J:Nat} {J0 J1 J2 i j l g J7:Nat} {v a b c a3 d e} (m:aG J 1=J0) (n:aG g 1=J7)
 (o:∀k,(xJ ao (CT 0)).f (run KT 38) (rh [(215692019,v)]) (HH (upd f J .nil) J0) k=k a (HH g0 J1)) (p:∀k,(xJ ao (CT 1)).f (run KT 38) (rh [(215692019,v)]) (HH g0 J1) k=k b (HH g1 J2))
 (q:∀k,(xJ ao (CT 2)).f (run KT 38) (rh [(215692019,v)]) (HH g1 J2) k=k c (HH g2 i)) (r:∀k,(xJ ao (CT 3)).f (run KT 38) (rh [(215692019,v)]) (HH g2 i) k=k a3 (HH g3 j))
 (s:∀k,(xJ ao (CT 4)).f (run KT 38) (rh [(215692019,v)]) (HH g3 j) k=k d (HH g4 l)) (t:∀k,(xJ ao (CT 5)).f (run KT 38) (rh [(215692019,v)]) (HH g4 l) k=k e (HH g5 g)) k:
 run KT 39 (bM 2695) [v] (HH f J) k=k (dJ [a,b,c,a3,d,e]) (HH (upd g5 g .nil) J7):=by
 refine(UE _ _ _).trans (rB.trans (cR m ?_));show(xJ ao (CT 0)).f (run KT 38) (rh [(215692019,v)]) (HH (upd f J .nil) J0) (λa h=>(xJ ao (CT 1)).f (run KT 38) (rh [(215692019,v)]) h λb h=>(xJ ao (CT 2)).f (run KT 38) (rh [(215692019,v)]) h λc h=>(xJ ao (CT 3)).f (run KT 38) (rh [(215692019,v)]) h λa3 h=>
  (xJ ao (CT 4)).f (run KT 38) (rh [(215692019,v)]) h λd h=>(xJ ao (CT 5)).f (run KT 38) (rh [(215692019,v)]) h λe h=>kT [a,b,c,a3,d,e] h λv h=>jump aj h λh=>k v h)=_
 exact cR (o ..) (cR (p ..) (cR (q ..) (cR (r ..) (cR (s ..) (cR (t ..) (cR (kT6 ..) (fc.trans (cR n rfl))))))))
theorem CX t p f (h:At f (iB (QD t) p)):∃g,(∀k,run KT 39 (bM 2695) [xE (QD t)] (HH f (jt t 0)) k=k (Et p) (HH g (jt t 14)))/\Fr 9999 f (jt t 0) g:=by
 have a:Fr 9999 f (jt t 0) (upd f (jt t 0) .nil):=Fr.refl.upd (.inl (vt t rfl rfl rfl));have c:=h.fr a (vt t rfl rfl rfl);refine jz (c0 t p _ c) λx o d b=> ?_;have h1:=c.fr d (vt t rfl rfl rfl);refine jz (c1 t p _ h1) λy q e b=> ?_;have h2:=h1.fr e (vt t rfl rfl rfl);refine jz (c2 t p _ h2) λz r i b=> ?_;have j:=h2.fr i (vt t rfl rfl rfl);refine jz (c3 t p _ j) λA s l b=> ?_;have m:=j.fr l (vt t rfl rfl rfl);exact jz (c4 t p _ m) λB u n b=>jz (c5 t p _ (m.fr n (vt t rfl rfl rfl))) λC v w b=>bW _ (Eu (J0:=jt t 1) (J7:=jt t 14) (vt t rfl rfl rfl) (by exact vt t rfl rfl rfl) o q r s u v) (((((((a.trans d (vt t rfl rfl rfl)).trans e (vt t rfl rfl rfl)).trans i (vt t rfl rfl rfl)).trans l (vt t rfl rfl rfl)).trans n (vt t rfl rfl rfl)).trans w (vt t rfl rfl rfl)).upd (.inl (vt t rfl rfl rfl)))
end
set_option backward.match.sparseCases true
section
def XR:XE:=Y8 (K.top 361) 0 1
def XQ:XE:=Y8 (K.top 361) 0 2
def FB (k:Nat):XS:=Y4 (K.top 359) k
def Sj (x:Nat) (r:Res):V:=aB di (λv=>v) (find x r.ρ.loc)
def rR:Env:=rh [(3978710003956,EJ ao)]
def eR (p:d7):Res:=Y3 XR (run KT 38) rR [(132,tA p aj aj aj aj)] 216
def eQ:Res:=Y3 XQ (run KT 38) rR [] 218
def mR:V:=bP 3538955
def qR:V:=bP 3571712
theorem lR (p:d7) (g s q k:Bool):eS 9999 (xJ aj XR) (run KT 38) rR 215 [(132,tA p g s q k)] mR 217 [(216,cu (eR p))]:=
 eS.mk (λf=>upd (upd f 215 .nil) 216 (cu (eR p))) (λf k=>by
  cases p
  (revert b2 b3 b9 vq;refine FZ ?_;kernel_rfl)) (λf=>(Fr.refl.upd (.inl rfl)).upd (.inl rfl)) (λf=>⟨rfl,trivial⟩)
theorem lQ:eS 9999 (xJ aj XQ) (run KT 38) rR 217 [] qR 219 [(218,cu eQ)]:=
 eS.mk (λf=>upd (upd f 217 .nil) 218 (cu eQ)) (λf k=>by kernel_rfl) (λf=>(Fr.refl.upd (.inl rfl)).upd (.inl rfl)) (λf=>⟨rfl,trivial⟩)
def Ju:List (Nat×V):=[(3978710003956,EJ ao),(509205389587181,mR),(509719682249458,qR)]
def Xz (p:d7):Res:=ev (FB 0) (run KT 37) (rh Ju) [(132,tA p aj aj aj aj),(218,cu eQ)] 220
def MP (p:d7):Nat×V:=(495943604008035,Sj 495943604008035 (Xz p))
def XC (p:d7):Res:=ev (FB 1) (run KT 37) (rh (app Ju [MP p])) [(132,tA p (jk p) aj aj aj),(218,cu eQ)] 222
def Sk (p:d7):Nat×V:=(215577191,Sj 215577191 (XC p))
def Y9 (p:d7):Res:=ev (FB 2) (run KT 37) (rh (app Ju [MP p,Sk p])) [(132,tA p aj p.oj aj aj),(218,cu eQ)] 224
def XD (p:d7):Nat×V:=(207452647,sel p.oj (bP 3670056) di)
def Za (p:d7):Res:=ev (FB 3) (run KT 37) (rh (app Ju [MP p,Sk p,XD p])) [(132,tA p aj aj p.oq aj),(218,cu eQ)] 226
def vB3 (p:d7):Nat×V:=(243005543,sel p.oq (bP 3702826) di)
def rQ4 (p:d7):List (Nat×V):=app Ju [MP p,Sk p,XD p,vB3 p]
def Zb (p:d7):Res:=ev (FB 4) (run KT 37) (rh (rQ4 p)) [(132,tA p aj aj aj p.nY),(218,cu eQ)] 228
def Sl:V:=bP 3768320
def NB (p:d7):TR:=t1 (ux 2698 [(495943604008035,(MP p).2),(509205389587181,mR),(215577191,(Sk p).2),(207452647,(XD p).2),(243005543,(vB3 p).2),(232567531,bP (aG 3751936 (sel p.nY 2 0)))])
theorem lB0 (p:d7) (g s q k:Bool):jK 9999 (sJ aj (FB 0)) (run KT 37) (rh Ju) 219 [(132,tA p g s q k),(218,cu eQ)] (rh (app Ju [MP p])) 221 [(220,cu (Xz p))]:=
 jK.mk (λf=>upd (upd f 219 .nil) 220 (cu (Xz p))) (λf a b=>by
  cases p
  (revert b0 b1;refine CU ?_;kernel_rfl)) (λf=>(Fr.refl.upd (.inl rfl)).upd (.inl rfl)) (λf=>⟨rfl,trivial⟩)
theorem lB1 (p:d7) (s q k:Bool):jK 9999 (sJ aj (FB 1)) (run KT 37) (rh (app Ju [MP p])) 221 [(132,tA p (jk p) s q k),(218,cu eQ)] (rh (app Ju [MP p,Sk p])) 223 [(222,cu (XC p))]:=
 jK.mk (λf=>upd (upd f 221 .nil) 222 (cu (XC p))) (λf a b=>by
  cases p;revert b4 b5 b6 b7 b8;refine u5 ?_ ?_
  .kernel_rfl
  .revert s q k;refine I0 ?_;kernel_rfl) (λf=>(Fr.refl.upd (.inl rfl)).upd (.inl rfl)) (λf=>⟨rfl,trivial⟩)
theorem lB2 (p:d7) (g q k:Bool):jK 9999 (sJ aj (FB 2)) (run KT 37) (rh (app Ju [MP p,Sk p])) 223 [(132,tA p g p.oj q k),(218,cu eQ)] (rh (app Ju [MP p,Sk p,XD p])) 225 [(224,cu (Y9 p))]:=
 jK.mk (λf=>upd (upd f 223 .nil) 224 (cu (Y9 p))) (λf a b=>by
  cases p;rcases oj
  ·(revert g q k;refine I0 ?_;kernel_rfl)
  ·(revert g;refine sH ?_;kernel_rfl)) (λf=>(Fr.refl.upd (.inl rfl)).upd (.inl rfl)) (λf=>⟨rfl,trivial⟩)
theorem lB3 (p:d7) (g s k:Bool):jK 9999 (sJ aj (FB 3)) (run KT 37) (rh (app Ju [MP p,Sk p,XD p])) 225 [(132,tA p g s p.oq k),(218,cu eQ)] (rh (rQ4 p)) 227 [(226,cu (Za p))]:=
 jK.mk (λf=>upd (upd f 225 .nil) 226 (cu (Za p))) (λf a b=>by
  cases p;rcases oq
  ·(revert g s k;refine I0 ?_;kernel_rfl)
  ·(revert g s;refine CU ?_;kernel_rfl)) (λf=>(Fr.refl.upd (.inl rfl)).upd (.inl rfl)) (λf=>⟨rfl,trivial⟩)
theorem lB4 (p:d7) (g s q:Bool):xj 9999 (sJ aj (FB 4)) (run KT 37) (rh (rQ4 p)) 227 [(132,tA p g s q p.nY),(218,cu eQ)] Sl 231 [(229,ol (Zb p) 229),(230,NB p)]:=
 xj.mk (λf=>upd (upd (upd (upd f 227 .nil) 228 .nil) 229 (ol (Zb p) 229)) 230 (NB p)) (λf a b=>by
  cases p
  (revert g s q nY;refine FZ ?_;kernel_rfl)) (λf=>(((Fr.refl.upd (.inl rfl)).upd (.inl rfl)).upd (.inl rfl)).upd (.inl rfl)) (λf=>iU rfl rfl trivial)
def I1:Env:=rh [(215692019,Sl)]
theorem d0 (p:d7):eS 9999 (xJ ao (CT 0)) (run KT 38) I1 233 [(230,NB p),(220,cu (Xz p))] (Xs p) 235 []:=
 eS.mk (λf=>ig 2 f 233) (λg k=>by
  cases p
  (revert b0 b1;refine CU ?_;kernel_rfl)) (λf=>Fr.ig Fr.refl rfl 2) (λf=>trivial)
theorem d1 (p:d7):eS 9999 (xJ ao (CT 1)) (run KT 38) I1 235 [(230,NB p),(216,cu (eR p))] (Xu p) 237 []:=
 eS.mk (λf=>ig 2 f 235) (λg k=>by
  cases p
  (revert b2 b3 b9 vq;refine FZ ?_;kernel_rfl)) (λf=>Fr.ig Fr.refl rfl 2) (λf=>trivial)
theorem d2 (p:d7):eS 9999 (xJ ao (CT 2)) (run KT 38) I1 237 [(230,NB p),(222,cu (XC p))] (Xv p) 239 []:=
 eS.mk (λf=>ig 2 f 237) (λg k=>by
  cases p
  (revert b4 b5 b6 b7 b8;refine MH ?_;kernel_rfl)) (λf=>Fr.ig Fr.refl rfl 2) (λf=>trivial)
theorem d3 (p:d7):eS 9999 (xJ ao (CT 3)) (run KT 38) I1 239 [(230,NB p),(224,cu (Y9 p))] (Xw p) 241 []:=
 eS.mk (λf=>ig 2 f 239) (λg k=>by
  cases p
  (revert oj;refine sH ?_;kernel_rfl)) (λf=>Fr.ig Fr.refl rfl 2) (λf=>trivial)
theorem d4 (p:d7):eS 9999 (xJ ao (CT 4)) (run KT 38) I1 241 [(230,NB p),(226,cu (Za p))] (Xx p) 243 []:=
 eS.mk (λf=>ig 2 f 241) (λg k=>by
  cases p
  (revert oq;refine sH ?_;kernel_rfl)) (λf=>Fr.ig Fr.refl rfl 2) (λf=>trivial)
theorem d5 (p:d7):eS 9999 (xJ ao (CT 5)) (run KT 38) I1 243 [(230,NB p),(229,ol (Zb p) 229)] (Xy p) 245 []:=
 eS.mk (λf=>ig 2 f 243) (λg k=>by
  cases p
  (revert nY;refine sH ?_;kernel_rfl)) (λf=>Fr.ig Fr.refl rfl 2) (λf=>trivial)
end
section
theorem aaO (c:find x ρ.loc=af v):(yH (kF (xC F) (dR (qu x) (dR A (dR B j9))))).f r ρ h kn kr=A.f r ρ h λa h=>B.f r ρ h λb h=>r F [v,a,b] h kr:=by
 refine(?_:(aB au (λv=>A.f r ρ h λa h=>B.f r ρ h λb h=>r F [v,a,b] h kr) (find x ρ.loc):Option Res)=_);exact cR c rfl
def UG:XS:=fy (sJ aj (yH (kF (xC (bM 2723)) (dR (qu 3978710003956) (dR (xJ aj XR) (dR (xJ aj XQ) j9)))))) vS
theorem UH v h k:run KT 39 (bM 2737) [v] h k=UG.f (run KT 38) (rh [(3978710003956,v)]) h (λa h=>k di h) k:=by kernel_rfl
def UI:XS:=fy (sJ aj (FB 0)) (fy (sJ aj (FB 1)) (fy (sJ aj (FB 2)) (fy (sJ aj (FB 3)) (fy (sJ aj (FB 4)) vS))))
theorem UJ (a b c) h k:run KT 38 (bM 2723) [a,b,c] h k=UI.f (run KT 37) (rh [(3978710003956,a),(509205389587181,b),(509719682249458,c)]) h (λd h=>k di h) k:=by kernel_rfl
def I2 (p:d7):TR:=tA p (jk p) p.oj p.oq p.nY
def MQ (p:d7):List (Nat×TR):=[(229,ol (Zb p) 229),(230,NB p),(226,cu (Za p)),(224,cu (Y9 p)),(222,cu (XC p)),(220,cu (Xz p)),(216,cu (eR p))]
theorem QE p f (h:At f [(132,I2 p),(218,cu eQ)]) (h':At f [(216,cu (eR p))]):∃g,(∀k,run KT 38 (bM 2723) [EJ ao,mR,qR] (HH f 219) k=k Sl (HH g 231))/\Fr 9999 f 219 g/\At g (MQ p):=by
 refine jz (lB0 p _ _ _ _ f h) λo q a r=> ?_;have b:=h.fr a rfl;refine jz (lB1 p _ _ _ o b) λs t c u=> ?_;have h1:=b.fr c rfl;refine jz (lB2 p _ _ _ s h1) λv w d x=> ?_;have h2:=h1.fr d rfl;refine jz (lB3 p _ _ _ v h2) λy z e a3=>jz (lB4 p _ _ _ y (h2.fr e rfl)) λA B i C=> ?_;have j:=e.trans i rfl;have l:=d.trans j rfl;have m:=c.trans l rfl;have n:=a.trans m rfl;exact f5 A (λk=>(UJ _ _ _ _ _).trans (dm q (dm t (dm w (dm z (pN B)))))) n (C.app ((a3.fr i rfl).app ((x.fr j rfl).app ((u.fr l rfl).app ((r.fr m rfl).app (h'.fr n rfl))))))
theorem QF p f (h:At f [(132,I2 p)]):∃g,(∀k,run KT 39 (bM 2737) [EJ ao] (HH f 214) k=k Sl (HH g 232))/\Fr 9999 f 214 g/\At g (MQ p):=by
 have a:Fr 9999 f 214 (upd f 214 .nil):=Fr.refl.upd (.inl rfl);have e:=h.fr a rfl;refine jz (lR p _ _ _ _ _ e) λl m i n=>jz (lQ l trivial) λo q b r=>jz (QE p o (((e.fr i rfl).fr b rfl).app r) (n.fr b rfl)) λs t u a3=> ?_;have E:∀j c,(sJ aj (yH (kF (xC (bM 2723)) (dR (qu 3978710003956) (dR (xJ aj XR) (dR (xJ aj XQ) j9)))))).f (run KT 38) rR (HH f 214) j c=c Sl (HH (upd s 231 .nil) 232):=λj c=>
  rB.trans ((aaO (v:=EJ ao) rfl).trans ((m _).trans ((q _).trans ((t _).trans fc))))
 exact f5 _ (λk=>(UH _ _ _).trans (pN E)) ((((a.trans i rfl).trans b rfl).trans u rfl).upd (.inl rfl)) (a3.fr ((Fr.refl (d:=9999)).upd (.inl (rfl:bI 231 231=aj))) rfl)
theorem QG p f (h:At f (MQ p)):∃g,(∀k,run KT 39 (bM 2695) [Sl] (HH f 232) k=k (Et p) (HH g 246))/\Fr 9999 f 232 g:=by
 have a:Fr 9999 f 232 (upd f 232 .nil):=Fr.refl.upd (.inl rfl);have c:=h.fr a rfl;refine jz (d0 p _ (iU c.2.1 c.2.2.2.2.2.1 trivial)) λx q i b=> ?_;have h1:=c.fr i rfl;refine jz (d1 p _ (iU h1.2.1 h1.2.2.2.2.2.2.1 trivial)) λy r j b=> ?_;have h2:=h1.fr j rfl;refine jz (d2 p _ (iU h2.2.1 h2.2.2.2.2.1 trivial)) λz s l b=> ?_;have d:=h2.fr l rfl;refine jz (d3 p _ (iU d.2.1 d.2.2.2.1 trivial)) λA t m b=> ?_;have e:=d.fr m rfl;refine jz (d4 p _ (iU e.2.1 e.2.2.1 trivial)) λB u n b=> ?_;have o:=e.fr n rfl;exact jz (d5 p _ (iU o.2.1 o.1 trivial)) λC v w b=>bW _ (Eu (J0:=233) (J7:=246) rfl rfl q r s t u v) (((((((a.trans i rfl).trans j rfl).trans l rfl).trans m rfl).trans n rfl).trans w rfl).upd (.inl rfl))
end
section
def xb (b:Bool) (s i:Nat):Bool:=sel (ak s i) (neg b) b
def flip (p:d7) (s:Nat):d7:=⟨xb p.b0 s 0,xb p.b1 s 1,xb p.b2 s 2,xb p.b3 s 3,xb p.b4 s 4,xb p.b5 s 5,xb p.b6 s 6,xb p.b7 s 7,xb p.b8 s 8,xb p.b9 s 9,xb p.vq s 10,xb p.oj s 11,xb p.oq s 12,xb p.nY s 13⟩
def sL (k:Nat):XS:=Y4 (K.top 373) k
def Vv (s:Nat):List (Nat×V):=[(4016016503283,bP 0),(1815280,bP 16386),(1668975,bP 49152),(245102707,aX s)]
def XF (s:Nat):List (Nat×V):=app (Vv s) [(30815173231,bP 573440)]
def UK (s:Nat):List (Nat×V):=app (XF s) [(31115163622,bP 1392640)]
def Bu (s:Nat):List (Nat×V):=app (UK s) [(31083672806,bP 1425408)]
theorem CY {P:Nat->Prop} (g:P 0) (h1:P 1) (h2:P 2) (i:P 3) (j:P 4) (k:P 5) (l:P 6) (m:P 7) (n:P 8) (o:P 9) (a:P 10) (b:P 11) (c:P 12) (d:P 13) (e:P 14) (f:P 15):∀s,s<16->P s:=j8 (j8 (j8 (j8 (j8 (j8 (j8 (j8 (j8 (j8 (j8 (j8 (j8 (j8 (j8 (j8 (λs h=>absurd h (kh s)) g) h1) h2) i) j) k) l) m) n) o) a) b) c) d) e) f
theorem lL3 p g kn kr:∀s,s<16->(sJ aj (sL 3)).f (run KT 39) (rh (Vv s)) (HH (kQ [(3,tP p)] g) 34) kn kr=kn (rh (XF s)) (HH (upd (upd (kQ [(3,tP p)] g) 34 .nil) 35 (tP (flip p s))) 36):=by
 cases p;refine CY ?_ ?_ ?_ ?_ ?_ ?_ ?_ ?_ ?_ ?_ ?_ ?_ ?_ ?_ ?_ ?_
 ·(revert b0;refine sH ?_;kernel_rfl)
 ·(revert b1;refine sH ?_;kernel_rfl)
 ·(revert b2;refine sH ?_;kernel_rfl)
 ·(revert b3;refine sH ?_;kernel_rfl)
 ·(revert b4;refine sH ?_;kernel_rfl)
 ·(revert b5;refine sH ?_;kernel_rfl)
 ·(revert b6;refine sH ?_;kernel_rfl)
 ·(revert b7;refine sH ?_;kernel_rfl)
 ·(revert b8;refine sH ?_;kernel_rfl)
 ·(revert b9;refine sH ?_;kernel_rfl)
 ·(revert vq;refine sH ?_;kernel_rfl)
 ·(revert oj;refine sH ?_;kernel_rfl)
 ·(revert oq;refine sH ?_;kernel_rfl)
 ·(revert nY;refine sH ?_;kernel_rfl)
 .kernel_rfl
 .kernel_rfl
def UL:XS:=jq (kc 31115163622) (wO (dR (xJ aj (kF (xC (bM 2800)) (dR (qu 1668975) j9))) (dR (xJ aj (kF (xC (bM 2800)) (dR (qu 30815173231) j9))) j9)))
theorem sL4:sL 4=UL:=by kernel_rfl
def mJ:TR:=t1 (bL [xE aj,xE ao])
theorem aaP (A B) x:(jq (kc x) (wO (dR A (dR B j9)))).f r ρ h kn kr=A.f r ρ h (λa h=>B.f r ρ h λb h=>new (bL [a,b]) h λv h=>kn (gb ρ x v) h):=rfl
theorem Hj (a:find x ρ.loc=af v):(kF (xC F) (dR (qu x) j9)).f r ρ h k=r F [v] h k:=by
 refine(?_:(aB au (λv=>r F [v] h k) (find x ρ.loc):Option Res)=_);exact cR a rfl
theorem I3 s g (a:Env->H->Option Res):new (bL [xE aj,xE ao]) (HH g 85) (λv h=>jump aj h λh=>a (gb (rh (XF s)) 31115163622 v) h)=a (rh (UK s)) (HH (upd g 85 mJ) 86):=by kernel_rfl
theorem lL4 (p q) s f (h:At f [(3,tP p),(35,tP q)]):∃g,(∀a e,(sJ aj (sL 4)).f (run KT 39) (rh (XF s)) (HH f 36) a e=a (rh (UK s)) (HH g 86))/\Fr 9999 f 36 g/\At g ((85,mJ)::(iB aj p++iB ao q)):=by
 have i:Fr 9999 f 36 (upd (upd f 36 .nil) 37 .nil):=(Fr.refl.upd (.inl rfl)).upd (.inl rfl);have h1:=h.fr i rfl;refine jz (Bt aj p _ ⟨h1.1,trivial⟩) λj m k n=> ?_;have b:Fr 9999 j 60 (upd (upd j 60 .nil) 61 .nil):=(Fr.refl.upd (.inl rfl)).upd (.inl rfl);refine jz (Bt ao q _ ⟨((h1.fr k rfl).fr b rfl).2.1,trivial⟩) λc o l a3=> ?_;have d:Fr 9999 c 84 (upd (upd c 84 .nil) 85 mJ):=(Fr.refl.upd (.inl rfl)).upd (.inl rfl);refine qG (upd (upd c 84 .nil) 85 mJ) (λa e=> ?_) (((i.trans k rfl).trans b rfl).trans (l.trans d rfl) rfl) rfl ((((n.fr b rfl).fr l rfl).fr d rfl).app (a3.fr d rfl));exact cR sL4 (rB.trans ((aaP _ _ _).trans (xm.trans ((Hj (v:=xD aj) rfl).trans ((m _).trans (fc.trans (xm.trans ((Hj (v:=xD ao) rfl).trans ((o _).trans (fc.trans (I3 s _ a)))))))))))
end
section
def UM:XS:=jq (kc 31083672806) (yG (xJ aj (kF (xC (bM 2779)) (dR (qu 245086182) j9))) (kc 245086182) (iE (qu 31115163622)) jf)
section
variable {r:Ap} {x i j n:Nat} {elt:XE} {acc v:V} {k:H->Option Res} {ρ:Env} {h:H} {xs:List V}
def putBack (acc:V) (K:V->H->Option Res) (a:V) (h:H):Option Res:=look acc h λo h=>ah au (put acc.n (bL (app o.xs [a])) h K) (ak o.t 1)
theorem wB (hm:m=aG n 1) (hx:HT.get h.l i=af (bL xs)) (hn:sP xs j=af v):turns r (kc x) jf (pC elt r acc) k m (gc (gm i j)) ρ h=
 elt.f r (gb ρ x v) h (putBack acc λa h=>turns r (kc x) jf (pC elt r acc) k n (gc (gm i (aG j 1))) (gb ρ x v) h):=by
 refine cR hm ?_;have e:turns r (kc x) jf (pC elt r acc) k (aG n 1) (gc (gm i j)) ρ h=aB au (λo=>ah au (aB (k h) (λv=>elt.f r (gb ρ x v) h (putBack acc λa h=>turns r (kc x) jf (pC elt r acc) k n (gc (gm i (aG j 1))) (gb ρ x v) h)) (sP o.xs j)) (ak o.t 1)) (HT.get h.l i):=rfl;refine cR e (cR hx ((?_:(aB (k h) _ (sP xs j):Option Res)=_)));exact cR hn rfl
theorem Bv (hm:m=aG n 1) (hx:HT.get h.l i=af (bL xs)) (hn:sP xs j=au):turns r (kc x) jf (pC elt r acc) k m (gc (gm i j)) ρ h=k h:=by
 refine cR hm ?_;have e:turns r (kc x) jf (pC elt r acc) k (aG n 1) (gc (gm i j)) ρ h=aB au (λo=>ah au (aB (k h) (λv=>elt.f r (gb ρ x v) h (putBack acc λa h=>turns r (kc x) jf (pC elt r acc) k n (gc (gm i (aG j 1))) (gb ρ x v) h)) (sP o.xs j)) (ak o.t 1)) (HT.get h.l i):=rfl;refine cR e (cR hx ((?_:(aB (k h) _ (sP xs j):Option Res)=_)));exact cR hn rfl
end
theorem MR r s g kn kr:UM.f r (rh (UK s)) (HH (kQ [(85,mJ)] g) 87) kn kr=
 turns r (kc 245086182) jf (pC (xJ aj (kF (xC (bM 2779)) (dR (qu 245086182) j9))) r (bP 1425408)) (λh=>kn (gb (rh (UK s)) 31083672806 (bP 1425408)) h) 2000 (gc (gm 1392640 0)) (compEnv (rh (UK s))) (HC (kQ [(85,mJ)] g) (t1 (bL [])) 87 1425409):=by kernel_rfl
theorem MS {J n:Nat} (h:bQ n (cM 16384 (aG J 1))=ao):(xJ d X).f r ρ (HC f t J n) k=X.f r ρ (HH (upd f J t) (aG J 1)) (λv h=>jump d h λh=>k v h):=yf (d:=aj) (k:=λh=>X.f r ρ h λv h=>jump d h λh=>k v h) h
theorem aaQ g a K:putBack (bP 1425408) K a (HH (kQ [(87,t1 (bL []))] g) 125)=K di (HH (upd (kQ [(87,t1 (bL []))] g) 87 (t1 (bL [a]))) 125):=by kernel_rfl
theorem aaR g (a b) K:putBack (bP 1425408) K a (HH (kQ [(87,t1 (bL [b]))] g) 163)=K di (HH (upd (kQ [(87,t1 (bL [b]))] g) 87 (t1 (bL [b,a]))) 163):=by kernel_rfl
theorem F2 {J n:Nat} (h:f 85=t1 (bL xs)) (a:ak 85 J=aj):HT.get (HC f t J n).l 1392640=af (bL xs):=by
 have e:HT.get (HC f t J n).l 1392640=ah (TR.get (f 85) 0) (TR.get t 0) (ak 85 J):=rfl;refine cR e (cR a ((?_:TR.get (f 85) 0=_)));refine cR h ?_;rfl
def rE:TR:=t1 (bL [EJ aj,EJ ao])
theorem lL5 (p q) s f (h:At f ((85,mJ)::(iB aj p++iB ao q))):∃g,(∀o w,(sJ aj (sL 5)).f (run KT 39) (rh (UK s)) (HH f 86) o w=o (rh (Bu s)) (HH g 164))/\Fr 9999 f 86 g/\At g [(87,rE),(94,I2 p),(132,I2 q)]:=by
 have r0:Fr 9999 f 86 (upd (upd f 86 .nil) 87 (t1 (bL []))):=(Fr.refl.upd (.inl rfl)).upd (.inl rfl);have c:=h.fr r0 rfl;have hq:At (upd (upd f 86 .nil) 87 (t1 (bL []))) (iB ao q):=c.2.2.2.2.2.2.2.2.2.2;refine jz (Hi aj p _ (⟨c.2.1,c.2.2.1,c.2.2.2.1,c.2.2.2.2.1,c.2.2.2.2.2.1,c.2.2.2.2.2.2.1,c.2.2.2.2.2.2.2.1,c.2.2.2.2.2.2.2.2.1,c.2.2.2.2.2.2.2.2.2.1,trivial⟩)) λB G d I=> ?_;have K:At (upd B 124 .nil) [(87,t1 (bL []))]:=⟨(jl rfl).trans (d 87 rfl rfl),trivial⟩;refine fB K.eq λQ C=> ?_;have y:Fr 9999 (upd (upd f 86 .nil) 87 (t1 (bL []))) 87 (upd (upd (upd B 124 .nil) 87 (t1 (bL [EJ aj]))) 125 .nil):=λj a R=>((((d.to rfl).upd (.inl rfl)).upd (.inr rfl)).upd (.inl rfl)) j (cH.mpr (cK (cH.mp a))) (by
  induction e:ak j 87 using zB with
  |false=>rfl
  |true=>rw [cz e] at a;exact ff a)
 refine jz (Hi ao q _ (hq.fr y rfl)) λD L u M=> ?_;have N:At (upd D 162 .nil) [(87,t1 (bL [EJ aj]))]:=⟨(jl rfl).trans (u 87 rfl rfl),trivial⟩;refine fB N.eq λS E=>⟨upd (upd (upd D 162 .nil) 87 rE) 163 .nil,λo w=> ?_, ?_,rfl, ?_, ?_,trivial⟩
 .skip
  refine rB.trans ?_;have z:At (upd f 86 .nil) [(85,mJ)]:=⟨h.1,trivial⟩;refine fB z.eq λO P=> ?_;have F:=MR (run KT 39) s O (λρ h=>jump aj h λh=>o ρ h) (λv h=>jump aj h λh=>w v h);rw [<-P] at F;exact F.trans (bS (wB (n:=1999) (xs:=[xE aj,xE ao]) rfl (F2 h.1 rfl) rfl) (bS (MS rfl) (bS (Hj (v:=xE aj) rfl) (bS (G _) (bS fc (cR (show aG 124 1=125 from rfl) (cR C (cR (aaQ ..) (cL C (bS (wB (n:=1998) (xs:=[xE aj,xE ao]) rfl (F2 (t:= .nil) (n:=2048000) (J:=125) (rfl.trans ((d 85 rfl rfl).trans h.1)) rfl) rfl) (bS xm (bS (Hj (v:=xE ao) rfl) (bS (L _) (bS fc (cR (show aG 162 1=163 from rfl) (cR E (cR (aaR ..) (cL E (bS (Bv (n:=1997) (xs:=[xE aj,xE ao]) rfl (F2 (t:= .nil) (n:=2670592) (J:=163) (rfl.trans ((u 85 rfl rfl).trans (rfl.trans ((d 85 rfl rfl).trans h.1)))) rfl) rfl) fc)))))))))))))))))))
 .intro j a A;have b:∀m,bI j 86=ao->bQ 86 m=ao->ak j m=false:=λm h1 h2=>by
   induction e:ak j m using zB with
   |false=>rfl
   |true=>rw [cz e] at h1;exact absurd (cH.mp h1) (bD.mpr (aA h2))
  have l:∀m,bQ 86 m=ao->bI j m=true:=λm h2=>cH.mpr (aQ (cH.mp a) (aA h2));exact(jl (b 163 a rfl)).trans ((jl (b 87 a rfl)).trans ((jl (b 162 a rfl)).trans ((u j (l 126 rfl) A).trans ((jl (b 125 a rfl)).trans ((jl (b 87 a rfl)).trans ((jl (b 124 a rfl)).trans ((d j (l 88 rfl) A).trans (r0 j a A))))))))
 .exact rfl.trans ((u 94 rfl rfl).trans (rfl.trans I))
 .exact rfl.trans M
end
section
def fY (t u:Bool):Bool:=ah aj u t
def eqB (a b:Bool):Bool:=Zh a b
theorem z9 b:eqB b b=true:=by rcases b<;>rfl
theorem Hl b:eqB b (neg b)=false:=by rcases b<;>rfl
theorem Bw b:fY b ao=b:=by rcases b<;>rfl
theorem tU b:fY b aj=false:=by rcases b<;>rfl
theorem vg f:uz f [] []=af true:=rfl
theorem eV {t u} (h1:f a b=af t) (h2:uz f x y=af u):uz f (a::x) (b::y)=af (fY u t):=by
 refine(?_:(aB au (λt=>aB au (λu=>af (ah aj u t)) (uz f x y)) (f a b):Option Bool)=_);refine cR h1 (cR h2 ?_);rcases t<;>rcases u<;>rfl
theorem CZ (e:uz (oU h n) x y=af t):oU h (aG n 1) (dJ x) (dJ y)=af t:=e
theorem qv0 h (p q):oU h 59 (Xs p) (Xs q)=af (fY (eqB p.b0 q.b0) (eqB p.b1 q.b1)):=by
 cases p;obtain⟨a,b,g,i,j,k,l,m,n,o,c,d,e,f⟩:=q
 (revert b0 a b1 b;refine FZ ?_;kernel_rfl)
theorem n1 h (b c) (x y:Nat) (hx:ak x y=aj):oU h 58 (aX (sel b x y)) (aX (sel c x y))=af (eqB b c):=by
 have hy:ak y x=false:=by
  induction e:ak y x using zB with
  |false=>rfl
  |true=>rw [cz e,fq] at hx;exact ft hx
 rcases b<;>rcases c
 .show af (ak y y)=_;refine cR (fq ..) ?_;rfl
 .show af (ak y x)=_;refine cR hy ?_;rfl
 .show af (ak x y)=_;refine cR hx ?_;rfl
 .show af (ak x x)=_;refine cR (fq ..) ?_;rfl
theorem qv1 h (p q):oU h 59 (Xu p) (Xu q)=af (fY (fY (fY (fY (fY ao (eqB p.vq q.vq)) (eqB p.b9 q.b9)) ao) (eqB p.b3 q.b3)) (eqB p.b2 q.b2)):=by
 refine CZ (eV (n1 h _ _ 1048 1000 rfl) (eV (n1 h _ _ 799 800 rfl) (eV rfl (eV ?_ (eV ?_ (vg _))))))
 .rcases p.b9<;>rcases q.b9<;>kernel_rfl
 .rcases p.vq<;>rcases q.vq<;>kernel_rfl
theorem qv2 h (p q):oU h 59 (Xv p) (Xv q)=af (fY (fY (fY (fY (fY ao (eqB p.b8 q.b8)) (eqB p.b7 q.b7)) (eqB p.b6 q.b6)) (eqB p.b5 q.b5)) (eqB p.b4 q.b4)):=by
 refine CZ (eV ?_ (eV ?_ (eV ?_ (eV ?_ (eV ?_ (vg _))))))
 .rcases p.b4<;>rcases q.b4<;>kernel_rfl
 .rcases p.b5<;>rcases q.b5<;>kernel_rfl
 .rcases p.b6<;>rcases q.b6<;>kernel_rfl
 .rcases p.b7<;>rcases q.b7<;>kernel_rfl
 .rcases p.b8<;>rcases q.b8<;>kernel_rfl
theorem qv3 h (p q):oU h 59 (Xw p) (Xw q)=af (eqB p.oj q.oj):=by
 cases p;obtain⟨e,f,g,i,j,k,l,m,n,o,b,a,c,d⟩:=q
 (revert oj a;refine CU ?_;kernel_rfl)
theorem qv4 h (p q):oU h 59 (Xx p) (Xx q)=af (eqB p.oq q.oq):=by
 cases p;obtain⟨e,f,g,i,j,k,l,m,n,o,b,c,a,d⟩:=q
 (revert oq a;refine CU ?_;kernel_rfl)
theorem qv5 h (p q):oU h 59 (Xy p) (Xy q)=af (eqB p.nY q.nY):=by
 cases p;obtain⟨e,f,g,i,j,k,l,m,n,o,b,c,d,a⟩:=q
 (revert nY a;refine CU ?_;kernel_rfl)
def same (p q:d7):Bool:=fY (fY (fY (fY (fY (fY ao (eqB p.nY q.nY)) (eqB p.oq q.oq)) (eqB p.oj q.oj))
 (fY (fY (fY (fY (fY ao (eqB p.b8 q.b8)) (eqB p.b7 q.b7)) (eqB p.b6 q.b6)) (eqB p.b5 q.b5)) (eqB p.b4 q.b4)))
 (fY (fY (fY (fY (fY ao (eqB p.vq q.vq)) (eqB p.b9 q.b9)) ao) (eqB p.b3 q.b3)) (eqB p.b2 q.b2))) (fY (eqB p.b0 q.b0) (eqB p.b1 q.b1))
theorem Ho h (p q):oU h 60 (Et p) (Et q)=af (same p q):=
 CZ (eV (qv0 h p q) (eV (qv1 h p q) (eV (qv2 h p q) (eV (qv3 h p q) (eV (qv4 h p q) (eV (qv5 h p q) (vg _)))))))
theorem MT b:fY aj b=false:=rfl
theorem F3 b:fY ao b=b:=rfl
theorem same_self p:same p p=true:=by
 unfold same;simp only [z9,F3]
theorem I4 p:∀s,s<16->same p (flip p s)=bI 13 s:=by
 refine CY ?_ ?_ ?_ ?_ ?_ ?_ ?_ ?_ ?_ ?_ ?_ ?_ ?_ ?_ (same_self p) (same_self p)
 all_goals
  cases p;unfold same flip;dsimp only [xb,sel,ak];simp only [z9,Hl,F3,Bw,tU,MT];rfl
end
section
def gP (g g' t rest:Bool):Bool:=sel g (sel g' (fY t rest) aj) rest
def Bx (p p':d7) (g g' s s' q q' k k':Bool):Bool:=sel (ak (cA g s q k) (cA g' s' q' k'))
 (fY (qj (zW p) (zW p')) (fY (qj (zX p) (zX p')) (fY (qj (zY p) (zY p')) (fY ao (fY (qj (zZ p) (zZ p')) (gP g g' (qj (nR p) (nR p')) (gP s s' ao (gP q q' ao (gP k k' ao ao))))))))) aj
theorem I5 h (p p') (g g' s s' q q' k k'):Rw (oU h 60) (dZ (UA p g s q k) (cA g s q k)) (dZ (UA p' g' s' q' k') (cA g' s' q' k'))=af (Bx p p' g g' s s' q q' k k'):=by
 (revert g g' s s' q q' k k';refine tb8 ?_;kernel_rfl)
theorem UN (p q):qj (zW p) (zW q)=eqB p.b2 q.b2:=by
 cases p;obtain⟨f,g,a,h,i,j,k,l,m,n,b,c,d,e⟩:=q
 (revert b2 a;refine CU ?_;kernel_rfl)
theorem UO (p q):qj (zX p) (zX q)=fY (eqB p.b3 q.b3) (eqB p.vq q.vq):=by
 cases p;obtain⟨f,g,h,b,i,j,k,l,m,n,a,c,d,e⟩:=q
 (revert b3 b vq a;refine FZ ?_;kernel_rfl)
theorem UP (p q):qj (zY p) (zY q)=fY (eqB p.b9 q.b9) (eqB p.vq q.vq):=by
 cases p;obtain⟨f,g,h,i,j,k,l,m,n,b,a,c,d,e⟩:=q
 (revert b9 b vq a;refine FZ ?_;kernel_rfl)
theorem UQ (p q):qj (zZ p) (zZ q)=fY (eqB p.b0 q.b0) (eqB p.b1 q.b1):=by
 cases p;obtain⟨a,b,g,h,i,j,k,l,m,n,c,d,e,f⟩:=q
 (revert b0 a b1 b;refine FZ ?_;kernel_rfl)
theorem MU l:qj l l=true:=by
 induction l with
 |nil=>rfl
 |cons a l b=>
  refine(?_:(ah aj (qj l l) (ak a a):Bool)=ao);refine cR (fq ..) ?_;exact b
theorem I6 (s q k):gP s s ao (gP q q ao (gP k k ao ao))=true:=by rcases s<;>rcases q<;>rcases k<;>rfl
theorem QH (g t) (ht:t=ao):gP g g t ao=true:=by subst ht;rcases g<;>rfl
theorem r6 (h:ak (cA g s q k) (cA g' s' q' k')=aj):Bx p p' g g' s s' q q' k k'=false:=by unfold Bx;refine cR h ?_;rfl
theorem Ew:Bx p p' g g s s q q k k=fY (qj (zW p) (zW p')) (fY (qj (zX p) (zX p')) (fY (qj (zY p) (zY p')) (fY ao (fY (qj (zZ p) (zZ p')) (gP g g (qj (nR p) (nR p')) ao))))):=by
 unfold Bx;refine cR (fq ..) (cR (I6 ..) ?_);rfl
def UR (p q:d7):Bool:=sel (jk p) (sel (jk q) (neg (qj (nR p) (nR q))) ao) (jk q)
theorem Aa (h:UR p q=ao):(jk p=ao/\jk q=ao/\qj (nR p) (nR q)=aj)\/jk q=neg (jk p):=by
 unfold UR at h
 induction e:jk p using zB with
 |false=>rw [e] at h;exact .inr h
 |true=>
  induction a:jk q using zB with
  |false=>exact .inr rfl
  |true=>
   rw [e,a] at h
   induction b:qj (nR p) (nR q) using zB with
   |false=>exact .inl (iU rfl rfl rfl)
   |true=>rw [b] at h;exact ff h
theorem QI p:UR p (flip p 4)=true:=by
 cases p;revert b4 b5 b6 b7 b8;refine MH ?_;kernel_rfl
theorem QJ p:UR p (flip p 5)=true:=by
 cases p;revert b4 b5 b6 b7 b8;refine MH ?_;kernel_rfl
theorem QK p:UR p (flip p 6)=true:=by
 cases p;revert b4 b5 b6 b7 b8;refine MH ?_;kernel_rfl
theorem QL p:UR p (flip p 7)=true:=by
 cases p;revert b4 b5 b6 b7 b8;refine MH ?_;kernel_rfl
theorem QM p:UR p (flip p 8)=true:=by
 cases p;revert b4 b5 b6 b7 b8;refine MH ?_;kernel_rfl
theorem XG (g s q k):ak (cA g s q k) (cA (neg g) s q k)=false:=by rcases g<;>rcases s<;>rcases q<;>rcases k<;>rfl
theorem XH (g s q k):ak (cA g s q k) (cA g (neg s) q k)=false:=by rcases g<;>rcases s<;>rcases q<;>rcases k<;>rfl
theorem XJ (g s q k):ak (cA g s q k) (cA g s (neg q) k)=false:=by rcases g<;>rcases s<;>rcases q<;>rcases k<;>rfl
theorem XO (g s q k):ak (cA g s q k) (cA g s q (neg k))=false:=by rcases g<;>rcases s<;>rcases q<;>rcases k<;>rfl
def rF (p p':d7):Bool:=Bx p p' (jk p) (jk p') p.oj p'.oj p.oq p'.oq p.nY p'.nY
theorem I7 (p p') (d:jk p'=jk p) (a:p'.oj=p.oj) (b:p'.oq=p.oq) (c:p'.nY=p.nY) (hb:nR p'=nR p):rF p p'=fY (eqB p.b2 p'.b2) (fY (fY (eqB p.b3 p'.b3) (eqB p.vq p'.vq)) (fY (fY (eqB p.b9 p'.b9) (eqB p.vq p'.vq)) (fY ao (fY (fY (eqB p.b0 p'.b0) (eqB p.b1 p'.b1)) ao)))):=by
 unfold rF;rw [d,a,b,c,Ew,UN,UO,UP,UQ,QH _ _ (by refine cR hb ?_;exact MU _)]
theorem Ab (p p') (h:(jk p=ao/\jk p'=ao/\qj (nR p) (nR p')=aj)\/jk p'=neg (jk p)) (d:p'.oj=p.oj) (f:p'.oq=p.oq) (g:p'.nY=p.nY):rF p p'=false:=by
 unfold rF;refine cR d (cR f (cR g ?_));rcases h with⟨a,b,c⟩|a
 .refine cR a (cR b (cR Ew (cR c ?_)));have e:gP ao ao aj ao=false:=rfl;refine cR e ?_;simp only [tU]
 .refine cR a ?_;exact r6 (XG _ _ _ _)
theorem I8 p:∀s,s<16->rF p (flip p s)=bI 13 s:=by
 refine CY ?_ ?_ ?_ ?_ (Ab p _ (Aa (QI p)) rfl rfl rfl) (Ab p _ (Aa (QJ p)) rfl rfl rfl) (Ab p _ (Aa (QK p)) rfl rfl rfl) (Ab p _ (Aa (QL p)) rfl rfl rfl) (Ab p _ (Aa (QM p)) rfl rfl rfl) ?_ ?_ (r6 (XH _ _ _ _)) (r6 (XJ _ _ _ _)) (r6 (XO _ _ _ _)) ?_ ?_
 all_goals
  refine bS (I7 p _ (by rfl) (by rfl) (by rfl) (by rfl) (by rfl)) ?_;cases p;unfold flip;dsimp only [xb,sel,ak];simp only [z9,Hl,F3,Bw,tU,MT];rfl
theorem MV h p s (a:s<16):Rw (oU h 60) (dZ (UA p (jk p) p.oj p.oq p.nY) (cA (jk p) p.oj p.oq p.nY)) (dZ (UA (flip p s) (jk (flip p s)) (flip p s).oj (flip p s).oq (flip p s).nY) (cA (jk (flip p s)) (flip p s).oj (flip p s).oq (flip p s).nY))=af (bI 13 s):=
 (I5 h p (flip p s) _ _ _ _ _ _ _ _).trans (congrArg af (I8 p s a))
end
set_option backward.match.sparseCases false
section
def wC (k:Nat):Stmt:=K.sD (K.fnBody (K.top 373)) k
def Zc (e:Expr) (k:Nat):Expr:=match e with
 | .BoolOp _ es _=>K.Ej es k
 |e=>e
noncomputable def NC:Expr->Expr
 | .Compare a _ _ _=>a
 |e=>e
def XU:Expr->Expr
 | .Compare _ _ es _=>K.Ej es 0
 |e=>e
def cE (e:Expr):XE:=cU K.G K.Ms 30 (CV (K.top 373)) e
def XA0:XE:=cE (NC (NC (Zc (CW (wC 6)) 0)))
def XA1:XE:=cE (XU (NC (Zc (CW (wC 6)) 0)))
def XF0:XE:=cE (NC (NC (Zc (CW (wC 6)) 1)))
def XF1:XE:=cE (XU (NC (Zc (CW (wC 6)) 1)))
def MW (k:Nat):XS:=JZ K.G K.Ms (CV (K.top 373)) [ifB (wC k)]
def US:XE:=BV Zj (qu 245102707) (xC (aX 13))
def XW:XT:=Dh aj (EV RB (BV Jq (xJ ao XA0) (xJ ao XA1)) US) (EV RB (BV Jq XF0 XF1) US)
theorem sL6:sL 6=Dj XW (MW 6) E1:=by kernel_rfl
def QN (p q:d7):List (Nat×TR):=[(85,mJ),(87,rE),(94,I2 p),(132,I2 q),(3,tP p),(35,tP q)]
theorem QO r s p f (h:At f [(85,mJ),(59,Vt aj p)]) k:XA0.f r (rh (Bu s)) (HH f 166) k=r (bM 2695) [xE aj] (HH f 166) k:=by
 refine fB h.eq λg a=> ?_;subst a;clear h;kernel_rfl
theorem QS r s q f (h:At f [(85,mJ),(83,Vt ao q)]) k:XA1.f r (rh (Bu s)) (HH f 182) k=r (bM 2695) [xE ao] (HH f 182) k:=by
 refine fB h.eq λg a=> ?_;subst a;clear h;kernel_rfl
theorem QT r s f (h:At f [(87,rE)]) k:XF0.f r (rh (Bu s)) (HH f 197) k=k (EJ aj) (HH f 197):=by
 refine fB h.eq λg a=> ?_;subst a;clear h;kernel_rfl
theorem QU r s f (h:At f [(87,rE)]) k:XF1.f r (rh (Bu s)) (HH f 197) k=k (EJ ao) (HH f 197):=by
 refine fB h.eq λg a=> ?_;subst a;clear h;kernel_rfl
theorem Ex r s h k:US.f r (rh (Bu s)) h k=k (vBool (bI 13 s)) h:=by kernel_rfl
theorem Ey b h k:RB (vBool b) (vBool b) h k=k aj h:=by rcases b<;>rfl
theorem Hp (c:ak a.t 6=aj) (e:oU h 60 a b=af t):Jq a b h k=k t h:=by
 refine(?_:(ah (lift (oU h 60 a b) h k) _ (ak a.t 6):Option Res)=_);refine cR c ((?_:(aB au (λt=>k t h) (oU h 60 a b):Option Res)=_));exact cR e rfl
theorem I9 {i j c c'} (hi:HT.get h.l i=af (dZ x c)) (a:HT.get h.l j=af (dZ y c')) (e:Rw (oU h 60) (dZ x c) (dZ y c')=af t):Jq (bP i) (bP j) h k=k t h:=by
 have b:Jq (bP i) (bP j) h k=aB au (λo=>ah (lift (oU h 60 (bP i) (bP j)) h k) (aB au (λo'=>lift (Rw (oU h 60) o o') h k) (HT.get h.l j)) (ak o.t 2)) (HT.get h.l i):=rfl;refine cR b (cR hi (cR a ((?_:(aB au (λt=>k t h) (Rw (oU h 60) (dZ x c) (dZ y c')):Option Res)=_))));exact cR e rfl
theorem Ja (c:∀k,a.f r ρ h k=k aj h1) (d:∀k,b.f r ρ h1 k=k aj h2):(Dh aj a b).f r ρ h k=k aj h2:=cR (c ..) (d k)
theorem Ac {op:V->V->M Bool} {x y} {t} (c:∀k,a.f r ρ h k=k x h1) (d:∀k,b.f r ρ h1 k=k y h2) (e:∀k,op x y h2 k=k t h2):(EV op a b).f r ρ h k=k t h2:=
 (c _).trans ((d _).trans (e _))
theorem Ad {op:V->V->M Bool} (c:∀k,a.f r ρ h k=k x h1) (d:∀k,b.f r ρ h1 k=k y h2) (e:∀k,op x y h2 k=k t h2):(BV op a b).f r ρ h k=k (vBool t) h2:=
 (c _).trans ((d _).trans (e _))
theorem ite_no {J J0 J1 J2:Nat} {kr} (b:J0=aG J 1) (c:J2=aG J1 3) (e:∀k,T.f r ρ (HH (upd f J .nil) J0) k=k aj (HH g J1)):(sJ ao (Dj T a E1)).f r ρ (HH f J) kn kr=kn ρ (HH (upd (upd (upd g J1 .nil) (aG J1 1) .nil) (aG J1 2) .nil) J2):=by
 subst b;subst c;refine bS rB (bS (e _) ((?_:jump aj (HH g J1) (λh=>jump aj h λh=>jump ao h λh=>kn ρ h)=_)));exact fc.trans (fc.trans fc)
theorem lL6 p s (l:s<16) f (h1:At f (iB aj p)) (h2:At f (iB ao (flip p s))) (i:At f (QN p (flip p s))):∃g,(∀j m,(sJ ao (sL 6)).f (run KT 39) (rh (Bu s)) (HH f 164) j m=j (rh (Bu s)) (HH g 200))/\Fr 9999 f 164 g:=by
 have r0:Fr 9999 f 164 (upd (upd f 164 .nil) 165 .nil):=(Fr.refl.upd (.inl rfl)).upd (.inl rfl);refine dM (CX .a p (upd (upd f 164 .nil) 165 .nil) (h1.fr r0 rfl)) λn q r=> ?_;have e:Fr 9999 f 164 (upd (upd n 180 .nil) 181 .nil):=((r0.trans r rfl).upd (.inl rfl)).upd (.inl rfl);refine dM (CX .b (flip p s) (upd (upd n 180 .nil) 181 .nil) (h2.fr e rfl)) λd u v=> ?_;have o:Fr 9999 f 164 (upd d 196 .nil):=(e.trans v rfl).upd (.inl rfl);have h:=i.fr o rfl;refine bW _ (λj m=> ?_) (((o.upd (k:=197) (t:= .nil) (.inl rfl)).upd (k:=198) (t:= .nil) (.inl rfl)).upd (k:=199) (t:= .nil) (.inl rfl));refine cR sL6 ?_;have w:∀k,(BV Jq XF0 XF1).f (run KT 39) (rh (Bu s)) (HH (upd d 196 .nil) 197) k=k (vBool (bI 13 s)) (HH (upd d 196 .nil) 197):=λk=>Ad (QT _ s _ ⟨h.2.1,trivial⟩) (QU _ s _ ⟨h.2.1,trivial⟩) λk=>I9 (x:=UA p (jk p) p.oj p.oq p.nY) (c:=cA (jk p) p.oj p.oq p.nY) (y:=UA (flip p s) (jk (flip p s)) (flip p s).oj (flip p s).oq (flip p s).nY) (c':=cA (jk (flip p s)) (flip p s).oj (flip p s).oq (flip p s).nY)
  ((show _=TR.get (upd d 196 .nil 94) 0 from rfl).trans (cR h.2.2.1 rfl)) ((show _=TR.get (upd d 196 .nil 132) 0 from rfl).trans (cR h.2.2.2.1 rfl)) (MV _ p s l)
 exact ite_no (J0:=165) (J1:=197) rfl rfl λk=>Ja (λk=>Ac (λk=>Ad (λk=>bS xm (bS (QO _ s p _ (iU (i.fr r0 rfl).1 (h1.fr r0 rfl).2.2.2.2.2.2.2.2.1 trivial) _) (bS (q _) fc))) (λk=>bS xm (bS (QS _ s (flip p s) _ (iU (i.fr e rfl).1 (h2.fr e rfl).2.2.2.2.2.2.2.2.1 trivial) _) (bS (u _) fc))) λk=>Hp rfl ((Ho _ p (flip p s)).trans (congrArg af (I4 p s l)))) (Ex _ s _) (Ey _ _)) (λk=>Ac w (Ex _ s _) (Ey _ _))
end
section
def XX (e:Expr) (k:Nat):Expr:=match e with
 | .List es _=>K.Ej es k
 |e=>e
def XS0:XE:=cE (XX (NC (CW (wC 7))) 0)
def XS1:XE:=cE (XX (NC (CW (wC 7))) 1)
def XG0:XE:=cE (XX (XU (CW (wC 7))) 0)
def XG1:XE:=cE (XX (XU (CW (wC 7))) 1)
def test7:XT:=EV RB (wO (dR (xJ aj XS0) (dR (xJ aj XS1) j9))) (wO (dR (xJ aj XG0) (dR (xJ aj XG1) j9)))
theorem sL7:sL 7=Dj test7 (MW 7) E1:=by kernel_rfl
def Ae (g s q k:Bool):List V:=app (sel g [MJ] []) (app (sel q [ML] []) (app (sel s [MK] []) (app [vStr [99,109,97,112],vStr [104,101,97,100],vStr [104,104,101,97],vStr [104,109,116,120]] (app (sel k [MN] []) [vStr [109,97,120,112]]))))
def XY (g s q k:Bool):List V:=app [vStr [99,109,97,112],vStr [104,101,97,100],vStr [104,104,101,97],vStr [104,109,116,120],vStr [109,97,120,112]] (app (sel g [MJ] []) (app (sel s [MK] []) (app (sel q [ML] []) (sel k [MN] []))))
def aaU (l:List O):Nat->TR->TR:=aS (λU t=>t) (λo U ih i t=>ih (aG i 1) (TR.ins o t i)) l
def tGo (g s q k:Bool) (a b c d:List V):TR:=aaU [bL (XY g s q k),bL [aX 4,aX 5,aX 6,aX 7,aX 8],bL [aX 11],bL [aX 12],bL [aX 13],bL a,bL b,bL c,bL d,bL (Ae g s q k)] 0 .nil
def tG (p:d7):TR:=tGo (jk p) p.oj p.oq p.nY [vB p.b4,vB p.b5,vB p.b6,vB p.b7,vB p.b8] [vB p.oj] [vB p.oq] [vB p.nY]
theorem lS0 t p (g s q k):eS 9999 (xJ aj XS0) (run KT 39) (rh (Bu t)) 201 [(87,rE),(94,tA p g s q k)] (bP 3309568) 203 [(202,t1 (bL (Ae g s q k)))]:=
 eS.mk (λf=>upd (upd f 201 .nil) 202 (t1 (bL (Ae g s q k)))) (λf a=>by
  (revert g s q k;refine FZ ?_;kernel_rfl)) (λf=>(Fr.refl.upd (.inl rfl)).upd (.inl rfl)) (λf=>⟨rfl,trivial⟩)
theorem lS1 t p (g s q k):eS 9999 (xJ aj XS1) (run KT 39) (rh (Bu t)) 203 [(87,rE),(132,tA p g s q k)] (bP 3342336) 205 [(204,t1 (bL (Ae g s q k)))]:=
 eS.mk (λf=>upd (upd f 203 .nil) 204 (t1 (bL (Ae g s q k)))) (λf a=>by
  (revert g s q k;refine FZ ?_;kernel_rfl)) (λf=>(Fr.refl.upd (.inl rfl)).upd (.inl rfl)) (λf=>⟨rfl,trivial⟩)
def vh (a b:Nat):TR:=t1 (bL [bP a,bP b])
theorem lG0 t p f (h:At f [(3,tP p)]) k:(xJ aj XG0).f (run KT 39) (rh (Bu t)) (HC f (vh 3309568 3342336) 205 3358721) k=k (bP 3375113) (HH (upd (upd f 205 (vh 3309568 3342336)) 206 (tG p)) 207):=by
 refine fB h.eq λg a=> ?_;subst a;clear h;cases p;revert oj oq nY;refine I0 ?_;revert b4 b5 b6 b7 b8;refine h5 ?_ ?_<;>kernel_rfl
theorem lG1 t p f (h:At f [(35,tP p)]) k:(xJ aj XG1).f (run KT 39) (rh (Bu t)) (HH f 207) k=k (bP 3407881) (HH (upd (upd f 207 .nil) 208 (tG p)) 209):=by
 refine fB h.eq λg a=> ?_;subst a;clear h;cases p;revert oj oq nY;refine I0 ?_;revert b4 b5 b6 b7 b8;refine h5 ?_ ?_<;>kernel_rfl
end
set_option backward.match.sparseCases true
section
theorem XZ F t (g s q k) (a b c d) (h:At F [(202,t1 (bL (Ae g s q k))),(206,tGo g s q k a b c d)]):oU (HC F t 209 3424257) 59 (bP 3309568) (bP 3375113)=af true:=by
 refine fB h.eq λF e=> ?_;subst e;clear h
 (revert g s q k;refine FZ ?_;kernel_rfl)
theorem X0 F t (g s q k) (a b c d) (h:At F [(204,t1 (bL (Ae g s q k))),(208,tGo g s q k a b c d)]):oU (HC F t 209 3424257) 59 (bP 3342336) (bP 3407881)=af true:=by
 refine fB h.eq λF e=> ?_;subst e;clear h
 (revert g s q k;refine FZ ?_;kernel_rfl)
theorem Jb {x y} (hi:HT.get h.l i=af (bL x)) (a:HT.get h.l j=af (bL y)) (hl:ak (len x) (len y)=ao) (e:uz (oU h 59) x y=af ao):RB (bP i) (bP j) h k=k aj h:=by
 have b:RB (bP i) (bP j) h k=aB au (λo=>ah (aB au (λt=>k (neg t) h) (aB au (λx=>aB au (λy=>Zi (oU h 59) x y) (HT.get h.l j)) (HT.get h.l i))) (aB au (λo'=>lift (Rw (oU h 60) o o') h λt h=>k (neg t) h) (HT.get h.l j)) (ak o.t 2)) (HT.get h.l i):=rfl;refine cR b (cR hi (cR a ((?_:(aB au (λt=>k (neg t) h) (ah (af aj) (uz (oU h 59) x y) (ak (len x) (len y)):Option Bool):Option Res)=_))));refine cR hl ((?_:(aB au (λt=>k (neg t) h) (uz (oU h 59) x y):Option Res)=_));refine cR e ?_;rfl
theorem X3 f K:new (bL [bP 3309568,bP 3342336]) (HH f 205) K=K (bP 3358720) (HC f (vh 3309568 3342336) 205 3358721):=by kernel_rfl
theorem X4 f K:new (bL [bP 3375113,bP 3407881]) (HH f 209) K=K (bP 3424256) (HC f (vh 3375113 3407881) 209 3424257):=by kernel_rfl
theorem Sm (A B):(wO (dR A (dR B j9))).f r ρ h k=A.f r ρ h λa h=>B.f r ρ h λb h=>new (bL [a,b]) h k:=rfl
theorem QV {J J0 J1 J2 n:Nat} {kr} (b:J0=aG J 1) (c:J2=aG J1 3) (hn:bQ n (cM 16384 (aG J1 1))=ao) (e:∀k,T.f r ρ (HH (upd f J .nil) J0) k=k aj (HC g t J1 n)):
 (sJ ao (Dj T a E1)).f r ρ (HH f J) kn kr=kn ρ (HH (upd (upd (upd g J1 t) (aG J1 1) .nil) (aG J1 2) .nil) J2):=by
 subst b;subst c;refine bS rB (bS (e _) ((?_:jump aj (HC g t J1 n) (λh=>jump aj h λh=>jump ao h λh=>kn ρ h)=_)));exact(yf hn).trans (fc.trans fc)
theorem lL7 (p q) s f (h:At f (QN p q)):∃g,(∀c i,(sJ ao (sL 7)).f (run KT 39) (rh (Bu s)) (HH f 200) c i=c (rh (Bu s)) (HH g 212))/\Fr 9999 f 200 g:=by
 have r0:Fr 9999 f 200 (upd f 200 .nil):=Fr.refl.upd (.inl rfl);have d:=h.fr r0 rfl;refine jz (lS0 s p (jk p) p.oj p.oq p.nY _ (iU d.2.1 d.2.2.1 trivial)) λl m j o=> ?_;have h1:=d.fr j rfl;refine jz (lS1 s q (jk q) q.oj q.oq q.nY l (iU h1.2.1 h1.2.2.2.1 trivial)) λa r e v=> ?_;have h2:=h1.fr e rfl;have b:Fr 9999 a 205 (upd (upd a 205 (vh 3309568 3342336)) 206 (tG p)):=(Fr.refl.upd (.inl rfl)).upd (.inl rfl);have w:Fr 9999 (upd (upd a 205 (vh 3309568 3342336)) 206 (tG p)) 207 (upd (upd (upd (upd a 205 (vh 3309568 3342336)) 206 (tG p)) 207 .nil) 208 (tG q)):=(Fr.refl.upd (.inl rfl)).upd (.inl rfl);refine bW _ (λc i=> ?_) ((((((r0.trans j rfl).trans e rfl).trans b rfl).trans w rfl).upd (k:=209) (t:=vh 3375113 3407881) (.inl rfl)|>.upd (k:=210) (t:= .nil) (.inl rfl)).upd (k:=211) (t:= .nil) (.inl rfl));refine cR sL7 (QV (J0:=201) (J1:=209) (n:=3424257) rfl rfl rfl λk=>Ac (x:=bP 3358720) (y:=bP 3424256) (h1:=HC a (vh 3309568 3342336) 205 3358721) (λk=> ?_) (λk=> ?_) λk=> ?_)
 .exact bS (Sm _ _) (bS (m _) (bS (r _) (X3 _ _)))
 .exact bS (Sm _ _) (bS ((lG0 s p a ⟨h2.2.2.2.2.1,trivial⟩) _) (bS ((lG1 s q _ ⟨(h2.fr b rfl).2.2.2.2.2.1,trivial⟩) _) (X4 _ _)))
 .refine Jb (x:=[bP 3309568,bP 3342336]) (y:=[bP 3375113,bP 3407881]) rfl rfl rfl (eV (t:=ao) (u:=ao) ?_ (eV (t:=ao) (u:=ao) ?_ (vg _)))
  .exact XZ _ _ _ _ _ _ _ _ _ _ (iU ((o.fr e rfl).fr b rfl).1 rfl trivial)
  .exact X0 _ _ _ _ _ _ _ _ _ _ (iU (v.fr b rfl).1 rfl trivial)
end
set_option backward.match.sparseCases false
section
noncomputable def atO:Expr->Expr
 | .Call (.Attribute o _ _) _ _ _=>o
 |e=>e
def XB:XE:=cE (NC (F0 (wC 8)))
def Zd:XE:=cU K.G K.Ms 29 (CV (K.top 373)) (atO (NC (F0 (wC 8))))
def XB1:XE:=cE (XU (F0 (wC 8)))
theorem X5:XB=Dg Zd (nm "told") (K.Ms (nm "told")) (SJ (nm "told")) (SK (nm "told")) j9:=by kernel_rfl
theorem QW r s f (h:At f [(87,rE)]) k:Zd.f r (rh (Bu s)) (HH f 214) k=r (bM 2737) [EJ ao] (HH f 214) k:=by
 refine fB h.eq λg a=> ?_;subst a;clear h;kernel_rfl
def Sn (r:Ap) (k:V->H->Option Res) (ov:V) (h:H):Option Res:=(Dg (xC ov) (nm "told") (K.Ms (nm "told")) (SJ (nm "told")) (SK (nm "told")) j9).f r (rh []) h k
theorem UT r ρ h k:(Dg Zd (nm "told") (K.Ms (nm "told")) (SJ (nm "told")) (SK (nm "told")) j9).f r ρ h k=Zd.f r ρ h (Sn r k):=rfl
theorem Jc r p f (h:At f [(230,NB p)]) k:Sn r k Sl (HH f 232)=r (bM 2695) [Sl] (HH f 232) k:=by
 refine fB h.eq λg a=> ?_;subst a;clear h;kernel_rfl
theorem QX r s q f (h:At f [(85,mJ),(83,Vt ao q)]) k:XB1.f r (rh (Bu s)) (HH f 248) k=r (bM 2695) [xE ao] (HH f 248) k:=by
 refine fB h.eq λg a=> ?_;subst a;clear h;kernel_rfl
theorem lL8 (p q) s f (h2:At f (iB ao q)) (e:At f (QN p q)):∃g,∀i a,(sJ aj (sL 8)).f (run KT 39) (rh (Bu s)) (HH f 212) i a=a (vBool ao) (HH g 264):=by
 have r0:Fr 9999 f 212 (upd (upd f 212 .nil) 213 .nil):=(Fr.refl.upd (.inl rfl)).upd (.inl rfl);have j:=e.fr r0 rfl;refine jz (QF q _ ⟨j.2.2.2.1,trivial⟩) λm n o l=>dM (QG q m l) λb r t=> ?_;have d:Fr 9999 f 212 (upd (upd b 246 .nil) 247 .nil):=((((r0.trans o rfl).trans t rfl).upd (.inl rfl)).upd (.inl rfl));refine dM (CX .c q (upd (upd b 246 .nil) 247 .nil) (h2.fr d rfl)) λu w y=>⟨upd (upd u 262 .nil) 263 .nil,λi a=> ?_⟩;have x:∀k,(xJ ao XB).f (run KT 39) (rh (Bu s)) (HH (upd f 212 .nil) 213) k=k (Et q) (HH (upd b 246 .nil) 247):=λk=>by
  refine bS xm (cR X5 (cR (UT ..) (bS (QW _ s _ ⟨j.2.1,trivial⟩ _) (bS (n _) (bS (Jc _ q _ ⟨l.2.1,trivial⟩ _) (bS (r _) fc))))))
 refine bS rB ((?_:(BV Jq (xJ ao XB) (xJ ao XB1)).f (run KT 39) (rh (Bu s)) (HH (upd f 212 .nil) 213) (λv h=>jump aj h λh=>a v h)=_));exact bS (Ad x (λk=>bS xm (bS (QX _ s q _ (iU (e.fr d rfl).1 (h2.fr d rfl).2.2.2.2.2.2.2.2.1 trivial) _) (bS (w _) fc))) λk=>Hp rfl ((Ho _ q q).trans (congrArg af (same_self q)))) fc
def Hq:XS:=fy (sJ aj (sL 3)) (fy (sJ aj (sL 4)) (fy (sJ aj (sL 5)) (fy (sJ ao (sL 6)) (fy (sJ ao (sL 7)) (fy (sJ aj (sL 8)) vS)))))
theorem MX p s (j:s<16) f (h:At f [(3,tP p)]):∃g,∀b c,Hq.f (run KT 39) (rh (Vv s)) (HH f 34) b c=c (vBool ao) (HH g 264):=by
 refine fB h.eq λF hF=> ?_;have r:∀b c,(sJ aj (sL 3)).f (run KT 39) (rh (Vv s)) (HH f 34) b c=b (rh (XF s)) (HH (upd (upd f 34 .nil) 35 (tP (flip p s))) 36):=λb c=>cR hF (lL3 p F b c s j);have t:Fr 9999 f 34 (upd (upd f 34 .nil) 35 (tP (flip p s))):=(Fr.refl.upd (.inl rfl)).upd (.inl rfl);have k:At (upd (upd f 34 .nil) 35 (tP (flip p s))) [(3,tP p),(35,tP (flip p s))]:=iU ((h.fr t rfl).1) rfl trivial;refine jz (lL4 p (flip p s) s _ k) λu v w l=>jz (lL5 p (flip p s) s u l) λe x m i=> ?_;have n:=(k.fr w rfl).fr m rfl;have a:=l.fr m rfl;have hq:At e (iB ao (flip p s)):=a.2.2.2.2.2.2.2.2.2.2;have hl:At e (QN p (flip p s)):=⟨a.1,i.1,i.2.1,i.2.2.1,n.1,n.2.1,trivial⟩;refine dM (lL6 p s j e (⟨a.2.1,a.2.2.1,a.2.2.2.1,a.2.2.2.2.1,a.2.2.2.2.2.1,a.2.2.2.2.2.2.1,a.2.2.2.2.2.2.2.1,a.2.2.2.2.2.2.2.2.1,a.2.2.2.2.2.2.2.2.2.1,trivial⟩) hq hl) λy z o=> ?_;have d:=hl.fr o rfl;exact dM (lL7 p (flip p s) s y d) λA B q=>fB (lL8 p (flip p s) s A ((hq.fr o rfl).fr q rfl) (d.fr q rfl)) λC D=>⟨C,λb c=>dm r (dm v (dm x (dm z (dm B (pN D)))))⟩
end
section
def X6 (us:List Nat) (i:Nat):Nat:=aB 0 (λu=>u) (sP us i)
def fQ (us:List Nat) (a many:Nat):Nat:=kg (ah (aG (ah (g7 (X6 us (kg a (len us))) (Nat.pow 16 (g7 a (len us)))) 0 (isNil us)) (g7 (cM a a) 3)) (X6 us a) (bI a (len us))) many
def PT (c:List V) (us:List Nat) (a:Nat):TR:= .node (af (bL c)) (.node (af (bL (lY aX us))) .nil .nil) (.node (af (bL [bP 16385,aX a])) .nil .nil)
def dT (us:List Nat) (a:Nat):TR:=ah (t1 (bL [])) .nil (bI a (len us))
def xo (many:Nat):XE:=kF (xC (bM 2786)) (dR (Df 1815280) (dR (xC (aX many)) j9))
def rD (v:V):Env:=⟨[(245102707,v)],[(4016016503283,bP 0),(1815280,bP 16386)]⟩
def UU (c:List V) (us:List Nat) (a:Nat):Prop:=∀(v:V) (g:Nat->TR) (k:V->H->Option Res),(xo 2).f (run KT 39) (rD v) (HH (kQ [(1,PT c us a)] g) (aG 4 (cM 2 a))) (λv h=>jump aj h λh=>k v h)=
 k (aX (fQ us a 2)) (HH (upd (upd (kQ [(1,PT c us a)] g) 1 (PT c us (aG a 1))) (aG 4 (cM 2 a)) (dT us a)) (aG 5 (cM 2 a)))
theorem QY {P:Nat->Prop} (e:P 0) (h1:P 1) (h2:P 2) (f:P 3) (g:P 4) (i:P 5) (j:P 6) (k:P 7) (l:P 8) (m:P 9) (a:P 10) (b:P 11) (c:P 12) (d:P 13):∀s,s<14->P s:=j8 (j8 (j8 (j8 (j8 (j8 (j8 (j8 (j8 (j8 (j8 (j8 (j8 (j8 (λs h=>absurd h (kh s)) e) h1) h2) f) g) i) j) k) l) m) a) b) c) d
theorem draws c us:∀a,a<14->UU c us a:=by
 refine QY ?_ ?_ ?_ ?_ ?_ ?_ ?_ ?_ ?_ ?_ ?_ ?_ ?_ ?_
 all_goals
  intro v g k;revert us;refine G9 14 ?_;kernel_rfl
end
set_option backward.match.sparseCases true
section
def aaW:XS:=jq (kc 1668975) (yG (xJ aj (xo 2)) (kc 245102707) (EU (dR (xC (aX 14)) j9)) jf)
def rP (l:List (Nat×V)):Env:=⟨l,[(4016016503283,bP 0),(1815280,bP 16386)]⟩
def X7:Env:=rh [(4016016503283,bP 0),(1815280,bP 16386)]
theorem UW r g kn kr:aaW.f r X7 (HH g 3) kn kr=
 turns r (kc 245102707) jf (pC (xJ aj (xo 2)) r (bP 49152)) (λh=>kn (gb X7 1668975 (bP 49152)) h) 2000 (gc (dQ (NI 14 0))) (rP []) (HC g (t1 (bL [])) 3 49153):=by kernel_rfl
theorem Ez {x n:Nat}:turns r (kc x) jf (pC elt r acc) k (aG n 1) (gc (dQ (v::l))) ρ h=
 elt.f r (gb ρ x v) h (putBack acc λa h=>turns r (kc x) jf (pC elt r acc) k n (gc (dQ l)) (gb ρ x v) h):=rfl
theorem MY {x n:Nat}:turns r (kc x) jf (pC elt r acc) k (aG n 1) (gc (dQ [])) ρ h=k h:=rfl
theorem wD (h:l.length<=1000000):oLe (bL l)=true:=by
 refine(?_:bQ (aG (len l) (aG (len ([]:List (V×V))) (aG (len ([]:List Nat)) (len ([]:List (Nat×V)))))) 1000000=ao);exact cR (len_eq ..) (l8 h)
theorem put3 {J:Nat} (h:At g [(3,t1 (bL a))]) (b:ak 3 J=aj) (hl:a.length<1000000):putBack (bP 49152) K v (HH g J)=K di (HH (upd g 3 (t1 (bL (a++[v])))) J):=by
 have e:putBack (bP 49152) K v (HH g J)=aB au (λo=>ah au (ah au (K di ⟨HT.ins (bL (app o.xs [v])) (HH g J).l 49152,(HH g J).n⟩) (oLe (bL (app o.xs [v])))) (ak o.t 1)) (HT.get (HH g J).l 49152):=rfl;have c:HT.get (HH g J).l 49152=ah (TR.get (g 3) 0) au (ak 3 J):=rfl;have d:∀o,HT.ins o (HH g J).l 49152=ah ⟨upd g 3 (TR.ins o (g 3) 0),.nil,J⟩ ⟨g,TR.ins o .nil 0,J⟩ (ak 3 J):=λo=>rfl;refine cR e (cR c (cR b ((?_:(aB au _ (TR.get (g 3) 0):Option Res)=_))));refine cR h.1 ((?_:(ah au (K di ⟨HT.ins (bL (app a [v])) (HH g J).l 49152,(HH g J).n⟩) (oLe (bL (app a [v]))):Option Res)=_));refine cR (mD ..) (cR (wD (by simp;exact pQ hl)) (cR (d ..) (cR b ((?_:K di ⟨⟨upd g 3 (TR.ins (bL (a++[v])) (g 3) 0),.nil,J⟩,_⟩=_)))));refine cR h.1 ?_;rfl
theorem So (p:a<14) (b:gb ρ 245102707 (aX a)=rD (aX a)) (j:At f [(1,PT c us a),(3,t1 (bL acc))]) (hl:acc.length<1000):
 ∃g,At g [(1,PT c us (aG a 1)),(3,t1 (bL (acc++[aX (fQ us a 2)])))]/\
  ∀k,(xo 2).f (run KT 39) (gb ρ 245102707 (aX a)) (HH f (aG 4 (cM 2 a))) (λv h=>jump aj h λh=>putBack (bP 49152) (λq h=>turns (run KT 39) (kc 245102707) jf (pC (xJ aj (xo 2)) (run KT 39) (bP 49152)) k n (gc (dQ l)) (gb ρ 245102707 (aX a)) h) v h)=
  turns (run KT 39) (kc 245102707) jf (pC (xJ aj (xo 2)) (run KT 39) (bP 49152)) k n (gc (dQ l)) (rD (aX a)) (HH g (aG 5 (cM 2 a))):=by
 have h1:At f [(1,PT c us a)]:=⟨j.1,trivial⟩;refine fB h1.eq λF hF=> ?_;have d:∀i m,i<4->4<=m->ak i m=false:=λi m h1 h2=>by
  induction e:ak i m using zB with
  |false=>rfl
  |true=>have:=cz e;lia
 have o:4<=aG 4 (cM 2 a):=d8 _ _;refine bW (upd (upd (upd f 1 (PT c us (aG a 1))) (aG 4 (cM 2 a)) (dT us a)) 3 (t1 (bL (acc++[aX (fQ us a 2)])))) (iU (jl (d 1 _ (fC 2) o)) rfl trivial) (λk=>(cR b ?_));have e:=draws c us a p (aX a) F (putBack (bP 49152) λq h=>turns (run KT 39) (kc 245102707) jf (pC (xJ aj (xo 2)) (run KT 39) (bP 49152)) k n (gc (dQ l)) (rD (aX a)) h);rw [<-hF] at e;exact e.trans (put3 ⟨((jl (d 3 _ (Nat.lt_add_one 3) o)).trans j.2.1),trivial⟩ (d 3 _ (Nat.lt_add_one 3) (aI (aA rfl:4<=5) (d8 _ _))) (by lia))
def Af (us:List Nat) (a:Nat):List V:=(List.range a).map λi=>aX (fQ us i 2)
theorem UX:∀n a m f,n+a=14->n<m->0<a->At f [(1,PT c us a),(3,t1 (bL (Af us a)))]->∀v,
 ∃g,g 3=t1 (bL (Af us 14))/\g 1=PT c us 14/\∀k,turns (run KT 39) (kc 245102707) jf (pC (xJ aj (xo 2)) (run KT 39) (bP 49152)) k m (gc (dQ (NI n a))) (rD v) (HH f (aG 3 (cM 2 a)))=k (HH g 31):=by
 intro n
 induction n with
 |zero=>
  intro a m f ha hm h0 hf v;have ha:a=14:=gA (Nat.add_left_cancel (id (gA ha)));subst ha;obtain⟨m,rfl⟩:∃m',m=aG m' 1:=⟨m-1,by show m=m-1+1;lia⟩;exact f5 f hf.2.1 hf.1 (λk=>MY)
 |succ n ih=>
  intro a m f ha hm h0 hf v;obtain⟨m,rfl⟩:∃m',m=aG m' 1:=⟨m-1,by show m=m-1+1;lia⟩;have ne:∀i j,i<4->4<=j->ak i j=false:=λi j h1 h2=>by
   induction e:ak i j using zB with
   |false=>rfl
   |true=>have:=cz e;lia
  have m3:4<=aG 3 (cM 2 a):=by show 4<=3+2*a;lia
  have hf':At (upd f (aG 3 (cM 2 a)) .nil) [(1,PT c us a),(3,t1 (bL (Af us a)))]:=iU ((jl (ne 1 _ (fC 2) m3)).trans hf.1) ((jl (ne 3 _ (Nat.lt_add_one 3) m3)).trans hf.2.1) trivial;refine aL (So (n:=m) (ρ:=rD v) (l:=NI n (aG a 1)) (by lia:a<14) rfl hf' (by simp [Af];lia)) λg e hg=> ?_;have hacc:Af us a++[aX (fQ us a 2)]=Af us (aG a 1):=by show _=Af us (a+1);simp [Af,List.range_succ]
  rw [hacc] at hg;refine cI (ih (aG a 1) m g (by show n+(a+1)=14;lia) (by have:n+1<m+1:=hm;lia) (jG a) hg (aX a)) λg' e' h1 h2=>f5 g' h1 h2 (λk=>(bS Ez (bS xm ?_)));have q:aG (aG 3 (cM 2 a)) 1=aG 4 (cM 2 a):=by show 3+2*a+1=4+2*a;exact gA (pU 3 (2*a))
  have q5:aG 5 (cM 2 a)=aG 3 (cM 2 (aG a 1)):=by show 5+2*a=3+2*(a+1);lia
  exact cR q ((e k).trans (cR q5 (e' k)))
theorem lL1 c us f (h:At f [(1,PT c us 0)]):∃g,(∀a b,(sJ aj (sL 1)).f (run KT 39) X7 (HH f 2) a b=a (rh [(4016016503283,bP 0),(1815280,bP 16386),(1668975,bP 49152)]) (HH g 32))/\At g [(1,PT c us 14),(3,t1 (bL (Af us 14)))]:=by
 have d:At (upd (upd f 2 .nil) 3 (t1 (bL []))) [(1,PT c us 0),(3,t1 (bL []))]:=iU h.1 rfl trivial;refine aL (So (c:=c) (us:=us) (n:=1999) (ρ:=rP []) (l:=NI 13 1) (yo 13:0<14) rfl d (of_decide_eq_true rfl)) λg e i=>cI (UX (c:=c) (us:=us) 13 1 1999 g rfl (of_decide_eq_true rfl) (Nat.one_pos) i (aX 0)) λj k h1 h2=>qG (upd j 31 .nil) (λa b=> ?_) h2 h1 trivial;refine bS rB (bS (UW _ _ _ _) (bS (Ez (n:=1999)) (bS (MS rfl) ((e _).trans ((k _).trans fc)))))
end
set_option backward.match.sparseCases false
section
noncomputable def aaX:Expr->Expr
 | .ListComp e _ _ _=>e
 |e=>e
noncomputable def aaY:Expr->List (Str×aN)
 | .ListComp _ _ sc _=>sc.names
 |_=>[]
def lcE:Expr:=XX (F0 (wC 0)) 0
def QZ:XE:=cU K.G K.Ms 29 (aaY lcE) (aaX lcE)
def MZ:XE:=yG QZ (kc 228274915) (iE (SI (qu 4016016503283) (xC di) (xC (aX 63)))) jf
def UY:Env:=rh [(4016016503283,bP 0)]
def PA (c a:List V):TR:= .node (af (bL c)) (.node (af (bL a)) .nil .nil) .nil
def Q0 (l:List V):List V:=yy (C9 l 0) (fm (ah (len l) 63 (bQ 63 (len l))) 0)
def rC (l:List (Nat×V)):Env:=⟨l,[(4016016503283,bP 0)]⟩
theorem Q5 r l g k:MZ.f r UY (HH (kQ [(0,t1 (yw l))] g) 1) k=
 (ah au (turns r (kc 228274915) jf (pC QZ r (bP 16385)) (k (bP 16385)) 2000 (gc (gm 16384 0)) (rC []) (HC (kQ [(0,t1 (yw l))] g) (PA (Q0 l) []) 1 16386)) (oLe (bL (Q0 l))):Option Res):=by kernel_rfl
theorem Q6 (h:l.length<=63):Q0 l=l:=by
 unfold Q0;refine cR (Dp ..) (cR (Dq ..) (cR (len_eq ..) ?_))
 induction e:bQ 63 l.length using zB with
 |true=>
  refine(?_:(l.drop 0).take (63-0)=l);exact List.take_of_length_le h
 |false=>
  refine(?_:(l.drop 0).take (l.length-0)=l);exact List.take_of_length_le (bu (fT l))
def enc (z:Int):Nat:=Int.rec (λn=>aG (cM 2 n) 0) (λn=>aG (cM 2 (aG n 1)) 1) z
theorem Q7 z h K:QZ.f (run KT 39) (rC [(228274915,mj z)]) h K=K (aX (enc z)) h:=by
 rcases z<;>kernel_rfl
theorem aaZ (hl:a.length<1000):putBack (bP 16385) K v (HC f (PA c a) 1 16386)=K di (HC f (PA c (a++[v])) 1 16386):=by
 have e:putBack (bP 16385) K v (HC f (PA c a) 1 16386)=(ah au (K di (HC f (PA c (app a [v])) 1 16386)) (oLe (bL (app a [v]))):Option Res):=by kernel_rfl
 exact cR e (cR (mD ..) (cR (wD (by simp;lia)) rfl))
theorem X8:HT.get (HC f (PA c a) 1 16386).l 16384=af (bL c):=by kernel_rfl
theorem Yb:∀(zs:List Int) pre a m l,c=pre++zs.map mj->zs.length<m->a.length+zs.length<=63->(l=[]\/∃v,l=[(228274915,v)])->
 turns (run KT 39) (kc 228274915) jf (pC QZ (run KT 39) (bP 16385)) k m (gc (gm 16384 pre.length)) (rC l) (HC f (PA c a) 1 16386)=k (HC f (PA c (a++zs.map λz=>aX (enc z))) 1 16386):=by
 intro zs
 induction zs with
 |nil=>
  intro pre a m l hc hm ha hl;obtain⟨m,rfl⟩:∃m',m=aG m' 1:=⟨m-1,by show m=m-1+1;lia⟩;exact cR List.map_nil (cR (qD ..) (Bv rfl X8 (by refine cR (mE ..) (cR hc ?_);simp)))
 |cons z zs ih=>
  intro pre a m l hc hm ha hl;obtain⟨m,rfl⟩:∃m',m=aG m' 1:=⟨m-1,by show m=m-1+1;lia⟩;have hs:gb (rC l) 228274915 (mj z)=rC [(228274915,mj z)]:=by
   rcases hl with rfl|⟨v,rfl⟩<;>rfl
  refine bS (wB (v:=mj z) rfl X8 (by refine cR (mE ..) (cR hc ?_);simp)) ?_;refine cR hs (cR (Q7 ..) (cR (aaZ (by simp at ha;lia)) ?_));have ih:=ih (pre++[mj z]) (a++[aX (enc z)]) m [(228274915,mj z)] (by refine cR hc ?_;simp) (by have:(z::zs).length<m+1:=hm;simp at this;exact this) (by simp at ha⊢;lia) (.inr ⟨_,rfl⟩);have hp:(pre++[mj z]).length=aG pre.length 1:=by simp
  rw [hp] at ih;refine cR ih ?_;simp
theorem Q8 c us f (a:Env->H->Option Res):new (bL [bP 16385,aX 0]) (HC f (PA c (lY aX us)) 1 16386) (λw h=>jump aj h λh=>a (gb UY 1815280 w) h)=a X7 (HH (upd f 1 (PT c us 0)) 2):=by kernel_rfl
theorem lL0 (ns:List Int) (hn:ns.length<=63) (f:Nat->TR) (t:TR) (ht:t=t1 (yw (ns.map mj))):∃g,(∀a d,(sJ aj (sL 0)).f (run KT 39) UY (HC f t 0 1) a d=a X7 (HH g 2))/\At g [(1,PT (ns.map mj) (ns.map enc) 0)]:=by
 refine cR ht ?_;refine f5 (upd (upd f 0 (t1 (yw (ns.map mj)))) 1 (PT (ns.map mj) (ns.map enc) 0)) (λa d=> ?_) rfl trivial;have i:At (upd f 0 (t1 (yw (ns.map mj)))) [(0,t1 (yw (ns.map mj)))]:=⟨rfl,trivial⟩;refine fB i.eq λF hF=> ?_;refine(?_:jump aj (HC f (t1 (yw (ns.map mj))) 0 1) (λh=>MZ.f (run KT 39) UY h λv h=>new (bL [v,aX 0]) h λw h=>jump aj h λh=>a (gb UY 1815280 w) h)=_);refine bS (yf rfl) ?_;refine(?_:MZ.f (run KT 39) UY (HH (upd f 0 (t1 (yw (ns.map mj)))) 1) _=_);have b:(ns.map mj).length<=63:=by simpa using hn
 have e:=Q5 (run KT 39) (ns.map mj) F (λv h=>new (bL [v,aX 0]) h λw h=>jump aj h λh=>a (gb UY 1815280 w) h);rw [<-hF] at e;refine cR e (cR (Q6 b) (cR (wD (by lia)) ?_));refine bS (Yb (c:=ns.map mj) ns [] [] 2000 [] rfl (by lia) (by simpa using hn) (.inl rfl)) ?_;have hm:([]++ns.map λz=>aX (enc z))=lY aX (ns.map enc):=by refine cR (p5 ..) ?_;simp
 refine cR hm ?_;exact Q8 _ _ _ a
def Sp:XE:=kF (xC (bM 2786)) (dR (qu 1815280) (dR (xC (aX 16)) j9))
theorem sL2:sL 2=jq (kc 245102707) Sp:=by kernel_rfl
theorem UZ c us g kn kr:(sJ aj (jq (kc 245102707) Sp)).f (run KT 39) (rh [(4016016503283,bP 0),(1815280,bP 16386),(1668975,bP 49152)]) (HH (kQ [(1,PT c us 14)] g) 32) kn kr=
 kn (Vv (fQ us 14 16)|>rh) (HH (upd (upd (upd (kQ [(1,PT c us 14)] g) 32 .nil) 1 (PT c us 15)) 33 (dT us 14)) 34):=by
 revert us;refine G9 15 ?_;kernel_rfl
theorem Yc (h:x<2):aX x=vB (ak x 1):=by
 induction x using zN with
 |zero=>rfl
 |succ x=>
  induction x using zN with
  |zero=>rfl
  |succ x=>exact absurd h (bD.mpr (rN 2 x))
def F4 (us:List Nat):d7:=⟨ak (fQ us 0 2) 1,ak (fQ us 1 2) 1,ak (fQ us 2 2) 1,ak (fQ us 3 2) 1,ak (fQ us 4 2) 1,ak (fQ us 5 2) 1,ak (fQ us 6 2) 1,ak (fQ us 7 2) 1,
 ak (fQ us 8 2) 1,ak (fQ us 9 2) 1,ak (fQ us 10 2) 1,ak (fQ us 11 2) 1,ak (fQ us 12 2) 1,ak (fQ us 13 2) 1⟩
theorem Jd us:Af us 14=Sh (F4 us):=by
 have h:∀i,aX (fQ us i 2)=vB (ak (fQ us i 2) 1):=λi=>Yc (Nat.mod_lt _ (Nat.zero_lt_two));have e:Af us 14=[aX (fQ us 0 2),aX (fQ us 1 2),aX (fQ us 2 2),aX (fQ us 3 2),aX (fQ us 4 2),aX (fQ us 5 2),aX (fQ us 6 2),aX (fQ us 7 2),aX (fQ us 8 2),aX (fQ us 9 2),aX (fQ us 10 2),aX (fQ us 11 2),aX (fQ us 12 2),aX (fQ us 13 2)]:=rfl;refine cR e (cR (h 0) (cR (h 1) (cR (h 2) (cR (h 3) (cR (h 4) (cR (h 5) (cR (h 6) (cR (h 7) (cR (h 8) (cR (h 9) (cR (h 10) (cR (h 11) (cR (h 12) (cR (h 13) ?_))))))))))))));rfl
def Q9:XS:=fy (sJ aj (sL 0)) (fy (sJ aj (sL 1)) (fy (sJ aj (sL 2)) Hq))
theorem Ra v h k:run KT 40 (bM 2810) [v] h k=Q9.f (run KT 39) (rh [(4016016503283,v)]) h (λa h=>k di h) k:=by kernel_rfl
theorem Rb (ns:List Int) (hn:ns.length<=63) (f:Nat->TR):∃g,∀k,run KT 40 (bM 2810) [bP 0] (HC f (t1 (yw (ns.map mj))) 0 1) k=k (vBool ao) (HH g 264):=by
 refine dM (lL0 ns hn f _ rfl) λd e h=>dM (lL1 (ns.map mj) (ns.map enc) d h) λa i h1=> ?_;have j:At a [(1,PT (ns.map mj) (ns.map enc) 14)]:=⟨h1.1,trivial⟩;refine fB j.eq λF hF=> ?_;have l:∀b c,(sJ aj (sL 2)).f (run KT 39) (rh [(4016016503283,bP 0),(1815280,bP 16386),(1668975,bP 49152)]) (HH a 32) b c=b (rh (Vv (fQ (ns.map enc) 14 16))) (HH (upd (upd (upd a 32 .nil) 1 (PT (ns.map mj) (ns.map enc) 15)) 33 (dT (ns.map enc) 14)) 34):=λb c=>by
  refine cR sL2 (cR hF ?_);exact UZ _ _ F b c
 have h2:At (upd (upd (upd a 32 .nil) 1 (PT (ns.map mj) (ns.map enc) 15)) 33 (dT (ns.map enc) 14)) [(3,tP (F4 (ns.map enc)))]:=⟨rfl.trans (h1.2.1.trans (cR (Jd ..) rfl)),trivial⟩;exact fB (MX (F4 (ns.map enc)) (fQ (ns.map enc) 14 16) (Nat.mod_lt _ (yo 15)) _ h2) λm n=>⟨m,λk=>(Ra _ _ _).trans (dm e (dm i (dm l (n _ _))))⟩
end
end
section
open PyProof.Rows PySem.Calls PySem.SeqAt PySem.W
section
theorem U0 (e:(t1 o).get j=af o'):j=0/\o'=o:=by
 have e:(TR.node (af o) .nil .nil).get j=af o':=e;rw [TR.get_node] at e;by_cases h:j=0
 .rw [if_pos h] at e;exact⟨h,(aF e).symm⟩
 .rw [if_neg h] at e;split at e<;>exact fn e
theorem U1 (e:(HC zV (t1 o) 0 1).l.get i=af o'):i=0/\o'=o:=by
 have e:HT.get ⟨zV,t1 o,0⟩ i=af o':=e;rw [HT.get_eq] at e;by_cases h:i/16384=0
 .rw [if_pos h] at e;exact f7 (U0 e) λh1 h2=>⟨by exact gA ((λ{i j} h=>Iff.mp (yK h)) (id (gA h)) (id (gA h1))),h2⟩
 .rw [if_neg h] at e;exact fn e
theorem Rc (h:iR Qw ns its):ef X g w n (ns.map mj) its:=by
 induction h with
 |nil=>exact .nil
 |cons p _ a=>exact p.elim λt e=>e▸.cons _ _ _ _ (VR.mj _ t) a
theorem M0 (h:iR R l m):l.length=m.length:=by
 induction h with
 |nil=>rfl
 |cons _ _ a=>exact congrArg (·+1) a
theorem Rd (h:VR X g w n v y) (e:v=vBool ao):y= .bool true:=by
 induction h using Mine.VR.casesOn with
 |bool b=>induction b using zB with
  |true=>rfl
  |false=>exact absurd (congrArg V.n e) (aY rfl)
 |_=>exact nn (congrArg V.t e) rfl
theorem M1 (G:Good w h) (hn:ns.length<=63) (hi:iR Qw ns its) (hs:s.heap=h.push {cls:= .type "list",data:= .seq its.toArray}):
 cG (model P0 w) callerA (call (.ref 2810) [.ref h.objs.size]) (λv s'=>v= .bool ao/\OldK s.heap s'.heap/\s'.gens=s.gens/\s'.os=s.os) (λU U=>False) s:=by
 have B:=qg G;have hst:St (kP w h) ⟨λU=>h.objs.size,λU=>au,λU=>0⟩ (HC zV (t1 (yw (ns.map mj))) 0 1) s:=by
  refine⟨λi o e=> ?_,λa i e=>(fn e),λa o e ht=> ?_, ?_,λP hP=> ?_⟩
  .refine f7 (U1 e) λqY hq1=> ?_;subst qY;subst hq1;refine⟨bN 0,.fix _ its.toArray 0 rfl (λq=>absurd (B.htab _ q) (j4 _)) ?_ ?_ (Rc hi)⟩
   .refine cR hs ?_;exact aJ _ rfl
   .have:=M0 hi;refine cR o8 ?_;lia
  .refine cR hs ?_;exact az _ e
  .refine cR hs (cR (bJ ..) ?_);exact gU _
  .refine⟨B.htab P hP,#[], ?_, ?_,λpos q cv U e2=> ?_⟩
   .refine cR hs ?_;exact az _ (tab_of G hP)
   .exact trivial
   .exact fn e2
 refine fB (Rb ns hn zV) λg hg=> ?_;refine aW ((Ut G 40).call callerA ⟨rfl,by decide,by decide⟩ _ _ s hst (bM 2810) (.ref 2810) (.fn 2810) [bP 0] [.ref h.objs.size] (.cons _ _ _ _ (.ref 0 (bN 0)) .nil)
  (λv hh=>ah au (af ⟨⟨[],[]⟩,di,HC zV .nil 0 0⟩) (GV v 1 0 1)) ⟨⟨[],[]⟩,di,HC zV .nil 0 0⟩ (hg _) (λv s'=>v= .bool ao/\OldK s.heap s'.heap/\s'.gens=s.gens/\s'.os=s.os) λw' h' s' v y hs' x' hv hk=> ?_) (λU U q=>q) λU U f=>f
 have hv1:GV v 1 0 1=true:=by
  induction q:GV v 1 0 1 using zB with
  |true=>rfl
  |false=>
   have hk:(ah au (af ⟨⟨[],[]⟩,di,HC zV .nil 0 0⟩) (GV v 1 0 1):Option Res)=af ⟨⟨[],[]⟩,di,HC zV .nil 0 0⟩:=hk;rw [q] at hk;exact fn hk
 refine qF (Rd hv (qe hv1)) ⟨λb o e=> ?_,λb o e=> ?_⟩ x'.gens x'.os
 .by_cases hb:b∈iK
  .obtain⟨low,ps,p1,_⟩:=hs'.tab b hb;refine cR (aF (e.symm.trans (cR hs (az _ (tab_of G hb))))) (.inr (.inl ⟨?_,rfl,#[],ps,rfl,by refine cR p1 ?_;simp⟩));have hm:∃m∈O4,m.P=b:=by
    simp only [iK,aT,aU,or_false] at hb;rcases hb with rfl|rfl|rfl|rfl
    .exact bW ⟨360,2729,2725,"known_readers"⟩ (List.mem_of_mem_head? rfl) rfl
    .exact bW ⟨364,2757,2753,"gsub_octets"⟩ (by simp [O4]) rfl
    .exact bW ⟨365,2764,2760,"gpos_octets"⟩ (by simp [O4]) rfl
    .exact bW ⟨366,2771,2767,"known_writers"⟩ (mL rfl) rfl
   refine aL hm λm qY=> ?_;subst qY;intro hm;obtain⟨oc,vs,_,_,_,_,_,_,_,c1,c2,c3,c4,_⟩:=G8 G hm _ _ s hst;exact ug m.c oc vs c1 c2 c3 c4
  .exact .inl (x'.old b o rfl hb (λq=>q) e)
 .by_cases hb:b∈iK
  .obtain⟨low,ps,p1,_⟩:=hs'.tab b hb;exact⟨_,p1⟩
  .exact⟨o,x'.old b o rfl hb (λq=>q) e⟩
end
end
section
section
def NT.put {α:Type} (k:Nat) (a:α) (t:NT α):NT α:=NT.rec (.n .l k a .l) (λl q v r ihl ihr=>ah (ah (.n l q v ihr) (.n ihl q v r) (bI k q)) (.n l k a r) (ak k q)) t
def Hr {α:Type} (l:List (Str×α)):NT α:=aS .l (λx U ih=>NT.put (nm x.1) x.2 ih) l
def treeOf (l:List Str):NT Unit:=Hr (l.map λx=>(x,()))
theorem find_node {v:α}:NT.find (.n l q v r) j=ah (ah (NT.find r j) (NT.find l j) (bI j q)) (af v) (ak j q):=rfl
theorem M3 {t:NT α}:NT.find (NT.put k a t) j=ah (NT.find t j) (af a) (ak j k):=by
 induction t with
 |l=>
  refine cR find_node ?_;rcases bI j k<;>rfl
 |n l q v r b c=>
  have e:NT.put k a (.n l q v r)=ah (ah (.n l q v (NT.put k a r)) (.n (NT.put k a l) q v r) (bI k q)) (.n l k a r) (ak k q):=rfl;refine cR e ?_
  induction h1:ak k q using zB with
  |true=>
   have:=aH h1;refine cL this ((?_:NT.find (.n l k a r) j=_));refine cR find_node (cR find_node ?_);rcases ak j k<;>rfl
  |false=>
   induction h2:bI k q using zB with
   |true=>
    refine cR find_node (cR find_node (cR b ?_))
    induction d:ak j k using zB with
    |false=>rfl
    |true=>
     have:=aH d;subst this;exact cR h1 (cR h2 rfl)
   |false=>
    refine cR find_node (cR find_node (cR c ?_))
    induction d:ak j k using zB with
    |false=>rfl
    |true=>
     have:=aH d;subst this;exact cR h1 (cR h2 rfl)
theorem Ag (hn:bg n=ao):∀{l:List (Str×α)},l.all (λp=>bg p.1)=ao->NT.find (Hr l) (nm n)=l.lookup n:=by
 intro l
 induction l with
 |nil=>
  intro _;exact rfl
 |cons b l c=>
  obtain⟨x,a⟩:=b;intro h;rw [iz,aP] at h;refine(?_:NT.find (NT.put (nm x) a (Hr l)) (nm n)=_);refine cR M3 (cR bK (cR (c h.2) ?_))
  induction q:ak (nm n) (nm x) using zB with
  |true=>
   have:=gR hn h.1 (aH q);exact cR this (cR (beq_self_eq_true ..) rfl)
  |false=>
   have:(n==x)=false:=beq_eq_false_iff_ne.mpr λe=>aY q (congrArg nm e);exact cR this rfl
theorem lookup_mem {c d:Type} [BEq c] [LawfulBEq c] {a} {b}:∀{l:List (c×d)},l.lookup a=af b->(a,b)∈l:=by
 intro l
 induction l with
 |nil=>exact λh=>fn h
 |cons p l e=>
  rcases p with⟨x,y⟩
  intro h;rw [bK] at h;by_cases q:a=x
  .subst q;rw [beq_self_eq_true] at h;have h:=aF h;exact cR h (aE ..)
  .rw [beq_eq_false_iff_ne.mpr q] at h;exact aD _ (e h)
theorem By (hn:bg n=ao) (hl:l.all bg=ao) (h:(NT.find (treeOf l) (nm n)).isSome=ao):n∈l:=by
 unfold treeOf at h;rw [(Ag hn (l:=l.map λx=>(x,())) (cR List.all_map hl))] at h;refine fB (AX.mp h) λu hu=> ?_;have:=lookup_mem hu;refine aL (gG.mp this) λx a hx=> ?_;have a:x=n:=congrArg eB a;exact a▸hx
end
end
section
open PyProof.Rows PySem.Calls PySem.SeqAt PySem.W
section
def xq (w:World) (os:OsState):SharedT:=stK w os 1 (tT w) 347 Mq 2811 4281
def sB (w:World) (os:OsState):Shared:=⟨boot_heap w.params,#[],boot_drawn,boot_toks,os⟩
theorem M4:pM.drop 374=[]:=by kernel_rfl
section
variable {w:World} {os:OsState} {x:Nat->Option Obj}
theorem C0 (hf:∀p∈pl,m5 (mQ x (xq w os)).heap p):Good w (mQ x (xq w os)).heap:=by
 have key:∀a o,a<2811->(tK w 1 (tT w) 347 Mq).get a=af o->alive o=af o->(mQ x (xq w os)).heap.get? a=af o:=λa o h1 h2 h3=>uv (x:=x) h1 h2 h3;have g:∀i,(tK w 1 (tT w) 347 Mq).get i=_:=λi=>G4 _ _ _ _ _ _ i;exact⟨key 3 _ (of_decide_eq_true rfl) ((g 3).trans rfl) rfl,key 0 _ (yo 2810) ((g 0).trans rfl) rfl,key 4 _ (by decide) ((g 4).trans rfl) rfl,key 2 _ (by decide) ((g 2).trans rfl) rfl,hf⟩
def M5:List Str:=startupNames++P0.boundNames
def Yd (t:NT Unit) (e:aV):Bool:=match e.key with
 | .str s _=>bg s&&(NT.find t (nm s)).isSome
 |_=>aj
theorem Je w:(tT w).all (Yd (treeOf M5))=true:=by kernel_rfl
theorem EA:M5.all bg=true:=by kernel_rfl
set_option tactic.hygienic true in
theorem M6 (h:nsFind (tT w).toArray k=af v):k∈startupNames\/k∈P0.boundNames:=by
 unfold nsFind findBy at h;rw [<-Array.find?_toList] at h
 induction b:(tT w).toArray.toList.find? (λe=>e.key.isStr k) using zO with
 |none=>rw [b] at h;exact fn h
 |some e=>
  have hk:=List.find?_some (p:=λe:aV=>e.key.isStr k) b;have a:=aK.mp (Je w) e (List.mem_of_find?_eq_some b);unfold Yd at a;split at a
  .rename_i s t c;rw [c] at hk;have hk:s=k:=by simpa [Value.isStr] using hk
   refine cL hk ?_;rw [aP] at a;exact m6.mp (By a.1 EA a.2)
  .exact ff a
theorem Jf (w:World):(boot_heap w.params).objs.size=11:=by kernel_rfl
theorem M7 (w:World):globalOf (boot_heap w.params) "__annotations__"=af (.ref 6):=by kernel_rfl
theorem F5:staticsOk (importedModules P0.main.body) (boot_heap w.params) (mQ x (xq w os)).heap=true:=by kernel_rfl
theorem C1:(mQ x (xq w os)).heap.accountedOkI (importedModules P0.main.body)=true:=by kernel_rfl
theorem Rf:(mQ x (xq w os)).heap.bltView=bltViewBooted:=by kernel_rfl
theorem M8:(mQ x (xq w os)).heap.isNs builtinsNs=true:=by kernel_rfl
theorem F6 w:laidNames.map (λn=>nsFind (tT w).toArray n)=laidNames.map (λn=>globalOf (boot_heap w.params) n):=by kernel_rfl
theorem r7 (G:Good w (mQ x (xq w os)).heap) n:globalOf (mQ x (xq w os)).heap n=nsFind (tT w).toArray n:=by
 rfl
theorem Rg (hf:∀p∈pl,m5 (mQ x (xq w os)).heap p) (hr:qf w N (sB w os) (topStub P0)=af (mQ x (xq w os))) (hz:(sB w os).asleep):TopRan P0 w (sB w os) (mQ x (xq w os)):=by
 have G:=C0 hf;have hr:topRun treeTable P0 w 11 (af (.ref 6)) N (sB w os) (topStub P0)=af (mQ x (xq w os)):=hr;rw [<-table_eq_tree] at hr;refine qH (topRun_spec _ _ _ _ hz hr) λfr a l o=>⟨a,l,Shared.rest_eq o,λb ob hb hn=> ?_,Heap.accountedI_of_ok C1,statics_of_ok F5, ?_,λn hn=>(Pin.builtinOf_eq M8 n).trans (Heap.of_bltView M8 Rf n hn), ?_,λg hg=> ?_,λk v hk=> ?_,λn hn=> ?_⟩
 .have hb2:b<11:=by have:=bk hb;rw [show(sB w os).heap=boot_heap w.params from rfl,Jf] at this;exact this
  exact fr b ob hb2 (λq=>hn (.inl q)) (λq=>hn (.inr (.inl q))) (λq=>hn (.inr (.inr ((M7 w).trans q)))) hb
 .refine aL (Bq G.main (yd w)) λm U m1=> ?_;obtain⟨o,es,ep,ho,hd,hk,_⟩:=m1;exact⟨o,es,ep,ho,hd,hk⟩
 .exact lA 4 _ ((r7 G _).trans (by kernel_rfl)) G.bmod rfl rfl
 .exact absurd hg (by simp [mQ,xq,stK])
 .rw [r7 G] at hk;exact M6 hk
 .rw [r7 G];exact List.map_inj_left.mp (F6 w) n hn
end
end
section
noncomputable abbrev Ah:OpenRow:=PySem.Challenge.rw_pf0157_01.row
theorem M9:opening P0=plainProg P0.main.scope.names:=by kernel_rfl
theorem U3:∀s,fenceModules? P0 s=af s:=λs=>by kernel_rfl
theorem opens w:∃s os,AfterRun (opening P0) w s/\fenceModules? P0 s=af (sB w os):=by
 refine aL (qi.mp (boot_open (p:=P0) (N:=600) M9 rfl U3 w)) λs₀ h2 h1=> ?_;rw [<-table_eq_tree] at h1;refine dM (Option.bind_eq_some_iff.mp h1) λs a b=> ?_;obtain⟨h,g,d,k,os⟩:=s₀;simp only [Prod.mk.injEq] at h2;obtain⟨rfl,rfl,rfl,rfl⟩:=h2;exact nv s os (AfterImport.of_importEnds a) b
theorem U4:NT.find K.dT 2810=af ⟨1,373,0,[]⟩:=by kernel_rfl
theorem Rh:P0.theDef "law"=af (rz (K.top 373),K.fnBody (K.top 373),oK (K.top 373)):=by kernel_rfl
theorem EB:(rz (K.top 373)).defaults=[]/\kwWritten? (rz (K.top 373)).kwonlyargs (rz (K.top 373)).kw_defaults=af []:=⟨by kernel_rfl,by kernel_rfl⟩
theorem EC w:nsFind (tT w).toArray "law"=af (.ref 2810):=by kernel_rfl
theorem Ri (as ds):Ah.toRowW.claim.post as (.bool ao) ds=true:=by
 refine(?_:(WShape.has [] (.bool ao) .bool&&(WTm.eq .res (.lit (.bool ao))).holds [] {args:=as,res:=af (.bool ao),after:=ds})=ao);simp [WShape.has,WShape.arms,WTm.holds,WTm.value,W.same]
theorem Rj {h:Heap} (c:h.get? 3=af (o3 L n)) (hb:Sb (o3 L n)=ao):h.Ns 3 (nsFind L.toArray):=by
 obtain⟨m,⟨o,g,ep,d,e,f,i⟩,_⟩:=Bq c hb;have:=aF (d.symm.trans c);subst this;injection e with a b
 subst a;exact ug _ _ _ c rfl f (λj=>rfl)
section
variable {w:World} {os:OsState} {x:Nat->Option Obj}
theorem U5 (hf:∀p∈pl,m5 (mQ x (xq w os)).heap p):isTheDefsW P0 (mQ x (xq w os)).heap "law":=by
 refine jo (hf ZN (aE ..)) λg g2 g1 g3=> ?_;have hl:Ph g 2810=true:=(rA g3).2.2.2.2;refine tB (nQ (Mg g2 _ (gw.mpr ⟨NT.jj U4,rfl⟩))) λo fd U ho hd b1 b2 b3=> ?_;unfold Ph at hl;rw [ho] at hl;dsimp only at hl;rw [hd] at hl;simp only [aP,beq_iff_eq,cZ] at hl;obtain⟨n1,n2,n3,n4,n5,n6,n7⟩:=hl;have d1:fd.defaults= .none:=by revert n6;generalize fd.defaults=y;intro n6;rcases y<;>first|rfl|exact ff n6
 have d2:fd.kwdefaults= .none:=by revert n7;generalize fd.kwdefaults=y;intro n7;rcases y<;>first|rfl|exact ff n7
 exact⟨2810,o,fd,_,_,_,(r7 (C0 hf) _).trans (EC w),(g1 _ _ ho).2.2,hd,Rh,n1,n2,b3,b1,b2,cz n3,n4,cz n5,.inl ⟨EB.1,d1⟩,[],EB.2,.inl ⟨rfl,d2⟩⟩
theorem U6 (ns:List Int):(ofPys (ns.map jU)).length=ns.length:=by refine cR (ofPys_eq ..) ?_;simp
theorem U7 {ns:List Int} (h:Ah.toRowW.pre.holds [] {args:=[ofPy (.list (ns.map jU))]}=ao):ns.length<=63:=by
 have h:WTm.holds [] (.and (.not (.arg 0)) (.lit (.bool ao))) {args:=[.bool (decide ((63:Int)<((ofPys (ns.map jU)).length:Int)))]}=true:=h;rw [U6] at h
 induction a:decide ((63:Int)<(ns.length:Int)) using zB with
 |true=>rw [a] at h;exact ff h
 |false=>exact qz.mp (ko.mp (of_decide_eq_false a))
theorem okE {b c:Type} {a} {e} {p:Prop} (h:(Except.ok a:Except b c)= .error e):p:=by injection h
theorem Jg (hf:∀p∈pl,m5 (mQ x (xq w os)).heap p) (hz:(mQ x (xq w os)).asleep) free kept (hk:∀h',kept h') gens:Ah.toRowW.claim.CallFrom (callStub "law") w free gens kept (mQ x (xq w os)):=by
 have G:=C0 hf;intro args hpre hlay ord hord;refine nG λhgo=>aC (pre_splitW (r:=Ah.toRowW) hpre) λhs2 hs1=>fB (Qz hs1) λns qY=> ?_;subst qY;obtain⟨⟨vs,s₂⟩,hlaid⟩:=AX.mp (layAllW_isSome (R:=[]) (cl:=classAt (mQ x (xq w os)).heap) (P:=w.params) (ord:=ord) (λc hc=>ff hc) _ Ah.toRowW.args (mQ x (xq w os)) hs1);refine jo (Qy hlaid) λits qY=> ?_;subst qY;intro hi hp;have keeps:=layAllW_keeps _ _ _ hlaid;have hal:=layAllW_rest _ _ _ hlaid;refine jz (reads_layAllW hord _ _ _ hlaid hlay s₂.heap (λU U e=>e)) λas hrd hin hold=> ?_;obtain⟨n,r,s',s'',aa0,U8,hfo,hv,hK,hg,ho⟩:=CS (prog:=P0) (w:=w) (t:=(callStub "law" [.ref (mQ x (xq w os)).heap.objs.size]).cur) (s:=s₂) (R:=λr s'=>r= .ok (.ret (.bool ao))/\OldK s₂.heap s'.heap/\s'.gens=s₂.gens/\s'.os=s₂.os)
  (qy hal.2.2.2 hz) (ay (eT (wpAny_nsGet ((Rj G.main (yd w)).keeps keeps) (by
   exact cR (EC ..) (ay (aW (M1 G (U7 hs2) hi hp) (λv s' q=>aO (f5 _ rfl ⟨by exact cR q.1 rfl,q.2⟩ (by refine cR q.2.2.1 (cR hal.1 ?_);show leftWithCleanup #[]=aj;simp [leftWithCleanup]))) λU U f=>f.elim))))))
 refine vL (Shared.forget_eq hfo) λU eh U U eo=> ?_;subst hv;have good:GoodWG Ah.toRowW.claim (classAt (mQ x (xq w os)).heap) (ExcName.means (mQ x (xq w os)).heap) [ofPy (.list (ns.map jU))] s₂ (.ok (.ret (.bool ao))) s'':=
  (qF (.inl ⟨.bool ao,.bool ao,[],rfl,λU=>rfl,.bool ao,Ri _ _,λU=>⟨iF,λa ha=>(aU ha).elim⟩⟩) hK ho (.of_eq (hg.trans (hal.1.trans rfl))))
 refine Rt (good.laid (c:=Ah.toRowW.claim) rfl rfl (ident_freeW (r:=Ah.toRowW) rfl rfl rfl) (⟨(bW ord hord hlaid),hrd,hin,hold,keeps,hal.1.trans rfl,hal.2.2.1⟩)) λYe hos U=> ?_;rw [<-eo] at hos;refine hgo ⟨_,s₂,hlaid,n,_,s',U8, ?_,λU i y hy=>absurd hy (by simp [mQ,xq,stK]),hk _,by exact cR ((runN_life _ _ _ aa0).trans hal.2.2.2) rfl,Shared.rest_eq hos⟩;refine(Ye.congr eh).imp (λq=>q.elim λv q=>⟨v,congrArg outcomeOf q.1,q.2.1,q.2.2.1,q.2.2.2.1,λb o y U=>q.2.2.2.2.1 b o y,q.2.2.2.2.2⟩) λq=>q.elim λe q=>q.elim λob q=>q.elim λcls q=>okE q.1
end
theorem BA:Ah.toRowW.promised:=bW [.list []] (by kernel_rfl) (by kernel_rfl)
theorem Yg (a:P0.tablesWhole=ao):P0.bare:=⟨rfl,rfl,rfl,rfl,rfl,a⟩
theorem U9:opensWell P0=true:=by kernel_rfl
theorem Jh (k1:Ah.wellSaid=ao) (kt:P0.tablesWhole=ao):Ah.Holds:=by
 refine AY k1 BA (iU (Yg kt) U9 rfl) BA.witness (λw=>(ny (opens w) λs os hf A=>⟨⟨s,A⟩,λs' hs'=> ?_⟩));obtain rfl:s'=s:=AfterImport.unique hs' A;have hz:=qy (fence_lifeW hf) (AfterImport.life A);refine ny (IY M4 (aaz w os)) λx N hp hr=> ?_;have T:=Rg hp hr hz;refine⟨sB w os,hf,rfl,mQ x (xq w os),T,λn hn=> ?_,λc hc=>((aU hc).elim),λc hc=>((aU hc).elim),Jg hp (qy T.2.1 hz) _ _ (λh' q=>ff q) _⟩;exact cR (eE.mp hn) (U5 hp)
end
end
section
open PySem.TablesWhole PySem.W PyProof.Rows
set_option backward.match.sparseCases false
section
noncomputable abbrev PL:Program:=kj
noncomputable abbrev Jv:OpenLaw:=PySem.Challenge.rw_pf0157_01
def nZ:Scope:=PL.main.scope
def tX (k:aN):Bool:=NameKind.rec aj aj aj ao ao k
def Yh (k:aN):Bool:=NameKind.rec ao ao aj aj aj k
def isFree (k:aN):Bool:=NameKind.rec aj aj ao aj aj k
def isCell (k:aN):Bool:=NameKind.rec aj ao aj aj aj k
noncomputable def Na (l:List Nat):Bool:=(l.take 3).all λc=> !ak c 95
noncomputable def Sq:List Str:=["Exception","super","len","chr","range","bytes","bytearray","ord","str","tuple","max","min","sorted","list","sum","dict","zip","isinstance","set","enumerate","property","abs","int"]
def wF:List Str:=PL.boundNames++Sq
def Yi:List Nat:=Jv.own.map nm
def memC (c:Nat) (l:List Nat):Bool:=aS aj (λy U ih=>ah ih ao (ak c y)) l
def tW:NT Unit:=treeOf wF
def tV:NT aN:=Hr nZ.names
def gX (s:Scope):Bool:=s.names.all λp=>bg p.1
def ED (l:List Nat):Bool:=aS ao (λx r ih=>ah ih aj (memC x r)) l
def Va (k:ScopeKind):Bool:=ScopeKind.rec aj ao ao aj aj aj aj k
def Nb (k:ScopeKind):Bool:=ScopeKind.rec aj aj ao aj aj aj aj k
def Vb:Nat:=nm "super"
def Nc:List Nat:=(["vars","dir","locals"]:List Str).map nm
noncomputable def Yj:Look:={strict:=aj,foot:=au,bare:=[]}
def Yk:Nat:=nm "fast"
def Nd (more:List (Str×Const)) (x:Nat):Bool:=more.any λp=>ak (nm p.1) Yk&&bg p.1&&(match p.2 with
 | .str n=>ak (nm n) x&&bg n
 |_=>aj)
def kindAt (m:Bool) (sc:Scope) (n:Str):Option aN:=ah (bf (nm n) sc.names) (NT.find tV (nm n)) m
section
variable (b:Bool)
def Yl (f:aN->Bool) (m:Bool) (sc:Scope) (n:Str):Bool:=
 bg n&&(match kindAt m sc n with
  |some k=>f k&&(!tX k||(NT.find tW (nm n)).isSome)
  |none=>aj)&&(Na n.cps.toList||attrL n)&&(b|| !memC (nm n) Yi)
def Ym (m:Bool) (sc:Scope) (n:Str):Bool:=Yl b (λU=>ao) m sc n
def rG (m:Bool) (sc:Scope) (n:Str):Bool:=Yl b Yh m sc n
def Yn (n:Str):Bool:=Na n.cps.toList||attrL n
def kC:Const->Bool
 | .str x=>(Na x.cps.toList&& !roadStr x)||Yj.str x
 |_=>ao
def rH (ch:List Scope) (m:Bool) (par own:Scope):Bool:=
 Va own.kind&&(own.more.isEmpty||own.names.all λp=> !(p.2== .cell||p.2== .free||(p.2== .local&&own.kind== .function))||Nd own.more (nm p.1))&&gX own&&ED (own.names.map λp=>nm p.1)&&
 own.names.all λp=>(!isFree p.2||Yl b (λk=>isCell k||(isFree k&& !Nb par.kind)) m par p.1)&&
  (!tX p.2||ch.all λs=>match bf (nm p.1) s.names with
   |some k=>tX k
   |none=>ao)
def Rk (fr own:Scope):Bool:=fr.more.isEmpty||own.names.all λp=> !((p.2== .local||p.2== .cell)&&p.1.cps[0]? !=af 46)||Nd fr.more (nm p.1)
noncomputable def EE (p:Arguments):Bool:=p.posonlyargs.isEmpty&&p.vararg.isNone&&p.kwonlyargs.isEmpty&&p.kwarg.isNone&&p.kw_defaults.isEmpty&&p.args.all λa=>a.annotation.isNone
def Rl (own:Scope) (p:Arguments):Bool:=p.args.all λa=>rG b aj own a.arg
structure KS where
 m:Bool
 fr:Scope
 ch:List Scope
 sc:Scope
noncomputable def KS.into (s:KS) (own:Scope):KS:=⟨aj,own,own::s.ch,own⟩
noncomputable def KS.comp (s:KS) (own:Scope):KS:=⟨aj,s.fr,own::s.ch,own⟩
noncomputable def kO (f:Expr->Bool):Option Expr->Bool
 |some e=>f e
 |none=>ao
def Ss (f:Expr->Bool) (s:KS):Expr->Bool
 | .Name x _=>rG b s.m s.sc x
 | .Tuple es _ _=>es.all λe=>match e with
  | .Name x _=>rG b s.m s.sc x
  | .Tuple es _ _=>es.all λe=>match e with
   | .Name x _=>rG b s.m s.sc x
   |_=>aj
  |_=>aj
 | .Attribute o a _=>Yn a&&f o
 | .Subscript o i _=>f o&&f i
 |_=>aj
def kG (f:KS->Expr->Bool) (s:KS) (own:Scope):List Comprehension->Bool
 |⟨t,it,ifs,a⟩::r=>f s it&&Ss b (f (s.comp own)) (s.comp own) t&&ifs.all (f (s.comp own))&&a==0&&
  r.all λg=>f (s.comp own) g.iter&&Ss b (f (s.comp own)) (s.comp own) g.target&&g.ifs.all (f (s.comp own))&&g.is_async==0
 |[]=>aj
def kE:Nat->KS->Expr->Bool
 |0,_,_=>aj
 |n+1,s,e=>match e with
  | .Constant c _ _=>kC c
  | .Name x _=>Ym b s.m s.sc x&&(!ak (nm x) Vb||Ym b s.m s.sc "__class__")
  | .Attribute v a _=>Yn a&&kE n s v
  | .BoolOp _ vs _=>vs.all (kE n s)
  | .BinOp l o r p=> !foldsComplex (.BinOp l o r p)&&kE n s l&&kE n s r
  | .UnaryOp _ x _=> !foldsComplex x&&kE n s x
  | .Lambda a x own _=>EE a&&a.defaults.all (kE n s)&&rH b s.ch s.m s.sc own&&Rl b own a&&kE n (s.into own) x
  | .IfExp t x y _=>kE n s t&&kE n s x&&kE n s y
  | .Dict ks vs _=>ks.all (kO (kE n s))&&vs.all (kE n s)
  | .ListComp e gs own _=>rH b s.ch s.m s.sc own&&Rk s.fr own&&rG b aj own ".0"&&kG b (kE n) s own gs&&kE n (s.comp own) e
  | .DictComp k v gs own _=>rH b s.ch s.m s.sc own&&Rk s.fr own&&rG b aj own ".0"&&kG b (kE n) s own gs&&kE n (s.comp own) k&&kE n (s.comp own) v
  | .Compare l _ cs _=>kE n s l&&cs.all (kE n s)
  | .Call f as ks _=>ks.isEmpty&&(match f with| .Name x _=> !memC (nm x) Nc|_=>ao)&&kE n s f&&as.all (kE n s)
  | .Subscript v i _=>kE n s v&&kE n s i
  | .Slice l u st _=>kO (kE n s) l&&kO (kE n s) u&&kO (kE n s) st
  | .List es _=>es.all (kE n s)
  | .Tuple es _ _=>es.all (kE n s)
  |_=>aj
def kD (s:KS) (a:Arguments) (ds:List Expr) (ret:Option Expr) (tp:List TypeParam) (own:Scope) (x:Str):Bool:=
 tp.isEmpty&&ret.isNone&&EE a&&ds.all (kE b 40 s)&&a.defaults.all (kE b 40 s)&&rG b s.m s.sc x&&Rl b own a&&rH b s.ch s.m s.sc own
def C2:Nat->Bool->KS->Stmt->Bool
 |0,_,_,_=>aj
 |n+1,y,s,t=>match t with
  | .Return v _=>y&&kO (kE b 40 s) v
  | .Assign ts v _=>kE b 40 s v&&ts.all (Ss b (kE b 40 s) s)
  | .Expr v _=>kE b 40 s v
  | .If t x o _=>kE b 40 s t&&x.all (C2 n y s)&&o.all (C2 n y s)
  | .While t x o _=>kE b 40 s t&&x.all (C2 n y s)&&o.all (C2 n y s)
  | .For t i x o _=>kE b 40 s i&&Ss b (kE b 40 s) s t&&x.all (C2 n y s)&&o.all (C2 n y s)
  | .Raise e c _=>kO (kE b 40 s) e&&kO (kE b 40 s) c
  | .Try x hs o f _=>x.all (C2 n y s)&&(hs.all λh=>match h with
   | .ExceptHandler t m x _=>kO (kE b 40 s) t&&m.isNone&&x.all (C2 n y s))&&o.all (C2 n y s)&&f.all (C2 n y s)
  | .Pass _=>ao
  | .FunctionDef _ a x ds ret tp own _ z _=>kD b s a ds ret tp own z&&x.all (C2 n ao (s.into own))
  | .ClassDef _ bs ks x ds tp own _ z _ _=>tp.isEmpty&&ks.isEmpty&&ds.isEmpty&&bs.all (kE b 40 s)&&rG b s.m s.sc z&&rH b s.ch s.m s.sc own&&x.all (C2 n aj ⟨aj,own,s.ch,own⟩)
  |_=>aj
end
end
set_option backward.match.sparseCases true
section
theorem Ai:∀{l},memC c l=aj->c∉l:=by
 intro l
 induction l with
 |nil=>
  intro _;exact aU
 |cons y l d=>
  intro h;have h:(ah (memC c l) ao (ak c y):Bool)=false:=h
  induction a:ak c y using zB with
  |true=>rw [a] at h;exact ft h
  |false=>
   rw [a] at h;rw [aT];rintro(q|q)
   .exact absurd q (aY a)
   .exact d h q
theorem BB (hn:bg n=ao):∀{l},l.all (λp=>bg p.1)=ao->bf (nm n) l=l.lookup n:=by
 intro l
 induction l with
 |nil=>
  intro _;exact rfl
 |cons c l d=>
  obtain⟨x,a⟩:=c;intro h;rw [iz,aP] at h;refine(?_:(ah (bf (nm n) l) (af a) (ak (nm n) (nm x)):Option aN)=_);refine cR bK (cR (d h.2) ?_)
  induction q:ak (nm n) (nm x) using zB with
  |true=>
   have:=gR hn h.1 (aH q);exact cR this (cR (beq_self_eq_true ..) rfl)
  |false=>
   have:(n==x)=false:=beq_eq_false_iff_ne.mpr λe=>aY q (congrArg nm e);exact cR this rfl
theorem Nf:frameAttrs.all (λy=> !Na y.cps.toList)=true:=by kernel_rfl
theorem C3 (h:Na n.cps.toList=ao):attrL n=true:=by
 have h1:frameAttrs.contains n=false:=by
  induction q:frameAttrs.contains n using zB with
  |false=>rfl
  |true=>
   have:=aK.mp Nf n (gZ.mp q);rw [h] at this;exact ff this
 have h2:n.opensWith "__"=false:=by
  induction q:n.opensWith "__" using zB with
  |false=>rfl
  |true=>
   obtain⟨⟨l⟩⟩:=n;have q:=congrArg Array.toList (eq_of_beq q);rw [Array.toList_extract,show("__":Str).cps.toList=[95,95] from rfl,show("__":Str).cps.size=2 from rfl] at q
   induction l using zL with
   |nil=>injection q
   |cons a l=>
    have:a=95:=by simpa using congrArg (λl=>l.head?) q
    subst this;exact ff h
 unfold attrL;refine cR h1 (cR h2 ?_);rfl
theorem Ng (h:Yn n=ao):attrL n=true:=by
 rcases cD.mp h with q|q
 .exact C3 q
 .exact q
theorem EF:wF.all bg=true:=by kernel_rfl
theorem tY:gX nZ=true:=by kernel_rfl
def sZ (b:Bool) (sc:Scope) (n:Str):Prop:=(∃k,sc.names.lookup n=af k/\(tX k=ao->n∈wF))/\attrL n=ao/\(b=aj->Jv.own.contains n=aj)
theorem F7 (hm:m=ao->sc=nZ) (hp:gX sc=ao) (h:Yl b f m sc n=ao):bg n=ao/\sZ b sc n/\∃k,sc.names.lookup n=af k/\f k=true:=by
 refine f7 (mW h) λh c=>f7 (mW h) λh d=>aC (mW h) λh2 h1=> ?_;have e:kindAt m sc n=sc.names.lookup n:=by
  induction m using zB with
  |false=>exact BB h1 hp
  |true=>refine cR (hm rfl) ?_;exact Ag h1 tY
 rw [e] at h2
 induction q:sc.names.lookup n using zO with
 |none=>rw [q] at h2;exact ff h2
 |some k=>
  rw [q] at h2;refine aC (mW h2) λa i=>⟨h1,(iU (bW k q (λg=> ?_)) ?_ (λhb=> ?_)),k,rfl,i⟩
  .rw [g] at a;exact By h1 EF a
  .rcases cD.mp d with q|q
   .exact C3 q
   .exact q
  .subst hb;have h:memC (nm n) Yi=false:=by rwa [Bool.false_or,gq] at c
   induction q:Jv.own.contains n using zB with
   |false=>rfl
   |true=>exact absurd (List.mem_map_of_mem (gZ.mp q)) (Ai h)
theorem EG {sc:Scope} (hn:bg n=ao) (h:Nd sc.more (nm n)=ao):sc.fast.contains n=true:=by
 obtain⟨⟨k,v⟩,hm,h⟩:=iJ.mp h;refine aC (mW h) λa h=>f7 (mW h) λh1 h2=> ?_;have hk:k="fast":=gR h2 rfl (aH h1);subst hk;refine gZ.mpr (List.mem_filterMap.mpr (bW _ hm ((?_:(if(("fast":Str)==("fast":Str))=ao then _ else au)=af n))))
 induction v using lJ with
 |str x=>
  exact f7 (mW a) λc d=>cR (gR d hn (aH c)) rfl
 |_=>exact ff a
theorem Aj (hp:gX own=ao) (h:ED (own.names.map λp=>nm p.1)=ao):noTwice own=true:=by
 have c:∀l:List (Str×aN),l.all (λp=>bg p.1)=ao->ED (l.map λp=>nm p.1)=ao->∀p∈l,l.filter (λq=>q.1==p.1)=[p]:=by
  intro l
  induction l with
  |nil=>intro _ _ p h;cases h
  |cons a l d=>
   intro hp h p hm;rw [iz,aP] at hp;have h:(ah (ED (l.map λp=>nm p.1)) aj (memC (nm a.1) (l.map λp=>nm p.1)):Bool)=true:=h
   induction q:memC (nm a.1) (l.map λp=>nm p.1) using zB with
   |true=>rw [q] at h;exact ff h
   |false=>
    rw [q] at h;have out:∀p∈l,p.1≠a.1:=λp hp e=>Ai q (gG.mpr (bW p hp (congrArg nm e)));rcases aT.mp hm with e|e
    .refine cR e ?_;rw [List.filter_cons_of_pos (by exact cR (beq_self_eq_true ..) rfl),qw.mpr λx hx e=>out x hx (eq_of_beq e)]
    .rw [List.filter_cons_of_neg (by refine cR (beq_eq_false_iff_ne.mpr (out p e).symm) ?_;exact bZ)];exact d hp.2 h p e
 refine aK.mpr λp hm=> ?_;have e:=c _ hp h p hm;obtain⟨n,k⟩:=p;refine(?_:(match own.names.filter (λx=>x.1==n) with|[_]=>ao|[(_,a),(_,b)]=>own.kind== .class&&a != .free&&b== .free|_=>aj)=ao);exact cR e rfl
theorem rI {p:Arguments->Prop} (k:∀c ds,(∀x∈c,x.annotation=au)->p ⟨[],c,au,[],[],au,ds⟩):∀{a:Arguments},EE a=ao->p a
 |⟨_,c,_,_,_,_,ds⟩,h=>e6 h λh1 h2 d e g i=>eN (p:=λz=>p ⟨z,_,_,_,_,_,_⟩) h1 (eO (p:=λz=>p ⟨_,_,z,_,_,_,_⟩) h2 (eN (p:=λz=>p ⟨_,_,_,z,_,_,_⟩) d (eO (p:=λz=>p ⟨_,_,_,_,_,z,_⟩) e (eN (p:=λz=>p ⟨_,_,_,_,z,_,_⟩) g (k c ds λx hx=>cT.mp (aK.mp i x hx))))))
structure Cl {α:Type} (b:Bool) (A:Alg α) (Q:α->Prop):Prop where
 ask:∀sc n p,sZ b sc n->Q (A.ask sc n p)
 Yo:∀w sc n,w≠walrusThrough->w≠declaredGlobal->Q (A.check w sc n ao)
 ent:∀sc,Q (A.enter sc)
 unit:Q A.unit
 both:∀x y,Q x->Q y->Q (A.both x y)
inductive Qs {α:Type} (Q:α->Prop):List α->Prop
 |nil:Qs Q []
 |cons {x l}:Q x->Qs Q l->Qs Q (x::l)
section
variable {α:Type} {b:Bool} {A:Alg α} {Q:α->Prop} (C:Cl b A Q)
include C
theorem Cl.all:∀{l:List α},Qs Q l->Q (A.all l)
 |_,.nil=>C.unit
 |_,.cons h r=>C.both _ _ h (Cl.all r)
theorem Cl.map {a:Type} {f}:∀{l:List a},(∀x∈l,Q (f x))->Q (A.all (l.map f)):=by
 intro l
 induction l with
 |nil=>
  intro _;exact C.unit
 |cons x l c=>
  intro h;exact C.both _ _ (h x (aE ..)) (c λy hy=>h y (aD _ hy))
theorem Cl.Ji (hk:k=ao) (h1:w≠walrusThrough) (h2:w≠declaredGlobal):Q (A.check w sc n k):=by
 subst hk;exact C.Yo w sc n h1 h2
variable {m:Bool} {sc own:Scope} {ch:List Scope} (hm:m=ao->sc=nZ) (hp:gX sc=ao) (hc:∀s∈ch,gX s=ao)
theorem Cl.nm (hm:m=ao->sc=nZ) (hp:gX sc=ao) (h:Yl b f m sc n=ao):Q (A.ask sc n p):=C.ask _ _ _ (F7 hm hp h).2.1
theorem Cl.bind (hm:m=ao->sc=nZ) (hp:gX sc=ao) (c:cx.gl=[]) (hl:cx.nl=[]) (h:rG b m sc n=ao):Q (A.bind cx sc n p):=by
 obtain⟨_,a,k,e,f⟩:=F7 hm hp h;refine C.both _ _ (C.ask _ _ _ a) (C.Ji ?_ (of_decide_eq_true rfl) (by decide+kernel));refine cR e (cR c (cR hl ?_));rcases k<;>first|rfl|exact ff f
theorem Cl.enter (hm:m=ao->sc=nZ) (hp:gX sc=ao) (hc:∀s∈ch,gX s=ao) (j:gl=[]) (h:rH b ch m sc own=ao):gX own=ao/\Q (A.enterFrom ch au gl sc own):=by
 unfold rH at h;refine f7 (mW h) λh r=>f7 (mW h) λh v=>f7 (mW h) λh i=>aC (mW h) λh2 h1=> ?_;have ann:annotationLike own=false:=by
  unfold annotationLike
  induction q:own.kind using mT<;>rw [q] at h1<;>first|rfl|exact ff h1
 refine⟨i, ?_⟩;unfold Alg.enterFrom;refine cR ann (cR j (C.all (.cons (C.ent _) (.cons (C.Ji (Aj i v) (of_decide_eq_true rfl) (by decide+kernel)) (.cons (C.map λp d=> ?_) (.cons (C.map λp d=> ?_) (.cons C.unit (.cons ?_ (.cons C.unit .nil)))))))))
 .refine f7 (gw.mp d) λc g=> ?_;have:=mW (aK.mp r p c);have g:=eq_of_beq g;have t:=this.1;rw [g] at t;obtain⟨_,a,k,e,f⟩:=F7 hm hp t;refine C.both _ _ (C.ask _ _ _ a) (C.Ji (iJ.mpr (bW (p.1,k) (lookup_mem e) ?_)) (of_decide_eq_true rfl) (by decide+kernel));refine(?_:(p.1==p.1&&_)=ao);refine cR (beq_self_eq_true ..) (cR (Bool.true_and ..) ?_)
  induction k using dN with
  |cell=>rfl
  |free=>
   have f:Nb sc.kind=false:=by
    induction q:Nb sc.kind using zB with
    |false=>rfl
    |true=>rw [q] at f;exact ff f
   have:(sc.kind==ScopeKind.class)=false:=by
    induction q:sc.kind using mT<;>rw [q] at f<;>first|rfl|exact ft f
   refine cR this ?_;rfl
  |_=>exact ff f
 .refine aC (gw.mp d) λg c=> ?_;have:=(mW (aK.mp r p c)).2;have j:tX p.2=true:=by
   have:=(mW g).1
   induction q:p.2 using dN<;>rw [q] at this<;>first|rfl|exact ff this
  rw [j] at this;have hn:=aK.mp i p c;refine C.Ji (cD.mpr (.inr ?_)) (of_decide_eq_true rfl) (by decide+kernel);have n:∀l:List Scope,(∀s∈l,s∈ch)->(match l.findSome? (λb=>b.names.lookup p.1) with|some k=> !(k== .local||k== .cell||k== .free)|none=>ao)=true:=by
   intro l
   induction l with
   |nil=>intro _;rfl
   |cons s l w=>
    intro u;have c:=u s (aE ..);have h:=(aK.mp this) s c;rw [BB hn (hc s c)] at h;refine cR (List.findSome?_cons) ?_
    induction q:s.names.lookup p.1 using zO with
    |none=>exact w λt ht=>u t (aD _ ht)
    |some k=>
     rw [q] at h;rcases k<;>first|rfl|exact ff h
  exact n ch λx h=>h
 .split
  .exact C.unit
  .rename_i o;refine C.map λp d=>aC (gw.mp d) λg c=>C.Ji ?_ (of_decide_eq_true rfl) (by decide+kernel);rcases cD.mp h2 with q|q
   .exact absurd (by unfold Scope.fast;refine cR (cZ.mp q) ?_;rfl) o
   .have:=aK.mp q p c;rw [show(p.2== .cell||p.2== .free||(p.2== .local&&own.kind== .function))=ao from g] at this;exact EG (aK.mp i p c) this
theorem Cl.inl (hp:gX own=ao) (h:Rk fr own=ao):Q (A.inlined fr own):=by
 unfold Alg.inlined;split
 .exact C.unit
 .rename_i c;refine C.map λp d=>aC (gw.mp d) λe a=>C.Ji ?_ (of_decide_eq_true rfl) (by decide+kernel);rcases cD.mp h with q|q
  .exact absurd (by unfold Scope.fast;refine cR (cZ.mp q) ?_;rfl) c
  .have:=aK.mp q p a;rw [show((p.2== .local||p.2== .cell)&&p.1.cps[0]? !=af 46)=ao from e] at this;exact EG (aK.mp hp p a) this
theorem Cl.params (hp:gX own=ao) (c:EE a=ao):Rl b own a=ao->Q (A.params own a):=
 rI (p:=λa=>Rl b own a=ao->Q (A.params own a)) (λd ds e h=>C.map λx hx=>C.bind (m:=aj) (λq=>ff q) hp rfl rfl (aK.mp h x (by simpa using hx))) c
end
structure EK (s:KS):Prop where
 m:s.m=ao->s.sc=nZ
 p:gX s.sc=ao
 c:∀t∈s.ch,gX t=ao
theorem EK.into (h:EK s) (hp:gX own=ao):EK (s.into own):=
 ⟨λq=>ff q,hp,λt ht=>(aT.mp ht).elim (λe=>e▸hp) (h.c t)⟩
theorem EK.comp (h:EK s) (hp:gX own=ao):EK (s.comp own):=h.into (own:=own) hp|>λq=>⟨q.m,q.p,q.c⟩
def AV (s:KS) (cx:TablesWhole.Ctx):Prop:=cx.frame=s.fr/\cx.encl=s.ch/\cx.gl=[]/\cx.nl=[]
section
variable {α:Type} {b:Bool} {A:Alg α} {Q:α->Prop} (C:Cl b A Q)
include C
def GE (b:Bool) (A:Alg α) (Q:α->Prop) (f:KS->Expr->Bool):Prop:=∀s e cx hold,EK s->AV s cx->f s e=ao->Q (wE A cx s.sc hold e)
variable {f:KS->Expr->Bool} (G:GE b A Q f) {s:KS} {cx:TablesWhole.Ctx} {hold:Option Scope} (S:EK s) (X:AV s cx)
include G S X
theorem GE.es:l.all (f s)=ao->Q (wEs A cx s.sc hold l):=uf C.unit λe l h k=>C.both _ _ (G s e cx hold S X h) k
theorem GE.o:∀{e:Option Expr},kO (f s) e=ao->Q (wEo A cx s.sc hold e)
 |none,_=>C.unit
 |some e,h=>G s e cx hold S X h
theorem GE.os:l.all (kO (f s))=ao->Q (wEos A cx s.sc hold l):=uf C.unit λe l h k=>C.both _ _ (GE.o C G S X h) k
theorem GE.ts (a:∀e,P e=ao->Q (wT A cx s.sc hold e)):l.all P=ao->Q (wTs A cx s.sc hold l):=uf C.unit λe l h k=>C.both _ _ (a e h) k
theorem GE.x {x} (h:rG b s.m s.sc x=ao):Q (wT A cx s.sc hold (.Name x p)):=C.bind S.m S.p X.2.2.1 X.2.2.2 h
theorem GE.t (h:Ss b (f s) s e=ao):Q (wT A cx s.sc hold e):=by
 induction e using aR with
 |Name x p=>exact GE.x C G S X h
 |Tuple c _ _=>
  refine GE.ts C G S X (λe h=> ?_) h
  induction e using aR with
  |Name x p=>exact GE.x C G S X h
  |Tuple c _ _=>
   refine GE.ts C G S X (λe h=> ?_) h
   induction e using aR with
   |Name x p=>exact GE.x C G S X h
   |_=>exact ff h
  |_=>exact ff h
 |Attribute o a _=>exact G s o cx hold S X (mW h).2
 |Subscript o i _=>exact e2 h λh1 h2=>C.both _ _ (G s o cx hold S X h1) (G s i cx hold S X h2)
 |_=>exact ff h
end
section
variable {α:Type} {b:Bool} {A:Alg α} {Q:α->Prop} (C:Cl b A Q)
include C
theorem GE.gr (G:GE b A Q f) {x hold} (S:EK s) (X:AV s cy):
 (l.all λg=>f s g.iter&&Ss b (f s) s g.target&&g.ifs.all (f s)&&g.is_async==0)=ao->Q (wGens A cx cy a s.sc x hold aj l):=
 uf (p:=λl=>Q (wGens A cx cy a s.sc x hold aj l)) C.unit λg l h k=>by
  obtain⟨t,c,d,q⟩:=g;exact e4 h λh1 h2 e i=>C.all (.cons (G s c cy hold S X h1) (.cons (GE.t C G S X h2) (.cons (GE.es C G S X e) (.cons k .nil))))
theorem GE.g (G:GE b A Q f) {x hold} (S:EK s) (X:AV s cx) (a:EK (s.comp own)) (c:AV (s.comp own) cy):∀{l},kG b f s own l=ao->Q (wGens A cx cy s.sc own x hold ao l):=by
 intro l
 induction l with
 |nil=>
  intro h;exact ff h
 |cons d l n=>
  obtain⟨t,e,i,q⟩:=d;intro h;exact e5 h λh1 h2 j o k=>C.all (.cons (G s e cx x S X h1) (.cons (GE.t C G a c h2) (.cons (GE.es C G a c j) (.cons (GE.gr C G a c k) .nil))))
theorem BD (G:GE b A Q f) (S:EK s) (X:AV s cx) (h1:rH b s.ch s.m s.sc own=ao) (h2:Rk s.fr own=ao) (d:rG b aj own ".0"=ao) (e:kG b f s own gs=ao)
 (k:EK (s.comp own)->AV (s.comp own) ⟨cx.frame,[],[],own::cx.encl,au⟩->Qs Q l):Q (A.all (A.enterFrom cx.encl au [] s.sc own::A.inlined cx.frame own::A.bind ⟨own,[],[],[],au⟩ own (".0":Str) none::wGens A cx ⟨cx.frame,[],[],own::cx.encl,au⟩ s.sc own x hold ao gs::l)):=by
 refine aC (C.enter S.m S.p (λt ht=>S.c t ht) rfl h1) λhe hp=> ?_;have a:AV (s.comp own) ⟨cx.frame,[],[],own::cx.encl,au⟩:=qF X.1 (congrArg _ X.2.1) rfl rfl;exact C.all (.cons (X.2.1▸he) (.cons (C.inl hp (X.1▸h2)) (.cons (C.bind (m:=aj) ff hp rfl rfl d) (.cons (GE.g C G S X (S.comp hp) a e) (k (S.comp hp) a)))))
theorem Nh n:GE b A Q (kE b n):=by
 induction n with
 |zero=>exact λs e cx hold S X h=>ff h
 |succ n G=>
  intro s e cx hold S X h
  induction e using aR with
  |Constant c _ _=>exact C.unit
  |Name x p=>
   refine e2 h λh1 h2=>(?_:Q (if(x==("super":Str)&&s.sc.functionLike)=ao then A.both (A.ask s.sc x (af p)) (A.ask s.sc ("__class__":Str) au) else A.ask s.sc x (af p)));by_cases q:(x==("super":Str)&&s.sc.functionLike)=ao
   .refine cR (if_pos q) ?_;have q:=eq_of_beq (mW q).1;subst q;exact C.both _ _ (C.nm S.m S.p h1) (C.nm S.m S.p h2)
   .refine cR (if_neg q) ?_;exact C.nm S.m S.p h1
  |Attribute v a _=>exact G s v cx hold S X (mW h).2
  |BoolOp _ vs _=>exact GE.es C G S X h
  |BinOp l o r p=>exact e3 h λB h1 h2=>C.both _ _ (G s l cx hold S X h1) (G s r cx hold S X h2)
  |UnaryOp _ x _=>exact G s x cx hold S X (mW h).2
  |Lambda a x own _=>
   exact e5 h λh1 h2 d g j=>aC (C.enter S.m S.p (λt ht=>S.c t ht) rfl d) λhe hp=>C.all (.cons (rI (p:=λa=>a.defaults.all (kE b n s)=ao->Q (wDefaults A cx s.sc hold a)) (λD ds B h=>C.both _ _ (GE.es C G S X h) C.unit) h1 h2) (.cons (X.2.1▸he) (.cons (C.params hp h1 g) (.cons (G (s.into own) x _ au (S.into hp) (qF rfl (congrArg _ X.2.1) rfl rfl) j) .nil))))
  |IfExp t x y _=>exact e3 h λh1 h2 d=>C.all (.cons (G s t cx hold S X h1) (.cons (G s x cx hold S X h2) (.cons (G s y cx hold S X d) .nil)))
  |Dict ks vs _=>exact e2 h λh1 h2=>C.both _ _ (GE.os C G S X h1) (GE.es C G S X h2)
  |ListComp e E own _=>exact e5 h λh1 h2 d g j=>BD C G S X h1 h2 d g λw z=> .cons (G (s.comp own) e _ _ w z j) .nil
  |DictComp k v E own _=>exact e6 h λh1 h2 d g j F=>BD C G S X h1 h2 d g λw z=> .cons (G (s.comp own) k _ _ w z j) (.cons (G (s.comp own) v _ _ w z F) .nil)
  |Compare l _ I _=>exact e2 h λh1 h2=>C.both _ _ (G s l cx hold S X h1) (GE.es C G S X h2)
  |Call k D ks _=>exact e4 h λh1 B d g=>C.all (.cons (G s k cx hold S X d) (.cons (GE.es C G S X g) (.cons (eN (p:=λks=>Q (wKs A cx s.sc hold ks)) h1 C.unit) .nil)))
  |Subscript v i _=>exact e2 h λh1 h2=>C.both _ _ (G s v cx hold S X h1) (G s i cx hold S X h2)
  |Slice l u t _=>exact e3 h λh1 h2 d=>C.all (.cons (GE.o C G S X h1) (.cons (GE.o C G S X h2) (.cons (GE.o C G S X d) .nil)))
  |List H _=>exact GE.es C G S X h
  |Tuple H _ _=>exact GE.es C G S X h
  |_=>exact ff h
end
theorem F8 {a b:List α} (h:a=[]) (k:b=[]):a++b=[]:=h.symm▸k
theorem C4 (a:∀t,P t=ao->declS g t=[]) {l}:l.all P=ao->declSs g l=[]:=uf (p:=λl=>declSs g l=[]) rfl λt l h k=>F8 (a t h) k
theorem Ni:∀n y s t,C2 b n y s t=ao->declS g t=[]:=by
 intro n
 induction n with
 |zero=>
  intro _ _ _ h;exact ff h
 |succ n d=>
  intro y s t h;have G:∀{l},l.all (C2 b n y s)=ao->declSs g l=[]:=C4 (d y s)
  induction t using eX with
  |If t x o _|While t x o _=>exact e3 h λa h1 h2=>F8 (G h1) (G h2)
  |For t i x o _=>exact e4 h λa a h1 h2=>F8 (G h1) (G h2)
  |Try x c o f _=>exact e4 h λh1 h2 e j=>F8 (F8 (F8 (G h1) (uf (p:=λc=>declHs g c=[]) rfl (λu l h k=>by obtain⟨t,m,x,_⟩:=u;exact F8 (G (mW h).2) k) h2)) (G e)) (G j)
  |Return|Assign|Expr|Raise|Pass|FunctionDef|ClassDef=>rfl
  |_=>exact ff h
section
variable {α:Type} {b:Bool} {A:Alg α} {Q:α->Prop} (C:Cl b A Q)
include C
theorem Hs {cx:TablesWhole.Ctx} {sc:Scope}:∀{l:List Arg},(∀x∈l,x.annotation=au)->Q (wArgAnns A cx sc au l)
 |[],_=>C.unit
 |⟨x,af _,_⟩::l,h=>sn (h _ (aE ..))
 |⟨x,au,_⟩::l,h=>C.both _ _ C.unit (Hs λy hy=>h y (aD _ hy))
theorem Vc (S:EK s) (X:AV s cx) {ret} (i:gl=[]) (h:kD b s a ds ret g own x=ao):
 gX own=ao/\Q (wDefHead A cx s.sc a ds ret g own ts x p gl):=
 have G:=Nh C 40
 e8 h λh1 h2 d j k l n o=>
 have e:=C.enter S.m S.p (λt ht=>S.c t ht) i o
 ⟨e.1,eN (p:=λg=>Q (wDefHead A cx s.sc a ds ret g own ts x p gl)) h1 (eO (p:=λret=>Q (wDefHead A cx s.sc a ds ret [] own ts x p gl)) h2
  (C.all (.cons (GE.es C G S X j) (.cons (rI (p:=λa=>a.defaults.all (kE b 40 s)=ao->Q (wDefaults A cx s.sc au a)) (λq ds r h=>C.both _ _ (GE.es C G S X h) C.unit) d k) (.cons (C.bind S.m S.p X.2.2.1 X.2.2.2 l) (.cons (C.params e.1 d n) (.cons (C.all (.cons (X.2.1▸e.2) (.cons (rI (p:=λa=>Q (wAnns A cx s.sc au a)) (λq ds h=>C.all (.cons C.unit (.cons (Hs C h) (.cons C.unit (.cons C.unit (.cons C.unit .nil)))))) d) (.cons C.unit .nil)))) .nil)))))))⟩
theorem vj (a:∀t,P t=ao->Q (wS A top cx sc t)):l.all P=ao->Q (wSs A top cx sc l):=uf C.unit λt l h k=>C.both _ _ (a t h) k
theorem F9 top:∀n y s t cx,EK s->AV s cx->C2 b n y s t=ao->Q (wS A top cx s.sc t):=by
 intro n
 induction n with
 |zero=>
  intro _ _ _ _ _ _ h;exact ff h
 |succ n B=>
  intro y s t cx S X h;have G:=Nh C 40;have I:∀{l},l.all (C2 b n y s)=ao->Q (wSs A top cx s.sc l):=vj C λt h=>B y s t cx S X h
  induction t using eX with
  |Return v _=>exact GE.o C G S X (mW h).2
  |Assign ts v _=>exact e2 h λh1 h2=>C.both _ _ (G s v cx au S X h1) (GE.ts C G S X (λe h=>GE.t C G S X h) h2)
  |Expr v _=>exact G s v cx au S X h
  |If t x o _|While t x o _=>exact e3 h λh1 h2 j=>C.all (.cons (G s t cx au S X h1) (.cons (I h2) (.cons (I j) .nil)))
  |For t i x o _=>exact e4 h λh1 h2 j w=>C.all (.cons (G s i cx au S X h1) (.cons (GE.t C G S X h2) (.cons (I j) (.cons (I w) .nil))))
  |Raise e c _=>exact e2 h λh1 h2=>C.both _ _ (GE.o C G S X h1) (GE.o C G S X h2)
  |Try x H o f _=>
   exact e4 h λh1 h2 j w=>C.all (.cons (I h1) (.cons (uf (p:=λH=>Q (wHs A top cx s.sc H)) C.unit (λu l h k=>by
    obtain⟨t,m,x,p⟩:=u;exact e3 h λK L M=>C.all (.cons (GE.o C G S X K) (.cons (eO (p:=λm=>Q (A.optName cx s.sc m p)) L C.unit) (.cons (I M) (.cons k .nil))))) h2) (.cons (I j) (.cons (I w) .nil))))
  |Pass _=>exact C.unit
  |FunctionDef _ a x ds ret q own ts z p=>
   refine e2 h λh1 h2=> ?_;have d:=λg=>C4 (g:=g) (Ni n ao (s.into own)) h2;have D:=Vc C S X (ts:=ts) (p:=p) (d ao) h1;exact C.both _ _ D.2 (e8 h1 λN r r r r r r r=>eN (p:=λq=>Q (wSs A top ⟨own,declSs aj x,declSs ao x,own::under q ts cx.encl,au⟩ own x)) N (vj C (λt h=>B ao (s.into own) t ⟨own,declSs aj x,declSs ao x,own::cx.encl,au⟩ (S.into D.1) (qF rfl (congrArg _ X.2.1) (d ao) (d aj)) h) h2))
  |ClassDef _ F ks x ds q own ts z _ p=>
   refine e7 h λh1 h2 j w O P J=> ?_;have d:=λg=>C4 (g:=g) (Ni n aj ⟨aj,own,s.ch,own⟩) J;have E:=C.enter S.m S.p (λt ht=>S.c t ht) (d ao) P;exact C.both _ _ (eN (p:=λq=>Q (wClassHead A cx s.sc F ks ds q own ts z p (declSs ao x))) h1 (eN (p:=λks=>Q (wClassHead A cx s.sc F ks ds [] own ts z p (declSs ao x))) h2 (eN (p:=λds=>Q (wClassHead A cx s.sc F [] ds [] own ts z p (declSs ao x))) j
    (C.all (.cons C.unit (.cons (C.bind S.m S.p X.2.2.1 X.2.2.2 O) (.cons (C.all (.cons (X.2.1▸E.2) (.cons (GE.es C G S X w) (.cons C.unit .nil)))) .nil)))))))
    (eN (p:=λq=>Q (wSs A top ⟨own,declSs aj x,declSs ao x,under q ts cx.encl,au⟩ own x)) h1 (vj C (λt h=>B aj ⟨aj,own,s.ch,own⟩ t ⟨own,declSs aj x,declSs ao x,cx.encl,au⟩ ⟨ff,E.1,S.c⟩ (qF rfl X.2.1 (d ao) (d aj)) h) J))
  |_=>exact ff h
end
end
set_option backward.match.sparseCases false
section
noncomputable def rJ (y a l p:Bool):Look:={strict:=aj,foot:=au,yields:=y,awaits:=a,loops:=l,place:=p}
section
variable {y a l p:Bool}
theorem Vd (h:Yn n=ao):(rJ y a l p).field n=true:=by
 simp [Look.field,Look.attr,Look.word,rJ,(Ng h)]
theorem Ve (h:kC c=ao):noRoadL (rJ y a l p) (.Constant c k q)=true:=by
 induction c using lJ with
 |str x=>
  rcases cD.mp h with q|q
  .refine f7 (mW q) λd e=>(?_:(rJ y a l p).str x=ao);simp [Look.str,Look.word,rJ,(C3 d),e]
  .exact q
 |_=>rfl
theorem Rm n:∃q,(rJ y a l p).root n=rJ y a l q:=by unfold Look.root;split;exact⟨ao,rfl⟩;exact⟨aj,rfl⟩
theorem args_eq f:∃q,(rJ y a l p).args f=rJ y a l q:=by unfold Look.args;split;exact⟨ao,rfl⟩;exact⟨aj,rfl⟩
end
theorem Nj (h:(match k with| .Name x _=> !memC (nm x) Nc|_=>ao)=ao):(nameOf? k).any (["vars","dir","locals"]:List Str).contains=false:=by
 induction k using aR with
 |Name x _=>
  cases q:(["vars","dir","locals"]:List Str).contains x with
  |false=>exact q
  |true=>exact absurd (List.mem_map_of_mem (gZ.mp q)) (Ai (l:=Nc) ((gq _).mp h))
 |_=>rfl
def GR (f:KS->Expr->Bool):Prop:=∀s e y a l p,f s e=ao->noRoadL (rJ y a l p) e=ao
section
variable {b:Bool} {f:KS->Expr->Bool} (G:GR f) {s:KS} {y a l p:Bool}
include G
theorem GR.es:m.all (f s)=ao->noRoadLs (rJ y a l p) m=true:=uf (p:=λm=>noRoadLs (rJ y a l p) m=ao) rfl λe m h k=>fu (G s e y a l p h) k
theorem GR.o:∀{e:Option Expr},kO (f s) e=ao->noRoadLOpt (rJ y a l p) e=ao
 |none,_=>rfl
 |some e,h=>G s e y a l p h
theorem GR.os:m.all (kO (f s))=ao->noRoadLOpts (rJ y a l p) m=true:=uf (p:=λm=>noRoadLOpts (rJ y a l p) m=ao) rfl λe m h k=>fu (GR.o G h) k
theorem GR.ts (c:∀e,P e=ao->noRoadL (rJ y a l p) e=ao):m.all P=ao->noRoadLs (rJ y a l p) m=true:=uf (p:=λm=>noRoadLs (rJ y a l p) m=ao) rfl λe m h k=>fu (c e h) k
theorem GR.at_ {o} (h:(Yn n&&f s o)=ao):noRoadL (rJ y a l p) (.Attribute o n q)=true:=e2 h λh1 h2=>by
 exact fB (Rm (y:=y) (a:=a) (l:=l) (p:=p) n) λq e=>fu (cD.mpr (.inl (Vd h1))) (e▸G _ _ _ _ _ _ h2)
theorem GR.t (h:Ss b (f s) s e=ao):noRoadL (rJ y a l p) e=true:=by
 induction e using aR with
 |Name x _=>rfl
 |Tuple c _ _=>
  refine GR.ts G (λe h=> ?_) h
  induction e using aR with
  |Name x _=>rfl
  |Tuple c _ _=>
   refine GR.ts G (λe h=> ?_) h
   induction e using aR with
   |Name x _=>rfl
   |_=>exact ff h
  |_=>exact ff h
 |Attribute o n _=>exact GR.at_ G h
 |Subscript o i _=>exact e2 h λh1 h2=>fu (G s o _ _ _ _ h1) (G s i _ _ _ _ h2)
 |_=>exact ff h
theorem GR.c {t it} (h1:f s' it=ao) (h2:Ss b (f s) s t=ao) (d:ifs.all (f s)=ao) (e:(k==0)=ao) (g:noRoadLGens (rJ y a l p) m=ao):noRoadLGens (rJ y a l p) (⟨t,it,ifs,k⟩::m)=true:=
 fu (fu (fu (fu (fu (cD.mpr (.inl e)) rfl) (GR.t G h2)) (G _ _ _ _ _ _ h1)) (GR.es G d)) g
theorem GR.g:∀{m},kG b f s own m=ao->noRoadLGens (rJ y a l p) m=true:=by
 intro m
 induction m with
 |nil=>
  intro _;exact rfl
 |cons j m r=>
  obtain⟨t,n,d,k⟩:=j;intro h;exact e5 h λh1 h2 e i o=>GR.c G h1 h2 e i (uf (p:=λm=>noRoadLGens (rJ y a l p) m=ao) rfl (λg m h k=>by
  obtain⟨t,n,d,q⟩:=g;exact e4 h λh1 h2 e i=>GR.c G h1 h2 e i k) o)
end
theorem Ht {c:Look}:∀{m:List Arg},(∀x∈m,x.annotation=au)->noRoadLArgL c m=ao
 |[],_=>rfl
 |⟨x,af _,_⟩::l,h=>sn (h _ (aE ..))
 |⟨x,au,_⟩::l,h=>fu rfl (Ht λy hy=>h y (aD _ hy))
theorem BE (G:GR f) (h:EE x=ao):x.defaults.all (f s)=ao->noRoadLArgs (rJ y a l p) x=true:=
 rI (p:=λx=>x.defaults.all (f s)=ao->noRoadLArgs (rJ y a l p) x=ao) (λe ds c d=>fu (fu (fu (fu (fu (fu rfl (Ht c)) rfl) rfl) rfl) rfl) (GR.es G d)) h
theorem Vf n:GR (kE b n):=by
 induction n with
 |zero=>exact λs e y a l p h=>ff h
 |succ n G=>
  intro s e y a l p h
  induction e using aR with
  |Constant c _ _=>exact Ve h
  |Name x p=>rfl
  |Attribute v n _=>exact GR.at_ G h
  |BoolOp _ vs _=>exact GR.es G h
  |BinOp i o r p=>exact e3 h λh1 h2 d=>fu (fu h1 (G _ _ _ _ _ _ h2)) (G _ _ _ _ _ _ d)
  |UnaryOp _ x _=>exact e2 h λh1 h2=>fu h1 (G _ _ _ _ _ _ h2)
  |Lambda u x own _=>exact e5 h λh1 h2 j j m=>fu (BE G h1 h2) (G _ _ _ _ _ _ m)
  |IfExp t x z _=>exact e3 h λh1 h2 d=>fu (fu (G _ _ _ _ _ _ h1) (G _ _ _ _ _ _ h2)) (G _ _ _ _ _ _ d)
  |Dict ks vs _=>exact e2 h λh1 h2=>fu (GR.os G h1) (GR.es G h2)
  |ListComp e A own _=>exact e5 h λj j j w m=>fu (G _ _ _ _ _ _ m) (GR.g G w)
  |DictComp k v A own _=>exact e6 h λj j j w m B=>fu (fu (G _ _ _ _ _ _ m) (G _ _ _ _ _ _ B)) (GR.g G w)
  |Compare u _ E _=>exact e2 h λh1 h2=>fu (G _ _ _ _ _ _ h1) (GR.es G h2)
  |Call k C ks _=>
   refine e4 h λh1 h2 d w=>eN (p:=λks=>noRoadL (rJ y a l p) (.Call k C ks _)=ao) h1 (fB (args_eq (y:=y) (a:=a) (l:=l) (p:=p) k) λq e=>fu (fu (fu (fu ?_ rfl) (cD.mpr (.inr (G _ _ _ _ _ _ d)))) (e▸GR.es G w)) rfl);refine gq _▸Bool.and_eq_false_iff.mpr (.inl (Nj h2))
  |Subscript v i _=>exact e2 h λh1 h2=>fu (G _ _ _ _ _ _ h1) (G _ _ _ _ _ _ h2)
  |Slice i u t _=>exact e3 h λh1 h2 d=>fu (fu (GR.o G h1) (GR.o G h2)) (GR.o G d)
  |List D _=>exact GR.es G h
  |Tuple D _ _=>exact GR.es G h
  |_=>exact ff h
theorem yh (c:∀t,P t=ao->noRoadLS lk t=ao):l.all P=ao->noRoadLSs lk l=true:=uf (p:=λl=>noRoadLSs lk l=ao) rfl λt l h k=>fu (c t h) k
theorem Nk:∀n y s t z a l p,(y=ao->z=ao)->C2 b n y s t=ao->noRoadLS (rJ z a l p) t=true:=by
 intro n
 induction n with
 |zero=>
  intro _ _ _ _ _ _ _ _ h;exact ff h
 |succ n A=>
  intro y s t z a l p hy h;have G:=Vf (b:=b) 40;have I:∀{l} {x},x.all (C2 b n y s)=ao->noRoadLSs (rJ z a l p) x=true:=λ{l g} h=>yh (λt h=>A y s t z a l p hy h) h
  induction t using eX with
  |Return v _=>exact e2 h λh1 h2=>fu (hy h1) (GR.o G h2)
  |Assign ts v _=>exact e2 h λh1 h2=>fu (fu rfl (GR.ts G (λe h=>GR.t G h) h2)) (G _ _ _ _ _ _ h1)
  |Expr v _=>exact cD.mpr (.inr (G _ _ _ _ _ _ h))
  |If t x o _=>exact e3 h λh1 h2 d=>fu (fu (G _ _ _ _ _ _ h1) (I h2)) (I d)
  |While t x o _=>exact e3 h λh1 h2 d=>fu (fu (G _ _ _ _ _ _ h1) (I (l:=ao) h2)) (I d)
  |For t i x o _=>exact e4 h λh1 h2 d j=>fu (fu (fu (fu rfl (GR.t G h2)) (G _ _ _ _ _ _ h1)) (I (l:=ao) d)) (I j)
  |Raise e c _=>exact e2 h λh1 h2=>fu (GR.o G h1) (GR.o G h2)
  |Try x B o f _=>
   exact e4 h λh1 h2 d j=>fu (fu (fu (I h1) (uf (p:=λB=>noRoadLHs (rJ z a l p) B=ao) rfl (λu m h k=>by
    obtain⟨t,i,x,q⟩:=u;exact e3 h λC g D=>fu (fu (GR.o G C) (I D)) k) h2)) (I d)) (I j)
  |Pass _=>rfl
  |FunctionDef _ u x ds ret w own ts q r=>
   exact e2 h λh hb=>e8 h λh1 h2 d j E g g g=>fu (fu (fu (fu (BE G d E) (yh (λt h=>A ao _ t ao aj aj p (λg=>rfl) h) hb)) (GR.es G j)) (eO (p:=λr=>noRoadLOpt (rJ z a l p) r=ao) h2 rfl)) (eN (p:=λw=>noRoadLTps (rJ z a l p) w=ao) h1 rfl)
  |ClassDef _ H ks x ds w own ts q _ r=>
   exact e7 h λh1 h2 d j g g F=>fu (fu (fu (fu (GR.es G j) (eN (p:=λks=>noRoadLKws (rJ z a l p) ks=ao) h2 rfl)) (yh (λt h=>A aj _ t aj aj aj p ff h) F)) (eN (p:=λds=>noRoadLs (rJ z a l p) ds=ao) d rfl)) (eN (p:=λw=>noRoadLTps (rJ z a l p) w=ao) h1 rfl)
  |_=>exact ff h
end
set_option backward.match.sparseCases true
section
def Vg:KS:=⟨ao,nZ,[],nZ⟩
abbrev KP (b:Bool) (l:List Stmt):Prop:=l.all (C2 b 40 aj Vg)=ao
theorem Nl:KP aj (PL.main.body.take 369):=by kernel_rfl
theorem Sv:KP ao (PL.main.body.drop 369):=by kernel_rfl
theorem Nm:EK Vg:=⟨λa=>rfl,tY,λa h=>nomatch h⟩
theorem sZ.weak (h:sZ b sc n):sZ ao sc n:=iU h.1 h.2.1 (λq=>nomatch q)
theorem Cl.weak (C:Cl ao A Q):Cl aj A Q:=⟨λsc n p h=>C.ask sc n p h.weak,C.Yo,C.ent,C.unit,C.both⟩
theorem Jj {Q:α->Prop} (C:Cl b A Q):∀l m,Q (wSs A nZ cx nZ m)->(∀t∈l,Q (wS A nZ cx nZ t))->Q (wSs A nZ cx nZ (l++m)):=by
 intro l
 induction l with
 |nil=>
  intro m h _;exact h
 |cons t l a=>
  intro m h k;exact C.both _ _ (k t (aE ..)) (a m h λu hu=>k u (aD _ hu))
theorem Hu (C:Cl aj A Q):Q (wSs A nZ ⟨nZ,[],[],[],au⟩ nZ (PL.main.body.take 369)):=vj C (λt h=>F9 C nZ 40 aj Vg t _ Nm (qF rfl rfl rfl rfl) h) Nl
theorem Ga (C:Cl ao A Q):Q (wSs A nZ ⟨nZ,[],[],[],au⟩ nZ PL.main.body):=by
 have h:=Jj C (PL.main.body.take 369) (PL.main.body.drop 369) (vj C (λt h=>F9 C nZ 40 aj Vg t _ Nm (qF rfl rfl rfl rfl) h) Sv) λt ht=>
  F9 C.weak nZ 40 aj Vg t ⟨nZ,[],[],[],au⟩ Nm (qF rfl rfl rfl rfl) (aK.mp Nl t ht)
 rwa [lX] at h
theorem Nn:Cl b gather (λl=>l=[]) where
 ask _ _ _ _:=rfl
 Yo w sc n h1 h2:=by
  refine(?_:(if(w==walrusThrough&&sc.kind== .module||w==declaredGlobal)=ao then [n] else [])=[]);refine cR (beq_eq_false_iff_ne.mpr h1) (cR (beq_eq_false_iff_ne.mpr h2) ?_);rfl
 ent _:=rfl
 unit:=rfl
 both x y hx hy:=by subst hx;subst hy;rfl
theorem BF:wSs gather nZ ⟨nZ,[],[],[],au⟩ nZ PL.main.body=[]:=Ga Nn
theorem Gb:wSs gather nZ ⟨nZ,[],[],[],au⟩ nZ (PL.main.body.take 369)=[]:=Hu Nn
theorem Rn:Cl ao holds (λx=>x=ao) where
 ask sc n p h:=by
  obtain⟨⟨k,e,_⟩,_⟩:=h;refine(?_:(sc.names.lookup n).isSome=ao);rw [e];rfl
 Yo _ _ _ _ _:=rfl
 ent _:=rfl
 unit:=rfl
 both x y hx hy:=by subst hx;subst hy;rfl
theorem Jk:ED (nZ.names.map λp=>nm p.1)=true:=by kernel_rfl
theorem Ro m:wModule holds m=(ao&&(noTwice m.scope&&(wSs holds m.scope ⟨m.scope,[],wSs gather m.scope ⟨m.scope,[],[],[],au⟩ m.scope m.body,[],au⟩ m.scope m.body&&ao))):=rfl
theorem Gd:wModule holds PL.main=true:=by
 refine(Ro PL.main).trans ((?_:(ao&&(noTwice nZ&&(wSs holds nZ ⟨nZ,[],wSs gather nZ ⟨nZ,[],[],[],au⟩ nZ PL.main.body,[],au⟩ nZ PL.main.body&&ao)))=ao));rw [Aj tY Jk,BF,Ga Rn];rfl
theorem Np {p:Program} (h:wModule holds p.main=ao) (h1:p.modules=[]) (h2:p.parses=[]) (a:p.harvested=[]):p.tablesWhole=true:=by
 have e:p.tablesWhole=(wModule holds p.main&&(holds.all (p.modules.map λ(_,_,m)=>wModule holds m)&&(holds.all (p.parses.map (wParse holds))&&(holds.all (p.harvested.map (wParse holds))&&ao)))):=rfl;rw [e,h,h1,h2,a];rfl
theorem C5:PL.tablesWhole=true:=Np Gd rfl rfl rfl
noncomputable def Yp (f:Scope->Str->Bool):Alg Bool:=⟨λsc n U=>f sc n,λU U U U=>ao,λU=>ao,ao,aj,λa b=>a&&b⟩
theorem Nq (h:∀sc n,sZ b sc n->f sc n=ao):Cl b (Yp f) (λx=>x=ao) where
 ask sc n _ q:=h sc n q
 Yo _ _ _ _ _:=rfl
 ent _:=rfl
 unit:=rfl
 both x y hx hy:=by subst hx;subst hy;rfl
theorem Nr f body:namesMeet PL body f=(ao&&(ao&&(wSs (Yp f) nZ ⟨nZ,[],wSs gather nZ ⟨nZ,[],[],[],au⟩ nZ body,[],au⟩ nZ body&&ao))):=rfl
theorem wG (h:∀sc n,sZ ao sc n->f sc n=ao):namesMeet PL PL.main.body f=true:=by
 rw [Nr,BF,Ga (Nq h)];rfl
theorem Ge (h:∀sc n,sZ aj sc n->f sc n=ao):namesMeet PL (PL.main.body.take 369) f=true:=by
 rw [Nr,Gb,Hu (Nq h)];rfl
theorem Rp:Sq.all (λn=>builtinNamed n&& !worldNames.contains n&& !n.opensWith "__")=true:=by kernel_rfl
theorem Yq (h:sZ ao sc n):(match sc.names.lookup n with
 |some .globalImplicit|some .globalExplicit=>PL.boundNames.contains n||n==("__name__":Str)||n==("__debug__":Str)||(builtinNamed n&& !worldNames.contains n&& !n.opensWith "__")
 |_=>ao)=true:=by
 obtain⟨⟨k,e,g⟩,_⟩:=h;refine cR e ?_;have a:tX k=ao->(PL.boundNames.contains n||n==("__name__":Str)||n==("__debug__":Str)||(builtinNamed n&& !worldNames.contains n&& !n.opensWith "__"))=true:=λq=>by
  rcases m6.mp (g q) with q|q
  .rw [gZ.mpr q,nU,nU,nU]
  .rw [aK.mp Rp n q,Bool.or_true]
 cases k with
 |globalImplicit=>exact a rfl
 |globalExplicit=>exact a rfl
 |_=>rfl
theorem Yr (hx:wF.contains x=aj) (h:sZ ao sc n):(n !=x|| !(sc.names.lookup n==af .globalImplicit||sc.names.lookup n==af .globalExplicit))=true:=by
 obtain⟨⟨k,e,g⟩,_⟩:=h;refine cR e ?_;have a:tX k=ao->(n !=x)=true:=λq=>bne_iff_ne.mpr λe=>by subst e;rw [gZ.mpr (g q)] at hx;cases hx
 cases k with
 |globalImplicit=>rw [a rfl];rfl
 |globalExplicit=>rw [a rfl];rfl
 |_=>exact cD.mpr (.inr rfl)
theorem Gf (hx:wF.contains x=aj):readsOut PL PL.main.body x=false:=congrArg (!·) (wG λsc n=>Yr hx)
theorem Jl:(["vars","dir","locals"]:List Str).filter (readsOut PL PL.main.body)=[]:=by
 rw [qw];intro x hx;have a:(["vars","dir","locals"]:List Str).all (λx=> !wF.contains x)=true:=by kernel_rfl
 have:=aK.mp a x hx;exact cR (Gf (by rwa [gq] at this)) bZ
theorem Jm:noRoadLSs Yj PL.main.body=true:=by
 have a:∀l m:List Stmt,noRoadLSs Yj m=ao->(∀t∈l,noRoadLS Yj t=ao)->noRoadLSs Yj (l++m)=true:=by
  intro l
  induction l with
  |nil=>intro m h _;exact h
  |cons t l b=>intro m h k;exact fu (k t (aE ..)) (b m h λu hu=>k u (aD _ hu))
 have h:=a (PL.main.body.take 369) (PL.main.body.drop 369) (yh (λt h=>Nk 40 aj Vg t aj aj aj aj ff h) Sv) λt ht=>Nk 40 aj Vg t aj aj aj aj ff (aK.mp Nl t ht)
 rwa [lX] at h
theorem EH:PL.boundNames.all (λn=> !worldNames.contains n)=true:=by kernel_rfl
theorem Gg:looksOpen PL=true:=
 look_both (look_both (look_both (look_both (look_both (by kernel_rfl) (by kernel_rfl)) (wG λsc n=>Yq)) EH)
  (by rw [Jl];exact Jm)) (wG λsc n h=>h.2.1)
theorem Jo:Jv.row.partSaid=true:=
 look_both (look_both (look_both (look_both (look_both (look_both (look_both (look_both (look_both (look_both (look_both (look_both (look_both Gg rfl) rfl) rfl) rfl) rfl) rfl) (by kernel_rfl)) (by kernel_rfl)) (by kernel_rfl)) rfl) rfl) rfl) rfl
theorem BG:Jv.row.wellSaid=true:=look_both (look_both Jo (by kernel_rfl)) (by kernel_rfl)
def aa1:List Nat:=Manifest.builtinsNames.map λy=>nm (bY y.1)
def freeOf (l:List Str):Bool:=aa1.all λc=>l.all λn=> !ak c (nm n)
theorem Rq (h:freeOf l=ao) (hn:n∈l):builtinNamed n=false:=by
 cases q:builtinNamed n with
 |false=>rfl
 |true=>
  obtain⟨y,hy,e⟩:=iJ.mp q;have:=aK.mp (aK.mp h (nm n) (gG.mpr (bW y hy (congrArg nm (eq_of_beq e))))) n hn;rw [fq] at this;cases this
theorem Gh:freeOf (Jv.bound'.filter λn=> !ak (nm n) (nm "__name__"))=true:=by kernel_rfl
theorem EI:(Jv.bound'.filter λn=>ak (nm n) (nm "__name__")).all (λn=> !Jv.reads n)=true:=by kernel_rfl
theorem Jp (hn:n∈Jv.bound'):(!builtinNamed n||Jv.about==[n]|| !Jv.reads n)=true:=by
 cases q:ak (nm n) (nm "__name__") with
 |true=>rw [aK.mp EI n (gw.mpr ⟨hn,q⟩),Bool.or_true]
 |false=>rw [Rq Gh (gw.mpr ⟨hn,by rw [q];rfl⟩)];rfl
theorem Nt:Jv.wellSaid=true:=
 look_both (look_both (look_both (look_both (look_both (look_both (look_both (look_both (look_both (look_both (look_both (look_both (look_both (look_both (look_both (look_both (look_both (look_both
  BG (by kernel_rfl)) (by kernel_rfl)) (by kernel_rfl)) rfl) rfl) (by kernel_rfl)) (by kernel_rfl)) (by kernel_rfl)) (by kernel_rfl))
  (aK.mpr λn hn=>Jp hn)) (by kernel_rfl)) (by kernel_rfl)) (by kernel_rfl)) (by kernel_rfl)) (by kernel_rfl)) (by kernel_rfl))
  (Ge λsc n h=>by rw [h.2.2 rfl];rfl)) (by kernel_rfl)
end
end
end Mine
end
open PySem
theorem PySem.Challenge.cw_pf0157_01_holds : PySem.Challenge.rw_pf0157_01.Holds :=
 ⟨Mine.Nt,Mine.Jh Mine.BG Mine.C5⟩
