import PyProof.Rows.All
import Wide.All
import OpenK.AllK
import Wide.FinOn
import Lean
import PySem.Challenge.RW_sa0051_01
open PySem.Str renaming ofString->Ai
open PySem renaming wpAny_bind->Am,wpAny_pure->AE,wpAny_mono->BE,wpAny_ite_false->Dd,wpAny_holding->Dq,wpAny_call_entry->Gj,wpAny_ite_true->Gs,wpAny_setState_of->HY,sizeLine_eq->FD,wpAny_truthy_bool->Jl,wpAny_newObj_type->JD,wpAny_callSpecial?_slot->My,wpAny_standAt->Jm,codeAny_builtin->Ki,wpAny_specialOf->Lv,plainId_quiet->Lw,wpAny_items_cons->Nf,wpAny_askSetting->Ng,wpAny_rule->Kj,slot_dict_contains->QJ,codeAny_mono->Mz,wpAny_seqItems->Nh,wpAny_sequenceKey->QK,wpAny_Call_ofName->QL,intKind_is->Ly,eqIsQuiet_byValue->QM,wpAny_updateSeq->QN,wpAny_typeOf->Ni,wpAny_notOrdered_dict->RU,wpAny_items_nil->QO,wpAny_updateDictKeys->RV,wpAny_setEntries_of->RW,wpAny_pyIter_list->RX,wpAny_dictEntries->RY,wpAny_isInstance->RZ,wpAny_forIn_list->R6,wpAny_execs_nil->R7,wpAny_Slice->QP,wpAny_runValue->R8,wpAny_newList->R9,rangeSize_one->Sa
open Nat renaming le_of_eq->AA,le_trans->AG,le_refl->Bf,le_of_ble_eq_true->Dr,lt_of_le_of_lt->Dj,sub_add_cancel->Ds,lt_of_le_of_ne->DF,le_antisymm->CW,not_succ_le_zero->Ei,le_of_not_lt->DR,le_add_right->Ea,lt_succ_of_lt->EF,le_of_lt->Dt,le_add_left->EK,le_succ_of_le->Ft,zero_le->DS,ne_of_lt->Ej,lt_of_lt_of_le->GZ,lt_trans->EL,add_le_add_right->HZ,not_lt_zero->Gu,lt_irrefl->Gk,lt_succ_self->HF,succ_add_eq_add_succ->Lz,zero_add->G0,le_of_succ_le->JE,succ_le_succ->JF,min_eq_right->JG,max_eq_right->JH,le_succ->G2,add_le_add->Jn,min_eq_left->JI,max_eq_left->JJ,add_le_add_left->LA,strongRecOn->Kk,lt_trichotomy->LB,le_total->Jo,not_lt->H0,lt_of_succ_le->MA,ne_of_gt->LC,pow_le_pow_right->QQ,lt_of_lt_of_eq->QR,add_right_comm->QS,add_mul_mod_self_left->Sb,lt_succ_of_le->QT,le_of_lt_succ->QU,lt_add_of_pos_right->Sd,lt_of_succ_lt_succ->Se,mul_le_mul_right->Sf,add_add_add_comm->Sg,mul_le_mul_left->Sh,sub_le->Nj,max_lt->Nk,succ_ne_self->Sj,div_eq_of_lt->Sk,mul_add->QV,one_lt_two->Sl,mod_lt->QW,add_assoc->Sn
open List renaming length_map->Bl,getElem?_eq_getElem->Cr,mem_of_getElem?->BW,getElem?_eq_some_iff->CP,getElem?_map->Cs,mem_map->BF,mem_cons->BP,length_append->CY,getD_eq_getElem?_getD->Er,mem_cons_of_mem->DX,nodup_cons->CQ,mem_singleton->Eb,mem_append->DA,map_append->DT,length_range->Ek,mem_cons_self->EU,length_cons->EG,map_cons->Ec,mem_append_right->G3,mem_append_left->HG,mem_iff_getElem?->H5,getElem?_eq_none->H6,nodup_nil->FG,map_congr_left->HH,getElem_mem->G4,getElem?_append_left->Kl,append_assoc->HJ,length_singleton->JK,mem_range->G5,pairwise_iff_getElem->LD,append_nil->HL,lookup_cons->H7,all_eq_true->H8,findIdx?_cons->JL,getElem?_append_right->MB,not_mem_nil->JN,forall_mem_cons->LF,nodup_append->Ko,mem_filter->JO,take_length->Kp,concat_eq_append->MC,take_add_one->LG,mem_map_of_mem->MD,length_eq_zero_iff->Nl,take_append_drop->Nn,reverse_cons->ME,perm_middle->MF,length_reverse->Np,getElem?_range->Nq,filterMap_cons->Nr,getElem?_set->Nt,eraseIdx_eq_take_drop_succ->So,contains_iff_mem->QX,find?_cons->Nu,filter_append->QY,ext_getElem?->QZ,filter_cons_of_neg->Sp,forIn_cons->Q0,dropLast_eq_take->Sq,getLast?_concat->Sr,size_toArray->Ss,cons_ne_nil->Su,any_eq_true->Sv,length_set->Sw,sum_cons->Sx,map_take->Sy,any_cons->Sz
open PySem.Heap renaming get?_push_of_some->Cg,get?_push_size->DB,get?_update_self->Fu,lt_size->DG,get?_update_other->Jp,size_push->HM
open Option.some renaming inj->BC
open Array renaming length_toList->De,getElem?_toList->EH,getElem?_eq_getElem->Kq,mem_toList_iff->Nv,toList_push->Ny,toList_append->Q6,getElem?_eq_some_iff->SD,forIn_toList->Q7,mk->Ks,getElem_toList->SE
open Option renaming map_eq_some_iff->El,map_some->SF
open Bool renaming and_eq_true_iff->D3,false_ne_true->Ed,and_eq_true->Gl,not_eq_true->SG,or_false->SH
open LawfulBEq renaming eq_of_beq->E9
open PySem.Heap.SameBut renaming update->Fb
open PySem.SetTable renaming insertAt->FH,below->FI,grown->Q8,bits->Q9
open Int renaming ofNat_lt->FJ,natCast_nonneg->Jq,ofNat_le->Gv,toNat_natCast->JP,add_sub_cancel->LH,ofNat_inj->Nz,zero_add->NA,le_trans->Ra,min_eq_right->SJ,max_eq_right->SN,min_eq_left->SO,max_eq_left->SP
open PySem.Builtin.Tuple renaming tupleHashOf->LJ,tupleExact->Rc
open PySem.Around renaming under_plainId->LK
open PySem.NameKind renaming free->H9,cell->SQ
open Classical renaming byContradiction->NB
open PySem.SetTable.probe renaming go->LM
open Nat.succ renaming inj->JQ
open PySem.SetTable.below renaming go->MG
open PyProof.Rows.F renaming plain_set_update_loop->Rf
open False renaming elim->Kt
open PySem.Builtin.List renaming listLengthHint->SR
open PySem.Heap.IsSliceOf renaming new->Rg
open PySem.F renaming plain_list_iadd->Rh
open PyProof.Rows renaming tail_any->JR,Subscript_->NC,sortedHeap_old->SU,mapSeq_app->Ri
open PySem.Shared renaming TypeIs->ND
open PySem.Value renaming none->MH,int->MI
open Subtype renaming mk->MJ
open List.Pairwise renaming of_map->SV
open PySem.KeyKind renaming is_eq_decide->SW
open PySem.Calls renaming evalArgs_plain->Rj
open List.Perm renaming cons->Rk,of_eq->SX,swap->SY
open PySem.SeqAt.EqAt renaming int_int->S6
open PySem.pickOrder renaming go->Rm
open PySem.W renaming callWith_of->aEl
open ForInStep renaming yield->S7
open PUnit renaming unit->Rn
open PySem.W.Looks renaming of_pure->S8
open PySem PySem.W PyProof.Rows PySem.Calls
set_option Elab.async false
set_option linter.unusedVariables false
set_option linter.unusedSimpArgs false
set_option maxRecDepth 100000
set_option maxHeartbeats 8000000
set_option bootstrap.genMatcherCode false
set_option genSizeOf false
set_option genSizeOfSpec false
set_option tactic.hygienic false
set_option genCtorIdx false
set_option genInjectivity false
namespace Mine.Internal
universe u1 u2 u3 u4 u5 u6
abbrev Al:=trivial
noncomputable abbrev AL:=@congrArg
abbrev AK:=@if_neg
abbrev Df:=@decide_eq_false
abbrev AS:=@if_pos
noncomputable abbrev Ba:=@absurd
abbrev DU:=@decide_eq_true
abbrev Fc:=@of_decide_eq_true
section
set_option genInjectivity true
theorem A5{p q:Prop}{C:Prop}(h:p/\q)(k:p->q->C):C:=k h.1 h.2
theorem D4{p q r:Prop}{C:Prop}(h:p/\q/\r)(k:p->q->r->C):C:=k h.1 h.2.1 h.2.2
theorem MK{p q r s:Prop}{C:Prop}(h:p/\q/\r/\s)(k:p->q->r->s->C):C:=k h.1 h.2.1 h.2.2.1 h.2.2.2
theorem Js{p q r s t:Prop}{C:Prop}(h:p/\q/\r/\s/\t)(k:p->q->r->s->t->C):C:=k h.1 h.2.1 h.2.2.1 h.2.2.2.1 h.2.2.2.2
theorem W8{p q r s t Aa v w:Prop}{C:Prop}(h:p/\q/\r/\s/\t/\Aa/\v/\w)(k:p->q->r->s->t->Aa->v->w->C):C:=k h.1 h.2.1 h.2.2.1 h.2.2.2.1 h.2.2.2.2.1 h.2.2.2.2.2.1 h.2.2.2.2.2.2.1 h.2.2.2.2.2.2.2
theorem Ax{α:Sort u1}{p:α->Prop}{C:Prop}(h:∃x0,p x0)(k:∀x0,p x0->C):C:=h.elim fun x0 h0=>k x0 h0
theorem An{α:Sort u1}{p q:α->Prop}{C:Prop}(h:∃x0,p x0/\q x0)(k:∀x0,p x0->q x0->C):C:=h.elim fun x0 h0=>k x0 h0.1 h0.2
theorem B4{α:Sort u1}{p q r:α->Prop}{C:Prop}(h:∃x0,p x0/\q x0/\r x0)(k:∀x0,p x0->q x0->r x0->C):C:=h.elim fun x0 h0=>k x0 h0.1 h0.2.1 h0.2.2
theorem Hg{α:Sort u1}{p q r s:α->Prop}{C:Prop}(h:∃x0,p x0/\q x0/\r x0/\s x0)(k:∀x0,p x0->q x0->r x0->s x0->C):C:=h.elim fun x0 h0=>k x0 h0.1 h0.2.1 h0.2.2.1 h0.2.2.2
theorem W9{α:Sort u1}{p q r s t:α->Prop}{C:Prop}(h:∃x0,p x0/\q x0/\r x0/\s x0/\t x0)(k:∀x0,p x0->q x0->r x0->s x0->t x0->C):C:=h.elim fun x0 h0=>k x0 h0.1 h0.2.1 h0.2.2.1 h0.2.2.2.1 h0.2.2.2.2
theorem Ku{α:Sort u1}{β:Sort u2}{p:α->β->Prop}{C:Prop}(h:∃x0 x1,p x0 x1)(k:∀x0 x1,p x0 x1->C):C:=h.elim fun x0 h0=>h0.elim fun x1 h1=>k x0 x1 h1
theorem Fv{α:Sort u1}{β:Sort u2}{p q:α->β->Prop}{C:Prop}(h:∃x0 x1,p x0 x1/\q x0 x1)(k:∀x0 x1,p x0 x1->q x0 x1->C):C:=h.elim fun x0 h0=>h0.elim fun x1 h1=>k x0 x1 h1.1 h1.2
theorem Bc{α:Sort u1}{β:Sort u2}{p q r:α->β->Prop}{C:Prop}(h:∃x0 x1,p x0 x1/\q x0 x1/\r x0 x1)(k:∀x0 x1,p x0 x1->q x0 x1->r x0 x1->C):C:=h.elim fun x0 h0=>h0.elim fun x1 h1=>k x0 x1 h1.1 h1.2.1 h1.2.2
theorem DC{α:Sort u1}{β:Sort u2}{p q r s:α->β->Prop}{C:Prop}(h:∃x0 x1,p x0 x1/\q x0 x1/\r x0 x1/\s x0 x1)(k:∀x0 x1,p x0 x1->q x0 x1->r x0 x1->s x0 x1->C):C:=h.elim fun x0 h0=>h0.elim fun x1 h1=>k x0 x1 h1.1 h1.2.1 h1.2.2.1 h1.2.2.2
theorem VP{α:Sort u1}{β:Sort u2}{p q r s t Aa v:α->β->Prop}{C:Prop}(h:∃x0 x1,p x0 x1/\q x0 x1/\r x0 x1/\s x0 x1/\t x0 x1/\Aa x0 x1/\v x0 x1)(k:∀x0 x1,p x0 x1->q x0 x1->r x0 x1->s x0 x1->t x0 x1->Aa x0 x1->v x0 x1->C):C:=h.elim fun x0 h0=>h0.elim fun x1 h1=>k x0 x1 h1.1 h1.2.1 h1.2.2.1 h1.2.2.2.1 h1.2.2.2.2.1 h1.2.2.2.2.2.1 h1.2.2.2.2.2.2
theorem Ro{α:Sort u1}{β:Sort u2}{γ:Sort u3}{p:α->β->γ->Prop}{C:Prop}(h:∃x0 x1 x2,p x0 x1 x2)(k:∀x0 x1 x2,p x0 x1 x2->C):C:=h.elim fun x0 h0=>h0.elim fun x1 h1=>h1.elim fun x2 h2=>k x0 x1 x2 h2
theorem LN{α:Sort u1}{β:Sort u2}{γ:Sort u3}{p q:α->β->γ->Prop}{C:Prop}(h:∃x0 x1 x2,p x0 x1 x2/\q x0 x1 x2)(k:∀x0 x1 x2,p x0 x1 x2->q x0 x1 x2->C):C:=h.elim fun x0 h0=>h0.elim fun x1 h1=>h1.elim fun x2 h2=>k x0 x1 x2 h2.1 h2.2
theorem HN{α:Sort u1}{β:Sort u2}{γ:Sort u3}{p q r:α->β->γ->Prop}{C:Prop}(h:∃x0 x1 x2,p x0 x1 x2/\q x0 x1 x2/\r x0 x1 x2)(k:∀x0 x1 x2,p x0 x1 x2->q x0 x1 x2->r x0 x1 x2->C):C:=h.elim fun x0 h0=>h0.elim fun x1 h1=>h1.elim fun x2 h2=>k x0 x1 x2 h2.1 h2.2.1 h2.2.2
theorem Kv{α:Sort u1}{β:Sort u2}{γ:Sort u3}{p q r s:α->β->γ->Prop}{C:Prop}(h:∃x0 x1 x2,p x0 x1 x2/\q x0 x1 x2/\r x0 x1 x2/\s x0 x1 x2)(k:∀x0 x1 x2,p x0 x1 x2->q x0 x1 x2->r x0 x1 x2->s x0 x1 x2->C):C:=h.elim fun x0 h0=>h0.elim fun x1 h1=>h1.elim fun x2 h2=>k x0 x1 x2 h2.1 h2.2.1 h2.2.2.1 h2.2.2.2
theorem Kw{α:Sort u1}{β:Sort u2}{γ:Sort u3}{p q r s t:α->β->γ->Prop}{C:Prop}(h:∃x0 x1 x2,p x0 x1 x2/\q x0 x1 x2/\r x0 x1 x2/\s x0 x1 x2/\t x0 x1 x2)(k:∀x0 x1 x2,p x0 x1 x2->q x0 x1 x2->r x0 x1 x2->s x0 x1 x2->t x0 x1 x2->C):C:=h.elim fun x0 h0=>h0.elim fun x1 h1=>h1.elim fun x2 h2=>k x0 x1 x2 h2.1 h2.2.1 h2.2.2.1 h2.2.2.2.1 h2.2.2.2.2
theorem Rp{α:Sort u1}{β:Sort u2}{γ:Sort u3}{p q r s t Aa:α->β->γ->Prop}{C:Prop}(h:∃x0 x1 x2,p x0 x1 x2/\q x0 x1 x2/\r x0 x1 x2/\s x0 x1 x2/\t x0 x1 x2/\Aa x0 x1 x2)(k:∀x0 x1 x2,p x0 x1 x2->q x0 x1 x2->r x0 x1 x2->s x0 x1 x2->t x0 x1 x2->Aa x0 x1 x2->C):C:=h.elim fun x0 h0=>h0.elim fun x1 h1=>h1.elim fun x2 h2=>k x0 x1 x2 h2.1 h2.2.1 h2.2.2.1 h2.2.2.2.1 h2.2.2.2.2.1 h2.2.2.2.2.2
theorem VQ{α:Sort u1}{β:Sort u2}{γ:Sort u3}{p q r s t Aa v:α->β->γ->Prop}{C:Prop}(h:∃x0 x1 x2,p x0 x1 x2/\q x0 x1 x2/\r x0 x1 x2/\s x0 x1 x2/\t x0 x1 x2/\Aa x0 x1 x2/\v x0 x1 x2)(k:∀x0 x1 x2,p x0 x1 x2->q x0 x1 x2->r x0 x1 x2->s x0 x1 x2->t x0 x1 x2->Aa x0 x1 x2->v x0 x1 x2->C):C:=h.elim fun x0 h0=>h0.elim fun x1 h1=>h1.elim fun x2 h2=>k x0 x1 x2 h2.1 h2.2.1 h2.2.2.1 h2.2.2.2.1 h2.2.2.2.2.1 h2.2.2.2.2.2.1 h2.2.2.2.2.2.2
theorem VS{α:Sort u1}{β:Sort u2}{γ:Sort u3}{δ:Sort u4}{p q:α->β->γ->δ->Prop}{C:Prop}(h:∃x0 x1 x2 x3,p x0 x1 x2 x3/\q x0 x1 x2 x3)(k:∀x0 x1 x2 x3,p x0 x1 x2 x3->q x0 x1 x2 x3->C):C:=h.elim fun x0 h0=>h0.elim fun x1 h1=>h1.elim fun x2 h2=>h2.elim fun x3 h3=>k x0 x1 x2 x3 h3.1 h3.2
theorem Xa{α:Sort u1}{β:Sort u2}{γ:Sort u3}{δ:Sort u4}{p q r s t Aa:α->β->γ->δ->Prop}{C:Prop}(h:∃x0 x1 x2 x3,p x0 x1 x2 x3/\q x0 x1 x2 x3/\r x0 x1 x2 x3/\s x0 x1 x2 x3/\t x0 x1 x2 x3/\Aa x0 x1 x2 x3)(k:∀x0 x1 x2 x3,p x0 x1 x2 x3->q x0 x1 x2 x3->r x0 x1 x2 x3->s x0 x1 x2 x3->t x0 x1 x2 x3->Aa x0 x1 x2 x3->C):C:=h.elim fun x0 h0=>h0.elim fun x1 h1=>h1.elim fun x2 h2=>h2.elim fun x3 h3=>k x0 x1 x2 x3 h3.1 h3.2.1 h3.2.2.1 h3.2.2.2.1 h3.2.2.2.2.1 h3.2.2.2.2.2
theorem VT{α:Sort u1}{β:Sort u2}{γ:Sort u3}{δ:Sort u4}{ε:Sort u5}{p q r s:α->β->γ->δ->ε->Prop}{C:Prop}(h:∃x0 x1 x2 x3 x4,p x0 x1 x2 x3 x4/\q x0 x1 x2 x3 x4/\r x0 x1 x2 x3 x4/\s x0 x1 x2 x3 x4)(k:∀x0 x1 x2 x3 x4,p x0 x1 x2 x3 x4->q x0 x1 x2 x3 x4->r x0 x1 x2 x3 x4->s x0 x1 x2 x3 x4->C):C:=h.elim fun x0 h0=>h0.elim fun x1 h1=>h1.elim fun x2 h2=>h2.elim fun x3 h3=>h3.elim fun x4 h4=>k x0 x1 x2 x3 x4 h4.1 h4.2.1 h4.2.2.1 h4.2.2.2
@[elab_as_elim] theorem J{α:Sort u1}{a b:α}{P:α->Prop}(h:a=b)(x:P b):P a:=h▸x
@[elab_as_elim] theorem Rv{α:Sort u1}{a b:α}{P:α->Prop}(h:a=b)(x:P a):P b:=h▸x
theorem ue{k m:Nat}(h:k<m)(e:Nat.ble m 9223372036854775808=true):(k:Int)<2^63:=by
 have:=Dr e
 lia
theorem CF(h:l<2):l=0\/l=1:=by
 cases l with
 |zero=>exact .inl rfl
 |succ l=>exact .inr (AL Nat.succ (Nat.lt_one_iff.mp (Se h)))
theorem Jt(h:l<3):l=0\/l=1\/l=2:=by
 cases l with
 |zero=>exact .inl rfl
 |succ l=>exact .inr ((CF (Se h)).imp (AL Nat.succ) (AL Nat.succ))
theorem vg(a b:Nat):(if(b:Int)<(a:Nat)then(b:Int)else(a:Nat))=(min a b:Nat):=by
 by_cases h:b<a
 ·exact(AS (FJ.mpr h)).trans (AL _ (JG (Dt h)).symm)
 ·exact(AK fun k=>h (FJ.mp k)).trans (AL _ (JI (DR h)).symm)
theorem wU(a b:Nat):(if(b:Int)>(a:Nat)then(b:Int)else(a:Nat))=(max a b:Nat):=by
 by_cases h:a<b
 ·exact(AS (FJ.mpr h)).trans (AL _ (JH (Dt h)).symm)
 ·exact(AK fun k=>h (FJ.mp k)).trans (AL _ (JJ (DR h)).symm)
theorem w8(a b:Nat):min (a:Int) b=(min a b:Nat):=(Jo a b).elim (fun h=>(SO (Gv.mpr h)).trans (AL _ (JI h).symm)) fun h=>(SJ (Gv.mpr h)).trans (AL _ (JG h).symm)
theorem wu(a b:Nat):max (a:Int) b=(max a b:Nat):=(Jo a b).elim (fun h=>(SN (Gv.mpr h)).trans (AL _ (JH h).symm)) fun h=>(SP (Gv.mpr h)).trans (AL _ (JJ h).symm)
theorem S9(i j:Nat)(h:j<10):(100+j+10*i) % 10=j:=(Sb _ _ _).trans ((AL (· % 10) (Nat.add_comm 100 j)).trans ((Sb j 10 10).trans (Nat.mod_eq_of_lt h)))
theorem Ta(i j:Nat)(h:j<10):(100+j+10*i-100)/10=i:=(AL (· /10) ((AL (· -100) (Sn 100 j (10*i))).trans (Nat.add_sub_cancel_left ..))).trans ((Nat.add_mul_div_left j i (by decide)).trans ((AL (· +i) (Sk h)).trans (G0 i)))
theorem dz{a b:Nat}(h:a≠b):min a b≠max a b:=by
 rcases Nat.lt_or_gt_of_ne h with l|l
 ·exact J (JI (Dt l)) (J (JH (Dt l)) h)
 ·exact J (JG (Dt l)) (J (JJ (Dt l)) h.symm)
theorem te(a n:Int):(if a<n then n-a else 0)=((n-a).toNat:Int)-(0:Nat):=by
 by_cases h:a<n
 ·exact(AS h).trans ((Int.toNat_of_nonneg (Int.sub_nonneg_of_le (Int.le_of_lt h))).symm.trans (Int.sub_zero _).symm)
 ·exact(AK h).trans ((AL Int.ofNat (Int.toNat_of_nonpos (Int.sub_nonpos_of_le (Int.not_lt.mp h))).symm).trans (Int.sub_zero _).symm)
theorem oF(h:a<b):(a+b)/2<b:=Nat.div_lt_of_lt_mul (QR (Nat.add_lt_add_right h b) (Nat.two_mul b).symm)
theorem oH(h:a<=b):a<=(a+b)/2:=(Nat.le_div_iff_mul_le Nat.two_pos).mpr (AG (AA (Nat.mul_two a)) (LA h a))
theorem xT(h:a<b)(k:b-a<=n+1):b-((a+b)/2+1)<=n:=AG (Nat.sub_le_sub_left (JF (oH (Dt h))) b) (Nat.pred_le_pred k)
theorem xr(h:a<b)(k:b-a<=n+1):(a+b)/2-a<=n:=QU (GZ (Nat.sub_lt_sub_right (oH (Dt h)) (oF h)) k)
theorem Xb{N k w m e:Nat}(h:k+1<=N)(g:2*(N-k)+w=m)(hm:m<e):2*(N-(k+1))+(w+1)<e:=by have s:N-k=N-(k+1)+1:=(Nat.succ_pred_eq_of_pos (Nat.sub_pos_of_lt h)).symm;rw[s]at g;exact Dj (JE (AA (g▸by rw[QV];exact(QS _ w 2).symm▸rfl))) hm
theorem dc{s:Nat}(h:1<=s):(s:Int)-1=(s-1:Nat):=(Int.ofNat_sub h).symm
set_option genSizeOfSpec false in
set_option genInjectivity false in
inductive Lx where
 |v (i:Nat)
 |n (k:Nat)
 |a (x y:Lx)
 |m (k:Nat) (x:Lx)
 |r (x:Lx) (k:Nat)
abbrev D:Lx:=.v 0
abbrev Y:Lx:=.v 1
abbrev qY:Lx:=.v 2
abbrev qX:Lx:=.v 3
abbrev qW:Lx:=.n 1
abbrev qV:Lx:=.n 0
abbrev qU:Lx:=.n 2
abbrev qT:Lx:=.n 900
abbrev qS:Lx:=.n 3
abbrev qR:Lx:=.n 10
abbrev zQ:Lx:=.n 20
noncomputable def Lx.ev(f:Nat->Nat):Lx->Nat
 | .v i=>f i
 | .n k=>k
 | .a x y=>x.ev f+y.ev f
 | .m k x=>k*x.ev f
 | .r x k=>x.ev f*k
noncomputable def vN:List Nat->List Nat->List Nat
 |[],d=>d
 |c::r,[]=>c::r
 |c::r,d::s=>(c+d)::vN r s
noncomputable def Rq:List Nat->List Nat->Bool
 |[],_=>true
 |c::r,[]=>Nat.beq c 0 &&Rq r []
 |c::r,d::s=>Nat.ble c d &&Rq r s
noncomputable def unit:Nat->List Nat
 |0=>[1]
 |i+1=>0::unit i
noncomputable def dot(f:Nat->Nat):Nat->List Nat->Nat
 |_,[]=>0
 |i,c::r=>c*f i+dot f (i+1) r
noncomputable def Lx.cf:Lx->List Nat
 | .v i=>unit i
 | .n _=>[]
 | .a x y=>vN x.cf y.cf
 | .m k x=>x.cf.map (k* ·)
 | .r x k=>x.cf.map (k* ·)
noncomputable def Lx.k:Lx->Nat
 | .v _=>0
 | .n k=>k
 | .a x y=>x.k+y.k
 | .m k x=>k*x.k
 | .r x k=>k*x.k
theorem vn:∀{i:Nat} {d:List Nat},dot f i (vN c d)=dot f i c+dot f i d:=by
 induction c with
 |nil=>intro i d;exact(G0 _).symm
 |cons a r ih=>
  intro i d
  cases d with
  |nil=>rfl
  |cons b s=>
   show(a+b)*f i+dot f (i+1) (vN r s)=(a*f i+dot f (i+1) r)+(b*f i+dot f (i+1) s)
   refine J ih (J (Nat.add_mul _ _ _) ?_);rewrite[Sg];rfl
theorem qB:∀{i:Nat},dot f i (c.map (k* ·))=k*dot f i c:=by
 induction c with
 |nil=>intro i;rfl
 |cons a r ih=>
  intro i
  show k*a*f i+dot f (i+1) (r.map (k* ·))=k*(a*f i+dot f (i+1) r)
  refine J ih (J (QV _ _ _) (J (Nat.mul_assoc _ _ _) ?_));rfl
theorem tQ:∀{i:Nat},dot f i (unit j)=f (i+j):=by
 induction j with
 |zero=>intro i;show 1*f i+0=f i;exact J (Nat.one_mul _) rfl
 |succ j ih=>intro i;show 0*f i+dot f (i+1) (unit j)=_;exact J ih (J (Nat.zero_mul _) (J (G0 _) (J (QS _ _ _) rfl)))
theorem xR:∀{i:Nat} {d:List Nat},Rq c d=true->dot f i c<=dot f i d:=by
 induction c with
 |nil=>intro i d _;exact DS _
 |cons a r ih=>
  intro i d h
  cases d with
  |nil=>
   refine A5 (D3.mp h) fun h1 h2=>J (Nat.eq_of_beq_eq_true h1) ?_;have:=ih (i:=i+1) h2
   show 0*f i+dot f (i+1) r<=0
   exact J (Nat.zero_mul _) (J (G0 _) this)
  |cons b s=>
   exact A5 (D3.mp h) fun h1 h2=>Jn (Sf _ (Dr h1)) (ih h2)
theorem Lx.Kx{f:Nat->Nat}{x:Lx}:x.ev f=x.k+dot f 0 x.cf:=by
 induction x with
 |v i=>exact((AL _ tQ).trans ((G0 _).trans (AL f (G0 i)))).symm
 |n k=>rfl
 |a x y Xc Xd=>show x.ev f+y.ev f=_;refine J Xc (J Xd (?_));rewrite[Sg];exact Rv vn rfl
 |m k x ih=>show k*x.ev f=_;exact J ih (J (QV _ _ _) (Rv qB rfl))
 |r x k ih=>show x.ev f*k=_;exact J ih (J (Nat.mul_comm _ _) (J (QV _ _ _) (Rv qB rfl)))
noncomputable def pa(l r:Lx):Bool:=Nat.ble (r.k+1) l.k &&Rq r.cf l.cf
theorem ya(c:pa l r=true)(h:l.ev f<=r.ev f):False:=by refine A5 (D3.mp c) fun h1 h2=>?_;rw[Lx.Kx,Lx.Kx]at h;exact Gk _ (GZ (Nat.add_lt_add_of_lt_of_le (Dr h1) (xR h2)) h)
theorem uL(m0:Nat)(c:pa (.a (.m m0 (.a q qW)) l) (.a (.m m0 p) r)=true)(h:l.ev f<=r.ev f):p.ev f<=q.ev f:=
 DR fun g=>ya c (Jn (Sh m0 g) h)
theorem rH(h:a.ev f<=b.ev f)(g:l.ev f<=r.ev f):(Lx.a (.m m a) l).ev f<=(Lx.a (.m m b) r).ev f:=Jn (Sh m h) g
theorem we(h:a.ev f<=b.ev f):(Lx.m m a).ev f<=(Lx.m m b).ev f:=Sh m h
section
variable(p q:Lx)(m0:Nat)
theorem bP(f:Nat->Nat)(c:pa (.a (.m m0 (.a q qW)) qV) (.a (.m m0 p) qV)=true):p.ev f<=q.ev f:=uL m0 c (Bf _)
variable(m1:Nat)(a1 b1:Lx)
theorem aA(f:Nat->Nat)(h1:a1.ev f<=b1.ev f)(c:pa (.a (.m m0 (.a q qW)) (.m m1 a1)) (.a (.m m0 p) (.m m1 b1))=true):p.ev f<=q.ev f:=uL m0 c (we h1)
variable(m2:Nat)(a2 b2:Lx)
theorem aH(f:Nat->Nat)(h1:a1.ev f<=b1.ev f)(h2:a2.ev f<=b2.ev f)(c:pa (.a (.m m0 (.a q qW)) (.a (.m m1 a1) (.m m2 a2))) (.a (.m m0 p) (.a (.m m1 b1) (.m m2 b2)))=true):p.ev f<=q.ev f:=uL m0 c (rH h1 (we h2))
variable(m3:Nat)(a3 b3:Lx)
theorem az(f:Nat->Nat)(h1:a1.ev f<=b1.ev f)(h2:a2.ev f<=b2.ev f)(h3:a3.ev f<=b3.ev f)(c:pa (.a (.m m0 (.a q qW)) (.a (.m m1 a1) (.a (.m m2 a2) (.m m3 a3)))) (.a (.m m0 p) (.a (.m m1 b1) (.a (.m m2 b2) (.m m3 b3))))=true):p.ev f<=q.ev f:=uL m0 c (rH h1 (rH h2 (we h3)))
variable(m4:Nat)(a4 b4:Lx)
theorem t4(f:Nat->Nat)(h1:a1.ev f<=b1.ev f)(h2:a2.ev f<=b2.ev f)(h3:a3.ev f<=b3.ev f)(h4:a4.ev f<=b4.ev f)(c:pa (.a (.m m0 (.a q qW)) (.a (.m m1 a1) (.a (.m m2 a2) (.a (.m m3 a3) (.m m4 a4))))) (.a (.m m0 p) (.a (.m m1 b1) (.a (.m m2 b2) (.a (.m m3 b3) (.m m4 b4)))))=true):p.ev f<=q.ev f:=uL m0 c (rH h1 (rH h2 (rH h3 (we h4))))
end
theorem EM{a b:Nat}:a<=a-b+b:=Nat.le_add_of_sub_le (Bf _)
noncomputable def c1(x:Nat):Nat->Nat:=fun Z=>x
noncomputable def c2(x y:Nat):Nat->Nat
 |0=>x
 |_=>y
noncomputable def c3(x y z:Nat):Nat->Nat
 |0=>x
 |1=>y
 |_=>z
noncomputable def c4(x y z Aa:Nat):Nat->Nat
 |0=>x
 |1=>y
 |2=>z
 |_=>Aa
noncomputable def c5(x y z Aa v:Nat):Nat->Nat
 |0=>x
 |1=>y
 |2=>z
 |3=>Aa
 |_=>v
inductive V where
 |int (i:Int)
 |str (x:Str)
 |tup (l:List V)
 |lst (l:List V)
 |ex (v:Value)
inductive O where
 |list (l:List V)
 |dict (l:List (V×V))
 |ns (m:List (String×V))
 |fr (m:List (String×V))
 |cell (v:Option V)
 |inst (C d:Addr)
noncomputable abbrev u:=Addr->Option O
noncomputable def u.set(U:u)(a:Addr)(o:O):u:=fun b=>if b=a then some o else U b
@[simp] theorem u.set_same(U:u)(a:Addr)(o:O):(U.set a o) a=some o:=by simp[u.set]
theorem u.Ad(U:u){a b:Addr}(o:O)(h:b≠a):(U.set a o) b=U b:=by simp[u.set,h]
theorem aB{U:u}{a b:Addr}{o:O}{x:Option O}(n:b≠a)(h:U b=x):(U.set a o) b=x:=(u.Ad U o n).trans h
@[simp] theorem u.set_set(U:u)(a:Addr)(o o':O):(U.set a o).set a o'=U.set a o':=by funext b;by_cases h:b=a<;>simp[u.set,h]
def u.le(Ac U:u):Prop:=∀a o,Ac a=some o->U a=some o
theorem u.le_refl(U:u):U.le U:=fun Z Z h=>h
theorem u.le_trans{a b c:u}(h:a.le b)(k:b.le c):a.le c:=fun x o e=>k x o (h x o e)
theorem u.DY{U:u}{a:Addr}(o:O)(h:U a=none):U.le (U.set a o):=fun b x e=>by
 by_cases q:b=a
 ·subst q;have e:=h▸e;cases e
 ·exact J (u.Ad _ _ q) e
theorem u.le_none{Ac U:u}(d:Ac.le U){a:Addr}(h:U a=none):Ac a=none:=by
 cases q:Ac a with
 |none=>rfl
 |some o=>have h:=(d a o q)▸h;cases h
def IsL(h:Heap)(a:Addr)(vs:Array Value):Prop:=∃n,h.get? a=some {cls:=.type "list",data:=.seq vs n}
def IsT(h:Heap)(a:Addr)(vs:Array Value):Prop:=∃n,h.get? a=some {cls:=.type "tuple",data:=.seq vs n}
theorem IsL.isList(x:IsL h a vs):h.IsList a vs:=x.elim fun n e=>⟨_,e,rfl,n,rfl⟩
theorem IsT.B5(x:IsT h a vs):h.IsTuple a vs:=x.elim fun n e=>⟨_,e,rfl,n,rfl⟩
theorem IsL.keep(x:IsL h a vs)(g:∀o,h.get? a=some o->h'.get? a=some o):IsL h' a vs:=x.imp fun n e=>g _ e
theorem IsT.keep(x:IsT h a vs)(g:∀o,h.get? a=some o->h'.get? a=some o):IsT h' a vs:=x.imp fun n e=>g _ e
mutual
def VR(T:Addr->Prop)(h:Heap):V->Value->Prop
 | .int i,v=>∃t,v=.int i t
 | .str x,v=>∃t,v=.str x t
 | .tup l,v=>∃a vs,v=.ref a/\IsT h a vs/\AX T h l vs.toList
 | .lst l,v=>∃a vs,v=.ref a/\¬T a/\IsL h a vs/\AX T h l vs.toList
 | .ex v',v=>v=v'
def AX(T:Addr->Prop)(h:Heap):List V->List Value->Prop
 |[],vs=>vs=[]
 |x::l,vs=>∃v r,vs=v::r/\VR T h x v/\AX T h l r
end
def LO(T:Addr->Prop)(h:Heap):Option V->Option Value->Prop
 |none,v=>v=none
 |some x,v=>∃y,v=some y/\VR T h x y
mutual
noncomputable def hV(P:Params):V->Int
 | .int i=>hashInt i
 | .str x=>PyData.keyHash P x
 | .tup l=>reduceHash (LJ (Ju P l))
 | .lst _=>0
 | .ex _=>0
noncomputable def Ju(P:Params):List V->List Int
 |[]=>[]
 |x::l=>hV P x::Ju P l
end
inductive aj{α β:Type}(R:α->β->Prop):List α->List β->Prop
 |nil:aj R [] []
 |cons {a:α} {b:β} {l:List α} {m:List β} (h:R a b) (t:aj R l m):aj R (a::l) (b::m)
section
variable{R R':α->β->Prop}
theorem aj.mono(k:∀a b,R a b->R' a b)(r:aj R l m):aj R' l m:=by
 induction r with
 |nil=>exact .nil
 |cons h t ih=>exact .cons (k _ _ h) ih
theorem aj.length(r:aj R l m):m.length=l.length:=by
 induction r with
 |nil=>rfl
 |cons h t ih=>exact AL (· +1) ih
theorem aj.get(r:aj R l m):∀{i:Nat} {a:α},l[i]? =some a->∃b,m[i]? =some b/\R a b:=by
 induction r with
 |nil=>intro i a h;cases h
 |cons h t ih=>
  intro i a e
  cases i with
  |zero=>cases e;exact⟨_,rfl,h⟩
  |succ i=>exact ih e
theorem aj.append(r:aj R l m)(r':aj R l' m'):aj R (l++l') (m++m'):=by
 induction r with
 |nil=>exact r'
 |cons h t ih=>exact .cons h ih
theorem aj.erase(r:aj R l m):∀{i:Nat},aj R (l.eraseIdx i) (m.eraseIdx i):=by
 induction r with
 |nil=>exact .nil
 |cons h t ih=>
  intro i
  cases i with
  |zero=>exact t
  |succ i=>exact .cons h ih
end
structure DE(P:Params)(T:Addr->Prop)(h:Heap)(kv:V×V)(e:DictEntry):Prop where
 hash:e.hash=hV P kv.1
 key:VR T h kv.1 e.key
 val:VR T h kv.2 e.val
structure NE(T:Addr->Prop)(h:Heap)(kv:String×V)(e:DictEntry):Prop where
 key:∃t,e.key=.str (Ai kv.1) t
 val:VR T h kv.2 e.val
abbrev EW(P:Params)(T:Addr->Prop)(h:Heap):List (V×V)->List DictEntry->Prop:=aj (DE P T h)
abbrev Hh(T:Addr->Prop)(h:Heap):List (String×V)->List DictEntry->Prop:=aj (NE T h)
noncomputable def look(m:List (String×V))(x:String):Option V:=match m with
 |[]=>none
 |(k,v)::r=>if k=x then some v else look r x
noncomputable def put(m:List (String×V))(x:String)(v:V):List (String×V):=match m with
 |[]=>[(x,v)]
 |(k,Aa)::r=>if k=x then(x,v)::r else(k,Aa)::put r x v
def m7(P:Params)(T:Addr->Prop)(h:Heap)(a:Addr):O->Prop
 | .list l=>∃vs,IsL h a vs/\AX T h l vs.toList
 | .dict l=>∃o es n,h.get? a=some o/\o.ExactDict/\o.data=.dict es n/\EW P T h l es.toList/\(l.map (·.1)).Nodup
 | .ns m=>∃o es n,h.get? a=some o/\o.data=.dict es n/\Hh T h m es.toList
 | .fr m=>∃f,h.Ns a f/\∀x:String,LO T h (look m x) (f (Ai x))
 | .cell v=>∃v',h.IsCell a v'/\LO T h v v'
 | .inst C d=>h.get? a=some ⟨.ref C,some d,.plain,#[]⟩
structure Cx where
 K:Frag
 prog:Program
 w:World
 h₀:Heap
 os:OsState
def tk(ρ:Addr->Prop)(U:u)(a:Addr):Prop:=U a≠none\/ρ a
variable(c:Cx)
structure Rep(ρ:Addr->Prop)(U:u)(s:Shared):Prop where
 keep:∀b o,c.h₀.get? b=some o->s.heap.get? b=some o
 obj:∀a o,U a=some o->m7 c.w.params (tk ρ U) s.heap a o/\c.h₀.get? a=none
 res:∀a,ρ a->U a=none/\∃o,s.heap.get? a=some o
 gens:s.gens= #[]
 os:s.os=c.os
structure Bp(U:u)(s:Shared)(Ac:u)(s':Shared):Prop where
 grow:∀b o,s.heap.get? b=some o->U b=none->s'.heap.get? b=some o
 fresh:∀b o,s.heap.get? b=some o->U b=none->Ac b=none
theorem Bp.refl(U:u)(s:Shared):Bp U s U s:=⟨fun Z Z h Z=>h,fun Z Z Z h=>h⟩
theorem Bp.trans(a:Bp U s Ab Ak)(b:Bp Ab Ak Ah Aw):Bp U s Ah Aw:=
 ⟨fun x o h n=>b.grow x o (a.grow x o h n) (a.fresh x o h n),fun x o h n=>b.fresh x o (a.grow x o h n) (a.fresh x o h n)⟩
theorem Bp.drop{U Ab Ah:u}{s Ak:Shared}(a:Bp U s Ab Ak)(d:Ah.le Ab):Bp U s Ah Ak:=
 ⟨a.grow,fun x o h n=>u.le_none d (a.fresh x o h n)⟩
theorem Bp.of_keep(k:∀b o,s.heap.get? b=some o->Ak.heap.get? b=some o):Bp U s U Ak:=⟨fun b o h Z=>k b o h,fun Z Z Z n=>n⟩
theorem m7.some{P:Params}(r:m7 P T h a o):∃y,h.get? a=some y/\∀vs n,y.cls=.type "tuple" ->y.data=.seq vs n->False:=by
 cases o with
 |list l=>refine An r fun vs Ci Z=>?_;clear r;refine Ax Ci fun n e=>?_;clear Ci;exact⟨_,e,fun Z Z z Z=>by simp at z⟩
 |dict l=>refine HN r fun o es n e k Z=>?_;clear r;exact⟨_,e,fun Z Z z Z=>by rw[k.1]at z;simp at z⟩
 |ns m=>refine HN r fun o es n e d Z=>?_;clear r;exact⟨_,e,fun Z Z Z z=>by rw[d]at z;cases z⟩
 |fr m=>refine An r fun f CR Z=>?_;clear r;refine HN CR fun o es n e d Z=>?_;clear CR;exact⟨_,e,fun Z Z Z z=>by rw[d]at z;cases z⟩
 |cell v=>refine An r fun v' DH Z=>?_;clear r;refine An DH fun o e d=>?_;clear DH;exact⟨_,e,fun Z Z Z z=>by rw[d]at z;cases z⟩
 |inst C d=>exact⟨_,r,fun Z Z z Z=>by simp at z⟩
section
def Keeps(U:Addr->Prop)(h:Heap)(Ac:Addr->Prop)(h':Heap):Prop:=
 (∀a vs,IsT h a vs->IsT h' a vs)/\
 ∀a vs,¬U a->IsL h a vs->¬Ac a/\IsL h' a vs
theorem VR.mono(k:Keeps U h Ac h'):∀{x:V} {v:Value},VR U h x v->VR Ac h' x v:=fun{x}=>by
 refine V.rec (motive_1:=fun x=>∀{v:Value},VR U h x v->VR Ac h' x v) (motive_2:=fun l=>∀{vs:List Value},AX U h l vs->AX Ac h' l vs) (fun Z Z r=>r) (fun Z Z r=>r) (fun l ih v r=>?_) (fun l ih v r=>?_) (fun Z Z r=>r) (fun r=>r) (fun x l a b vs r=>?_) x
 ·refine Bc r ?_;clear r;intro a vs e g r;exact⟨a,vs,e,k.1 _ _ g,ih r⟩
 ·refine DC r ?_;clear r;intro a vs e z g r;exact⟨a,vs,e,(k.2 _ _ z g).1,(k.2 _ _ z g).2,ih r⟩
 ·refine Bc r ?_;clear r;intro v r e q t;exact⟨v,r,e,a q,b t⟩
theorem AX.mono(k:Keeps U h Ac h'):∀{vs:List Value},AX U h l vs->AX Ac h' l vs:=by
 induction l with
 |nil=>exact fun r=>r
 |cons x l ih=>intro vs r;refine Bc r ?_;clear r;intro v r e q t;exact⟨v,r,e,q.mono k,ih t⟩
theorem LO.mono(k:Keeps U h Ac h')(r:LO U h x v):LO Ac h' x v:=by
 cases x with
 |none=>exact r
 |some x=>refine An r ?_;clear r;intro y e r;exact⟨y,e,r.mono k⟩
theorem EW.mono{P:Params}(k:Keeps U h Ac h')(r:EW P U h l es):EW P Ac h' l es:=aj.mono (fun Z Z d=>⟨d.hash,d.key.mono k,d.val.mono k⟩) r
theorem Hh.mono(k:Keeps U h Ac h')(r:Hh U h l es):Hh Ac h' l es:=aj.mono (fun Z Z d=>⟨d.key,d.val.mono k⟩) r
theorem m7.mono{P:Params}(k:Keeps U h Ac h')(g:h'.get? a=h.get? a)(r:m7 P U h a o):m7 P Ac h' a o:=by
 cases o with
 |list l=>refine An r ?_;clear r;intro vs e r;exact⟨vs,e.keep fun Z q=>g.trans q,r.mono k⟩
 |dict l=>refine Kw r ?_;clear r;intro o es n e q d r nd;exact⟨o,es,n,g.trans e,q,d,EW.mono k r,nd⟩
 |ns m=>refine HN r ?_;clear r;intro o es n e d r;exact⟨o,es,n,g.trans e,d,Hh.mono k r⟩
 |fr m=>refine An r fun f D5 q=>?_;clear r;refine LN D5 fun o es n e r=>?_;clear D5;exact⟨f,⟨o,es,n,g.trans e,r⟩,fun x=>(q x).mono k⟩
 |cell v=>refine An r ?_;clear r;intro v' Es r;refine An Es fun o e d=>?_;clear Es;exact⟨v',⟨o,g.trans e,d⟩,r.mono k⟩
 |inst C d=>exact g.trans r
end
theorem lh(h:¬tk ρ U a):U a=none:=by
 cases q:U a with
 |none=>rfl
 |some o=>exact absurd (.inl (by refine J q ?_;simp)) h
theorem bh(k:U a=none->Ac a=none)(h:¬tk ρ U a):¬tk ρ Ac a:=fun t=>t.elim (fun e=>e (k (lh h))) fun r=>h (.inr r)
section
variable{c}
theorem Rep.tup(R:Rep c ρ U s)(g:IsT s.heap a vs):U a=none:=by
 cases q:U a with
 |none=>rfl
 |some o=>
  refine An ((R.obj a o q).1.some) fun y hy ne=>Ax g fun n e=>?_;clear g;rw[e]at hy;cases hy;exact(ne vs n rfl rfl).elim
theorem Rep.keeps(R:Rep c ρ U s)(S:Bp U s Ac s'):Keeps (tk ρ U) s.heap (tk ρ Ac) s'.heap:=
 ⟨fun a vs g=>g.keep fun Z e=>S.grow a _ e (R.tup g),fun a vs z g=>⟨let⟨n,e⟩:=g;bh (S.fresh a _ e) z,g.keep fun o e=>S.grow a o e (lh z)⟩⟩
theorem VR.CG(R:Rep c ρ U s)(S:Bp U s Ac s')(r:VR (tk ρ U) s.heap x v):VR (tk ρ Ac) s'.heap x v:=r.mono (R.keeps S)
theorem AX.CG(R:Rep c ρ U s)(S:Bp U s Ac s')(r:AX (tk ρ U) s.heap x v):AX (tk ρ Ac) s'.heap x v:=r.mono (R.keeps S)
theorem Rep.lt(R:Rep c ρ U s)(q:U a=some o):a<s.heap.objs.size:=let⟨_,hy,_⟩:=(R.obj a o q).1.some;DG hy
theorem Rep.new(R:Rep c ρ U s):U s.heap.objs.size=none:=by
 cases q:U s.heap.objs.size with
 |none=>rfl
 |some o=>exact Ba (R.lt q) (Gk _)
theorem Rep.FK(R:Rep c ρ U s):¬tk ρ U s.heap.objs.size:=fun t=>t.elim (fun e=>e R.new) fun r=>by obtain⟨_,o,e⟩:=R.res _ r;exact Ba (DG e) (Gk _)
theorem Rep.CH(R:Rep c ρ U s):c.h₀.get? s.heap.objs.size=none:=by
 cases q:c.h₀.get? s.heap.objs.size with
 |none=>rfl
 |some o=>exact Ba (DG (R.keep _ _ q)) (Gk _)
theorem Rep.drop(R:Rep c ρ U s)(d:Ac.le U):Rep c ρ Ac s:=by refine⟨R.keep,fun a o q=>?_,fun a r=>⟨u.le_none d (R.res a r).1,(R.res a r).2⟩,R.gens,R.os⟩;have:=R.obj a o (d a o q);exact⟨this.1.mono ⟨fun Z Z e=>e,fun a o z e=>⟨bh (u.le_none d) z,e⟩⟩ rfl,this.2⟩
theorem Rep.grown(R:Rep c ρ U s)(k:∀b o,s.heap.get? b=some o->s'.heap.get? b=some o)(g:s'.gens=s.gens)(o:s'.os=s.os):Rep c ρ U s':=by refine⟨fun b o e=>k b o (R.keep b o e),fun a o q=>?_,fun a r=>⟨(R.res a r).1,let⟨o,e⟩:=(R.res a r).2;⟨o,k _ _ e⟩⟩,g.trans R.gens,o.trans R.os⟩;have r:=R.obj a o q;exact An r.1.some fun y hy Z=>⟨r.1.mono ⟨fun a vs e=>e.keep fun Z=>k _ _,fun a vs z e=>⟨z,e.keep fun Z=>k _ _⟩⟩ ((k _ _ hy).trans hy.symm),r.2⟩
theorem Rep.other(R:Rep c ρ U s){P:Addr->Prop}(z:∀a,P a->U a=none)(hn:∀a,P a->c.h₀.get? a=none)(k:∀b o,¬P b->s.heap.get? b=some o->s'.heap.get? b=some o)(nt:∀a,P a->∀vs,¬IsT s.heap a vs)(nl:∀a,P a->∀vs,¬IsL s.heap a vs)
  (fr:∀a,P a->¬ρ a) (g:s'.gens=s.gens) (o:s'.os=s.os):Rep c ρ U s':=by
 have KK:Keeps (tk ρ U) s.heap (tk ρ U) s'.heap:=⟨fun b vs e=>e.keep fun o=>k b o (fun p=>nt b p _ e),fun b vs z e=>⟨z,e.keep fun o=>k b o (fun p=>nl b p _ e)⟩⟩
 refine⟨fun b o e=>k b o (fun p=>by rw[hn b p]at e;cases e) (R.keep b o e),fun b o q=>?_,fun b r=>⟨(R.res b r).1,?_⟩,g.trans R.gens,o.trans R.os⟩
 ·have r:=R.obj b o q
  refine An r.1.some fun y hy Z=>?_;have hb:¬P b:=fun p=>by rw[z b p]at q;cases q
  exact⟨r.1.mono KK ((k _ _ hb hy).trans hy.symm),r.2⟩
 ·by_cases e:P b
  ·exact Ba r (fr b e)
  ·exact Ax ((R.res b r).2) fun o h=>⟨o,k _ _ e h⟩
theorem Rep.alloc(R:Rep c ρ U s)(z:U a=none)(k:∀b o,s.heap.get? b=some o->s'.heap.get? b=some o)(hn:s.heap.get? a=none)(h₀:c.h₀.get? a=none)
  (ho:m7 c.w.params (tk ρ (U.set a o)) s'.heap a o) (g:s'.gens=s.gens) (os:s'.os=s.os):Rep c ρ (U.set a o) s'/\Bp U s (U.set a o) s':=by
 have K:Keeps (tk ρ U) s.heap (tk ρ (U.set a o)) s'.heap:=⟨fun a vs e=>e.keep fun Z=>k _ _,fun b vs z' e=>⟨bh (fun z'=>by refine J (u.Ad _ _ (by intro FL;subst FL;obtain⟨n,e⟩:=e;rw[hn]at e;cases e)) ?_;exact z') z',e.keep fun Z=>k _ _⟩⟩
 refine⟨⟨fun b o e=>k b o (R.keep b o e),fun b o' q=>?_,fun b r=>⟨by refine J (u.Ad _ _ (by intro Hi;subst Hi;obtain⟨_,o,e⟩:=R.res _ r;rw[hn]at e;cases e)) ?_;exact(R.res b r).1,let⟨o,e⟩:=(R.res b r).2;⟨o,k _ _ e⟩⟩,g.trans R.gens,os.trans R.os⟩,⟨fun b o h Z=>k b o h,fun b o' h n=>by refine J (u.Ad _ _ (by intro Ia;subst Ia;rw[hn]at h;cases h)) ?_;exact n⟩⟩
 by_cases e:b=a
 ·subst e;rw[u.set_same]at q;cases q;exact⟨ho,h₀⟩
 ·rw[u.Ad _ _ e]at q
  have r:=R.obj b o' q;exact An r.1.some fun y hy Z=>⟨r.1.mono K ((k _ _ hy).trans hy.symm),r.2⟩
theorem Rep.upd(R:Rep c ρ U s)(CZ:U a=some NF)(sb:Heap.SameBut a s.heap s'.heap)
  (ho:Keeps (tk ρ U) s.heap (tk ρ (U.set a o)) s'.heap->m7 c.w.params (tk ρ (U.set a o)) s'.heap a o) (g:s'.gens=s.gens) (os:s'.os=s.os):Rep c ρ (U.set a o) s'/\Bp U s (U.set a o) s':=by
 have ne:∀b,U b=none->b≠a:=fun b z e=>by subst e;rw[CZ]at z;cases z
 have K:Keeps (tk ρ U) s.heap (tk ρ (U.set a o)) s'.heap:=⟨fun b vs e=>e.keep fun Z=>(sb.2 _ (ne b (R.tup e))).trans,fun b vs z' e=>⟨bh (fun z'=>by refine J (u.Ad _ _ (ne b z')) ?_;exact z') z',e.keep fun Z=>(sb.2 _ (ne b (lh z'))).trans⟩⟩
 refine⟨⟨fun b o e=>?_,fun b o' q=>?_,fun b r=>⟨by refine J (u.Ad _ _ (ne b (R.res b r).1)) ?_;exact(R.res b r).1,let⟨o,e⟩:=(R.res b r).2;⟨o,(sb.2 _ (ne b (R.res b r).1)).trans e⟩⟩,g.trans R.gens,os.trans R.os⟩,⟨fun b o h z=>(sb.2 _ (ne b z)).trans h,fun b o' h n=>by refine J (u.Ad _ _ (ne b n)) ?_;exact n⟩⟩
 ·have:b≠a:=by intro NG;subst NG;rw[(R.obj b NF CZ).2]at e;cases e
  exact(sb.2 b this).trans (R.keep b o e)
 ·by_cases e:b=a
  ·subst e;rw[u.set_same]at q;cases q;exact⟨ho K,(R.obj b NF CZ).2⟩
  ·rw[u.Ad _ _ e]at q
   have r:=R.obj b o' q;exact⟨r.1.mono K (sb.2 b e),r.2⟩
end
abbrev Ca:Value->Shared->Prop:=fun Z Z=>False
inductive Gw(ρ:Addr->Prop)(U:u)(s:Shared)(Q:V->u->Prop)(v:Value)(s':Shared):Prop
 |mk (x:V) (Ac:u) (a:Rep c ρ Ac s') (b:Bp U s Ac s') (d:VR (tk ρ Ac) s'.heap x v) (q:Q x Ac)
def TV(A:Around)(t:Sem Value)(Q:V->u->Prop)(U:u):Prop:=∀⦃ρ⦄ s,Rep c ρ U s->wpAny (model c.prog c.w) A t (Gw c ρ U s Q) Ca s
abbrev EV(A:Around)(e:Expr)(env:Env)(Q:V->u->Prop)(U:u):Prop:=TV c A (eval e env) Q U
inductive fp{α:Type}(ρ:Addr->Prop)(U:u)(s:Shared)(Q:α->u->Prop)(v:α)(s':Shared):Prop
 |mk (Ac:u) (a:Rep c ρ Ac s') (b:Bp U s Ac s') (q:Q v Ac)
def TU{α:Type}(A:Around)(t:Sem α)(Q:α->u->Prop)(U:u):Prop:=∀⦃ρ⦄ s,Rep c ρ U s->wpAny (model c.prog c.w) A t (fp c ρ U s Q) Ca s
inductive Fl where
 |next|ret (x:V)
def Tb(U:Addr->Prop)(h:Heap):Fl->Flow->Prop
 | .next,f=>f=.next
 | .ret x,f=>∃v,f=.ret v/\VR U h x v
inductive qz(ρ:Addr->Prop)(U:u)(s:Shared)(Q:Fl->u->Prop)(f:Flow)(s':Shared):Prop
 |mk (x:Fl) (Ac:u) (a:Rep c ρ Ac s') (b:Bp U s Ac s') (d:Tb (tk ρ Ac) s'.heap x f) (q:Q x Ac)
def TF(A:Around)(t:Sem Flow)(Q:Fl->u->Prop)(U:u):Prop:=∀⦃ρ⦄ s,Rep c ρ U s->wpAny (model c.prog c.w) A t (qz c ρ U s Q) Ca s
abbrev EX(A:Around)(st:Stmt)(env:Env)(Q:Fl->u->Prop)(U:u):Prop:=TF c A (exec st env) Q U
abbrev Ib(A:Around)(st:List Stmt)(env:Env)(Q:Fl->u->Prop)(U:u):Prop:=TF c A (execs st env) Q U
def O2(A:Around)(t:Value->Value->Sem Value)(x y:V)(Q:V->u->Prop)(U:u):Prop:=
 ∀⦃ρ⦄ s v Aa,Rep c ρ U s->VR (tk ρ U) s.heap x v->VR (tk ρ U) s.heap y Aa->wpAny (model c.prog c.w) A (t v Aa) (Gw c ρ U s Q) Ca s
def OL(A:Around)(t:List Value->Sem Value)(xs:List V)(Q:V->u->Prop)(U:u):Prop:=
 ∀⦃ρ⦄ s vs,Rep c ρ U s->AX (tk ρ U) s.heap xs vs->wpAny (model c.prog c.w) A (t vs) (Gw c ρ U s Q) Ca s
abbrev a6(A:Around)(f:Value)(xs:List V)(Q:V->u->Prop)(U:u):Prop:=OL c A (fun vs=>call f vs) xs Q U
theorem VR.le{ρ:Addr->Prop}{Ab Ah:u}(d:Ah.le Ab){h:Heap}{x:V}{v:Value}(r:VR (tk ρ Ab) h x v):VR (tk ρ Ah) h x v:=r.mono ⟨fun Z Z e=>e,fun Z Z z e=>⟨bh (u.le_none d) z,e⟩⟩
section
variable{c}
theorem Gw.mono(h:∀x Ac,Q x Ac->Q' x Ac)(p:Gw c ρ U s Q v s'):Gw c ρ U s Q' v s':=let⟨x,Ac,a,b,d,q⟩:=p;⟨x,Ac,a,b,d,h x Ac q⟩
theorem TV.mono(x:TV c A t Q U)(h:∀x Ac,Q x Ac->Q' x Ac):TV c A t Q' U:=fun ρ s R=>BE (x s R) (fun Z Z p=>p.mono h) fun Z Z e=>e
theorem OL.mono(x:OL c A t xs Q U)(h:∀x Ac,Q x Ac->Q' x Ac):OL c A t xs Q' U:=fun ρ s vs R r=>BE (x s vs R r) (fun Z Z p=>p.mono h) fun Z Z e=>e
theorem Gw.after(S:Bp U s Ab Ak)(p:Gw c ρ Ab Ak Q v s'):Gw c ρ U s Q v s':=let⟨x,Ac,a,b,d,q⟩:=p;⟨x,Ac,a,S.trans b,d,q⟩
end
end
section
section
theorem aq:VR U h (.int i) (.int i t):=⟨t,rfl⟩
theorem on:VR U h (.str x) (.str x t):=⟨t,rfl⟩
theorem aW:VR U h (.ex v) v:=rfl
theorem dH(t:IsT h a vs)(r:AX U h l vs.toList):VR U h (.tup l) (.ref a):=⟨a,vs,rfl,t,r⟩
theorem bm(z:¬U a)(t:IsL h a vs)(r:AX U h l vs.toList):VR U h (.lst l) (.ref a):=⟨a,vs,rfl,z,t,r⟩
theorem Ag(r:VR U h (.int i) v):∃t,v=.int i t:=r
theorem Av(r:VR U h (.str i) v):∃t,v=.str i t:=r
theorem aG(r:VR U h (.ex i) v):v=i:=r
theorem aL(r:VR U h (.tup l) v):∃a vs,v=.ref a/\IsT h a vs/\AX U h l vs.toList:=r
theorem aV(r:VR U h (.lst l) v):∃a vs,v=.ref a/\¬U a/\IsL h a vs/\AX U h l vs.toList:=r
theorem Bn:AX U h [] []:=rfl
theorem A6(a:VR U h x v)(b:AX U h l r):AX U h (x::l) (v::r):=⟨v,r,rfl,a,b⟩
theorem Aj(r:AX U h [] vs):vs=[]:=r
theorem Ae(r:AX U h (x::l) vs):∃v q,vs=v::q/\VR U h x v/\AX U h l q:=r
theorem eU(a:VR U h x v):AX U h [x] [v]:=A6 a Bn
theorem AX.a2:∀{vs:List Value},AX U h l vs->aj (VR U h) l vs:=by
 induction l with
 |nil=>intro vs r;exact J (Aj r) .nil
 |cons x l ih=>intro vs r;refine Bc (Ae r) fun v q Bg a b=>?_;exact J Bg (.cons a (ih b))
theorem aj.NH(r:aj (VR U h) l vs):AX U h l vs:=by
 induction r with
 |nil=>exact Bn
 |cons a b ih=>exact A6 a ih
theorem AX.length(r:AX U h l vs):vs.length=l.length:=r.a2.length
theorem AX.append(r:AX U h l vs)(q:AX U h m ws):AX U h (l++m) (vs++ws):=(r.a2.append q.a2).NH
theorem AX.get(r:AX U h l vs){i:Nat}(e:l[i]? =some x):∃v,vs[i]? =some v/\VR U h x v:=r.a2.get e
theorem AX.Ky(n:Nat)(r:AX U h l vs):AX U h (l.take n) (vs.take n):=by
 induction n generalizing l vs with
 |zero=>exact Bn
 |succ n ih=>
  cases r.a2 with
  |nil=>exact Bn
  |cons a b=>exact A6 a (ih b.NH)
theorem AX.FN(r:AX U h l vs):AX U h l.reverse vs.reverse:=by
 have r:=r.a2
 induction r with
 |nil=>exact Bn
 |cons a b ih=>exact J ME (J ME ((ih b.NH).append (eU a)))
end
section
variable{A:Around}{U:u}{Q Q':V->u->Prop}{s s₀:Shared}{E:Value->Shared->Prop}
theorem TV.run{P:Value->Shared->Prop}(x:TV c A t Q U)(R:Rep c ρ U s)(k:∀v Ak y Ab,Rep c ρ Ab Ak->Bp U s Ab Ak->VR (tk ρ Ab) Ak.heap y v->Q y Ab->P v Ak):
  wpAny (model c.prog c.w) A t P E s:=BE (x s R) (fun v Ak p=>by cases p with|mk y Ab a b d q=>exact k v Ak y Ab a b d q) fun Z Z e=>e.elim
theorem TU.run{α:Type}{t:Sem α}{Q:α->u->Prop}{P:α->Shared->Prop}(x:TU c A t Q U)(R:Rep c ρ U s)(k:∀v Ak Ab,Rep c ρ Ab Ak->Bp U s Ab Ak->Q v Ab->P v Ak):
  wpAny (model c.prog c.w) A t P E s:=BE (x s R) (fun v Ak p=>by cases p with|mk Ab a b q=>exact k v Ak Ab a b q) fun Z Z e=>e.elim
theorem TF.run{Q:Fl->u->Prop}{P:Flow->Shared->Prop}(x:TF c A t Q U)(R:Rep c ρ U s)(k:∀v Ak y Ab,Rep c ρ Ab Ak->Bp U s Ab Ak->Tb (tk ρ Ab) Ak.heap y v->Q y Ab->P v Ak):
  wpAny (model c.prog c.w) A t P E s:=BE (x s R) (fun v Ak p=>by cases p with|mk y Ab a b d q=>exact k v Ak y Ab a b d q) fun Z Z e=>e.elim
theorem fp.run{α:Type}{t:Sem α}{Q:α->u->Prop}{P:α->Shared->Prop}(x:wpAny (model c.prog c.w) A t (fp c ρ U s Q) Ca s₀)(k:∀v Ak Ab,Rep c ρ Ab Ak->Bp U s Ab Ak->Q v Ab->P v Ak):
  wpAny (model c.prog c.w) A t P E s₀:=BE x (fun v Ak p=>by induction p with|mk Ab a b q=>exact k v Ak Ab a b q) fun Z Z e=>e.elim
theorem Rep.Dk(R:Rep c ρ U s)(r:VR (tk ρ U) s.heap y v)(q:Q y U):Gw c ρ U s Q v s:=⟨y,U,R,.refl U s,r,q⟩
theorem Rep.toks(R:Rep c ρ U s)(n:Nat):Rep c ρ U {s with toks:=n}:=⟨R.keep,R.obj,R.res,R.gens,R.os⟩
theorem Rep.AO(R:Rep c ρ U s)(n:Nat)(r:VR (tk ρ U) s.heap y v)(q:Q y U):Gw c ρ U s Q v {s with toks:=n}:=⟨y,U,R.toks n,⟨fun Z Z h Z=>h,fun Z Z Z h=>h⟩,r,q⟩
theorem Rep.push(R:Rep c ρ U s)(o:Obj):Rep c ρ U {s with heap:=s.heap.push o}:=R.grown (fun Z Z e=>Cg _ e) rfl rfl
theorem Bp.push(o:Obj):Bp U s U {s with heap:=s.heap.push o}:=.of_keep fun Z Z e=>Cg _ e
theorem Keeps.push(o:Obj):Keeps (tk ρ U) s.heap (tk ρ U) (s.heap.push o):=⟨fun Z Z e=>e.keep fun Z=>Cg _,fun Z Z z e=>⟨z,e.keep fun Z=>Cg _⟩⟩
theorem ai{h:Heap}:h.get? h.objs.size=none:=by
 cases q:h.get? h.objs.size with
 |none=>rfl
 |some o=>exact Ba (DG q) (Gk _)
end
section
theorem ij(q:Q (.int i) U):EV c A (.Constant (.int i) k pos) env Q U:=fun ρ s R=>wpAny_Constant_int (R.AO _ aq q)
theorem xc(q:Q (.str x) U):EV c A (.Constant (.str x) k pos) env Q U:=fun ρ s R=>wpAny_Constant_str (R.AO _ on q)
theorem vb(q:Q (.ex (.bool b)) U):EV c A (.Constant (.bool b) k pos) env Q U:=fun ρ s R=>wpAny_Constant_bool (R.Dk aW q)
theorem wR(q:Q (.ex .none) U):EV c A (.Constant .none k pos) env Q U:=fun ρ s R=>wpAny_Constant_none (R.Dk aW q)
theorem pW(hk:env.scope.kind=.function)(hl:env.kindOf (Ai x)=some .local)(hf:U env.locals=some (.fr m))(hv:look m x=some v)(q:Q v U):
  TV c A (loadName env (Ai x)) Q U:=fun ρ s R=>by
 refine An ((R.obj _ _ hf).1) fun f hn hx=>?_;have:=hx x;rw[hv]at this;refine An this fun y e r=>?_;clear this;exact wpAny_loadName_local hk hl hn e (R.Dk r q)
theorem sn(hL:env.locals=L)(hk:env.scope.kind=.function)(hl:env.kindOf (Ai x)=some .local)(hf:U L=some (.fr m))(hv:look m x=some v)(q:Q v U)
  (hd:(Ai x==("__debug__" :Str))=false):EV c A (.Name (Ai x) pos) env Q U:=fun ρ s R=>wpAny_Name (pW hk hl (J hL hf) hv q s R) hd
theorem vf(hk:env.scope.kind=.function)(hl:env.kindOf x=some .cell\/env.kindOf x=some .free)(hc:env.cells.lookup x=some a)(hf:U a=some (.cell (some v)))(q:Q v U)
  (hd:(x==("__debug__" :Str))=false) (hn:(x==("__classdict__" :Str))=false):EV c A (.Name x pos) env Q U:=fun ρ s R=>by
 refine An ((R.obj _ _ hf).1) fun v' hv CS=>An CS fun y e r=>?_;clear CS;subst e
 rcases hl with hl|hl
 ·exact wpAny_Name (wpAny_loadName_cell hk hl hc hv (R.Dk r q)) hd
 ·exact wpAny_Name (wpAny_loadName_free hk hl hc hv (R.Dk r q) hn) hd
theorem so(h:EV c A l env (fun x Ab=>EV c A r env (fun y Ah=>O2 c A (binaryOp op) x y Q Ah) Ab) U):EV c A (.BinOp l op r pos) env Q U:=fun ρ s R=>
 wpAny_BinOp (h.run R fun a Ak x Ab Aq Au BH CZ=>CZ.run Aq fun b Aw y Ah AV AP By BI=>BE (BI Aw a b AV (BH.CG Aq AP) By) (fun Z Z p=>p.after (Au.trans AP)) fun Z Z e=>e)
theorem pL(h:EV c A l env (fun x Ab=>EV c A r env (fun y Ah=>O2 c A (compareOp op) x y Q Ah) Ab) U)(hm:behindInMarks op r=false):
  EV c A (.Compare l [op] [r] pos) env Q U:=fun ρ s R=>
 wpAny_Compare1 (h.run R fun a Ak x Ab Aq Au BH CZ=>CZ.run Aq fun b Aw y Ah AV AP By BI=>BE (BI Aw a b AV (BH.CG Aq AP) By) (fun Z Z p=>p.after (Au.trans AP)) fun Z Z e=>e) hm
end
end
section
structure Cx.Ok(c:Cx):Prop where
 K:c.K.In c.h₀
 lim:c.h₀.NoLimit
 sys:∃o,c.h₀.get? sysModules=some o
 glob:∃mg mb,c.h₀.Ns mainGlobals mg/\c.h₀.Ns builtinsNs mb/\∀x:Str,x≠ "__name__" ->mb x=bootBuiltins x
variable{c:Cx}{ρ:Addr->Prop}
theorem Rep.K(O:c.Ok)(R:Rep c ρ U s):c.K.In s.heap:=fun a o e=>R.keep _ _ (O.K a o e)
theorem Rep.lim(O:c.Ok)(R:Rep c ρ U s):s.heap.NoLimit:=O.lim.keeps R.keep
noncomputable def dA(U:u)(a:Nat):List (String×Option V)->u
 |[]=>U
 |p::r=>dA (U.set a (.cell p.2)) (a+1) r
noncomputable def fG(a:Nat):List String->List (Str×Addr)->List (Str×Addr)
 |[],acc=>acc
 |n::r,acc=>fG (a+1) r ((Ai n,a)::acc)
theorem rN:∀{U:u} {a b:Nat},b<a->dA U a cs b=U b:=by
 induction cs with
 |nil=>intro _ _ _ _;rfl
 |cons p r ih=>intro U a b h;exact(ih (EF h)).trans (u.Ad _ _ (Ej h))
theorem Hj:∀{U:u} {a b:Nat} {o:O},(∀b:Nat,a<=b->U b=none)->dA U a cs b=some o->(U b=some o/\b<a)\/∃i p,cs[i]? =some p/\b=a+i/\o=.cell p.2:=by
 induction cs with
 |nil=>intro U a b o hn h;exact .inl ⟨h,Nat.lt_of_not_le fun q=>nomatch (hn b q).symm.trans h⟩
 |cons p r ih=>
  intro U a b o hn h;refine(ih (fun b q=>(u.Ad _ _ (LC (MA q))).trans (hn b (JE q))) h).elim (fun h=>?_) fun h=>?_
  ·by_cases e:b=a
   ·subst e;exact .inr ⟨0,p,rfl,rfl,BC (h.1.symm.trans (u.set_same _ _ _))⟩
   ·exact .inl ⟨(u.Ad _ _ e).symm.trans h.1,DF (QU h.2) e⟩
  ·refine Bc h fun i p' hi hb ho=>?_;clear h
   exact .inr ⟨i+1,p',hi,hb.trans (Lz a i),ho⟩
theorem rM{α β:Type}[BEq α][LawfulBEq α]{l:List (α×β)}{x y:α}{b:β}(h:x≠y):((y,b)::l).lookup x=l.lookup x:=
 H7.trans (by exact J (beq_eq_false_iff_ne.mpr h) rfl)
theorem rQ{α β:Type}[BEq α][LawfulBEq α]{l:List (α×β)}{x:α}{b:β}:((x,b)::l).lookup x=some b:=
 H7.trans (by exact J (beq_self_eq_true _) rfl)
theorem oq{n:Str}{v:Addr}{ns:List String}:∀{a:Nat} {acc:List (Str×Addr)},n∉ns.map Ai->acc.lookup n=some v->(fG a ns acc).lookup n=some v:=by
 induction ns with
 |nil=>intro a acc _ h;exact h
 |cons x r ih=>intro a acc hn h;exact ih (fun q=>hn (DX _ q)) ((rM fun e=>hn (BP.mpr (.inl e))).trans h)
theorem cE{ns:List String}{n:String}:∀{a:Nat} {acc:List (Str×Addr)} {i:Nat},(∀x∈acc,x.1≠Ai n)->(ns.map Ai).Nodup->ns[i]? =some n->(fG a ns acc).lookup (Ai n)=some (a+i):=by
 induction ns with
 |nil=>intro _ _ _ _ _ h;injection h
 |cons m r ih=>
  intro a acc i ha hd h;have hd:=CQ.mp hd
  cases i with
  |zero=>obtain rfl:=BC h;exact oq (ns:=r) hd.1 rQ
  |succ i=>
   refine(ih (acc:=(Ai m,a)::acc) (fun x hx=>?_) hd.2 h).trans (AL some (Lz a i))
   cases hx with
   |head=>exact fun e=>hd.1 (BF.mpr ⟨n,BW h,Eq.symm e⟩)
   |tail _ hx=>exact ha x hx
section
noncomputable def Tc:Fl->V
 | .next=> .ex .none
 | .ret x=>x
structure kX(fd:FuncData)(ps ln cn:List String):Prop where
 cells:∀L:Nat,cellsFrom (L+1) fd.scope.names []=fG (L+1) cn []
 nodup:(cn.map Ai).Nodup
 kinds:∀x∈ps,(x∈ln/\fd.scope.names.lookup (Ai x)=some .local)\/(x∈cn/\x∉ln/\fd.scope.names.lookup (Ai x)=some .cell)
 NI:∀x∈cn,fd.scope.names.lookup (Ai x)=some .cell
 locs:∀x∈ln,x∈ps
 once:(ps.map Ai).Nodup
noncomputable def dj:List String->List V->List (String×V)
 |x::ps,v::vs=>(x,v)::dj ps vs
 |_,_=>[]
noncomputable def BN(U:u)(L:Nat)(ps ln cn:List String)(xs:List V):u:=
 dA (U.set L (.fr (ln.filterMap fun x=>(look (dj ps xs) x).map (x,·)))) (L+1) (cn.map fun x=>(x,look (dj ps xs) x))
end
theorem eF(h:Ai x=Ai y):x=y:=by
 rw[Str.ofString_eq_toList,Str.ofString_eq_toList]at h;have h2:x.toList.map Char.toNat=y.toList.map Char.toNat:=by
  have:=AL (fun s:Str=>s.cps.toList) h
  simpa using this
 have h3:x.toList=y.toList:=(List.map_inj_right fun a b e=>Char.ext (UInt32.toNat_inj.mp e)).mp h2;exact String.toList_inj.mp h3
theorem dC(h:x≠y):Ai x≠Ai y:=fun e=>h (eF e)
theorem dY:∀{xs:List V},x∉ps->look (dj ps xs) x=none:=by
 induction ps with
 |nil=>intro _ _;rfl
 |cons p ps ih=>
  intro xs h
  cases xs with
  |nil=>rfl
  |cons v vs=>exact(AK (fun e=>h (BP.mpr (.inl (Eq.symm e))))).trans (ih fun q=>h (DX _ q))
section
structure ML(T:Str->Prop)(B:List (Str×Value)->(Str->Option Value)->Str->Option Value):Prop where
 nil:∀m,B [] m=m
 yes:∀{n} v r m,T n->B ((n,v)::r) m=B r (fun y=>if y=n then some v else m y)
 no:∀{n} v r m,¬T n->B ((n,v)::r) m=B r m
theorem zb:ML (fun n=>kind n=some .local) (bindL kind):=
 ⟨fun Z=>rfl,fun Z Z Z h=>AL (bindL kind _) (AS h),fun Z Z Z h=>AL (bindL kind _) (AK h)⟩
theorem zo:ML (fun n=>¬kind n=some .local) (bindC kind):=
 ⟨fun Z=>rfl,fun Z Z Z h=>AL (bindC kind _) (AK h),fun Z Z Z h=>AL (bindC kind _) (AS (Decidable.not_not.mp h))⟩
theorem ML.out(b:ML T B){x:String}{ps:List String}:∀{vs:List Value} {m:Str->Option Value},(x∈ps->¬T (Ai x))->B ((ps.map Ai).zip vs) m (Ai x)=m (Ai x):=by
 induction ps with
 |nil=>intro vs m _;exact congrFun (b.nil m) _
 |cons p ps ih=>
  intro vs m h
  cases vs with
  |nil=>exact congrFun (b.nil m) _
  |cons v vs=>
   by_cases k:T (Ai p)
   ·exact(congrFun (b.yes v _ m k) _).trans ((ih fun q=>h (DX _ q)).trans (AK fun e=>h (BP.mpr (.inl (eF e))) (J e k)))
   ·exact(congrFun (b.no v _ m k) _).trans (ih fun q=>h (DX _ q))
theorem ML.in(b:ML T B){x:String}{ps:List String}(t:T (Ai x)):∀{xs:List V} {vs:List Value} {m:Str->Option Value},aj (VR U h) xs vs->xs.length=ps.length->(ps.map Ai).Nodup->x∈ps->
  ∃v y,look (dj ps xs) x=some v/\B ((ps.map Ai).zip vs) m (Ai x)=some y/\VR U h v y:=by
 induction ps with
 |nil=>intro xs vs m r hl hd hx;cases hx
 |cons p ps ih=>
  intro xs vs m r hl hd hx
  cases r with
  |nil=>injection hl
  | @cons w v xs vs a r=>
   have hd:=CQ.mp hd
   by_cases e:p=x
   ·subst e
    exact⟨_,_,AS rfl,(congrFun (b.yes _ _ m t) _).trans ((b.out fun q=>Ba (BF.mpr ⟨_,q,rfl⟩) hd.1).trans (AS rfl)),a⟩
   ·have hx:=(BP.mp hx).resolve_left fun q=>e q.symm
    obtain⟨m',q⟩:∃m',B ((Ai p,v)::(ps.map Ai).zip vs) m=B ((ps.map Ai).zip vs) m':=(Classical.em (T (Ai p))).elim (fun q=>⟨_,b.yes _ _ m q⟩) fun q=>⟨_,b.no _ _ m q⟩
    exact Bc (ih (m:=m') r (JQ hl) hd.2 hx) fun v y e1 e2 e3=>⟨v,y,(AK e).trans e1,(congrFun q _).trans e2,e3⟩
end
theorem dF{z:List (String×V)}{x:String}{ln:List String}:look (ln.filterMap fun x=>(look z x).map (x,·)) x=if x∈ln then look z x else none:=by
 induction ln with
 |nil=>rfl
 |cons l ln ih=>
  have k:∀o:Option V,look z l=o->look ((l::ln).filterMap fun x=>(look z x).map (x,·)) x=look (o.toList.map (l,·)++ln.filterMap fun x=>(look z x).map (x,·)) x:=fun o q=>by refine J Nr (J q (?_));cases o<;>rfl
  by_cases e:l=x
  ·subst e
   refine J (AS EU) ?_
   cases q:look z l with
   |none=>refine(k _ q).trans (ih.trans ?_);exact J q (ite_self _)
   |some v=>exact(k _ q).trans (AS rfl)
  ·refine .trans ?_ (ih.trans (ite_congr (propext ⟨DX _,fun m=>(BP.mp m).resolve_left fun q=>e q.symm⟩) (fun Z=>rfl) fun Z=>rfl))
   cases q:look z l with
   |none=>exact k _ q
   |some v=>exact(k _ q).trans (AK e)
def aR(c:Cx)(A:Around)(f:Value)(xs:List V)(Q:V->u->Prop)(U:u):Prop:=
 ∀⦃ρ⦄ s vs,Rep c ρ U s->AX (tk ρ U) s.heap xs vs->codeAny (model c.prog c.w) A (.call f ⟨vs,[]⟩) (fun r s'=>match r with| .ok (.ret v)=>Gw c ρ U s Q v s'| .ok _=>False| .error e=>Ca e s') s
theorem aR.call(h:aR c A f xs Q U):a6 c A f xs Q U:=fun ρ s vs R r=>wpAny_call (h s vs R r)
section
set_option maxHeartbeats 1000000 in
theorem vQ{fd:FuncData}{a:Addr}{o:Obj}{body:List Stmt}{xs:List V}(ps ln cn:List String)(O:c.Ok)(ho:c.K.lookup a=some o)(hd:o.data=.func fd)(NJ:codeIn c.K fd.code fd.qualname=true)
  (NK:fd.body=.stmts body) (Td:fd.closure=[]) (en:kX fd ps ln cn) (NM:∀vs:List Value,vs.length=ps.length->bindArgs fd ⟨vs,[]⟩=pure ((ps.map Ai).zip vs)) (len:xs.length=ps.length)
  (Ic:A.depth<recursionLimit) (Xe:fd.scope.isCoroutine=false) (Te:fd.scope.isGenerator=false) (hk:fd.scope.kind=.function)
  (h:∀L:Nat,(∀b:Nat,L<=b->U b=none)->Ib c (A.deeper (callEnvC fd L a)) body (callEnvC fd L a) (fun f Ac=>∃Bd,Bd.le Ac/\Q (Tc f) Bd) (BN U L ps ln cn xs)):
  aR c A (.ref a) xs Q U:=fun ρ s vs R r=>by
 have Xf:vs.length=ps.length:=r.length.trans len;have Cb:∀b:Nat,s.heap.objs.size<=b->U b=none:=fun b hb=>by
  cases q:U b with
  |none=>rfl
  |some o=>exact Ba (R.lt q) (H0.mpr hb)
 refine codeAny_call_cells Ic ((R.K O) _ _ ho) hd (R.lim O) (codeRec_of (R.K O) NJ) NK (NM vs Xf) Td ?_ (fun Ak x=>?_) Xe Te hk
 ·refine J (en.cells _) ?_
  intro p hp;refine A5 (List.of_mem_zip hp) fun k hk=>An (BF.mp k) fun n hn e=>Rv e ?_
  rcases en.kinds n hn with⟨_,q⟩|⟨hc,_,q⟩
  ·exact .inl q
  ·exact Ax (H5.mp hc) fun i hi=> .inr ⟨q,by exact J (cE (fun Z z=>Ba z JN) en.nodup hi) rfl⟩
 ·generalize hL:s.heap.objs.size=L at x Cb
  have x':=x;obtain⟨⟨⟨Ar,tn,rfl⟩,ns,keep,_⟩,cell,_,_⟩:=x';have SS:Bp U s (BN U L ps ln cn xs) {s with heap:=Ar,toks:=tn}:=⟨fun b o e Z=>keep b o e,fun b o e z=>?_⟩
  rotate_left
  ·have hb:(b:Nat)<L:=by exact Rv hL (DG e)
   unfold BN;exact J (rN (EF hb)) (J (u.Ad _ _ (Ej hb)) z)
  have rr:AX (tk ρ (BN U L ps ln cn xs)) Ar xs vs:=r.CG R SS;have Rr:∀x:String,(callEnvC fd L a).kindOf (Ai x)=fd.scope.names.lookup (Ai x):=fun Z=>rfl;have RR:Rep c ρ (BN U L ps ln cn xs) {s with heap:=Ar,toks:=tn}:=by
   refine⟨fun b o e=>keep b o (R.keep b o e),fun b o q=>?_,fun b r=>⟨let⟨o,e⟩:=(R.res b r).2;SS.fresh b o e (R.res b r).1,let⟨o,e⟩:=(R.res b r).2;⟨o,keep _ _ e⟩⟩,R.gens,R.os⟩;have KK:Keeps (tk ρ U) s.heap (tk ρ (BN U L ps ln cn xs)) Ar:=R.keeps SS;have h₀:∀b:Nat,L<=b->c.h₀.get? b=none:=fun b hb=>by
    cases q:c.h₀.get? b with
    |none=>rfl
    |some o=>
     have z:b<s.heap.objs.size:=DG (R.keep _ _ q);rw[hL]at z;exact Ba z (H0.mpr hb)
   unfold BN at q
   rcases Hj (fun b hb=>by exact J (u.Ad _ _ (LC (MA hb))) (Cb b (JE hb))) q with⟨q,hl⟩|⟨i,p,hi,hb,Ie⟩
   ·by_cases e:b=L
    ·subst e
     rw[u.set_same]at q;obtain rfl:=BC q;refine⟨⟨_,ns,fun y=>?_⟩,h₀ b (Bf _)⟩;refine J dF ?_
     by_cases hy:y∈ln
     ·refine J (AS hy) ?_
      rcases en.kinds y (en.locs y hy)with⟨_,k⟩|⟨_,n,_⟩
      ·refine Bc ((zb (kind:=(callEnvC fd b a).kindOf)).in (m:=fun Z=>none) k rr.a2 len en.once (en.locs y hy)) fun v Aa e1 e2 e3=>J e1 (J e2 ?_)
       exact⟨Aa,rfl,e3⟩
      ·exact Ba hy n
     ·exact J (AK hy) ((zb (kind:=(callEnvC fd b a).kindOf)).out fun hp q=>(en.kinds y hp).elim (fun n=>hy n.1) fun k=>nomatch k.2.2.symm.trans q)
    ·rw[u.Ad _ _ e]at q
     have rb:=R.obj b o q;exact An rb.1.some fun y hy Z=>⟨rb.1.mono KK ((keep _ _ hy).trans hy.symm),rb.2⟩
   ·subst hb Ie
    rw[Cs]at hi;refine An (El.mp hi) fun n hn C4=>Rv C4 ?_;have hc:(callEnvC fd L a).cells.lookup (Ai n)=some (L+1+i):=by
     show(cellsFrom (L+1) fd.scope.names []).lookup _=_
     exact J (en.cells _) (cE (fun Z z=>Ba z JN) en.nodup hn)
    refine⟨⟨_,cell _ _ hc,?_⟩,h₀ _ (bP D (.a (.a D qW) Y) 1 (c2 _ _) rfl)⟩
    by_cases hp:n∈ps
    ·exact Bc ((zo (kind:=(callEnvC fd L a).kindOf)).in (m:=fun Z=>none) (fun q=>nomatch (en.NI n (BW hn)).symm.trans q) rr.a2 len en.once hp) fun v Aa e1 e2 e3=>J e1 ⟨Aa,e2,e3⟩
    ·exact J (dY hp) ((zo (kind:=(callEnvC fd L a).kindOf)).out fun q=>Ba q hp)
  refine(h L Cb).run RR fun f Aw y Ah AV AP fr q=>An q ?_;clear q;intro Bd d q;refine⟨Tc y,Bd,AV.drop d,(SS.trans AP).drop d,?_,q⟩
  cases y with
  |next=>exact J (show f=.next from fr) aW
  |ret z=>refine An fr ?_;clear fr;intro v e fr;exact J e (fr.le d)
end
structure A7(n:Nat)(A:Around):Prop where
 handled:A.handled=none
 depth:A.depth+n<recursionLimit
 units:A.units+8*n+40<cLine
theorem A7.deeper(h:A7 (n+1) A)(env:Env):A7 n (A.deeper env):=⟨h.handled,by have:=h.depth;show A.depth+1+n<_;exact aA (.a (.a (.a D qW) Y) qW) qY 1 1 (.a (.a D (.a Y qW)) qW) qY (c3 _ _ _) this rfl,by have:=h.units;show A.units+3+8*n+40<_;exact aA (.a (.a (.a (.a D qS) (.m 8 Y)) (.n 40)) qW) qY 1 1 (.a (.a (.a D (.m 8 (.a Y qW))) (.n 40)) qW) qY (c3 _ _ _) this rfl⟩
theorem A7.in1(h:A7 (n+1) A):A7 n A.in1:=⟨h.handled,by have:=h.depth;show A.depth+n<_;exact aA (.a (.a D Y) qW) qY 1 1 (.a (.a D (.a Y qW)) qW) qY (c3 _ _ _) this rfl,by have:=h.units;show A.units+1+8*n+40<_;exact aA (.a (.a (.a (.a D qW) (.m 8 Y)) (.n 40)) qW) qY 1 1 (.a (.a (.a D (.m 8 (.a Y qW))) (.n 40)) qW) qY (c3 _ _ _) this rfl⟩
theorem A7.le(h:A7 m A)(k:n<=m):A7 n A:=⟨h.handled,by have:=h.depth;exact aH (.a (.a D Y) qW) qY 1 1 Y qX 1 (.a (.a D qX) qW) qY (c4 _ _ _ _) k this rfl,by have:=h.units;exact aH (.a (.a (.a D (.m 8 Y)) (.n 40)) qW) qY 1 8 Y qX 1 (.a (.a (.a D (.m 8 qX)) (.n 40)) qW) qY (c4 _ _ _ _) k this rfl⟩
theorem A7.DV(h:A7 n A):A.units+10<cLine:=by have:=h.units;exact aA (.a (.a D qR) qW) Y 1 1 (.a (.a (.a D (.m 8 qY)) (.n 40)) qW) Y (c3 _ _ _) this rfl
theorem A7.d(h:A7 n A):A.depth<recursionLimit:=by have:=h.depth;exact aA (.a D qW) Y 1 1 (.a (.a D qY) qW) Y (c3 _ _ _) this rfl
end
section
set_option backward.match.sparseCases false
noncomputable abbrev pw:Program:=PySem.Challenge.pw_sa0051_01
noncomputable def top(i:Nat):Stmt:=pw.main.body.getD i (.Pass default)
noncomputable def AY(i j:Nat):Stmt:=match top i with
 | .ClassDef _ _ _ b _ _ _ _ _ _ _=>b.getD j (.Pass default)
 |s=>s
noncomputable abbrev N(s:String):Str:=Ai s
noncomputable def E(P:Params)(k:String)(t:Nat)(v:Value):DictEntry:=⟨PyData.keyHash P (Ai k),.str (Ai k) t,v⟩
noncomputable def Xg(st:Stmt)(q m:String)(t:Nat)(cd:Addr):FuncData:=match st with
 | .FunctionDef name args body _ _ _ scope _ _ _=>{name:=name,qualname:=Ai q,params:=args,body:=.stmts body,scope:=scope,globals:=3,closure:=[],defaults:=.none,kwdefaults:=.none,pyModule:=.str (Ai m) t,code:=.ref cd}
 |_=>default
noncomputable def fO(m:String)(j:Nat)(b:Bool)(r t Aa l k:Nat)(n q:String)(st:Stmt)(z:Frag):Frag:=
 have a:=if b then r+5 else r+3
 (a,⟨.type "code",none,.fields #[.str (N n) t,.str (N q) (t+1),.str (N "/claim/cut.py") (t+2),.int l 0,.int k 0,.int 0 0,.int 0 0,.int 3 0,.ref r,.bool true,.int 181 0,.ref (r+1),.none,if b then .ref (r+2)else .none,if b then .ref (r+3)else .none,.ref (a-1),.int Aa 0,.int l 0,.str (N "/claim/cut.py") (Aa+1)],#[]⟩)::
 (a+1,⟨.type "function",none,.func (Xg st q m j a),#[]⟩)::z
noncomputable def kc(e:Addr×Obj)(z:Frag):Frag:=e::z
noncomputable def kA:=fO "alikeheap.terms" 266
noncomputable def kB:=fO "alikeheap.counting" 411
noncomputable def kC:=fO "alikeheap.unions" 532
noncomputable def kD:=fO "alikeheap.heap" 636
noncomputable def kE:=fO "alikeheap.layers" 803
noncomputable def kF:=fO "law_sa0051_01" 1123
noncomputable def K(P:Params):Frag:=
 kc (1,⟨(.type "dict"),none,.dict #[E P "builtins" 162 (.ref 4),
  E P "__main__" 163 (.ref 5)] 2,#[]⟩)<|
 kc (2,⟨.none,none,.dict #[E P "type.__subclasses__.Exception.0" 230 (.int (47) 0),
  E P "type.__subclasses__.Exception.n" 231 (.int (1) 0)] 2,#[]⟩)<|
 kc (3,⟨(.type "dict"),none,.dict #[E P "__name__" 165 (.str (N "law_sa0051_01") 1123),
  E P "__doc__" 166 .none,
  E P "__package__" 167 .none,
  E P "__loader__" 168 (.builtin "__main__.__loader__#opaque"),
  E P "__spec__" 169 .none,
  E P "__annotations__" 170 (.ref 6),
  E P "__builtins__" 171 (.ref 4),
  E P "__file__" 173 (.str (N "/claim/cut.py") 172),
  E P "__cached__" 174 .none,
  E P "_wall" 193 (.ref 21),
  E P "HeapError" 233 (.ref 47),
  E P "TermFault" 249 (.ref 60),
  E P "LimitFault" 265 (.ref 72),
  E P "is_op" 273 (.ref 79),
  E P "parts" 279 (.ref 84),
  E P "Bank" 410 (.ref 186),
  E P "MOST_SIZE" 414 (.int (200) 413),
  E P "Counts" 531 (.ref 275),
  E P "Unions" 635 (.ref 357),
  E P "Heap" 802 (.ref 487),
  E P "BASE" 807 (.int (-1) 806),
  E P "followed" 815 (.ref 498),
  E P "Layers" 1001 (.ref 629),
  E P "View" 1122 (.ref 731),
  E P "_law_pick" 1132 (.ref 742),
  E P "_law_hand" 1138 (.ref 747),
  E P "_law_homes" 1144 (.ref 752),
  E P "_law_many" 1156 (.ref 759),
  E P "_law_counted_right" 1162 (.ref 764),
  E P "_law_node_more" 1168 (.ref 769),
  E P "law" 1192 (.ref 776)] 31,#[]⟩)<|
 kA false 75 268 271 18 1 "is_op" "is_op" (top 6)<|
 kA true 92 292 296 27 1 "__init__" "Bank.__init__" (AY 8 0)<|
 kA true 99 299 303 33 1 "size" "Bank.size" (AY 8 1)<|
 kA false 106 306 309 36 3 "take" "Bank.take" (AY 8 2)<|
 kA true 111 312 317 50 2 "require" "Bank.require" (AY 8 3)<|
 kA true 137 344 349 65 2 "op" "Bank.op" (AY 8 7)<|
 kA true 144 352 357 68 2 "kids" "Bank.kids" (AY 8 8)<|
 kA true 151 360 365 71 2 "node" "Bank.node" (AY 8 9)<|
 kc (185,⟨(.type "dict"),none,.dict #[E P "__module__" 287 (.str (N "alikeheap.terms") 266),
  E P "__firstlineno__" 291 (.int (25) 290),
  E P "__init__" 298 (.ref 98),
  E P "size" 305 (.ref 105),
  E P "take" 311 (.ref 110),
  E P "require" 319 (.ref 117),
  E P "put" 329 (.ref 124),
  E P "put_all" 335 (.ref 129),
  E P "cut" 343 (.ref 136),
  E P "op" 351 (.ref 143),
  E P "kids" 359 (.ref 150),
  E P "node" 367 (.ref 157),
  E P "term" 373 (.ref 162),
  E P "weight" 381 (.ref 169),
  E P "depth" 389 (.ref 176),
  E P "seek" 398 (.ref 183),
  E P "__static_attributes__" 403 (.ref 184),
  E P "__dict__" 405 (.ref 187),
  E P "__weakref__" 407 (.ref 188),
  E P "__doc__" 408 .none] 4,#[]⟩)<|
 kc (186,⟨(.type "type"),none,.cls {name:=N "Bank",bases:=[(.type "object")],mro:=[(.ref 186),(.type "object")],ns:=185,qualname:=N "Bank"},#[none,none,some (.str (N "Bank") 280),some (.str (N "Bank") 288),some (.builtin "object.__new__"),some (.bool true)]⟩)<|
 kB true 198 427 432 98 2 "__init__" "Counts.__init__" (AY 11 0)<|
 kB true 205 435 441 103 2 "renewed" "Counts.renewed" (AY 11 1)<|
 kB true 212 444 450 111 3 "many" "Counts.many" (AY 11 2)<|
 kB false 226 462 465 118 3 "rows" "Counts.rows" (AY 11 4)<|
 kc (274,⟨(.type "dict"),none,.dict #[E P "__module__" 422 (.str (N "alikeheap.counting") 411),
  E P "__firstlineno__" 426 (.int (96) 425),
  E P "__init__" 434 (.ref 204),
  E P "renewed" 443 (.ref 211),
  E P "many" 452 (.ref 218),
  E P "upto" 461 (.ref 225),
  E P "rows" 467 (.ref 230),
  E P "listed" 476 (.ref 237),
  E P "spread" 485 (.ref 244),
  E P "openings" 494 (.ref 251),
  E P "nth" 504 (.ref 258),
  E P "class_of" 512 (.ref 265),
  E P "ranked" 520 (.ref 272),
  E P "__static_attributes__" 524 (.ref 273),
  E P "__dict__" 526 (.ref 276),
  E P "__weakref__" 528 (.ref 277),
  E P "__doc__" 529 .none] 4,#[]⟩)<|
 kc (275,⟨(.type "type"),none,.cls {name:=N "Counts",bases:=[(.type "object")],mro:=[(.ref 275),(.type "object")],ns:=274,qualname:=N "Counts"},#[none,none,some (.str (N "Counts") 415),some (.str (N "Counts") 423),some (.builtin "object.__new__"),some (.bool true)]⟩)<|
 kC true 287 546 550 154 1 "__init__" "Unions.__init__" (AY 13 0)<|
 kC true 294 553 557 159 1 "make" "Unions.make" (AY 13 1)<|
 kC true 301 560 564 164 1 "size" "Unions.size" (AY 13 2)<|
 kC true 308 567 572 167 2 "find" "Unions.find" (AY 13 3)<|
 kC true 315 575 583 172 3 "merge" "Unions.merge" (AY 13 4)<|
 kC true 322 586 591 181 2 "members" "Unions.members" (AY 13 5)<|
 kC false 329 594 597 184 1 "classes" "Unions.classes" (AY 13 6)<|
 kc (356,⟨(.type "dict"),none,.dict #[E P "__module__" 541 (.str (N "alikeheap.unions") 532),
  E P "__firstlineno__" 545 (.int (152) 544),
  E P "__init__" 552 (.ref 293),
  E P "make" 559 (.ref 300),
  E P "size" 566 (.ref 307),
  E P "find" 574 (.ref 314),
  E P "merge" 585 (.ref 321),
  E P "members" 593 (.ref 328),
  E P "classes" 599 (.ref 333),
  E P "log" 606 (.ref 340),
  E P "back" 616 (.ref 347),
  E P "cut" 624 (.ref 354),
  E P "__static_attributes__" 628 (.ref 355),
  E P "__dict__" 630 (.ref 358),
  E P "__weakref__" 632 (.ref 359),
  E P "__doc__" 633 .none] 4,#[]⟩)<|
 kc (357,⟨(.type "type"),none,.cls {name:=N "Unions",bases:=[(.type "object")],mro:=[(.ref 357),(.type "object")],ns:=356,qualname:=N "Unions"},#[none,none,some (.str (N "Unions") 534),some (.str (N "Unions") 542),some (.builtin "object.__new__"),some (.bool true)]⟩)<|
 kD true 369 650 654 201 1 "__init__" "Heap.__init__" (AY 15 0)<|
 kD true 376 657 661 211 1 "size" "Heap.size" (AY 15 1)<|
 kD false 383 664 667 214 2 "node" "Heap.node" (AY 15 2)<|
 kD false 388 670 673 217 3 "add" "Heap.add" (AY 15 3)<|
 kD false 393 676 679 228 2 "put" "Heap.put" (AY 15 4)<|
 kD true 398 682 688 231 2 "look_at" "Heap.look_at" (AY 15 5)<|
 kD true 405 691 696 236 2 "find" "Heap.find" (AY 15 6)<|
 kD true 412 699 705 239 3 "are_like" "Heap.are_like" (AY 15 7)<|
 kD true 419 708 715 242 4 "merge" "Heap.merge" (AY 15 8)<|
 kD true 426 718 728 245 4 "join" "Heap.join" (AY 15 9)<|
 kD true 433 731 735 256 1 "settle" "Heap.settle" (AY 15 10)<|
 kD true 447 745 749 263 1 "classes" "Heap.classes" (AY 15 12)<|
 kD true 454 752 757 266 2 "members" "Heap.members" (AY 15 13)<|
 kD false 461 760 763 269 2 "nodes_of" "Heap.nodes_of" (AY 15 14)<|
 kD false 473 773 776 275 3 "seek" "Heap.seek" (AY 15 16)<|
 kc (486,⟨(.type "dict"),none,.dict #[E P "__module__" 645 (.str (N "alikeheap.heap") 636),
  E P "__firstlineno__" 649 (.int (199) 648),
  E P "__init__" 656 (.ref 375),
  E P "size" 663 (.ref 382),
  E P "node" 669 (.ref 387),
  E P "add" 675 (.ref 392),
  E P "put" 681 (.ref 397),
  E P "look_at" 690 (.ref 404),
  E P "find" 698 (.ref 411),
  E P "are_like" 707 (.ref 418),
  E P "merge" 717 (.ref 425),
  E P "join" 730 (.ref 432),
  E P "settle" 737 (.ref 439),
  E P "is_settled" 744 (.ref 446),
  E P "classes" 751 (.ref 453),
  E P "members" 759 (.ref 460),
  E P "nodes_of" 765 (.ref 465),
  E P "many_nodes" 772 (.ref 472),
  E P "seek" 778 (.ref 477),
  E P "users" 786 (.ref 484),
  E P "__static_attributes__" 795 (.ref 485),
  E P "__dict__" 797 (.ref 488),
  E P "__weakref__" 799 (.ref 489),
  E P "__doc__" 800 .none] 4,#[]⟩)<|
 kc (487,⟨(.type "type"),none,.cls {name:=N "Heap",bases:=[(.type "object")],mro:=[(.ref 487),(.type "object")],ns:=486,qualname:=N "Heap"},#[none,none,some (.str (N "Heap") 638),some (.str (N "Heap") 646),some (.builtin "object.__new__"),some (.bool true)]⟩)<|
 kE true 492 808 813 283 2 "followed" "followed" (top 18)<|
 kE true 506 828 833 289 2 "__init__" "Layers.__init__" (AY 19 0)<|
 kE true 513 836 841 298 2 "want" "Layers.want" (AY 19 1)<|
 kE true 520 844 850 302 2 "assume" "Layers.assume" (AY 19 2)<|
 kE true 527 853 859 312 2 "way_down" "Layers.way_down" (AY 19 3)<|
 kE false 534 862 865 320 2 "over" "Layers.over" (AY 19 4)<|
 kE true 539 868 876 323 3 "find" "Layers.find" (AY 19 5)<|
 kE true 546 879 886 329 4 "are_like" "Layers.are_like" (AY 19 6)<|
 kE true 553 889 896 332 4 "join" "Layers.join" (AY 19 7)<|
 kE false 560 899 902 338 2 "close_once" "Layers.close_once" (AY 19 8)<|
 kE true 565 905 913 346 2 "nodes_within" "Layers.nodes_within" (AY 19 9)<|
 kE false 577 922 925 358 2 "renew" "Layers.renew" (AY 19 11)<|
 kE true 582 928 933 370 1 "settle" "Layers.settle" (AY 19 12)<|
 kE true 589 936 945 375 4 "merge" "Layers.merge" (AY 19 13)<|
 kE false 603 956 959 387 2 "classes" "Layers.classes" (AY 19 15)<|
 kE false 608 962 965 390 3 "members" "Layers.members" (AY 19 16)<|
 kc (628,⟨(.type "dict"),none,.dict #[E P "__module__" 823 (.str (N "alikeheap.layers") 803),
  E P "__firstlineno__" 827 (.int (287) 826),
  E P "__init__" 835 (.ref 512),
  E P "want" 843 (.ref 519),
  E P "assume" 852 (.ref 526),
  E P "way_down" 861 (.ref 533),
  E P "over" 867 (.ref 538),
  E P "find" 878 (.ref 545),
  E P "are_like" 888 (.ref 552),
  E P "join" 898 (.ref 559),
  E P "close_once" 904 (.ref 564),
  E P "nodes_within" 915 (.ref 571),
  E P "stands" 921 (.ref 576),
  E P "renew" 927 (.ref 581),
  E P "settle" 935 (.ref 588),
  E P "merge" 947 (.ref 595),
  E P "drop" 955 (.ref 602),
  E P "classes" 961 (.ref 607),
  E P "members" 967 (.ref 612),
  E P "shared" 976 (.ref 619),
  E P "cases" 986 (.ref 626),
  E P "__static_attributes__" 994 (.ref 627),
  E P "__dict__" 996 (.ref 630),
  E P "__weakref__" 998 (.ref 631),
  E P "__doc__" 999 .none] 4,#[]⟩)<|
 kc (629,⟨(.type "type"),none,.cls {name:=N "Layers",bases:=[(.type "object")],mro:=[(.ref 629),(.type "object")],ns:=628,qualname:=N "Layers"},#[none,none,some (.str (N "Layers") 816),some (.str (N "Layers") 824),some (.builtin "object.__new__"),some (.bool true)]⟩)<|
 kE true 641 1014 1020 401 3 "__init__" "View.__init__" (AY 20 0)<|
 kE true 648 1023 1027 406 1 "edges" "View.edges" (AY 20 1)<|
 kc (655,⟨(.type "property"),none,.fields #[(.ref 654),.none,.none,.none,(.str (N "edges") 1030),(.bool false)],#[]⟩)<|
 kE true 656 1031 1035 410 1 "forest" "View.forest" (AY 20 2)<|
 kc (663,⟨(.type "property"),none,.fields #[(.ref 662),.none,.none,.none,(.str (N "forest") 1038),(.bool false)],#[]⟩)<|
 kE true 664 1039 1043 414 1 "backs" "View.backs" (AY 20 3)<|
 kc (671,⟨(.type "property"),none,.fields #[(.ref 670),.none,.none,.none,(.str (N "backs") 1046),(.bool false)],#[]⟩)<|
 kE true 672 1047 1051 418 1 "size" "View.size" (AY 20 4)<|
 kE true 679 1054 1059 421 2 "find" "View.find" (AY 20 5)<|
 kE true 686 1062 1068 424 3 "are_like" "View.are_like" (AY 20 6)<|
 kE true 693 1071 1075 427 1 "classes" "View.classes" (AY 20 7)<|
 kE true 700 1078 1083 430 2 "members" "View.members" (AY 20 8)<|
 kE false 707 1086 1089 433 2 "node" "View.node" (AY 20 9)<|
 kE false 712 1092 1095 436 2 "nodes_of" "View.nodes_of" (AY 20 10)<|
 kc (730,⟨(.type "dict"),none,.dict #[E P "__module__" 1009 (.str (N "alikeheap.layers") 803),
  E P "__firstlineno__" 1013 (.int (399) 1012),
  E P "__init__" 1022 (.ref 647),
  E P "edges" 1030 (.ref 655),
  E P "forest" 1038 (.ref 663),
  E P "backs" 1046 (.ref 671),
  E P "size" 1053 (.ref 678),
  E P "find" 1061 (.ref 685),
  E P "are_like" 1070 (.ref 692),
  E P "classes" 1077 (.ref 699),
  E P "members" 1085 (.ref 706),
  E P "node" 1091 (.ref 711),
  E P "nodes_of" 1097 (.ref 716),
  E P "seek" 1103 (.ref 721),
  E P "users" 1111 (.ref 728),
  E P "__static_attributes__" 1115 (.ref 729),
  E P "__dict__" 1117 (.ref 732),
  E P "__weakref__" 1119 (.ref 733),
  E P "__doc__" 1120 .none] 4,#[]⟩)<|
 kc (731,⟨(.type "type"),none,.cls {name:=N "View",bases:=[(.type "object")],mro:=[(.ref 731),(.type "object")],ns:=730,qualname:=N "View"},#[none,none,some (.str (N "View") 1002),some (.str (N "View") 1010),some (.builtin "object.__new__"),some (.bool true)]⟩)<|
 kF true 736 1125 1130 447 2 "_law_pick" "_law_pick" (top 22)<|
 kF false 743 1133 1136 453 1 "_law_hand" "_law_hand" (top 23)<|
 kF false 748 1139 1142 456 2 "_law_homes" "_law_homes" (top 24)<|
 kF true 753 1145 1154 468 3 "_law_many" "_law_many" (top 25)<|
 kF false 760 1157 1160 479 4 "_law_counted_right" "_law_counted_right" (top 26)<|
 kF false 765 1163 1166 489 3 "_law_node_more" "_law_node_more" (top 27)<|
 kF true 770 1169 1190 494 1 "law" "law" (top 28)<|[]
noncomputable def as:List Addr:=[1,2,3,78,79,97,98,104,105,109,110,116,117,142,143,149,150,156,157,185,186,203,204,210,211,217,218,229,230,274,275,292,293,299,300,306,307,313,314,320,321,327,328,332,333,356,357,374,375,381,382,386,387,391,392,396,397,403,404,410,411,417,418,424,425,431,432,438,439,452,453,459,460,464,465,476,477,486,487,497,498,511,512,518,519,525,526,532,533,537,538,544,545,551,552,558,559,563,564,570,571,580,581,587,588,594,595,606,607,611,612,628,629,646,647,653,654,655,661,662,663,669,670,671,677,678,684,685,691,692,698,699,705,706,710,711,715,716,730,731,741,742,746,747,751,752,758,759,763,764,768,769,775,776]
end
noncomputable abbrev cx(w:World)(h₀:Heap)(os:OsState):Cx:=⟨K w.params,pw,w,h₀,os⟩
structure WZ where
 w:World
 h₀:Heap
 os:OsState
noncomputable abbrev cz(ω:WZ):Cx:=cx ω.w ω.h₀ ω.os
structure Fn(K:Frag)(a:Addr)(fd:FuncData)(ps ln cn:List String):Prop where
 look:K.lookup a=some ⟨.type "function",none,.func fd,#[]⟩
 code:codeIn K fd.code fd.qualname=true
 Xh:fd.closure=[]
 en:kX fd ps ln cn
 bind:∀vs:List Value,vs.length=ps.length->bindArgs fd ⟨vs,[]⟩=pure ((ps.map Ai).zip vs)
 co:fd.scope.isCoroutine=false
 gen:fd.scope.isGenerator=false
 kind:fd.scope.kind=.function
theorem kG{l:List String}(h:l.Nodup):(l.map Ai).Nodup:=List.Pairwise.map _ (fun a b h=>dC h) h
noncomputable def Tf(fd:FuncData)(ps ln cn:List String):Bool:=ps.all (fun x=>(ln.contains x &&decide (fd.scope.names.lookup (Ai x)=some .local))||(cn.contains x && !ln.contains x &&decide (fd.scope.names.lookup (Ai x)=some .cell))) &&
 cn.all (fun x=>decide (fd.scope.names.lookup (Ai x)=some .cell)) &&ln.all (fun x=>ps.contains x)
theorem rm{fd:FuncData}{ps ln cn:List String}(hc:∀L:Nat,cellsFrom (L+1) fd.scope.names []=fG (L+1) cn [])(n1:cn.Nodup)(n2:ps.Nodup)(h:Tf fd ps ln cn=true):kX fd ps ln cn:=by
 unfold Tf at h;simp only[Bool.and_eq_true,List.all_eq_true,Bool.or_eq_true,List.contains_iff_mem,decide_eq_true_eq,Bool.not_eq_true',List.contains_eq_mem,decide_eq_false_iff_not]at h;obtain⟨⟨h1,h2⟩,h3⟩:=h;refine⟨hc,kG n1,fun x hx=>?_,h2,h3,kG n2⟩
 rcases h1 x hx with⟨a,b⟩|⟨⟨a,b⟩,d⟩
 ·exact .inl ⟨a,b⟩
 ·exact .inr ⟨a,b,d⟩
theorem Fn.run{c:Cx}{A:Around}{U:u}{Q:V->u->Prop}{a:Addr}{fd:FuncData}{ps ln cn:List String}{xs:List V}{body:List Stmt}(F:Fn c.K a fd ps ln cn)(O:c.Ok)(hb:fd.body=.stmts body)(len:xs.length=ps.length)(Ic:A.depth<recursionLimit)
  (h:∀L:Nat,(∀b:Nat,L<=b->U b=none)->Ib c (A.deeper (callEnvC fd L a)) body (callEnvC fd L a) (fun f Ac=>∃Bd,Bd.le Ac/\Q (Tc f) Bd) (BN U L ps ln cn xs)):aR c A (.ref a) xs Q U:=
 vQ ps ln cn O F.look rfl F.code hb F.Xh F.en F.bind len Ic F.co F.gen F.kind h
theorem NN{α:Type}{l:List α}(h:l.length=1):∃a,l=[a]:=by
 match l,h with
 |[a],_=>exact⟨a,rfl⟩
theorem yh{α:Type}{l:List α}{n:Nat}(h:l.length=n+1):∃a r,l=a::r/\r.length=n:=by
 match l,h with
 |a::r,h=>exact⟨a,r,rfl,JQ h⟩
theorem zP{α:Type}{l:List α}(h:l.length=2):∃a b,l=[a,b]:=by obtain⟨a,r,rfl,h2⟩:=yh h;obtain⟨b,rfl⟩:=NN h2;exact⟨a,b,rfl⟩
theorem NO{α:Type}{l:List α}(h:l.length=3):∃a b c,l=[a,b,c]:=by obtain⟨a,r,rfl,h2⟩:=yh h;obtain⟨b,c,rfl⟩:=zP h2;exact⟨a,b,c,rfl⟩
theorem Tg{α:Type}{l:List α}(h:l.length=4):∃a b c d,l=[a,b,c,d]:=by obtain⟨a,r,rfl,h2⟩:=yh h;obtain⟨b,c,d,rfl⟩:=NO h2;exact⟨a,b,c,d,rfl⟩
theorem NP{R:WRecords}{os:OsState}(G:Ground q loose R XP w s₀ mg mb h)(KX:(K w.params).In h):(cx w h os).Ok where
 K:=KX
 lim:=G.T.nolimit
 sys:=⟨_,KX sysModules _ rfl⟩
 glob:=⟨mg,mb,G.T.g,G.T.b,G.T.builtins⟩
theorem Ig(hh:c.h₀=s.heap)(ho:c.os=s.os)(hg:s.gens= #[]):Rep c (fun Z=>False) (fun Z=>none) s where
 keep b o e:=by exact Rv hh e
 obj a o e:=by cases e
 res a e:=e.elim
 gens:=hg
 os:=ho.symm
theorem EY{P:Params}:∀{Be:List Int} {vs:List Value},WellAll P h vs (ofPys (Be.map PyData.int))->AX T h (Be.map .int) vs
 |[],vs,w=>by cases w;rfl
 |i::r,vs,w=>by
  cases w with
  |cons a b=>
   cases a
   exact⟨_,_,rfl,⟨_,rfl⟩,EY b⟩
theorem FO{P:Params}{h:Heap}{T:Addr->Prop}{a:Addr}{Be:List Int}(w:Well P h (.ref a) (ofPy (.list (Be.map PyData.int))))(n:¬T a):AX T h [.lst (Be.map .int)] [.ref a]:=by
 have w':Well P h (.ref a) (.list (ofPys (Be.map PyData.int))):=w
 cases w' with
 |list e r=>exact⟨_,_,rfl,⟨_,_,rfl,n,⟨_,e⟩,EY r⟩,rfl⟩
theorem LP{q:Program}{loose:List Str}{XP:(Str->Option Value)->Heap->Prop}{d:DefRec}(Xi:d.name=Ai "law"){Xj:List (Str×Expr)}{as:List Addr}{e:∀P,as=(K P).map (·.1)}
  (Xk:∀{w:World} {h₀:Heap} {os:OsState},(cx w h₀ os).Ok->∀Be:List Int,Be.length<=63->aR (cx w h₀ os) callerA (.ref 776) [.lst (Be.map .int)] (fun x Z=>x=.ex (.bool true)) (fun Z=>none)):
  WalkO q loose XP (kHook K as e).says PySem.Challenge.rw_sa0051_01.row.toRowW d Xj fun f vs=>PySem.call f vs:=by
 intro w s₀ Ak mg mb G qZ a o pm cd doc dV kV ho hd NJ hD VU hg args vals bs Th LQ Xl Xm Xn;have KX:=kIn_of qZ;have O:=NP (os:=Ak.os) G KX;have LR:mg d.name=some (.ref 776):=mg_of KX G.T.g (by exact J Xi rfl);rw[VU]at LR;obtain rfl:a=776:=by injection LR with h;injection h
 clear VU LR ho hd NJ hD
 set_option tactic.hygienic true in wrow_args Th LQ Xl Xm Xn
 rename_i Be _ _ _ _ _ _ _ la lv _ _ _ w1 _ _ _ hc _
 refine enter_call (Mz (Xk O Be (by omega) Ak [.ref la] (Ig rfl rfl hg) (FO w1 fun h=>h.elim (fun h=>h rfl) id)) fun res s' g=>?_)
 cases res with
 |error e=>exact g.elim
 |ok f=>
  cases f with
  |ret v=>
   obtain⟨x,Ac,R',S',r',hx⟩:=g;subst hx;have hv:v=.bool true:=r';subst hv;exact GoodW.toG ⟨.inl ⟨_,.bool true,[],rfl,fun Z=>rfl,.bool _,by wrow_post,fun Z=>⟨FG,nofun⟩⟩,R'.keep,R'.os,R'.gens⟩
  |_=>exact g.elim
theorem Gy:A7 20 callerA:=⟨rfl,by decide,by decide⟩
section
set_option backward.match.sparseCases false
section
abbrev TS(c:Cx)(A:Around)(e:Expr)(env:Env)(Q:Bool->u->Prop)(U:u):Prop:=TU c A (isTrue e env (eval e env)) Q U
theorem TU.mono{α:Type}{t:Sem α}{Q Q':α->u->Prop}(x:TU c A t Q U)(h:∀x Ac,Q x Ac->Q' x Ac):TU c A t Q' U:=fun ρ s R=>BE (x s R) (fun Z Z ⟨Ac,a,b,q⟩=>⟨Ac,a,b,h _ _ q⟩) fun Z Z e=>e
theorem fp.after{α:Type}{Q:α->u->Prop}{Ab:u}{s Ak:Shared}{v:α}{s':Shared}(S:Bp U s Ab Ak)(p:fp c ρ Ab Ak Q v s'):fp c ρ U s Q v s':=let⟨Ac,a,b,q⟩:=p;⟨Ac,a,S.trans b,q⟩
theorem qz.after{Q:Fl->u->Prop}{Ab:u}{s Ak:Shared}{v:Flow}{s':Shared}(S:Bp U s Ab Ak)(p:qz c ρ Ab Ak Q v s'):qz c ρ U s Q v s':=let⟨x,Ac,a,b,d,q⟩:=p;⟨x,Ac,a,S.trans b,d,q⟩
theorem Rep.NQ{α:Type}{Q:α->u->Prop}{s:Shared}(R:Rep c ρ U s){v:α}(q:Q v U):fp c ρ U s Q v s:=⟨U,R,.refl U s,q⟩
theorem Rep.NR{Q:Fl->u->Prop}{s:Shared}(R:Rep c ρ U s){v:Flow}{y:Fl}(r:Tb (tk ρ U) s.heap y v)(q:Q y U):qz c ρ U s Q v s:=⟨y,U,R,.refl U s,r,q⟩
theorem sQ(h:TS c A test env (fun b Ab=>if b then EV c A body env Q Ab else EV c A orelse env Q Ab) U):EV c A (.IfExp test body orelse pos) env Q U:=fun ρ s R=>
 wpAny_IfExp (h.run R fun b Ak Ab Aq Au q=>by
  cases b
  ·exact BE (q Ak Aq) (fun Z Z p=>p.after Au) fun Z Z e=>e
  ·exact BE (q Ak Aq) (fun Z Z p=>p.after Au) fun Z Z e=>e)
theorem pU{l r:Expr}{op:CmpOp}{pos:Pos}{Q:Bool->u->Prop}(h:EV c A l env (fun x Ab=>EV c A r env (fun y Ah=>O2 c A (compareOp op) x y (fun v Ap=>∃b,v=.ex (.bool b)/\Q b Ap) Ah) Ab) U)
  (hm:behindInMarks op r=false):TS c A (.Compare l [op] [r] pos) env Q U:=fun ρ s R=>
 wpAny_isTrue_Compare1 (h.run R fun a Ak x Ab Aq Au BH CZ=>CZ.run Aq fun b Aw y Ah AV AP By BI=>BE (BI Aw a b AV (BH.CG Aq AP) By) (fun v Bb ⟨z,Ap,BJ,B6,Gz,b',hz,FP⟩=>by subst hz;refine J (aG Gz) ?_;exact Jl ⟨Ap,BJ,(Au.trans AP).trans B6,FP⟩) fun Z Z e=>e.elim) hm
theorem yM{x:Expr}{pos:Pos}{Q:Bool->u->Prop}(h:TS c A x env (fun b Ab=>Q (!b) Ab) U):TS c A (.UnaryOp .Not x pos) env Q U:=fun ρ s R=>
 wpAny_isTrue_Not (h.run R fun b Ak Ab Aq Au q=>⟨Ab,Aq,Au,q⟩)
theorem wk{e:Expr}{Q:Bool->u->Prop}(h:EV c A e env (fun v Ab=>∃b,v=.ex (.bool b)/\Q b Ab) U)(he:isTrue e env (eval e env)=(do let v <- eval e env;standAt e.pos;holding [v] (truthy v))):TS c A e env Q U:=fun ρ s R=>
 wpAny_isTrue_value (h.run R fun v Ak y Ab Aq Au r Ti=>An Ti fun b hy q=>by subst hy;exact J (aG r) (Jl ⟨Ab,Aq,Au,q⟩)) he
theorem yA{es:List Expr}{pos:Pos}{Q:Bool->u->Prop}(h:TU c A (allTrue .And es env) Q U):TS c A (.BoolOp .And es pos) env Q U:=fun ρ s R=>wpAny_isTrue_BoolOp (h s R)
theorem ze{es:List Expr}{pos:Pos}{Q:Bool->u->Prop}(h:TU c A (allTrue .Or es env) Q U):TS c A (.BoolOp .Or es pos) env Q U:=fun ρ s R=>wpAny_isTrue_BoolOp (h s R)
theorem uy{Q:Bool->u->Prop}(q:Q true U):TU c A (allTrue .And [] env) Q U:=fun ρ s R=>wpAny_allTrue_And_nil (R.NQ q)
theorem wm{Q:Bool->u->Prop}(q:Q false U):TU c A (allTrue .Or [] env) Q U:=fun ρ s R=>wpAny_allTrue_Or_nil (R.NQ q)
theorem mf{e:Expr}{es:List Expr}{Q:Bool->u->Prop}(h:TS c A e env (fun b Ab=>if b then TU c A (allTrue .And es env) Q Ab else Q false Ab) U):TU c A (allTrue .And (e::es) env) Q U:=fun ρ s R=>
 wpAny_allTrue_And_cons (h.run R fun b Ak Ab Aq Au q=>by
  cases b
  ·exact⟨Ab,Aq,Au,q⟩
  ·exact BE (q Ak Aq) (fun Z Z p=>p.after Au) fun Z Z e=>e)
theorem mQ{e:Expr}{es:List Expr}{Q:Bool->u->Prop}(h:TS c A e env (fun b Ab=>if b then Q true Ab else TU c A (allTrue .Or es env) Q Ab) U):TU c A (allTrue .Or (e::es) env) Q U:=fun ρ s R=>
 wpAny_allTrue_Or_cons (h.run R fun b Ak Ab Aq Au q=>by
  cases b
  ·exact BE (q Ak Aq) (fun Z Z p=>p.after Au) fun Z Z e=>e
  ·exact⟨Ab,Aq,Au,q⟩)
theorem yI{x:Expr}{pos:Pos}(h:EV c A x env (fun v Ab=>∃b,v=.ex (.bool b)/\Q (.ex (.bool (!b))) Ab) U):EV c A (.UnaryOp .Not x pos) env Q U:=fun ρ s R=>
 wpAny_UnaryOp (h.run R fun v Ak y Ab Aq Au r NS=>An NS fun b hy q=>by subst hy;refine J (aG r) ?_;exact not_value (Jl ⟨_,Ab,Aq,Au,aW,q⟩))
theorem wP(h:EV c A x env (fun v Ab=>∃b,v=.ex (.bool b)/\if b then EV c A y env Q Ab else Q (.ex (.bool false)) Ab) U):EV c A (.BoolOp .And [x,y] pos) env Q U:=fun ρ s R=>
 wpAny_And2 (h.run R fun v Ak y Ab Aq Au r NT=>An NT fun b hy q=>by
  subst hy;refine J (aG r) ?_;refine Jl ?_
  cases b
  ·exact⟨_,Ab,Aq,Au,aW,q⟩
  ·exact BE (q Ak Aq) (fun Z Z p=>p.after Au) fun Z Z e=>e)
def CU(c:Cx)(A:Around):List Expr->Env->(List V->u->Prop)->u->Prop
 |[],_,Q,U=>Q [] U
 |e::es,env,Q,U=>EV c A e env (fun x Ab=>CU c A es env (fun xs Ah=>Q (x::xs) Ah) Ab) U
noncomputable def aO:List Expr->Bool
 |[]=>true
 | .Starred .. ::_=>false
 |_::r=>aO r
theorem A8(h:aO (e::es)=true):starEach (e::es) env=(false,eval e env)::starEach es env/\aO es=true:=by cases e<;>first|exact⟨rfl,h⟩|exact Ba h Ed
theorem CU.run{E:Value->Shared->Prop}:∀{P:List Value->Shared->Prop} {U:u} {s:Shared} {Q:List V->u->Prop},CU c A es env Q U->aO es=true->Rep c ρ U s->
  (∀vs Ak xs Ab,Rep c ρ Ab Ak->Bp U s Ab Ak->AX (tk ρ Ab) Ak.heap xs vs->Q xs Ab->P vs Ak)->wpAny (model c.prog c.w) A (spliced (backTo pos (starEach es env))) P E s:=by
 induction es with
 |nil=>intro P U s Q h _ R k;exact QO (k [] s [] U R (.refl U s) Bn h)
 |cons e es ih=>
  intro P U s Q h hn R k;exact Nf (TV.run h R fun v Ak x Ab Aq Au BH CZ=>ih CZ (A8 (env:=env) hn).2 Aq fun vs Aw xs Ah AV AP By BI=>k _ Aw _ Ah AV (Au.trans AP) (A6 (BH.CG Aq AP) By) BI) (A8 hn).1
theorem CU.C5:aO es=true->(backTo pos (starEach es env)).any (·.1)=false:=by
 induction es with
 |nil=>exact fun Z=>rfl
 |cons e es ih=>intro h;exact J ((A8 h).1) (ih (A8 (env:=env) h).2)
theorem CU.mono:∀{U:u} {Q Q':List V->u->Prop},CU c A es env Q U->(∀l Ac,Q l Ac->Q' l Ac)->CU c A es env Q' U:=by
 induction es with
 |nil=>exact fun h k=>k _ _ h
 |cons e es ih=>exact fun h k=>TV.mono h fun x Ab h=>ih h fun l Ap q=>k _ _ q
theorem CU.len:∀{U:u} {Q:List V->u->Prop},CU c A es env Q U->CU c A es env (fun xs Ab=>xs.length=es.length/\Q xs Ab) U:=by
 induction es with
 |nil=>exact fun h=>⟨rfl,h⟩
 |cons e es ih=>exact fun h=>TV.mono h fun x Ab h=>CU.mono (ih h) fun l Ap q=>⟨AL (· +1) q.1,q.2⟩
theorem mD{k:Nat}(h:CU c A es env (fun xs Ab=>Q (.tup xs) Ab) U)(hn:aO es=true)(hs:es.length<=1000):EV c A (.Tuple es k pos) env Q U:=fun ρ s R=>
 Tuple_ (CU.run (CU.len h) hn R fun vs Ak xs Ab Aq Au r NU=>A5 NU fun hl q=>
  PySem.wpAny_newTuple ⟨_,Ab,Aq.push _,Au.trans (.push _),dH (vs:=vs.toArray) ⟨_,Heap.get?_push_size _ rfl⟩ (by simpa using r.mono (Keeps.push _)),q⟩
   (by exact J r.length (J hl (J FD (aA D (.n 16777216) 1 1 D (.n 1000) (c1 _) hs rfl)))))
theorem Rep.newList(R:Rep c ρ U s)(r:AX (tk ρ U) s.heap xs vs):
  Rep c ρ (U.set s.heap.objs.size (.list xs)) {s with heap:=s.heap.push {cls:=.type "list",data:=.seq vs.toArray}}/\Bp U s (U.set s.heap.objs.size (.list xs)) {s with heap:=s.heap.push {cls:=.type "list",data:=.seq vs.toArray}}:=by
 refine R.alloc R.new (fun Z Z e=>Cg _ e) ai R.CH ⟨vs.toArray,⟨_,DB _ rfl⟩,?_⟩ rfl rfl;refine(show AX (tk ρ U) s.heap xs vs.toArray.toList by simpa using r).mono ⟨fun Z Z e=>e.keep fun Z=>Heap.get?_push_of_some _,fun b o z e=>⟨?_,e.keep fun Z=>Heap.get?_push_of_some _⟩⟩;refine Ax e ?_;clear e;intro n e;exact bh (fun z=>by exact J (u.Ad _ _ (Ej (DG e))) z) z
def aw(c:Cx)(f:Value):Prop:=∀(M:Model) (h:Heap),c.K.In h->∃k,(k=Keeper.frame\/k=Keeper.machine\/k=Keeper.boundFrame)/\Looks M h (keeperOf f) k
theorem m5(h:keepIn c.K f=true):aw c f:=fun M hh X=>keeps_K h hh X
theorem aX:aw c (.builtin i):=fun M hh X=>⟨.machine,.inr (.inl rfl),S8 rfl⟩
theorem ac:aw c (.type i):=fun M hh X=>⟨.machine,.inr (.inl rfl),S8 rfl⟩
theorem ff{P:Value->Shared->Prop}{E:Value->Shared->Prop}(O:c.Ok)(hk:aw c f)(hn:aO args=true)(R:Rep c ρ U s)(r:AX (tk ρ U) s.heap fx first)
  (h:CU c A args env (fun xs Ab=>a6 c A f (fx++xs) Q Ab) U) (k:∀v Ak,Gw c ρ U s Q v Ak->P v Ak):
  wpAny (model c.prog c.w) A (callWith pos f first (backTo pos (starEach args env)) (backToKw pos (keywordEach [] env))) P E s:=by
 refine aEl (P:=c.K.In) (by show((backTo pos (starEach args env)).any (·.1)||false)=false;exact J (CU.C5 hn) rfl) (fun hh X=>hk _ hh X) ?_;have key:wpAny (model c.prog c.w) A (spliced (backTo pos (starEach args env))) (fun vs Ak=>c.K.In Ak.heap/\wpAny (model c.prog c.w) A (call f (first++vs) []) P E Ak) E s:=
  CU.run h hn R fun vs Ak xs Ab Aq Au rr q=>⟨Aq.K O,BE (q Ak _ Aq ((r.CG R Au).append rr)) (fun v Aw p=>k v Aw (p.after Au)) fun Z Z e=>e.elim⟩
 cases args with
 |nil=>exact evalArgs_nil3 ⟨R.K O,BE (h s _ R (r.append Bn)) (fun v Aw p=>k v Aw p) fun Z Z e=>e.elim⟩
 |cons e es=>
  rw[(A8 hn).1]at key ⊢;exact Rj key
end
end
structure bY(c:Cx)(C:Addr):Prop where
 ga:findIn c.K (.ref C) "__getattribute__" =some (some (.builtin "object.__getattribute__"))
 gh:findIn c.K (.ref C) "__getattr__" =some none
 hd:hasDictIn c.K C=true
 sa:findIn c.K (.ref C) "__setattr__" =some (some (.builtin "object.__setattr__"))
 po:plainOver c.K C=true
theorem hU{a x:String}{v:Value}(h:∃t,v=.str (Ai a) t):v.isStr (Ai x)=decide (a=x):=by
 refine Ax h fun t Ct=>?_;clear h;refine J Ct ?_
 by_cases h:a=x
 ·exact J (DU h) (J h (beq_self_eq_true _))
 ·exact J (Df h) (beq_eq_false_iff_ne.mpr (dC h))
theorem Hh.ref(r:Hh U h m l):l.any (·.refKey)=false:=by
 induction r with
 |nil=>rfl
 |cons d t ih=>
  refine Ax d.key fun t hk=>J Sz (J ih (J (SH _) ?_));unfold DictEntry.refKey;exact J hk rfl
theorem Hh.find{U:Addr->Prop}{h:Heap}{l:List DictEntry}{m:List (String×V)}(r:Hh U h m l)(x:String):LO U h (look m x) ((l.find? (·.key.isStr (Ai x))).map (·.val)):=by
 induction r with
 |nil=>rfl
 | @cons p e m l d t ih=>
  show LO U h (if p.1=x then some p.2 else look m x) _
  refine J (Nu) (J (hU d.key) (?_))
  by_cases h:p.1=x
  ·exact J (AS h) (J (DU h) ⟨_,rfl,d.val⟩)
  ·exact J (AK h) (J (Df h) ih)
theorem iM(hd:o.data=.dict es n)(r:Hh U h m es.toList)(x:String):
  (∀v,look m x=some v->∃y,lookIn (Ai x) o=some (some y)/\VR U h v y)/\(look m x=none->lookIn (Ai x) o=some none):=by
 have k1:=r.ref;have k2:=r.find x;unfold lookIn;refine J hd ?_;dsimp only
 cases q:es.toList.find? (·.key.isStr (Ai x))with
 |some e=>
  rw[q]at k2;refine⟨fun v hv=>⟨e.val,rfl,?_⟩,fun hn=>?_⟩
  ·rw[hv]at k2;refine An k2 fun y e r=>?_;clear k2;obtain rfl:=BC e;exact r
  ·have k2:=hn▸k2;injection k2
 |none=>
  rw[q]at k2;refine⟨fun v hv=>?_,fun hn=>?_⟩
  ·have k2:=hv▸k2;refine An k2 fun y e r=>?_;clear k2;injection e
  ·dsimp only;exact J k1 rfl
theorem gL(R:Rep c ρ U s)(hx:U x=some (.inst C d))(hd:U d=some (.ns m)):
  ∃od es n,InstAt s.heap x ⟨.ref C,some d,.plain,#[]⟩ C (some od)/\s.heap.get? d=some od/\od.data=.dict es n/\Hh (tk ρ U) s.heap m es.toList:=by
 exact HN ((R.obj d _ hd).1) fun o es n e dd r=>⟨o,es,n,⟨(R.obj x _ hx).1,rfl,rfl,e⟩,e,dd,r⟩
noncomputable def B7:V->Bool
 | .ex v=>handedIn v
 |_=>true
theorem kH(r:VR U h y v)(e:B7 y=true):handedIn v=true:=by
 cases y with
 |int i=>refine Ax (Ag r) fun t GA=>?_;exact J GA rfl
 |str i=>refine Ax (Av r) fun t CR=>?_;exact J CR rfl
 |tup l=>refine Fv (aL r) fun a vs CJ Z=>?_;exact J CJ rfl
 |lst l=>refine Fv (aV r) fun a vs C4 Z=>?_;exact J C4 rfl
 |ex w=>exact J (aG r) e
section
theorem get_own(O:c.Ok)(K:bY c C)(hx:U x=some (.inst C d))(hd:U d=some (.ns m))(hn:findIn c.K (.ref C) (Ai name)=some none)
  (hv:look m name=some v) (hh:B7 v=true) (q:Q v U):TV c A (getAttr (.ref x) (Ai name) expr) Q U:=fun ρ s R=>by
 refine Kv (gL R hx hd) fun od es n I e dd r=>An ((iM dd r name).1 v hv) fun y hl hr=>An (any_some K.hd) fun cd hc Ih=>get_value (v:=y) (R.K O) I K.ga ?_ (kH hr hh) (R.AO _ hr q);unfold findObj;refine J hc (J hn ?_);dsimp only[Option.bind_some];refine J (show W.ownOf cd (some od) (Str.ofString name)=some (some y)from by unfold W.ownOf;refine J Ih ?_;refine J (if_pos rfl) ?_;exact hl) ?_;rfl
theorem wq(h:EV c A o env (fun v Ab=>∃x,v=.ex (.ref x)/\TV c A (getAttr (.ref x) name true) Q Ab) U)(hb:attributeBase o name env (eval o env)=eval o env):EV c A (.Attribute o name pos) env Q U:=fun ρ s R=>by rewrite[arm_eval_Attribute];refine J hb ?_;refine Am (h.run R fun v Ak y Ab Aq Au r zz=>?_);refine An zz fun x hy q=>?_;clear zz;subst hy;refine J (aG r) (Am (Jm (Am (Dq (q.run Aq fun v Aw y Ah AV AP By BI=>?_)))));exact Am (wpAny_letTemporaryGo (AE ⟨y,Ah,AV,Au.trans AP,By,BI⟩))
def MT(c:Cx)(y:V)(name:Str)(U:u)(f:Value):Prop:=
 ∀⦃ρ:Addr->Prop⦄ (A:Around) (s:Shared) (v:Value) (pl:Sem Bool) (P:Value×List Value->Shared->Prop) (E:Value->Shared->Prop),Rep c ρ U s->VR (tk ρ U) s.heap y v->P (f,[v]) s->wpAny (model c.prog c.w) A (getMethod v name pl) P E s
theorem uw(O:c.Ok)(K:bY c C)(hx:U x=some (.inst C d))(hd:U d=some (.ns m))(hf:findIn c.K (.ref C) (Ai name)=some (some (.ref f)))
  (ht:isFn c.K (.ref f)=true) (hn:look m name=none):MT c (.ex (.ref x)) (Ai name) U (.ref f):=fun ρ A s v pl P E R r q=>by
 refine Kv (gL R hx hd) fun od es n I e dd rr=>?_;rw[aG r]at q ⊢;exact method_fn (R.K O) I K.ga K.gh hf (beq_iff_eq.mp ht) (by show(lookIn _ od).map _=_;exact J ((iM dd rr name).2 hn) rfl) q
theorem v9(O:c.Ok)
  (h:EV c A o env (fun y Ab=>∃f,MT c y name Ab f/\aw c f/\CU c A args env (fun xs Ah=>a6 c A f (y::xs) Q Ah) Ab) U) (hn:aO args=true)
  (he:eval (.Call (.Attribute o name apos) args [] pos) env=(do
   let ov <- eval o env
   standAt apos.atName
   let(f,first) <- holding [ov] (getMethod ov name pl)
   callWith pos f first (backTo pos (starEach args env)) (backToKw pos (keywordEach [] env)))):EV c A (.Call (.Attribute o name apos) args [] pos) env Q U:=fun ρ s R=>
 methodCall_KW (h.run R fun v Ak y Ab Aq Au r NV=>B4 NV fun f m k q=>m A Ak v pl _ _ Aq r (ff (fx:=[y]) O k hn Aq (eU r) q fun Z Z p=>p.after Au)) he
theorem mB(O:c.Ok)(h:EV c A (.Name x np) env (fun y Ab=>∃f,y=.ex f/\aw c f/\CU c A args env (fun xs Ah=>a6 c A f xs Q Ah) Ab) U)(hn:aO args=true):
  EV c A (.Call (.Name x np) args [] pos) env Q U:=fun ρ s R=>
 QL (h.run R fun v Ak y Ab Aq Au r NW=>B4 NW fun f hy k q=>by subst hy;refine J (aG r) ?_;exact ff (fx:=[]) O k hn Aq Bn q fun Z Z p=>p.after Au)
theorem kW{x C d p GB:Addr}(O:c.Ok)(K:bY c C)(hx:U x=some (.inst C d))(hd:U d=some (.ns m))
  (ha:findIn c.K (.ref C) (Ai name)=some (some (.ref p))) (hn:specialIn c.K (.ref p) "__get__" =some (some (.builtin "property.__get__"))) (ht:takesIn c.K (.ref p)=some true) (hp:recIn c.K p "property" =some (.ref GB::rest))
  (h:aR c A.in1 (.ref GB) [.ex (.ref x)] (fun v Ac=>B7 v=true/\Q v Ac) U):TV c A (getAttr (.ref x) (Ai name) expr) Q U:=fun ρ s R=>by
 refine Kv (gL R hx hd) fun od es n I e dd r=>?_;have R':Rep c ρ U {s with toks:=s.toks+1}:=R.toks _;refine get_bind (R.K O) I K.ga (findObj_data (by refine An (any_some K.hd) fun cd hc Z=>?_;exact J hc rfl) ha hn ht) K.gh (wpAny_call (prop_get (s:={s with toks:=s.toks+1}) (R'.K O) hp (Mz (h _ [.ref x] R' (eU aW)) fun r s' z=>?_)))
 cases r with
 |error e=>exact z.elim
 |ok f=>
  cases f with
  |ret v=>
   obtain⟨y,Ac,Aq,Au,rr,hh,q⟩:=z
   show wpAny _ _ (handedOut v) _ _ _
   exact J (handedOut_of (kH rr hh)) (AE ⟨y,Ac,Aq,⟨Au.grow,Au.fresh⟩,rr,q⟩)
  |_=>exact z.elim
end
theorem mR(m:List (String×V))(x:String)(v:V)(z:String):look (put m x v) z=if z=x then some v else look m z:=by
 induction m with
 |nil=>
  show(if x=z then some v else none)=if z=x then some v else none
  by_cases h:z=x
  ·refine J (AS h) (J (AS h.symm) ?_);rfl
  ·refine J (AK h) (J (AK (fun e=>h e.symm)) ?_);rfl
 |cons p m ih=>
  unfold put
  by_cases h:p.1=x
  ·refine J (AS h) ?_
   show(if x=z then some v else look m z)=_
   by_cases e:z=x
   ·refine J (AS e) (J (AS e.symm) ?_);rfl
   ·refine J (AK e) (J (AK (fun q=>e q.symm)) ?_)
    show _=if p.1=z then some p.2 else look m z
    exact J (AK (fun q=>e (by rw[<- q,h]))) rfl
  ·refine J (AK h) ?_
   show(if p.1=z then some p.2 else look (put m x v) z)=_
   refine J ih ?_
   by_cases e:p.1=z
   ·refine J (AS e) (J (AK (fun q=>h (by rw[e,q]))) ?_)
    show _=if p.1=z then some p.2 else look m z
    exact J (AS e) rfl
   ·refine J (AK e) ?_
    show _=if z=x then _ else if p.1=z then some p.2 else look m z
    exact J (AK e) rfl
theorem vx{U:Addr->Prop}{hash:Int}(hv:VR U h v Aa)(r:Hh U h m l):
  Hh U h (put m x v) (nsPutIn (Ai x).cps.size (Ai x).cps.toList (fun|some e=>{e with val:=Aa}|none=>⟨hash,.str (Ai x) t,Aa⟩) l).1/\
  (nsPutIn (Ai x).cps.size (Ai x).cps.toList (fun|some e=>{e with val:=Aa}|none=>⟨hash,.str (Ai x) t,Aa⟩) l).1.length<=l.length+1:=by
 induction r with
 |nil=>exact⟨.cons ⟨⟨t,rfl⟩,hv⟩ .nil,Bf _⟩
 | @cons p e m l d q ih=>
  have hs:e.key.isStrByCps (Ai x).cps.size (Ai x).cps.toList=decide (p.1=x):=by exact J (Value.isStrByCps_eq _ _) (hU d.key)
  unfold nsPutIn put;refine J hs ?_
  by_cases h:p.1=x
  ·refine J (AS h) (J (DU h) ?_)
   exact⟨.cons ⟨h▸d.key,hv⟩ q,G2 _⟩
  ·refine J (AK h) (J (Df h) ?_)
   exact⟨.cons d ih.1,JF ih.2⟩
section
abbrev AU(c:Cx)(A:Around)(t:Value->Sem Unit)(y:V)(Q:u->Prop)(U:u):Prop:=∀⦃ρ⦄ s v,Rep c ρ U s->VR (tk ρ U) s.heap y v->wpAny (model c.prog c.w) A (t v) (fp c ρ U s fun Z=>Q) Ca s
theorem s9{Q:u->Prop}(O:c.Ok)(K:bY c C)(hx:U x=some (.inst C d))(hd:U d=some (.ns m))(hn:findIn c.K (.ref C) (Ai name)=some none)
  (hm:m.length<=900) (q:Q (U.set d (.ns (put m name y)))):AU c A (fun v=>setAttr (.ref x) (Ai name) v) y Q U:=fun ρ s v R r=>by
 refine Kv (gL R hx hd) fun od es n I e dd rr=>?_;have R':Rep c ρ U {s with toks:=s.toks+1}:=R.toks _;refine set_plain (R.K O) I K.sa (osa_open (s:={s with toks:=s.toks+1}) (R'.K O) I K.po (r:=none) (by unfold takerIn;exact J hn rfl) fun b=>?_);refine An (any_some K.hd) fun cd hc Ih=>Am (AE (Am (Am (wpAny_loadPart I.at_ (Am ((looks_clsIn (R'.K O) hc).here ?_))))));refine J Ih (AE (a:=some d) (Am (AE (Am ?_))));unfold nsSet;refine Am (Am (Ng (AE (Am (wpAny_mkText (Am (wpAny_loadPart e ?_)))))));refine J dd ?_;dsimp only;have NX:(!es.any (·.key.isStr (Ai name)) &&es.any (·.refKey))=false:=by
  have:=(iM dd rr name)
  refine J (show es.any (·.refKey)=false from by rw[<- Array.any_toList];exact rr.ref) (J (Bool.and_false _) ?_);rfl
 refine J (aRefKeyMayBeTheName_at _ _) (J NX ?_);refine wpAny_updatePart e ?_;obtain⟨oc,NY,ZH,NZ⟩:=od;dsimp only at dd;subst dd;have fin:∀hash:Int,∃n' l',(s.heap.update d (Obj.putName (Ai name) hash (.str (Ai name) (s.toks+1)) v)).get? d=some ⟨oc,NY,.dict l' n',NZ⟩/\l'.size<=901/\
   Rep c ρ (U.set d (.ns (put m name y))) {s with heap:=s.heap.update d (Obj.putName (Ai name) hash (.str (Ai name) (s.toks+1)) v),toks:=s.toks+1+1}/\
   Bp U s (U.set d (.ns (put m name y))) {s with heap:=s.heap.update d (Obj.putName (Ai name) hash (.str (Ai name) (s.toks+1)) v),toks:=s.toks+1+1}:=by
  intro hash;have P:=vx (x:=name) (hash:=hash) (t:=s.toks+1) r rr;have FQ:Heap.SameBut d s.heap (s.heap.update d (Obj.putName (Ai name) hash (.str (Ai name) (s.toks+1)) v)):=Fb ..;have Hk:∃n',Obj.putName (Ai name) hash (.str (Ai name) (s.toks+1)) v ⟨oc,NY,.dict es n,NZ⟩=
    ⟨oc,NY,.dict (nsPutIn (Ai name).cps.size (Ai name).cps.toList (fun|some e=>{e with val:=v}|none=>⟨hash,.str (Ai name) (s.toks+1),v⟩) es.toList).1.toArray n',NZ⟩:=by
   unfold Obj.putName;dsimp only
   set_option tactic.hygienic true in split
   ·rename_i Fw q;exact⟨n,AL (fun l:List DictEntry=>(⟨oc,NY,.dict l.toArray n,NZ⟩:Obj)) (AL Prod.fst q).symm⟩
   ·rename_i Fw q;exact⟨n+1,AL (fun l:List DictEntry=>(⟨oc,NY,.dict l.toArray (n+1),NZ⟩:Obj)) (AL Prod.fst q).symm⟩
  refine Ax Hk ?_;clear Hk;intro n' Hk;have D':=Fu (Obj.putName (Ai name) hash (.str (Ai name) (s.toks+1)) v) e (by exact J Hk rfl);rw[Hk]at D';have σ:=R.upd (s':={s with heap:=s.heap.update d (Obj.putName (Ai name) hash (.str (Ai name) (s.toks+1)) v),toks:=s.toks+1+1}) (o:=.ns (put m name y)) hd FQ (fun K=>⟨_,_,n',D',rfl,P.1.mono K⟩) rfl rfl;refine⟨n',_,D',?_,σ.1,σ.2⟩;have:=P.2;rw[aj.length rr]at this;exact J Ss (aH D (.n 901) 1 1 D (.a Y qW) 1 Y qT (c2 _ _) this hm rfl)
 refine DC (fin (if(Ai name).cps.isEmpty then 0 else reduceHash (c.w.params.strHash (Ai name).cps))) fun n' l' D' Fd RR SS=>Am (wpAny_lookBehind D' (pastItsLine_dict (by exact J FD (aA D (.a (.n 16777216) qW) 1 1 D (.n 901) (c1 _) Fd rfl))) ?_);exact AE ⟨_,RR,SS,q⟩
end
section
theorem me(hk:env.scope.kind=.function)(hl:env.kindOf (Ai x)=some .local)(hL:env.locals=L)(hf:U L=some (.fr m))(hp:put m x y=m')(q:Q (U.set L (.fr m'))):
  AU c A (fun v=>storeName env (Ai x) v) y Q U:=fun ρ s v R r=>by
 subst hL hp;refine An ((R.obj _ _ hf).1) fun f hn hx=>wpAny_storeName_local hl hn (fun h' EZ hs=>?_) (by exact J hk rfl);have σ:=R.upd (s':={s with heap:=h',toks:=s.toks+1}) (o:=.fr (put m x y)) hf hs (fun K=>⟨_,EZ,fun z=>?_⟩) rfl rfl
 ·exact⟨_,σ.1,σ.2,q⟩
 ·rw[mR]
  by_cases e:z=x
  ·exact J (AS e) (J (AS (by rw[e])) ⟨v,rfl,r.mono K⟩)
  ·exact J (AK e) (J (AK (dC e)) ((hx z).mono K))
theorem pO(hk:env.scope.kind=.function)(hl:env.kindOf x=some .cell)(hc:env.cells.lookup x=some a)(hf:U a=some (.cell Xo))(q:Q (U.set a (.cell (some y)))):
  AU c A (fun v=>storeName env x v) y Q U:=fun ρ s v R r=>by
 refine An ((R.obj _ _ hf).1) fun Xp N9 Z=>wpAny_storeName_cell hk hl hc N9 (fun h' EZ hs=>?_);have σ:=R.upd (s':={s with heap:=h'}) (o:=.cell (some y)) hf hs (fun K=>⟨_,EZ,⟨v,rfl,r.mono K⟩⟩) rfl rfl;exact⟨_,σ.1,σ.2,q⟩
theorem gV(h:AU c A (fun v=>storeName env x v) y Q U):AU c A (fun v=>assign (.Name x pos) env v) y Q U:=fun ρ s v R r=>wpAny_assign_Name (h s v R r)
theorem AU.mono(h:AU c A t y Q U)(k:∀Ac,Q Ac->Q' Ac):AU c A t y Q' U:=fun ρ s v R r=>BE (h s v R r) (fun Z Z ⟨Ac,a,b,q⟩=>⟨Ac,a,b,k Ac q⟩) fun Z Z e=>e
theorem vu(h:EV c A o env (fun z Ab=>∃x,z=.ex (.ref x)/\AU c A (fun v=>setAttr (.ref x) name v) y Q Ab) U):AU c A (fun v=>assign (.Attribute o name pos) env v) y Q U:=fun ρ s v R r=>by
 show wpAny _ _ (do
  let ov <- holding [v] (eval o env)
  standAt pos.atName
  holding [v,ov] (setAttr ov name v)
  release [v,ov] []) _ _ _
 refine Am (Dq (h.run R fun Aa Ak z Ab Aq Au BH Oa=>An Oa fun x hz q=>Am (Jm (Am (Dq ?_)))));subst hz;exact J (aG BH) (BE (q Ak v Aq (r.CG R Au)) (fun Z Aw ⟨Ah,AV,AP,BI⟩=>fun Γ p VV=>by rw[Sem.wp_release];exact⟨Ah,AV,Au.trans AP,BI⟩) fun Z Z e=>e)
def Rt(c:Cx)(A:Around)(t:Value->Value->Value->Sem Unit)(x y z:V)(Q:u->Prop)(U:u):Prop:=
 ∀⦃ρ⦄ s Aa v w,Rep c ρ U s->VR (tk ρ U) s.heap x Aa->VR (tk ρ U) s.heap y v->VR (tk ρ U) s.heap z w->wpAny (model c.prog c.w) A (t Aa v w) (fp c ρ U s fun Z=>Q) Ca s
theorem yV(h:EV c A o env (fun x Ab=>EV c A i env (fun k Ah=>Rt c A setItem x k y Q Ah) Ab) U):AU c A (fun v=>assign (.Subscript o i pos) env v) y Q U:=fun ρ s v R r=>by
 show wpAny _ _ (assign (.Subscript o i pos) env v) _ _ _
 rw[assign_Subscript];refine Am (Dq (h.run R fun Aa Ak x Ab Aq Au BH q=>Am (Dq (q.run Aq fun k Aw y Ah AV AP By BI=>Am (Jm (Am (Dq ?_)))))));exact BE (BI Aw Aa k v AV (BH.CG Aq AP) By (r.CG R (Au.trans AP))) (fun Z Bb ⟨Ap,BJ,B6,FP⟩=>fun Γ p VV=>by rw[Sem.wp_release];exact⟨Ap,BJ,(Au.trans AP).trans B6,FP⟩) fun Z Z e=>e
theorem vm(q:Q .next U):Ib c A [] env Q U:=fun ρ s R=>R7 (R.NR (y:=.next) rfl q)
theorem TF.mono(x:TF c A t Q U)(h:∀x Ac,Q x Ac->Q' x Ac):TF c A t Q' U:=fun ρ s R=>BE (x s R) (fun Z Z ⟨y,Ac,a,b,d,q⟩=>⟨y,Ac,a,b,d,h _ _ q⟩) fun Z Z e=>e
theorem ty{st:Stmt}(h:EX c A st env (fun f Ab=>match f with| .next=>Ib c A rest env Q Ab| .ret x=>Q (.ret x) Ab) U):Ib c A (st::rest) env Q U:=fun ρ s R=>
 wpAny_execs_cons (h.run R fun f Ak y Ab Aq Au r q=>by
  cases y with
  |next=>exact J (show f=.next from r) (BE (q Ak Aq) (fun Z Z p=>p.after Au) fun Z Z e=>e)
  |ret x=>refine An r fun v CK r'=>?_;clear r;exact J CK (⟨.ret x,Ab,Aq,Au,⟨v,rfl,r'⟩,q⟩))
theorem rF(h:EV c A e env (fun v Ab=>Q (.ret v) Ab) U):EX c A (.Return (some e) pos) env Q U:=fun ρ s R=>
 wpAny_Return_some (h.run R fun v Ak y Ab Aq Au r q=>⟨.ret y,Ab,Aq,Au,⟨v,rfl,r⟩,q⟩)
theorem w5(h:EV c A e env (fun Z Ab=>Q .next Ab) U)(hi:interactive env=false)(hs:swapsWith e none pos.line env=pure false):EX c A (.Expr e pos) env Q U:=fun ρ s R=>
 wpAny_Expr_any (h.run R fun v Ak y Ab Aq Au r q=>⟨.next,Ab,Aq,Au,rfl,q⟩) hi hs
theorem vA(q:Q .next U):EX c A (.Pass pos) env Q U:=fun ρ s R=>wpAny_Pass (R.NR (y:=.next) rfl q)
theorem zU(h:TS c A test env (fun b Ab=>if b then Ib c A body env Q Ab else Ib c A orelse env Q Ab) U):EX c A (.If test body orelse pos) env Q U:=fun ρ s R=>
 wpAny_If (h.run R fun b Ak Ab Aq Au q=>by
  cases b
  ·exact BE (q Ak Aq) (fun Z Z p=>p.after Au) fun Z Z e=>e
  ·exact BE (q Ak Aq) (fun Z Z p=>p.after Au) fun Z Z e=>e)
theorem rW(h:EV c A value env (fun y Ab=>AU c A (fun v=>assign t env v) y (Q .next) Ab) U)
  (hs:swapsWithSole [t] value pos.line env=pure false) (hw:swappedStores [t] value env=pure none) (ha:(assignEach [t] env).map (·.2)=[assign t env]):EX c A (.Assign [t] value pos) env Q U:=fun ρ s R=>
 wpAny_Assign_stores (h.run R fun v Ak y Ab Aq Au r q=>by refine J ha ?_;exact BE (q Ak v Aq r) (fun Z Aw ⟨Ah,AV,AP,BI⟩=>⟨.next,Ah,AV,Au.trans AP,rfl,BI⟩) fun Z Z e=>e.elim) hs hw
end
section
structure Nx(P:Addr->Prop)(s s':Shared):Prop where
 keep:∀b o,¬P b->s.heap.get? b=some o->s'.heap.get? b=some o
 gens:s'.gens=s.gens
 os:s'.os=s.os
structure Own(c:Cx)(ρ:Addr->Prop)(P:Addr->Prop)(U:u)(s:Shared):Prop where
 out:∀a,P a->U a=none
 new:∀a,P a->c.h₀.get? a=none
 nt:∀a,P a->∀vs,¬IsT s.heap a vs
 nl:∀a,P a->∀vs,¬IsL s.heap a vs
 fr:∀a,P a->¬ρ a
theorem Rep.nx{P:Addr->Prop}(R:Rep c ρ U s)(w:Own c ρ P U s)(n:Nx P s s'):Rep c ρ U s':=R.other w.out w.new n.keep w.nt w.nl w.fr n.gens n.os
theorem Keeps.nx{P:Addr->Prop}(w:Own c ρ P U s)(n:Nx P s s'):Keeps (tk ρ U) s.heap (tk ρ U) s'.heap:=
 ⟨fun b vs e=>e.keep fun o=>n.keep b o (fun p=>w.nt b p _ e),fun b vs z e=>⟨z,e.keep fun o=>n.keep b o (fun p=>w.nl b p _ e)⟩⟩
structure Walk(c:Cx)(A:Around)(target:Expr)(it:Value)(xs:List V)(G:u->Prop)(P:Addr->Prop)(I:(Addr->Prop)->Nat->u->Shared->Prop):Prop where
 own:∀ρ k U s,I ρ k U s->Own c ρ P U s
 item:∀ρ U s k x,xs[k]? =some x->Rep c ρ U s->I ρ k U s->wpAny (model c.prog c.w) A (pyNext it) (fun r s'=>∃v,r=some v/\Nx P s s'/\
  wpAny (model c.prog c.w) A (letOwnedTupleGo target it v) (fun Z Tj=>Nx P s Tj/\VR (tk ρ U) Tj.heap x v/\I ρ (k+1) U Tj) Ca s') Ca s
 stop:∀ρ U s,Rep c ρ U s->I ρ xs.length U s->wpAny (model c.prog c.w) A (pyNext it) (fun r s'=>r=none/\Nx P s s') Ca s
 self:∀ρ k U s (Q:Value->Shared->Prop),I ρ k U s->Q it s->wpAny (model c.prog c.w) A (pyIter it) Q Ca s
 keep:∀ρ k U s Ac s',I ρ k U s->Rep c ρ U s->Bp U s Ac s'->Rep c ρ Ac s'->G Ac->I ρ k Ac s'
inductive Xq(c:Cx)(A:Around)(target:Expr)(xs:List V)(G:u->Prop)(ρ:Addr->Prop)(U:u)(s:Shared)(it:Value)(s':Shared):Prop
 |mk (keep:∀b o,s.heap.get? b=some o->s'.heap.get? b=some o) (gens:s'.gens=s.gens) (os:s'.os=s.os) (P:Addr->Prop) (I:(Addr->Prop)->Nat->u->Shared->Prop) (pn:∀a,P a->s.heap.get? a=none) (i0:I ρ 0 U s') (W:Walk c A target it xs G P I)
def rX(c:Cx)(A:Around)(target:Expr)(y:V)(xs:List V)(G:u->Prop)(U:u):Prop:=
 ∀⦃ρ⦄ s v,Rep c ρ U s->VR (tk ρ U) s.heap y v->wpAny (model c.prog c.w) A (pyIter v) (Xq c A target xs G ρ U s) Ca s
theorem mj{E:Value->Shared->Prop}(ho:s.heap.get? r=some o)(hc:o.cls=.type n)
  (hn:(["enumerate","zip","dict_itemiterator","dict_reverseitemiterator","odict_iterator","itertools.zip_longest","itertools.pairwise"]:List String).contains n=false) (q:Q () s):wpAny M A (letOwnedTupleGo target (.ref r) v) Q E s:=by
 have key:wpAny M A (do
  let(.ref r,.ref a):=(Value.ref r,v)|return
  let o <- load r
  match o.cls,o.data with
  | .type n,.fields vs=>
   if ["enumerate","zip","dict_itemiterator","dict_reverseitemiterator","odict_iterator","itertools.zip_longest","itertools.pairwise"].contains n &&vs[0]? ==some (rawInt a)then
    rule "for.unpacks-the-owned-tuple"
    updateField r 0 .none
  |_,_=>pure ():Sem Unit) Q E s:=by
  cases v with
  |ref a=>
   refine Am (wpAny_load ho ?_);obtain⟨oc,od,dd,sl⟩:=o;dsimp only at hc;refine J hc ?_
   cases dd<;>try exact AE q
   dsimp only;refine J hn (J (Bool.false_and _) (Dd (Df Ed) ?_));exact AE q
  |_=>exact AE q
 cases target<;>first|exact AE q|exact key
theorem Own.one(z:U a=none)(n:c.h₀.get? a=none)(f:¬ρ a)(e:s.heap.get? a=some o)(ct:o.cls≠ .type "tuple")(cl:o.cls≠ .type "list"):Own c ρ (· =a) U s:=
 ⟨fun Z p=>p▸z,fun Z p=>p▸n,fun b p vs Ob=>Ax Ob fun Z e'=>by subst p;have e':=e▸e';obtain rfl:=BC e';exact ct rfl,fun b p vs Oc=>Ax Oc fun Z e'=>by subst p;have e':=e▸e';obtain rfl:=BC e';exact cl rfl,fun Z p=>p▸f⟩
theorem Nx.same(sb:Heap.SameBut a s.heap h'):Nx (· =a) s {s with heap:=h',toks:=n}:=⟨fun b o hb e=>(sb.2 b hb).trans e,rfl,rfl⟩
theorem Nx.ext(sb:Heap.ExtBut a s.heap h'):Nx (· =a) s {s with heap:=h',toks:=n}:=⟨fun b o hb e=>sb b o hb e,rfl,rfl⟩
section
inductive GI(c:Cx)(a:Addr)(It:Heap->Nat->Prop)(qQ:u->(Addr->Prop)->Heap->Prop)(ρ:Addr->Prop)(k:Nat)(U:u)(s:Shared):Prop
 |mk (it:It s.heap k) (z:U a=none) (n:c.h₀.get? a=none) (f:¬ρ a) (d:qQ U (tk ρ U) s.heap)
section
variable{a:Addr}{t:String}{It:Heap->Nat->Prop}{qQ:u->(Addr->Prop)->Heap->Prop}{G:u->Prop}{xs:List V}{target:Expr}
def zS(a:Addr)(t:String)(It:Heap->Nat->Prop):Prop:=∀h k,It h k->∃o,h.get? a=some o/\o.cls=.type t/\∀h':Heap,h'.get? a=some o->It h' k
theorem GI.own(ht:zS a t It)(n1:t≠ "tuple")(n2:t≠ "list")(I:GI c a It qQ ρ k U s):Own c ρ (· =a) U s:=by
 induction I with
 |mk it z n f d=>exact B4 (ht _ _ it) fun o e hc Z=> .one z n f e (fun q=>n1 (Value.type.inj (hc.symm.trans q))) fun q=>n2 (Value.type.inj (hc.symm.trans q))
theorem GI.walk(ht:zS a t It)(n1:t≠ "tuple")(n2:t≠ "list")
  (n3:(["enumerate","zip","dict_itemiterator","dict_reverseitemiterator","odict_iterator","itertools.zip_longest","itertools.pairwise"]:List String).contains t=false)
  (dk:∀U Ac T h T' h',qQ U T h->Keeps T h T' h'->(Ac=U\/G Ac)->qQ Ac T' h')
  (item:∀ρ U s k x Q,xs[k]? =some x->Rep c ρ U s->qQ U (tk ρ U) s.heap->It s.heap k->(∀v h' m,VR (tk ρ U) s.heap x v->It h' (k+1)->Heap.SameBut a s.heap h'->Q (some v) {s with heap:=h',toks:=m})->wpAny (model c.prog c.w) A (pyNext (.ref a)) Q Ca s)
  (stop:∀ρ U s Q,Rep c ρ U s->qQ U (tk ρ U) s.heap->It s.heap xs.length->(∀h' m,Heap.ExtBut a s.heap h'->Q none {s with heap:=h',toks:=m})->wpAny (model c.prog c.w) A (pyNext (.ref a)) Q Ca s)
  (self:∀k s (Q:Value->Shared->Prop),It s.heap k->Q (.ref a) s->wpAny (model c.prog c.w) A (pyIter (.ref a)) Q Ca s):
  Walk c A target (.ref a) xs G (· =a) (GI c a It qQ) where
 own ρ k U s I:=I.own ht n1 n2
 item ρ U s k x hx R I:=by
  have w:=I.own ht n1 n2
  induction I with
  |mk it z n f d=>
  refine item ρ U s k x _ hx R d it fun v h' m rv Gm sb=>⟨v,rfl,.same sb,?_⟩
  have K:=Keeps.nx w (.same (n:=m) sb);exact B4 (ht _ _ Gm) fun o e hc Z=>mj e hc n3 ⟨.same sb,rv.mono K,.mk Gm z n f (dk _ _ _ _ _ _ d K (.inl rfl))⟩
 stop ρ U s R I:=by
  induction I with
  |mk it z n f d=>exact stop ρ U s _ R d it fun h' m sb=>⟨rfl,.ext sb⟩
 self ρ k U s Q I q:=by
  induction I with
  |mk it z n f d=>exact self k s Q it q
 keep ρ k U s Ac s' I R S R' g:=by
  induction I with
  |mk it z n f d=>exact B4 (ht _ _ it) fun o e Z r=> .mk (r _ (S.grow _ _ e z)) (S.fresh _ _ e z) n f (dk _ _ _ _ _ _ d (R.keeps S) (.inr g))
theorem GI.Fe(R:Rep c ρ U s)(it:It s'.heap 0)(d:qQ U (tk ρ U) s'.heap)(e:a=s.heap.objs.size):GI c a It qQ ρ 0 U s':=.mk it (J e R.new) (J e R.CH) (e▸fun q=>R.FK (.inr q)) d
theorem nq{vs:Array Value}{T:Addr->Prop}{h:Heap}(rr:AX T h xs vs.toList):vs[xs.length]? =none:=by rewrite[Array.getElem?_eq_none_iff];exact Rv De (J rr.length (Bf _))
theorem qM{l:Addr}(hh:A.handled=none)(gv:∀ρ U s,Rep c ρ U s->qQ U (tk ρ U) s.heap->∃vs,IsL s.heap l vs/\AX (tk ρ U) s.heap xs vs.toList)(dk:∀U Ac T h T' h',qQ U T h->Keeps T h T' h'->(Ac=U\/G Ac)->qQ Ac T' h'):Walk c A target (.ref a) xs G (· =a) (GI c a (fun h k=>h.IsListIter a l k) qQ):=
 GI.walk (t:= "list_iterator") (fun h k it=>B4 it fun o e hc r=>⟨o,e,hc,fun h' e'=>⟨o,e',hc,r⟩⟩) (by decide) (by decide) (by decide) dk
  (fun ρ U s k x Q hx R d it q=>An (gv ρ U s R d) fun vs hl rr=>An (rr.get hx) fun v hv rv=>wpAny_pyNext_list_item it hl.isList (by exact Rv (EH) hv) fun h' Gm sb=>q v h' _ rv Gm sb)
  (fun ρ U s Q R d it q=>An (gv ρ U s R d) fun vs hl rr=>wpAny_pyNext_list_end hh it hl.isList (nq rr) fun h' sb=>q h' _ sb)
  fun k s Q it q=>wpAny_pyIter_listiter it q
end
theorem sA(hh:A.handled=none):rX c A target (.lst xs) xs (fun Z=>True) U:=fun ρ s v R r=>by
 refine DC (aV r) fun l vs BX z hl rr=>J BX ?_;exact RX hl.isList ⟨fun Z Z e=>Cg _ e,rfl,rfl,(· =s.heap.objs.size),GI c s.heap.objs.size (fun h k=>h.IsListIter s.heap.objs.size l k) (fun Z T h=>∃vs,¬T l/\IsL h l vs/\AX T h xs vs.toList),fun a p=>p▸ai,.Fe R ⟨_,DB _ rfl,rfl,rfl⟩ ⟨vs,z,hl.keep fun Z=>Cg _,rr.mono (.push _)⟩ rfl,
  qM hh (fun Z Z Z Z d=>B4 d fun vs Z hl rr=>⟨vs,hl,rr⟩) fun Z Z Z Z Z Z d K Z=>B4 d fun vs nl hl rr=>⟨vs,(K.2 _ _ nl hl).1,(K.2 _ _ nl hl).2,rr.mono K⟩⟩
theorem qx(hh:A.handled=none)(Ar:U l=some (.list xs)):rX c A target (.ex (.ref l)) xs (fun U=>U l=some (.list xs)) U:=fun ρ s v R r=>by
 refine J (aG r) ?_;exact An ((R.obj _ _ Ar).1) fun vs hl rr=>RX hl.isList ⟨fun Z Z e=>Cg _ e,rfl,rfl,(· =s.heap.objs.size),GI c s.heap.objs.size (fun h k=>h.IsListIter s.heap.objs.size l k) (fun U Z Z=>U l=some (.list xs)),fun a p=>p▸ai,.Fe R ⟨_,DB _ rfl,rfl,rfl⟩ Ar rfl,
  qM hh (fun Z Z Z R d=>(R.obj _ _ d).1) fun Z Z Z Z Z Z d K g=>g.elim (fun e=>e▸d) id⟩
theorem uI{target:Expr}{xs:List V}(hh:A.handled=none):rX c A target (.tup xs) xs (fun Z=>True) U:=fun ρ s v R r=>by
 refine Bc (aL r) fun l vs Et hl rr=>J Et ?_;exact wpAny_pyIter_tuple hl.B5 ⟨fun Z Z e=>Cg _ e,rfl,rfl,(· =s.heap.objs.size),GI c s.heap.objs.size (fun h k=>h.IsTupleIter s.heap.objs.size l k) (fun Z T h=>∃vs,IsT h l vs/\AX T h xs vs.toList),fun a p=>p▸ai,.Fe R ⟨_,DB _ rfl,rfl,rfl⟩ ⟨vs,hl.keep fun Z=>Cg _,rr.mono (.push _)⟩ rfl,
  GI.walk (t:= "tuple_iterator") (fun h k it=>B4 it fun o e hc r=>⟨o,e,hc,fun h' e'=>⟨o,e',hc,r⟩⟩) (by decide) (by decide) (by decide) (fun Z Z Z Z Z Z d K Z=>An d fun vs hl rr=>⟨vs,K.1 _ _ hl,rr.mono K⟩)
   (fun ρ U s k x Q hx R d it q=>An d fun vs hl rr=>An (rr.get hx) fun v hv rv=>wpAny_pyNext_tuple_item it hl.B5 (by exact Rv (EH) hv) fun h' Gm sb=>q v h' _ rv Gm sb)
   (fun ρ U s Q R d it q=>An d fun vs hl rr=>wpAny_pyNext_tuple_end hh it hl.B5 (nq rr) fun h' sb=>q h' _ sb)
   fun k s Q it q=>wpAny_pyIter_tupleiter it q⟩
inductive PI(c:Cx)(A:Around)(target:Expr)(K:List V->(u->Prop)->u->Prop)(ρ:Addr->Prop)(U:u)(s:Shared)(it:Value)(Aw:Shared):Prop
 |mk (Ab:u) (xs:List V) (G:u->Prop) (P:Addr->Prop) (I:(Addr->Prop)->Nat->u->Shared->Prop) (R:Rep c ρ Ab Aw) (S:Bp U s Ab Aw) (pn:∀a,P a->U a=none->s.heap.get? a=none) (i0:I ρ 0 Ab Aw) (W:Walk c A target it xs G P I) (k:K xs G Ab)
def Kz(c:Cx)(A:Around)(target e:Expr)(env:Env)(K:List V->(u->Prop)->u->Prop)(U:u):Prop:=∀⦃ρ⦄ s,Rep c ρ U s->wpAny (model c.prog c.w) A (eval e env) (fun v Ak=>wpAny (model c.prog c.w) A (pyIter v) (PI c A target K ρ U s) Ca Ak) Ca s
theorem bt(S:Bp U s Ab Ak)(z:U a=none)(n:Ak.heap.get? a=none):s.heap.get? a=none:=by
 cases q:s.heap.get? a with
 |none=>rfl
 |some o=>have n:=(S.grow a o q z)▸n;injection n
theorem yj{K:List V->(u->Prop)->u->Prop}(h:EV c A e env (fun y Ab=>∃xs G,rX c A target y xs G Ab/\K xs G Ab) U):Kz c A target e env K U:=fun ρ s R=>
 h.run R fun v Ak y Ab Aq Au BH Od=>Fv Od fun xs G hI k=>BE (hI Ak v Aq BH) (fun it Aw z=>by
  induction z with
  |mk k₂ Tn To P I pn i0 W=>exact .mk Ab xs G P I (Aq.grown k₂ Tn To) (Au.trans (.of_keep k₂)) (fun a p z=>bt Au z (pn a p)) i0 W k) fun Z Z e=>e
end
end
theorem Bp.nx{P:Addr->Prop}(S:Bp U s Ab Ak)(n:Nx P Ak Aw)(p:∀a,P a->U a=none->s.heap.get? a=none):Bp U s Ab Aw:=
 ⟨fun b o e z=>n.keep b o (fun q=>by have e:=(p b q z)▸e;injection e) (S.grow b o e z),S.fresh⟩
theorem mo{R:Result->Shared->Prop}(I:Nat->Shared->Prop)
  (turn:∀n s,I n s->wpAny (model prog w) A (pyNext it) (fun r Ak=>match r with
   |none=>R (.ok .next) Ak
   |some v=>wpAny (model prog w) A (letOwnedTupleGo target it v) (fun Z Ak=>wpAny (model prog w) A (assign target env v) (fun Z Aw=>wpAny (model prog w) A (execs body env) (fun f Bb=>match f with
     | .next| .cont=>∃m,m<n/\I m Bb
     | .brk=>R (.ok .next) Bb
     | .ret v=>R (.ok (.ret v)) Bb) Ca Aw) Ca Ak) Ca Ak) Ca s)
  (n:Nat) (s:Shared) (h:I n s):codeAny (model prog w) A (.forLoop target it body [] env) R s:=by
 refine codeAny_loop' rfl I (fun n s hI=>?_) n h
 show wpAny _ _ ((forTurn target it body [] env).onRaise (fun x=>do noteFrame x env;theTreesLotGoes x)) _ _ s
 refine wpAny_noted (Am (Jm (Am (wpAny_onRaise (BE (turn n s hI) (fun r Ak Ar=>?_) fun Z Z h'=>h'.elim)))))
 cases r with
 |none=>exact AE (.inr ⟨rfl,codeAny_block (R7 Ar)⟩)
 |some v=>
  refine Am (BE Ar (fun Z Ak Ar=>?_) fun Z Z h'=>h'.elim);refine Am (BE Ar (fun Z Aw Du=>Am (BE Du (fun f Bb JS=>?_) fun Z Z h'=>h'.elim)) fun Z Z h'=>h'.elim)
  cases f with
  |next=>exact AE (.inl ⟨rfl,JS⟩)
  |cont=>exact AE (.inl ⟨rfl,JS⟩)
  |brk=>exact AE JS
  |ret v=>exact AE JS
inductive CI(c:Cx)(ρ:Addr->Prop)(len:Nat)(I:(Addr->Prop)->Nat->u->Shared->Prop)(Rw:Nat->u->Prop)(σ₀:u)(s₀:Shared)(n:Nat)(s:Shared):Prop
 |mk (k:Nat) (U:u) (hn:k+n=len) (R:Rep c ρ U s) (S:Bp σ₀ s₀ U s) (i:I ρ k U s) (j:Rw k U)
theorem xN(h:k+(n+1)=m):k<m:=h▸Sd (Nat.succ_pos n)
section
theorem xw{target iter:Expr}(h:Kz c A target iter env (fun xs G Ab=>∃Rw:Nat->u->Prop,Rw 0 Ab/\
   (∀k x Ac,xs[k]? =some x->Rw k Ac->AU c A (fun v=>assign target env v) x (Ib c A body env (fun f Ap=>match f with| .next=>G Ap/\Rw (k+1) Ap| .ret z=>Q (.ret z) Ap)) Ac)/\∀Ac,Rw xs.length Ac->Q .next Ac) U)
  (hs:∀x,foldedSetIterable iter env x=pure x):EX c A (.For target iter body [] pos) env Q U:=fun ρ s R=>by
 refine wpAny_For (BE (h s R) (fun v Ak Ar=>BE Ar (fun it Aw zz=>?_) fun Z Z e=>e.elim) fun Z Z e=>e.elim) hs
 induction zz with
 |mk Ab xs G P I AV AP pn i0 W kk=>
 refine B4 kk fun Rw j0 turn done=>mo (I:=CI c ρ xs.length I Rw U s) (fun n s' zz=>?_) xs.length Aw (.mk 0 Ab (G0 _) AV AP i0 j0)
 induction zz with
 |mk k Ac hn R' S' i' j'=>
 have w:=W.own _ _ _ _ i'
 cases n with
 |succ n=>
  have BZ:=xN hn;refine BE (W.item ρ Ac s' k _ (Cr BZ) R' i') (fun r Bb Oe=>B4 Oe fun v hv GC lg=>?_) fun Z Z e=>e.elim;refine J hv (BE lg (fun Z GD zz=>D4 zz fun Ii rv LU=>?_) fun Z Z e=>e.elim);have Eu:=R'.nx w Ii;refine fp.run (turn k _ Ac (Cr BZ) j' GD v Eu rv) fun Z Ij Dl FR Hl GF=>GF.run FR fun f DZ fl BQ Ew Ff fr Hn=>?_;have S:=Hl.trans Ff;have S':=(S'.nx Ii pn).trans S
  cases fl with
  |next=>
   exact J (show f=.next from fr) ⟨n,HF n,.mk (k+1) BQ ((Lz k n).trans hn) Ew S' (W.keep _ _ _ _ _ _ LU Eu S Ew Hn.1) Hn.2⟩
  |ret z=>
   refine An fr fun Aa e fr=>J e ?_;exact⟨.ret z,BQ,Ew,S',⟨Aa,rfl,fr⟩,Hn⟩
 |zero=>
  have e:k=xs.length:=hn;refine BE (W.stop ρ Ac s' R' (Rv e i')) (fun r Bb zz=>A5 zz fun hr GC=>J hr ?_) fun Z Z e=>e.elim;exact⟨.next,Ac,R'.nx w GC,S'.nx GC pn,rfl,done Ac (Rv e j')⟩
theorem sC(Rw:Nat->u->Prop)(n:Nat)(h0:Rw n U)
  (h:∀n Ac,Rw n Ac->TS c A test env (fun b Ab=>if b then Ib c A body env (fun f Ah=>match f with| .next=>∃m,m<n/\Rw m Ah| .ret z=>Q (.ret z) Ah) Ab else Q .next Ab) Ac):EX c A (.While test body [] pos) env Q U:=fun ρ s R=>by
 refine wpAny_While (codeAny_whileLoop (fp c ρ U s Rw) (fun n s' zz=>?_) n ⟨U,R,.refl U s,h0⟩)
 induction zz with
 |mk Ac R' S' j=>
 refine(h n Ac j).run R' fun b Ak Ab Aq Au q=>?_
 cases b with
 |true=>
  refine J (AS rfl) (q.run Aq fun f Aw fl Ah AV AP fr BI=>?_)
  cases fl with
  |next=>
   refine J (show f=.next from fr) (An BI fun m hm Tq=>?_);clear BI;exact⟨m,hm,Ah,AV,S'.trans (Au.trans AP),Tq⟩
  |ret z=>
   refine An fr ?_;clear fr;intro Aa Cz fr;exact J Cz (⟨.ret z,Ah,AV,S'.trans (Au.trans AP),⟨Aa,rfl,fr⟩,BI⟩)
 |false=>
  exact J (AK Ed) (R7 ⟨.next,Ab,Aq,S'.trans Au,rfl,q⟩)
end
section
theorem j8(O:c.Ok)(e:nsIn c.K mainGlobals x=some (some v))(hr:∀P h,VR P h y v)(q:Q y U)(hg:env.globals=mainGlobals)(hk:env.scope.kind=.function)(hx:env.kindOf x=some .globalImplicit)
  (hd:(x==("__debug__" :Str))=false):EV c A (.Name x pos) env Q U:=fun ρ s R=>by
 exact Bc O.glob fun mg mb G B bb=>Name_function_global hk hx (loadGlobal_global (env:=env) (by exact J hg (G.keeps R.keep)) (mg_of O.K G e) (R.Dk (hr _ _) q)) hd
theorem oL(O:c.Ok)(e:nsIn c.K mainGlobals x=some (some v))(q:Q (.ex v) U)(hg:env.globals=mainGlobals)(hk:env.scope.kind=.function)(hx:env.kindOf x=some .globalImplicit)
  (hd:(x==("__debug__" :Str))=false):EV c A (.Name x pos) env Q U:=j8 O e (fun Z Z=>aW) q hg hk hx hd
theorem n7(O:c.Ok)(e:nsIn c.K mainGlobals x=some none)(b:bootBuiltins x=some v)(q:Q (.ex v) U)(hg:env.globals=mainGlobals)(hb:env.builtins=builtinsNs)(hk:env.scope.kind=.function)
  (hx:env.kindOf x=some .globalImplicit) (hn:x≠ "__name__") (hd:(x==("__debug__" :Str))=false):EV c A (.Name x pos) env Q U:=fun ρ s R=>by
 refine Bc O.glob fun mg mb G B bb=>Name_function_global hk hx (loadGlobal_builtin (env:=env) (mg:=mg) (mb:=mb) (by exact J hg (G.keeps R.keep)) (mg_none_of O.K G e) (by exact J hb (B.keeps R.keep)) (by exact J (bb x hn) b) (R.Dk aW q)) hd
end
theorem eW{vs:Array Value}{i:Nat}{v:Value}(h:vs.toList[i]? =some v):vs[i]? =some v:=by exact Rv (EH) h
theorem AX.size{U:Addr->Prop}{h:Heap}{l:List V}{vs:Array Value}(r:AX U h l vs.toList):vs.size=l.length:=by exact Rv De r.length
theorem bT(h:n<=1000):n<=sizeLine:=by exact J FD (aA D (.n 16777216) 1 1 D (.n 1000) (c1 _) h rfl)
section
abbrev k6(c:Cx)(A:Around)(value slice:Expr)(x y:V)(Q:V->u->Prop)(U:u):Prop:=O2 c A (subscriptTail value slice) x y Q U
theorem xV(h:EV c A value env (fun x Ab=>EV c A slice env (fun y Ah=>k6 c A value slice x y Q Ah) Ab) U):EV c A (.Subscript value slice pos) env Q U:=fun ρ s R=>
 NC (h.run R fun a Ak x Ab Aq Au BH CZ=>CZ.run Aq fun b Aw y Ah AV AP By BI=>BE (BI Aw a b AV (BH.CG Aq AP) By) (fun Z Z p=>p.after (Au.trans AP)) fun Z Z e=>e)
def qH(value slice:Expr):Prop:=∀(l:Addr) (k:Int) (Aa:Tok),subscripted slice false (.ref l) (.int k Aa)=operate [.ref l,.int k Aa] (getItem (.ref l) (.int k Aa))
theorem r9{value slice:Expr}{l:Addr}{xs:List V}{k:Int}{x:V}(Ar:U l=some (.list xs))(h0:0<=k)(hx:xs[k.toNat]? =some x)(q:Q x U)(hk:k<2^63)(hs:qH value slice):
  k6 c A value slice (.ex (.ref l)) (.int k) Q U:=fun ρ s v Aa R rv ru=>by
 refine J (aG rv) (Ax (Ag ru) fun t Ct=>J Ct ?_);exact An ((R.obj _ _ Ar).1) fun vs hl rr=>An (rr.get hx) fun y hy ry=>JR hl.isList.typeIs slot_list_getitem.lookup (wpAny_getItem_list hl.isList h0 hk (eW hy) (R.Dk ry q)) (hs _ _ _)
theorem vU{value slice:Expr}{xs:List V}{k:Int}{x:V}(h0:0<=k)(hx:xs[k.toNat]? =some x)(q:Q x U)(hk:k<2^63)(hs:qH value slice):
  k6 c A value slice (.lst xs) (.int k) Q U:=fun ρ s v Aa R rv ru=>by
 refine DC (aV rv) fun l vs CS z hl rr=>J CS ?_;refine Ax (Ag ru) fun t Dv=>J Dv ?_;exact An (rr.get hx) fun y hy ry=>JR hl.isList.typeIs slot_list_getitem.lookup (wpAny_getItem_list hl.isList h0 hk (eW hy) (R.Dk ry q)) (hs _ _ _)
theorem IsT.isTup(x:IsT h a vs):IsTup h a vs:=let⟨n,e⟩:=x;⟨_,e,rfl,n,rfl⟩
theorem wA(h0:0<=k)(hx:xs[k.toNat]? =some x)(q:Q x U)(hk:k<2^63)(hs:qH value slice):
  k6 c A value slice (.tup xs) (.int k) Q U:=fun ρ s v Aa R rv ru=>by
 refine Bc (aL rv) fun l vs CL hl rr=>J CL ?_;refine Ax (Ag ru) fun t DH=>J DH ?_;refine An (rr.get hx) fun y hy ry=>?_;have BZ:k.toNat<vs.size:=by exact J rr.size ((CP.mp hx).1)
 refine item_tupleT (l:=vs.toList) (by simpa using hl.isTup) (by lia) hk (j:=k.toNat) ?_ hy (R.Dk ry q) (hs _ _ _);have Ts:k.toNat<vs.toList.length:=by exact J De BZ
 show(if(decide (0<=if k<0 then k+(vs.toList.length:Int)else k) &&decide ((if k<0 then k+(vs.toList.length:Int)else k)<(vs.toList.length:Int)))=true then some (if k<0 then k+(vs.toList.length:Int)else k).toNat else none)=some k.toNat
 refine J (AK (Int.not_lt.mpr h0)) (J (AS (by exact J (Gl _ _) (J decide_eq_true_eq (J decide_eq_true_eq (⟨h0,(Int.toNat_lt h0).mp Ts⟩))))) ?_);rfl
theorem jR(Ar:U l=some (.list xs))(hx:xs.getLast? =some x)(hl:xs.length<=1000)(q:Q x U)(hs:qH value slice):
  k6 c A value slice (.ex (.ref l)) (.int (-1)) Q U:=fun ρ s v Aa R rv ru=>by
 refine J (aG rv) (Ax (Ag ru) fun t Cz=>J Cz ?_);refine An ((R.obj _ _ Ar).1) fun vs BO rr=>?_;rw[List.getLast?_eq_getElem?]at hx;refine An (rr.get hx) fun y hy ry=>?_;have hn:=(CP.mp hx).1;have hz:=rr.size;refine JR BO.isList.typeIs slot_list_getitem.lookup ?_ (hs _ _ _);have e1:(-1:Int)+(vs.size:Int)=(xs.length-1:Nat):=by rw[hz];exact(Int.add_comm _ _).trans (dc (Dj (DS _) hn))
 refine wpAny_getItem_list_neg BO.isList (by decide) (Int.neg_le_neg (Gv.mpr (AG (Dj (DS _) hn) (AA hz.symm)))) (by decide) (eW ?_) (R.Dk ry q);exact J (AL Int.toNat e1) hy
theorem cQ(R:Rep c ρ U s)(Ar:U l=some (.list xs))(sb:Heap.SameBut l s.heap h')(e:h'.get? l=some {cls:=.type "list",data:=.seq us n})
  (r:∀T h,Keeps (tk ρ U) s.heap T h->AX T h ys us.toList):Rep c ρ (U.set l (.list ys)) {s with heap:=h',toks:=tn}/\Bp U s (U.set l (.list ys)) {s with heap:=h',toks:=tn}:=
 R.upd Ar sb (fun K=>⟨us,⟨n,e⟩,r _ _ K⟩) rfl rfl
theorem fe(Ar:U l=some (.list xs))(hl:xs.length<=1000)(q:Q (.ex .none) (U.set l (.list (xs++[x])))):a6 c A (.builtin "list.append") [.ex (.ref l),x] Q U:=fun ρ s vs R r=>by refine Bc (Ae r) fun v r' Ik rv r'=>J Ik ?_;refine Bc (Ae r') fun Aa Ex Ey ru Ex=>J Ey ?_;refine J (Aj Ex) (J (aG rv) ?_);refine An ((R.obj _ _ Ar).1) fun ws Dm rr=>Ax Dm fun n e=>?_;clear Dm;refine append_at e (fun h' sb e'=>?_) (bT (by exact J rr.size hl));obtain⟨R',S'⟩:=cQ R (tn:=s.toks) Ar sb e' (ys:=xs++[x]) (fun T h K=>by exact J Ny ((rr.mono K).append (eU (ru.mono K))));exact⟨_,_,R',S',aW,q⟩
theorem fL(Ar:U l=some (.list xs))(Du:U m=some (.list ys))(hl:xs.length+ys.length<=1000)(q:Q (.ex .none) (U.set l (.list (xs++ys)))):a6 c A (.builtin "list.extend") [.ex (.ref l),.ex (.ref m)] Q U:=fun ρ s vs R r=>by refine Bc (Ae r) fun v r' DI rv r'=>J DI ?_;refine Bc (Ae r') fun Aa Ex FT ru Ex=>J FT ?_;refine J (Aj Ex) (J (aG rv) (J (aG ru) ?_));refine An ((R.obj _ _ Ar).1) fun ws Es rr=>Ax Es fun n e=>?_;clear Es;refine An ((R.obj _ _ Du).1) fun us Dp EN=>Ax Dp fun k e2=>?_;clear Dp;have hz:ws.size+us.size<=sizeLine:=bT (by exact J rr.size (J EN.size hl));refine call_meets PySem.F.slot_list_extend ⟨_,e,rfl⟩ PySem.F.entry_list_extend (PySem.F.args_list_extend_2 _ _) (AutoSeq1.list_extend_list_list_0 l ws n m us k (extend_door hz) (AG (Ea _ _) hz) (Ft hz)) ⟨e,e2,?_⟩;have Ie:=Fu (Obj.mapSeq fun x=>x++us) e (by rw[Ri];rfl);rw[Ri]at Ie;obtain⟨R',S'⟩:=cQ R (tn:=s.toks) Ar (Fb ..) Ie (ys:=xs++ys) (fun T h K=>by exact J Q6 ((rr.mono K).append (EN.mono K)));exact⟨_,_,R',S',aW,q⟩
theorem f8(Ar:U l=some (.list xs))(hl:xs.length+ys.length<=1000)(q:Q (.ex .none) (U.set l (.list (xs++ys)))):a6 c A (.builtin "list.extend") [.ex (.ref l),.lst ys] Q U:=fun ρ s vs R r=>by refine Bc (Ae r) fun v r' Il rv r'=>J Il ?_;refine Bc (Ae r') fun Aa Ex FU ru Ex=>J FU ?_;refine J (Aj Ex) (J (aG rv) ?_);refine DC (aV ru) fun m us FV z KA EN=>J FV (Ax KA fun k e2=>?_);clear KA;refine An ((R.obj _ _ Ar).1) fun ws E1 rr=>Ax E1 fun n e=>?_;clear E1;have hz:ws.size+us.size<=sizeLine:=bT (by exact J rr.size (J EN.size hl));refine call_meets PySem.F.slot_list_extend ⟨_,e,rfl⟩ PySem.F.entry_list_extend (PySem.F.args_list_extend_2 _ _) (AutoSeq1.list_extend_list_list_0 l ws n m us k (extend_door hz) (AG (Ea _ _) hz) (Ft hz)) ⟨e,e2,?_⟩;have Ie:=Fu (Obj.mapSeq fun x=>x++us) e (by rw[Ri];rfl);rw[Ri]at Ie;obtain⟨R',S'⟩:=cQ R (tn:=s.toks) Ar (Fb ..) Ie (ys:=xs++ys) (fun T h K=>by exact J Q6 ((rr.mono K).append (EN.mono K)));exact⟨_,_,R',S',aW,q⟩
theorem AX.E2{U:Addr->Prop}(r:AX U h l vs):AX U h l.dropLast vs.dropLast:=by exact J Sq (J Sq (J r.length (r.Ky _)))
theorem pB(VX:Array Value)(n i:Nat):∃k,Obj.mapSeq (fun xs=>xs.eraseIdxIfInBounds i) {cls:=.type "list",data:=.seq VX n}={cls:=.type "list",data:=.seq (VX.eraseIdxIfInBounds i) k}:=by unfold Obj.mapSeq;exact⟨_,rfl⟩
theorem iA(ws:Array Value):(ws.eraseIdxIfInBounds (ws.size-1)).toList=ws.toList.dropLast:=by
 unfold Array.eraseIdxIfInBounds
 set_option tactic.hygienic true in split
 ·refine J Array.toList_eraseIdx (J Sq (J (So _ _) (J De (J (List.drop_eq_nil_of_le (by exact J De (aA D (.a Y qW) 1 1 D (.a Y qW) (c2 _ _) EM rfl))) ?_))));exact J (HL _) rfl
 ·rename_i h
  have:ws.size=0:=Nat.eq_zero_of_not_pos fun p=>h (Nat.sub_lt p Nat.one_pos);have:ws= #[]:=Array.eq_empty_of_size_eq_zero this;exact J this rfl
theorem uQ{l:Addr}{xs:List V}{x:V}(Ar:U l=some (.list xs))(hx:xs.getLast? =some x)(hl:xs.length<=1000)(q:Q x (U.set l (.list xs.dropLast))):a6 c A (.builtin "list.pop") [.ex (.ref l)] Q U:=fun ρ s vs R r=>by
 refine Bc (Ae r) fun v r' Of rv r'=>J Of ?_;refine J (Aj r') (J (aG rv) ?_);refine An ((R.obj _ _ Ar).1) fun ws G6 rr=>Ax G6 fun n e=>?_;clear G6;rw[List.getLast?_eq_getElem?]at hx;refine An (rr.get hx) fun y hy ry=>call_meets PySem.F.slot_list_pop ⟨_,e,rfl⟩ PySem.F.entry_list_pop (PySem.F.args_list_pop_1 _) (MeetsSeq.list_pop_last l ws n y (eW (by exact J rr.size hy)) (bT (by exact J rr.size hl))) ⟨e,?_⟩;refine Ax (pB ws n (ws.size-1)) fun k hk=>?_;have Ie:=Fu (Obj.mapSeq fun xs=>xs.eraseIdxIfInBounds (ws.size-1)) e (by exact J hk rfl);rw[hk]at Ie;have K:Keeps (tk ρ U) s.heap (tk ρ (U.set l (.list xs.dropLast))) (s.heap.update l (Obj.mapSeq fun xs=>xs.eraseIdxIfInBounds (ws.size-1))):=by obtain⟨R',S'⟩:=cQ R (tn:=s.toks) Ar (Fb ..) Ie (ys:=xs.dropLast) (fun T h K=>by exact J (iA _) ((rr.mono K).E2));exact R.keeps S'
 obtain⟨R',S'⟩:=cQ R (tn:=s.toks) Ar (Fb ..) Ie (ys:=xs.dropLast) (fun T h K=>by exact J (iA _) ((rr.mono K).E2));exact⟨_,_,R',S',ry.mono K,q⟩
theorem AX.LW{U:Addr->Prop}(rx:VR U h x v):∀{vs:List Value} (i:Nat),AX U h l vs->AX U h (l.set i x) (vs.set i v):=by
 induction l with
 |nil=>intro vs _ r;cases r;exact Bn
 |cons y l ih=>
  intro vs i r;refine Bc (Ae r) fun Aa p Im a b=>J Im ?_
  cases i with
  |zero=>exact A6 rx b
  |succ i=>exact A6 a (ih i b)
theorem oo{E:Value->Shared->Prop}{n:Nat}{k:Int}{Q:Unit->Shared->Prop}(ho:s.heap.get? l=some {cls:=.type "list",data:=.seq items n})
  (h0:0<=k) (Og:k<2^63) (hn:k<items.size)
  (hQ:∀h' m,h'.get? l=some {cls:=.type "list",data:=.seq (items.setIfInBounds k.toNat v) m}->Heap.SameBut l s.heap h'->Q () {s with heap:=h'}):wpAny (model prog w) A (setItem (.ref l) (.int k t) v) Q E s:=by
 have hT:s.TypeIs (.ref l) "list" :=⟨_,ho,rfl⟩
 have hd:({cls:=.type "list",data:=.seq items n}:Obj).data=.seq items n:=rfl;generalize Xr:({cls:=.type "list",data:=.seq items n}:Obj)=o at ho hd;unfold setItem
 try with_reducible refine Dq ?_
 first|refine Am (AE ?_)|skip
 refine Am (QK hT (by decide) ?_);refine Am (My (name:=Ai "__setitem__") hT slot_list_setitem
  (Gj slot_list_setitem hT entry_list_setitem ?_ (args_list_setitem _ _ _)))
 show wpAny _ _ (Builtin.List.listSubscript? (.int k t)>>=_) _ _ s
 refine Am (wpAny_listSubscript_int (fitsIndex_of h0 Og) ?_);clear Og;refine Ax (Int.eq_ofNat_of_zero_le h0) fun j Oh=>?_;subst Oh;have hj:j<items.size:=by lia
 have CM:items[j]? =some items[j]:=Kq hj;refine Am (Am (wpAny_seqItemAt ho hd (AE ?_)));refine J CM (Ax (Obj.data_mapSeq hd (·.setIfInBounds j v)) fun n' Oi=>?_);have e:=Fu (Obj.mapSeq (·.setIfInBounds j v)) ho (Obj.isFreed_of_seq Oi);have e':Obj.mapSeq (·.setIfInBounds j v) o={cls:=.type "list",data:=.seq (items.setIfInBounds j v) n'}:=by
  subst Xr;have hc:=Obj.cls_mapSeq (f:=(·.setIfInBounds j v)) ({cls:=.type "list",data:=.seq items n}:Obj)
  revert Oi hc
  cases h':Obj.mapSeq (·.setIfInBounds j v) ({cls:=.type "list",data:=.seq items n}:Obj)with
  |mk c d dt sl=>
   intro Oi hc;simp only at Oi hc;subst Oi hc;unfold Obj.mapSeq at h';injection h' with h1 h2 h3 h4
   refine Rv h2 (Rv h4 ?_);rfl
 rw[e']at e;refine Am (wpAny_setSeqItemAt ho hd ?_)
 first
  |exact Am (AE (AE ⟨.none,rfl,AE (hQ _ _ e (Fb ..))⟩))
  |exact AE ⟨.none,rfl,AE (hQ _ _ e (Fb ..))⟩
theorem uJ{k:Int}{Q:u->Prop}(Ar:U l=some (.list xs))(h0:0<=k)(hn:k<xs.length)(q:Q (U.set l (.list (xs.set k.toNat x))))(hk:k<2^63):Rt c A setItem (.ex (.ref l)) (.int k) x Q U:=fun ρ s Aa v w R ru rv KD=>by refine J (aG ru) (Ax (Ag rv) fun t Oj=>J Oj ?_);refine An ((R.obj _ _ Ar).1) fun ws KG rr=>Ax KG fun n e=>?_;clear KG;have hz:=rr.size;refine oo e h0 hk (by lia) fun h' m e' sb=>?_;obtain⟨R',S'⟩:=cQ R (tn:=s.toks) Ar sb e' (ys:=xs.set k.toNat x) (fun T h K=>by exact J Array.toList_setIfInBounds (AX.LW (KD.mono K) _ (rr.mono K)));exact⟨_,R',S',q⟩
end
theorem mJ{E:Value->Shared->Prop}{S:Addr}(hT:s.TypeIs (.ref S) t)(l:typeLookup (.type t) (Ai "__len__")=pure (some (.builtin i)))(hs:splitId i=some (t,n))(sb:isSubtype (.type t) (.type t)=pure true)(hi:i= "set.__len__" \/i= "dict.__len__")(h:Q false s):wpAny (model prog w) A (SR (.ref S)) Q E s:=by unfold Builtin.List.listLengthHint;refine Am (Lv hT l ?_);dsimp only;refine J hs (Am (RZ hT sb ?_));refine Dd rfl (Gs (DU (hi.elim (fun e=>by subst e;rfl) fun e=>by subst e;rfl)) (Am (Ni hT (AE h))))
section
theorem Xs(q:Q (.int (a+b)) U):O2 c A (binaryOp .Add) (.int a) (.int b) Q U:=fun ρ s Aa v R ru rv=>by exact Ax (Ag ru) fun t Ct=>J Ct (Ax (Ag rv) fun t' C6=>J C6 (add_int (R.AO _ aq q)))
theorem zn(q:Q (.int (a-b)) U):O2 c A (binaryOp .Sub) (.int a) (.int b) Q U:=fun ρ s Aa v R ru rv=>by exact Ax (Ag ru) fun t CK=>J CK (Ax (Ag rv) fun t' Ci=>J Ci (sub_int (R.AO _ aq q)))
theorem sG(q:Q (.int (a*b)) U)(hm:IntMulOk a b):O2 c A (binaryOp .Mult) (.int a) (.int b) Q U:=fun ρ s Aa v R ru rv=>by exact Ax (Ag ru) fun t Dv=>J Dv (Ax (Ag rv) fun t' GA=>J GA (mul_int (R.AO _ aq q) hm))
theorem l7(hb:b≠0)(q:Q (.int (a.fmod b)) U):O2 c A (binaryOp .Mod) (.int a) (.int b) Q U:=fun ρ s Aa v R ru rv=>by exact Ax (Ag ru) fun t CR=>J CR (Ax (Ag rv) fun t' DH=>J DH (mod_int' hb (R.AO _ aq q)))
theorem pP(hb:b≠0)(hp:Builtin.divisionGoesByPylong a b=false)(q:Q (.int (a.fdiv b)) U):O2 c A (binaryOp .FloorDiv) (.int a) (.int b) Q U:=fun ρ s Aa v R ru rv=>by exact Ax (Ag ru) fun t GG=>J GG (Ax (Ag rv) fun t' Cz=>J Cz (floordiv_int hb (R.AO _ aq q) (.inl hp)))
theorem Tt(q:Q (.ex (.bool (a==b))) U):O2 c A (compareOp .Eq) (.int a) (.int b) Q U:=fun ρ s Aa v R ru rv=>by exact Ax (Ag ru) fun t DJ=>J DJ (Ax (Ag rv) fun t' CB=>J CB (eq_int (R.Dk aW q)))
theorem Tu(q:Q (.ex (.bool (a !=b))) U):O2 c A (compareOp .NotEq) (.int a) (.int b) Q U:=fun ρ s Aa v R ru rv=>by exact Ax (Ag ru) fun t B0=>J B0 (Ax (Ag rv) fun t' DK=>J DK (ne_int (R.Dk aW q)))
theorem Tv(q:Q (.ex (.bool (decide (a<b)))) U):O2 c A (compareOp .Lt) (.int a) (.int b) Q U:=fun ρ s Aa v R ru rv=>by exact Ax (Ag ru) fun t Dm=>J Dm (Ax (Ag rv) fun t' Io=>J Io (lt_int (R.Dk aW q)))
theorem zT(q:Q (.ex (.bool (decide (a<=b)))) U):O2 c A (compareOp .LtE) (.int a) (.int b) Q U:=fun ρ s Aa v R ru rv=>by exact Ax (Ag ru) fun t D5=>J D5 (Ax (Ag rv) fun t' Es=>J Es (le_int (R.Dk aW q)))
theorem Tw(q:Q (.ex (.bool (decide (a>b)))) U):O2 c A (compareOp .Gt) (.int a) (.int b) Q U:=fun ρ s Aa v R ru rv=>by exact Ax (Ag ru) fun t Dp=>J Dp (Ax (Ag rv) fun t' Ez=>J Ez (gt_int (R.Dk aW q)))
theorem Tx(q:Q (.ex (.bool (decide (a>=b)))) U):O2 c A (compareOp .GtE) (.int a) (.int b) Q U:=fun ρ s Aa v R ru rv=>by exact Ax (Ag ru) fun t Ip=>J Ip (Ax (Ag rv) fun t' Ol=>J Ol (ge_int (R.Dk aW q)))
theorem sj(h:EV c A x env (fun v Ab=>∃i,v=.int i/\Q (.int (-i)) Ab) U):EV c A (.UnaryOp .USub x pos) env Q U:=fun ρ s R=>
 wpAny_UnaryOp (h.run R fun v Ak y Ab Aq Au r Om=>An Om fun i hy q=>by subst hy;refine Ax (Ag r) fun t E1=>?_;refine J E1 ?_;exact neg_int ⟨_,Ab,Aq.toks _,⟨Au.grow,Au.fresh⟩,aq,q⟩)
theorem tC(q:Q (.ex (.bool (decide (a=b)))) U):O2 c A (compareOp .Eq) (.str a) (.str b) Q U:=fun ρ s Aa v R ru rv=>by
 refine Ax (Av ru) fun t Iq=>J Iq (Ax (Av rv) fun t' G6=>J G6 ?_);refine eq_str ?_;have e:(a.cps.toList==b.cps.toList)=decide (a=b):=by
  by_cases Cc:a=b
  ·subst Cc;simp
  ·rw[Df Cc]
   refine beq_eq_false_iff_ne.mpr fun hl=>Cc ?_
   cases a;cases b
   simp only[Str.mk.injEq];exact Array.toList_inj.mp hl
 first|(rw[e];exact R.Dk aW q)|exact R.Dk aW q
theorem wK(hl:xs.length<=1000)(q:Q (.int xs.length) U):a6 c A (.builtin "len") [.lst xs] Q U:=fun ρ s vs R r=>by refine Bc (Ae r) fun v r' Oo rv r'=>J Oo ?_;refine J (Aj r') (DC (aV rv) fun l ws Oq z BO rr=>J Oq ?_);refine call_len_list BO.isList (by exact J rr.size (ue (aA (.a D qW) (.n 1001) 1 1 D (.n 1000) (c1 _) hl rfl:_<1001) rfl)) ?_;exact J rr.size (R.AO _ aq q)
theorem len_list(Ar:U l=some (.list xs))(hl:xs.length<=1000)(q:Q (.int xs.length) U):a6 c A (.builtin "len") [.ex (.ref l)] Q U:=fun ρ s vs R r=>by refine Bc (Ae r) fun v r' Im rv r'=>J Im ?_;refine J (Aj r') (J (aG rv) ?_);refine An ((R.obj _ _ Ar).1) fun ws BO rr=>call_len_list BO.isList (by exact J rr.size (ue (aA (.a D qW) (.n 1001) 1 1 D (.n 1000) (c1 _) hl rfl:_<1001) rfl)) ?_;exact J rr.size (R.AO _ aq q)
theorem vB(hl:xs.length<=1000)(q:Q (.int xs.length) U):a6 c A (.builtin "len") [.tup xs] Q U:=fun ρ s vs R r=>by refine Bc (Ae r) fun v r' Ir rv r'=>J Ir ?_;refine J (Aj r') (Bc (aL rv) fun l ws Iu KH rr=>J Iu (Ax KH fun n e=>?_));clear KH;refine PySem.P.len_tuple e (by refine J rr.size ?_;lia) ?_;exact J rr.size (R.AO _ aq q)
theorem ii(hl:xs.length<=1000)(q:Q (.tup xs) U):a6 c A (.type "tuple") [.lst xs] Q U:=fun ρ s vs R r=>by refine Bc (Ae r) fun v r' Iv rv r'=>J Iv ?_;refine J (Aj r') (DC (aV rv) fun l ws Ot z BO rr=>J Ot ?_);refine call_tuple_list BO.isList (fun h' k=>?_) (bT (by exact J rr.size hl));have k':∀b o,s.heap.get? b=some o->(h'.push {cls:=.type "tuple",data:=.seq ws}).get? b=some o:=fun b o e=>Cg _ (k b o e);have R':Rep c ρ U {s with heap:=h'.push {cls:=.type "tuple",data:=.seq ws}}:=R.grown k' rfl rfl;have S':Bp U s U {s with heap:=h'.push {cls:=.type "tuple",data:=.seq ws}}:=.of_keep k';exact⟨_,U,R',S',dH ⟨_,DB _ rfl⟩ (rr.mono (R.keeps S')),q⟩
theorem call_tuple_tup(q:Q (.tup xs) U):a6 c A (.type "tuple") [.tup xs] Q U:=fun ρ s vs R r=>by refine Bc (Ae r) fun v r' Iw rv r'=>J Iw ?_;refine J (Aj r') (Bc (aL rv) fun l ws Ou ht rr=>J Ou ?_);exact call_tuple_same ht.B5 (R.Dk (dH ht rr) q)
theorem qr{b:Bool}(q:Q (.int (if b then 1 else 0)) U):a6 c A (.type "int") [.ex (.bool b)] Q U:=fun ρ s vs R r=>by refine Bc (Ae r) fun v r' Ov rv r'=>J Ov ?_;refine J (Aj r') (J (aG rv) ?_);exact call_int_bool (R.AO _ aq q)
theorem tq(q:Q (.int (if a<0 then-a else a)) U):a6 c A (.builtin "abs") [.int a] Q U:=fun ρ s vs R r=>by refine Bc (Ae r) fun v r' Iy rv r'=>J Iy ?_;refine J (Aj r') (Ax (Ag rv) fun t Ow=>J Ow ?_);exact call_abs_int fun Aa tk=>R.AO _ aq q
theorem sv(hh:A.handled=none)(q:Q (.int (if b>a then b else a)) U):a6 c A (.builtin "max") [.int a,.int b] Q U:=fun ρ s vs R r=>by
 refine Bc (Ae r) fun v r' Ox rv r'=>J Ox ?_;refine Bc (Ae r') fun Aa Ex Iz ru Ex=>J Iz ?_;refine J (Aj Ex) (Ax (Ag rv) fun t Oy=>J Oy (Ax (Ag ru) fun t' Oz=>J Oz ?_));refine max_two_ints hh fun h' tk k=>⟨_,U,R.grown k rfl rfl,.of_keep k,?_,q⟩
 split<;>exact aq
theorem sf(hh:A.handled=none)(q:Q (.int (if b<a then b else a)) U):a6 c A (.builtin "min") [.int a,.int b] Q U:=fun ρ s vs R r=>by
 refine Bc (Ae r) fun v r' OA rv r'=>J OA ?_;refine Bc (Ae r') fun Aa Ex OB ru Ex=>J OB ?_;refine J (Aj Ex) (Ax (Ag rv) fun t OC=>J OC (Ax (Ag ru) fun t' IA=>J IA ?_));refine min_two_ints hh fun h' tk k=>⟨_,U,R.grown k rfl rfl,.of_keep k,?_,q⟩
 split<;>exact aq
theorem p5(hl:xs.length+ys.length<=1000)(hx:xs≠[])(q:Q (.tup (xs++ys)) U):O2 c A (binaryOp .Add) (.tup xs) (.tup ys) Q U:=fun ρ s Aa v R ru rv=>by
 refine Bc (aL ru) fun l ws OD KI rr=>J OD (Ax KI fun n e=>?_);clear KI;refine Bc (aL rv) fun m us OE KJ EN=>J OE (Ax KJ fun k e2=>?_);clear KJ;have hw:¬ws.isEmpty=true:=by rewrite[Array.isEmpty_iff_size_eq_zero];refine J rr.size ?_;intro h;exact hx (Nl.mp h)
 by_cases hu:us.isEmpty=true
 ·have hy:ys=[]:=by rw[Array.isEmpty_iff_size_eq_zero,EN.size]at hu;exact Nl.mp hu
  subst hy;rw[HL]at q;exact concat_meets ⟨_,e,rfl⟩ ⟨_,e2,rfl⟩ noFill_tuple_add seq_tuple_add F.slot_tuple_add F.entry_tuple_add (F.args_tuple_add_2 _ _) (AutoSeq1.tuple___add___tuple_tuple_1 l ws n m us k hw hu) ⟨e,e2,R.Dk (dH ⟨n,e⟩ rr) q⟩
 ·refine PySem.P.add_tuple e e2 hw hu ⟨_,U,R.push _,.push _,dH ⟨_,DB _ rfl⟩ ?_,q⟩ (bT (by exact J rr.size (J EN.size hl)))
  exact J Q6 ((rr.mono (.push _)).append (EN.mono (.push _)))
theorem add_lists(R:Rep c ρ U s)(e:s.heap.get? l=some {cls:=.type "list",data:=.seq ws n})(e2:s.heap.get? m=some {cls:=.type "list",data:=.seq us k})
  (rr:AX (tk ρ U) s.heap xs ws.toList) (EN:AX (tk ρ U) s.heap ys us.toList) (hl:xs.length+ys.length<=1000) (q:Q (.lst (xs++ys)) U):wpAny (model c.prog c.w) A (binaryOp .Add (.ref l) (.ref m)) (Gw c ρ U s Q) Ca s:=by
 refine PySem.P.add_list e e2 ⟨_,U,R.push _,.push _,bm R.FK ⟨_,DB _ rfl⟩ ?_,q⟩ (bT (by exact J rr.size (J EN.size hl)));exact J Q6 ((rr.mono (.push _)).append (EN.mono (.push _)))
theorem fZ(hl:xs.length+ys.length<=1000)(q:Q (.lst (xs++ys)) U):O2 c A (binaryOp .Add) (.lst xs) (.lst ys) Q U:=fun ρ s Aa v R ru rv=>by refine DC (aV ru) fun l ws OF Z KL rr=>J OF (Ax KL fun n e=>?_);clear KL;refine DC (aV rv) fun m us IB Z KN EN=>J IB (Ax KN fun k e2=>?_);clear KN;exact add_lists R e e2 rr EN hl q
theorem ja(Ar:U l=some (.list xs))(Du:U m=some (.list ys))(hl:xs.length+ys.length<=1000)(q:Q (.lst (xs++ys)) U):O2 c A (binaryOp .Add) (.ex (.ref l)) (.ex (.ref m)) Q U:=fun ρ s Aa v R ru rv=>by refine J (aG ru) (J (aG rv) ?_);refine An ((R.obj _ _ Ar).1) fun ws KO rr=>Ax KO fun n e=>?_;clear KO;refine An ((R.obj _ _ Du).1) fun us KP EN=>Ax KP fun k e2=>?_;clear KP;exact add_lists R e e2 rr EN hl q
theorem lD(Du:U m=some (.list ys))(hl:xs.length+ys.length<=1000)(q:Q (.lst (xs++ys)) U):O2 c A (binaryOp .Add) (.lst xs) (.ex (.ref m)) Q U:=fun ρ s Aa v R ru rv=>by refine J (aG rv) (DC (aV ru) fun l ws IC Z KQ rr=>J IC (Ax KQ fun n e=>?_));clear KQ;refine An ((R.obj _ _ Du).1) fun us KR EN=>Ax KR fun k e2=>?_;clear KR;exact add_lists R e e2 rr EN hl q
theorem lR(Ar:U l=some (.list xs))(Du:U m=some (.list ys))(hl:xs.length+ys.length<=1000)(q:∀a,U a=none->Q (.ex (.ref a)) (U.set a (.list (xs++ys)))):O2 c A (binaryOp .Add) (.ex (.ref l)) (.ex (.ref m)) Q U:=fun ρ s Aa v R ru rv=>by refine J (aG ru) (J (aG rv) ?_);refine An ((R.obj _ _ Ar).1) fun ws KU rr=>Ax KU fun n e=>?_;clear KU;refine An ((R.obj _ _ Du).1) fun us KW EN=>Ax KW fun k e2=>?_;clear KW;refine PySem.P.add_list e e2 ?_ (bT (by exact J rr.size (J EN.size hl)));have N:=R.newList (rr.append EN);rw[show(ws.toList++us.toList).toArray=ws++us by simp]at N;exact⟨_,_,N.1,N.2,aW,q _ R.new⟩
theorem xA{id:String}(Ar:U x=some (.list xs))(slot:Slot "list" name id)(LX:typeOf (.builtin id)=pure (.type "method_descriptor")):MT c (.ex (.ref x)) name U (.builtin id):=fun ρ A s v pl P E R r q=>by rw[aG r]at q ⊢;refine An ((R.obj _ _ Ar).1) fun ws KY rr=>Ax KY fun n e=>?_;clear KY;exact getMethod_builtin ⟨_,e,rfl⟩ PySem.F.plainAttrs_list slot LX (fun a ha=>by injection ha with ha;subst ha;exact⟨_,e,rfl⟩) q
theorem vY{id:String}(Ar:U x=some (.dict xs))(slot:Slot "dict" name id)(LX:typeOf (.builtin id)=pure (.type "method_descriptor")):MT c (.ex (.ref x)) name U (.builtin id):=fun ρ A s v pl P E R r q=>by rw[aG r]at q ⊢;exact HN ((R.obj _ _ Ar).1) fun o es n e ex Z=>getMethod_builtin ⟨_,e,ex.1⟩ PySem.F.plainAttrs_dict slot LX (fun a ha=>by injection ha with ha;subst ha;exact⟨_,e,ex.2.1⟩) q
end
section
noncomputable instance (priority:=low):DecidableEq V:=fun a b=>Classical.propDecidable (a=b)
def KV:Nat->V->Prop
 |_,.int _=>True
 |_,.str _=>True
 |n+1,.tup l=>∀x∈l,KV n x
 |_,_=>False
mutual
noncomputable def dr:V->Nat
 | .int _=>1
 | .str _=>1
 | .tup l=>LY l+1
 |_=>0
noncomputable def LY:List V->Nat
 |[]=>0
 |x::l=>dr x+LY l
end
mutual
def Sm:V->V->Prop
 | .int _,.int _=>True
 | .str _,.str _=>True
 | .tup l,.tup m=>KZ l m
 |_,_=>False
def KZ:List V->List V->Prop
 |x::l,y::m=>Sm x y/\KZ l m
 |_,_=>True
end
theorem KV.Br(k:KV n (.lst l)):False:=by cases n<;>exact k
theorem KV.BR(k:KV n (.ex l)):False:=by cases n<;>exact k
theorem KV.tup(k:KV (n+1) (.tup l)):∀x∈l,KV n x:=k
theorem KV.ind{P:V->Prop}(hi:∀i,P (.int i))(hs:∀s,P (.str s))(ht:∀l,(∀x∈l,P x)->P (.tup l)):∀{x:V},KV n x->P x:=by
 induction n with
 |zero=>
  intro x k
  cases x with
  |int i=>exact hi i
  |str s=>exact hs s
  |tup l=>exact Kt k
  |lst l=>exact k.Br.elim
  |ex w=>exact k.BR.elim
 |succ n ih=>
  intro x k
  cases x with
  |int i=>exact hi i
  |str s=>exact hs s
  |tup l=>exact ht l fun x hx=>ih (k.tup x hx)
  |lst l=>exact k.Br.elim
  |ex w=>exact k.BR.elim
theorem aj.imp{R R':α->β->Prop}(r:aj R l m):(∀a,a∈l->∀{b},R a b->R' a b)->aj R' l m:=by
 induction r with
 |nil=>exact fun Z=> .nil
 |cons h t ih=>exact fun k=> .cons (k _ (.head _) h) (ih fun a ha=>k a (.tail _ ha))
theorem aj.inj{R:α->β->Prop}{P:α->Prop}(r:aj R l m):∀{l':List α},(∀a,a∈l->∀{a' b},P a'->R a b->R a' b->a=a')->(∀a,a∈l'->P a)->aj R l' m->l=l':=by
 induction r with
 |nil=>intro l' _ _ q;cases q;rfl
 |cons h t ih=>
  intro l' k p q
  cases q with
  |cons h' t'=>exact J (k _ (.head _) (p _ (.head _)) h h') (J (ih (fun a ha=>k a (.tail _ ha)) (fun a ha=>p a (.tail _ ha)) t') rfl)
section
theorem VR.key(k:KV n x):∀{v:Value},VR T h x v->VR T' h x v:=
 KV.ind (P:=fun x=>∀{v:Value},VR T h x v->VR T' h x v) (fun Z Z r=>r) (fun Z Z r=>r) (fun l ih v r=>r.elim fun a r=>r.elim fun vs r=>⟨a,vs,r.1,r.2.1,aj.NH (r.2.2.a2.imp ih)⟩) k
theorem VR.inj(k:KV n x):∀{y:V} {v:Value},(∃n,KV n y)->VR T h x v->VR T h y v->x=y:=by
 refine KV.ind (P:=fun x=>∀{y:V} {v:Value},(∃n,KV n y)->VR T h x v->VR T h y v->x=y) (fun i y v k r q=>?_) (fun s y v k r q=>?_) (fun l ih y v k r q=>?_) k
 ·obtain⟨t,rfl⟩:=Ag r
  cases y with
  |int j=>obtain⟨t',e⟩:=Ag q;injection e with zq;subst zq;rfl
  |str j=>exact q.elim nofun
  |tup l=>exact q.elim fun Z q=>q.elim nofun
  |lst l=>exact k.elim fun Z k=>k.Br.elim
  |ex w=>exact k.elim fun Z k=>k.BR.elim
 ·obtain⟨t,rfl⟩:=Av r
  cases y with
  |int j=>exact q.elim nofun
  |str j=>obtain⟨t',e⟩:=Av q;injection e with zq;subst zq;rfl
  |tup l=>exact q.elim fun Z q=>q.elim nofun
  |lst l=>exact k.elim fun Z k=>k.Br.elim
  |ex w=>exact k.elim fun Z k=>k.BR.elim
 ·obtain⟨a,vs,rfl,g,r⟩:=aL r
  cases y with
  |int j=>exact q.elim nofun
  |str j=>exact q.elim nofun
  |tup m=>
   obtain⟨b,us,e,g',q⟩:=aL q;injection e with zq;subst zq
   obtain⟨n1,e1⟩:=g;obtain⟨n2,e2⟩:=g'
   cases e1.symm.trans e2
   exact AL V.tup (r.a2.inj (fun x hx {y v}=>ih x hx) (k.elim fun n k x hx=>by cases n with|zero=>exact Kt k|succ n=>exact⟨n,k x hx⟩) q.a2)
  |lst l=>exact k.elim fun Z k=>k.Br.elim
  |ex w=>exact k.elim fun Z k=>k.BR.elim
end
theorem qG{E:Value->Shared->Prop}{β:Type}{f:Value->β->Sem (ForInStep β)}{T:Addr->Prop}{P:List V->β->Shared->Prop}{qQ:β->Shared->Prop}{Q:β->Shared->Prop}(hQ:∀b s,P l b s\/qQ b s->Q b s)
  (step:∀x v d b s,x∈l->VR T h x v->P d b s->wpAny M A (f v b) (fun r s'=>match r with| .yield b'=>P (d++[x]) b' s'| .done b'=>qQ b' s') E s):∀{r:List V} {vs:List Value} {d:List V} {b:β} {s:Shared},d++r=l->AX T h r vs->P d b s->wpAny M A (forIn vs b f) Q E s:=fun{r}=>by
 induction r with
 |nil=>
  intro vs d b s e r p;refine J (Aj r) (J List.forIn_nil ?_);exact AE (hQ _ _ (.inl (Rv ((HL d).symm.trans e) p)))
 |cons x r ih=>
  intro vs d b s e q p;obtain⟨v,vs,rfl,a,q⟩:=Ae q;rw[Q0];refine Am (BE (step x v d b s (e▸G3 _ EU) a p) (fun t s' z=>?_) fun Z Z z=>z)
  cases t with
  |yield b'=>exact ih ((HJ d [x] r).trans e) q z
  |done b'=>exact AE (hQ _ _ (.inr z))
theorem tB{P:Params}:∀{d:List V},Ju P (d++[y])=Ju P d++[hV P y]:=fun{d}=>by
 induction d with
 |nil=>rfl
 |cons z d ih=>exact AL (hV P z:: ·) ih
theorem r7:∀{d:List V},LY (d++[y])=LY d+dr y:=fun{d}=>by
 induction d with
 |nil=>exact(G0 _).symm
 |cons z d ih=>exact(AL (dr z+ ·) ih).trans (Sn _ _ _).symm
section
variable{E:Value->Shared->Prop}
def uh(prog:Program)(w:World)(E:Value->Shared->Prop)(n:Nat)(x:V):Prop:=∀{A:Around} {s:Shared} {v:Value} {T:Addr->Prop} {Q:Int->Shared->Prop},A.units+n<cLine->VR T s.heap x v->Q (hV w.params x) {s with toks:=s.toks+dr x}->wpAny (model prog w) A (pyHash v) Q E s
inductive Jh(P:Params)(s:Shared)(d:List V):Array Int->Shared->Prop
 |mk {b:Array Int} (h:b.toList=Ju P d):Jh P s d b {s with toks:=s.toks+LY d}
theorem sg{n:Nat}(ih:∀x∈l,uh prog w E n x):uh prog w E (n+1) (.tup l):=by
  intro A s v T Q hu r q;obtain⟨a,vs,rfl,⟨m,e⟩,r⟩:=aL r;have hT:s.TypeIs (.ref a) "tuple" :=⟨_,e,rfl⟩
  have JT:A.units+1+n<cLine:=(QS A.units n 1)▸hu;unfold pyHash
  first|unfold pyHashByItsType|skip
  first|refine Am (wpAny_cRoomFor_or (.inr (Dj (Ea _ _) hu)) ?_)|skip
  refine Am (Lv hT F.slot_tuple_hash.lookup ?_);refine J (AK (by rw[beq_builtin_none];exact Ed)) (Am (Lv hT F.slot_tuple_hash.lookup ?_));refine Am (wpAny_callSpecialIfBoundUnlessNone?_slot hT F.slot_tuple_hash (Gj F.slot_tuple_hash hT F.entry_tuple_hash ?_ (F.args_tuple_hash_1 _)))
  show wpAny _ _ (Builtin.Tuple.tupleItemsOf (.ref a)>>=_) _ _ s
  refine Am (wpAny_tupleItemsOf e rfl (Am ?_));refine Rv Q7 (qG (P:=Jh w.params s) (qQ:=fun Z Z=>False) (d:=[]) (fun b s' z=>?_) (fun x v d b s' hx rx j=>?_) rfl r (.mk rfl))
  ·cases z.resolve_right id with
   |mk hb=>
   show wpAny _ _ (retInt (LJ b.toList)) _ _ _
   refine J hb (wpAny_ret_mkInt ?_);have q':Q (reduceHash (LJ (Ju w.params l))) {s with toks:=s.toks+(LY l+1)}:=q
   show wpAny _ _ (if(decide (-(2:Int)^63<=LJ (Ju w.params l)) &&decide (LJ (Ju w.params l)<2^63))=true then _ else _) Q E _
   unfold reduceHash at q'
   by_cases hr:(decide (-(2:Int)^63<=LJ (Ju w.params l)) &&decide (LJ (Ju w.params l)<2^63))=true
   ·rw[AS hr]at q' ⊢
    exact AE q'
   ·rw[AK hr]at q' ⊢
    exact Am (Kj (AE q'))
  ·cases j with
   |mk hb=>
   refine Am (ih x hx (A:=A.in1) JT rx ?_);have j2:Jh w.params s (d++[x]) (b.push (hV w.params x)) {s with toks:=s.toks+LY (d++[x])}:=.mk (by rw[Ny,hb,tB]);rw[r7,<- Sn]at j2
   first
    |exact AE j2
    |exact Am (AE (AE j2))
theorem fA(n:Nat):∀x:V,KV n x->uh prog w E n x:=by
 induction n with
 |zero=>
  intro x k A s v T Q hu r q
  cases x with
  |int i=>refine Ax (Ag r) fun t DJ=>?_;subst DJ;exact wpAny_pyHash_int q
  |str i=>refine Ax (Av r) fun t CB=>?_;subst CB;exact wpAny_pyHash_str q
  |tup l=>exact k.elim
  |lst l=>exact k.Br.elim
  |ex l=>exact k.BR.elim
 |succ n ih=>
  intro x k
  cases x with
  |int i=>intro A s v T Q hu r q;refine Ax (Ag r) fun t B0=>?_;subst B0;exact wpAny_pyHash_int q
  |str i=>intro A s v T Q hu r q;refine Ax (Av r) fun t DK=>?_;subst DK;exact wpAny_pyHash_str q
  |tup l=>exact sg fun y hy=>ih y (k.tup y hy)
  |lst l=>exact k.Br.elim
  |ex l=>exact k.BR.elim
end
end
section
section
variable{E:Value->Shared->Prop}
def OG(n:Nat)(x:V):Prop:=∀{A:Around} {s:Shared} {y:V} {v Aa:Value} {T:Addr->Prop},KV n y->Sm x y->A.units+n<cLine->VR T s.heap x v->VR T s.heap y Aa->SeqAt.EqAt A s v Aa (decide (x=y))
theorem zI(h:Sm (.tup l) y):∃m,y=.tup m/\KZ l m:=by cases y with
 |tup m=>exact⟨m,rfl,h⟩
 |_=>exact h.elim
theorem yb(h:Sm (.int i) y):∃j,y=.int j:=by cases y with
 |int j=>exact⟨j,rfl⟩
 |_=>exact h.elim
theorem xh(h:Sm (.str i) y):∃j,y=.str j:=by cases y with
 |str j=>exact⟨j,rfl⟩
 |_=>exact h.elim
theorem KZ.at:∀{m:List V} {j:Nat} {x y:V},KZ l m->l[j]? =some x->m[j]? =some y->Sm x y:=fun{m}=>by
 induction l generalizing m with
 |nil=>intro j x y _ h;injection h
 |cons a l ih=>
  intro j x y h h1 h2
  cases m with
  |nil=>injection h2
  |cons b m=>
   have h:Sm a b/\KZ l m:=h
   cases j with
   |zero=>obtain rfl:=BC h1;obtain rfl:=BC h2;exact h.1
   |succ j=>exact ih h.2 h1 h2
theorem xj{l m:List V}:((List.range (min l.length m.length)).all (fun j=>decide (l[j]? =m[j]?)) &&l.length==m.length)=decide (l=m):=by
 by_cases e:l=m
 ·subst e
  refine J (DU rfl) (J (Gl _ _) ?_);rewrite[H8];exact⟨fun j Z=>DU rfl,beq_self_eq_true _⟩
 ·refine J (Df e) ?_;rewrite[Bool.eq_false_iff]
  intro h;refine A5 (D3.mp h) fun h1 h2=>?_;have h2:=E9 h2;rw[H8]at h1;refine e (QZ fun j=>?_)
  by_cases hj:j<l.length
  ·exact Fc (h1 j (G5.mpr (Nat.lt_min.mpr ⟨hj,h2▸hj⟩)))
  ·exact J (H6 (DR hj)) (J (H6 (h2▸DR hj)) rfl)
theorem AX.at{T:Addr->Prop}{h:Heap}{l:List V}{xs:Array Value}{j:Nat}(r:AX T h l xs.toList)(hj:j<xs.size):∃x,l[j]? =some x/\VR T h x xs[j]:=by refine An (r.get (Cr (r.size▸hj:j<l.length))) fun v e q=>?_;have e:=(EH)▸e;have e:=(Kq hj)▸e;obtain rfl:=BC e;exact⟨_,Cr _,q⟩
theorem zH{n:Nat}{l:List V}(kl:∀x∈l,KV n x)(ih:∀x∈l,OG n x):OG (n+1) (.tup l):=by
 intro A s y v Aa T k sm hu r q;refine An (zI sm) fun m CK sm=>?_;subst CK;have r0:=r;have q0:=q;refine Bc (aL r) fun a xs CS ga rx=>?_;subst CS;refine Bc (aL q) fun b ys Dw gb ry=>?_;subst Dw
 by_cases e:a=b
 ·subst e
  exact J (DU (VR.inj (n:=n+1) (x:=.tup l) kl ⟨_,k⟩ r0 q0)) (.same _)
 ·have e2:decide (V.tup l=V.tup m)=((List.range (min xs.size ys.size)).all (fun j=>decide (l[j]? =m[j]?)) &&xs.size==ys.size):=by exact J rx.size (J ry.size (J xj (decide_eq_decide.mpr ⟨fun h=>by injection h,AL _⟩)))
  refine J e2 (.of_refs e (.tuples ga.B5 gb.B5 (Dj (Ea _ _) hu) fun j h1 h2=>?_));refine An (rx.at h1) fun x hx gx=>An (ry.at h2) fun z hz gz=>?_;have:=ih x (BW hx) (A:=A.in1) (k.tup z (BW hz)) (sm.at hx hz) ((QS A.units n 1)▸hu:A.units+1+n<cLine) gx gz
  rwa [show decide (x=z)=decide (l[j]? =m[j]?)from decide_eq_decide.mpr (by exact J hx (J hz ((Option.some_inj).symm)))]at this
theorem fc:OG n (.int i):=by intro A s y v Aa T k sm hu r q;refine Ax (yb sm) fun j DH=>?_;subst DH;refine Ax (Ag r) fun t GG=>J GG (Ax (Ag q) fun t' Cz=>J Cz ?_);exact J (show decide (V.int i=V.int j)=(i==j)from decide_eq_decide.mpr ⟨fun h=>by injection h,AL _⟩) (.int_int _ _ _ _)
theorem fa:OG n (.str i):=by intro A s y v Aa T k sm hu r q;refine Ax (xh sm) fun j DJ=>?_;subst DJ;refine Ax (Av r) fun t CB=>J CB (Ax (Av q) fun t' B0=>J B0 ?_);exact J (show decide (V.str i=V.str j)=(i==j)from by by_cases h:i=j<;>simp[h]) (.str_str _ _ _ _)
theorem xp(n:Nat):∀x:V,KV n x->OG n x:=by
 induction n with
 |zero=>
  intro x k
  cases x with
  |int i=>exact fc
  |str i=>exact fa
  |tup l=>exact k.elim
  |lst l=>exact k.Br.elim
  |ex l=>exact k.BR.elim
 |succ n ih=>
  intro x k
  cases x with
  |int i=>exact fc
  |str i=>exact fa
  |tup l=>exact zH k.tup fun y hy=>ih y (k.tup y hy)
  |lst l=>exact k.Br.elim
  |ex l=>exact k.BR.elim
theorem vK(n:Nat)(x:V)(kx:KV n x)(ky:KV n y)(sm:Sm x y)(hu:A.units+n<cLine)(r:VR T s.heap x v)(q:VR T s.heap y Aa)(h:Q (decide (x=y)) s):wpAny (model prog w) A (eqBool v Aa) Q E s:=xp n x kx ky sm hu r q prog w E Q h
theorem lL(n:Nat):∀(x:V) {A:Around} {s:Shared} {v:Value} {T:Addr->Prop} {Q:Bool->Shared->Prop},KV n x->VR T s.heap x v->Q true s->wpAny (model prog w) A (eqIsQuiet n v) Q E s:=by
 induction n with
 |zero=>
  intro x A s v T Q k r q
  cases x with
  |int i=>refine Ax (Ag r) fun t DK=>?_;subst DK;exact J (QM _ rfl) (AE q)
  |str i=>refine Ax (Av r) fun t Dm=>?_;subst Dm;exact J (QM _ rfl) (AE q)
  |tup l=>exact k.elim
  |lst l=>exact k.Br.elim
  |ex l=>exact k.BR.elim
 |succ n ih=>
  intro x A s v T Q k r q
  cases x with
  |int i=>refine Ax (Ag r) fun t Io=>?_;subst Io;exact J (QM _ rfl) (AE q)
  |str i=>refine Ax (Av r) fun t D5=>?_;subst D5;exact J (QM _ rfl) (AE q)
  |tup l=>
   refine Bc (aL r) fun a xs EA K0 rx=>J EA (Ax K0 fun na ea=>?_);clear K0;have hT:s.TypeIs (.ref a) "tuple" :=⟨_,ea,rfl⟩
   unfold eqIsQuiet;refine Am (Lv hT F.slot_tuple_eq.lookup ?_);refine Am (RZ hT isSubtype_tuple_tuple ?_);refine Dd rfl (Am (Nh ea rfl (Am ?_)));refine Rv Q7 (qG (P:=fun Z b s'=>b=⟨none,⟨⟩⟩/\s'=s) (qQ:=fun Z Z=>False) (d:=[]) (fun b s' z=>?_) (fun x v d b s' hx rx z=>?_) rfl rx ⟨rfl,rfl⟩)
   ·refine A5 (z.resolve_right id) fun ID Dp=>J ID (J Dp ?_)
    exact AE q
   ·refine A5 z fun OH Ez=>?_;clear z;subst OH;refine J Ez (Am (ih x (k.tup x hx) rx ?_))
    exact AE ⟨rfl,rfl⟩
  |lst l=>exact k.Br.elim
  |ex l=>exact k.BR.elim
theorem KV.up(h:n<=m):∀{x:V},KV n x->KV m x:=by
 induction n generalizing m with
 |zero=>intro x k;cases x<;>first|exact k.elim|(cases m<;>exact Al)|exact k.Br.elim|exact k.BR.elim
 |succ n ih=>
  intro x k
  cases x with
  |tup l=>
   cases m with
   |zero=>exact Ba h (fun e=>Ei 0 (aA qW qV 0 1 (.a D qW) qV (c1 _) e rfl))
   |succ m=>exact fun x hx=>ih (aA D Y 1 1 (.a D qW) (.a Y qW) (c2 _ _) h rfl) (k.tup x hx)
  |int i=>cases m<;>exact Al
  |str i=>cases m<;>exact Al
  |lst l=>exact k.Br.elim
  |ex l=>exact k.BR.elim
structure Mk where
 is:V->Prop
 deep:∀x,is x->KV 3 x
 tup:∀x,is x->∃l,x=.tup l
 sm:∀x y,is x->is y->Sm x y
noncomputable def G7(prog:Program)(w:World)(k:Mk):HeapKind prog w V where
 is:=fun h x a=>k.is x/\VR (fun Z=>False) h x (.ref a)
 hash:=hV w.params
 draws:=dr
 room:=fun A=>A.units+3<cLine
 inj:=fun⟨a,b⟩ ⟨c,d⟩=>VR.inj (k.deep _ a) ⟨_,k.deep _ c⟩ b d
 keeps:=fun{h h' x a d o es ep} ⟨kx,r⟩ ho hd sb=>⟨kx,by
  have K:Keeps (fun Z=>True) h (fun Z=>True) h':=⟨fun b vs ⟨n,e⟩=>⟨n,(sb.2 b (by intro FL;subst FL;rw[ho]at e;cases e;cases hd)).trans e⟩,fun Z Z z=>Ba Al z⟩
  exact((r.key (T':=fun Z=>True) (k.deep _ kx)).mono K).key (k.deep _ kx)⟩
 pyHash:=fun hu ⟨kx,r⟩ q=>fA 3 _ (k.deep _ kx) hu r q
 eqBool:=fun hu ⟨kx,r⟩ ⟨ky,r'⟩ q=>vK 3 _ (k.deep _ kx) (k.deep _ ky) (k.sm _ _ kx ky) hu r r' q
 quiet:=fun⟨kx,r⟩ q=>lL 8 _ ((k.deep _ kx).up (by decide)) r q
end
end
section
noncomputable def Bs(l:List (V×V))(x:V):Option Nat:=l.findIdx? fun p=>decide (p.1=x)
noncomputable def Az(l:List (V×V))(x:V):Option V:=(l.find? fun p=>decide (p.1=x)).map (·.2)
noncomputable def dput(l:List (V×V))(x v:V):List (V×V):=match l with
 |[]=>[(x,v)]
 |p::r=>if p.1=x then(p.1,v)::r else p::dput r x v
inductive KS(l:List (V×V)):V->Prop
 |int (i:Int) (h:∀p∈l,∃j,p.1=.int j):KS l (.int i)
 |str (i:Str) (h:∀p∈l,∃j,p.1=.str j):KS l (.str i)
 |mk (k:Mk) (x:V) (h:k.is x) (hl:∀p∈l,k.is p.1):KS l x
theorem KS.kv(k:KS l x):KV 3 x:=by
 cases k with
 |int i h=>trivial
 |str i h=>trivial
 |mk k x h hl=>exact k.deep _ h
section
variable{P:Params}
theorem EW.G8{is:Value->Bool}(qQ:EW P T h l es)(hk:∀p∈l,∀v,VR T h p.1 v->is v=decide (p.1=x)):es.findIdx? (fun e=>is e.key)=Bs l x:=by
 induction qQ with
 |nil=>rfl
 | @cons p e l es d t ih=>
  unfold Bs;refine J (JL) (J (JL) (?_));refine J (hk p (.head _) _ d.key) (J (ih fun p hp=>hk p (.tail _ hp)) ?_);rfl
theorem EW.keyed(qQ:EW w.params T h l es)(hk:∀p∈l,k.is p.1):∃xs:List (V×Addr×Value),es=xs.map (entryOfKey (G7 prog w k))/\(xs.map (·.1))=l.map (·.1)/\∀x∈xs,(G7 prog w k).is h x.1 x.2.1:=by
 induction qQ with
 |nil=>exact⟨[],rfl,rfl,fun Z h=>nomatch h⟩
 | @cons p e l es d t ih=>
  refine B4 (ih fun p hp=>hk p (.tail _ hp)) fun xs e1 e2 e3=>?_;have hp:=hk p (.head _);obtain⟨ad,JU⟩:∃ad,e.key=.ref ad:=by exact Ax (k.tup _ hp) fun t ht=>Fv (aL (Rv ht d.key)) fun ad vs JU Z=>⟨ad,JU⟩
  have he:e=entryOfKey (G7 prog w k) (p.1,ad,e.val):=by have a:=d.hash;obtain⟨eh,ek,ev⟩:=e;subst a JU;rfl
  refine⟨(p.1,ad,e.val)::xs,?_,AL (p.1:: ·) e2,fun x hx=>?_⟩
  ·refine J Ec (J e1 (Rv he ?_));rfl
  ·rcases BP.mp hx with rfl|hx
   ·exact⟨hp,(JU▸d.key:VR T h p.1 (.ref ad)).key (k.deep _ hp)⟩
   ·exact e3 x hx
end
theorem bk(h:Bs l x=some j):∃v,l[j]? =some (x,v)/\Az l x=some v:=by
 unfold Bs at h;refine An (List.findIdx?_eq_some_iff_getElem.mp h) fun BZ h1 h2=>?_;have e:l[j].1=x:=Fc h1;have hf:l.find? (fun p=>decide (p.1=x))=some l[j]:=by rw[List.find?_eq_some_iff_getElem];exact⟨h1,j,BZ,rfl,fun i hi=>by simpa using h2 i hi⟩
 refine⟨l[j].2,?_,by unfold Az;exact J hf rfl⟩;exact J (Cr BZ) (Rv e rfl)
theorem fH(h:Bs l x=none):Az l x=none:=by
 unfold Bs at h;rw[List.findIdx?_eq_none_iff]at h;unfold Az;rw[Option.map_eq_none_iff,List.find?_eq_none];intro p hp
 simpa using h p hp
theorem mw(nd:(l.map (·.1)).Nodup)(h:l[j]? =some (x,v)):Bs l x=some j:=by
 unfold Bs;rw[List.findIdx?_eq_some_iff_getElem];refine Ax (CP.mp h) fun BZ he=>?_;refine⟨BZ,by refine J he ?_;simp,fun i hi=>?_⟩;refine J decide_eq_true_eq ?_;intro e;have h1:(l.map (·.1))[i]? =some x:=by exact J (Cs) (J (Cr (EL hi BZ)) (AL some e))
 have h2:(l.map (·.1))[j]? =some x:=by exact J (Cs) (J h rfl)
 exact Ba ((List.getElem?_inj (by exact J (Bl _) (EL hi BZ)) nd).mp (h1.trans h2.symm)) (fun e=>Ei 0 (aH qW qV 0 1 (.a Y qW) D 1 D Y (c2 _ _) hi (AA e.symm) rfl))
theorem kp{E:Value->Shared->Prop}{T:Addr->Prop}{ep:Nat}{Q:Option Nat->Shared->Prop}(ks:KS l x)(hu:A.units+3<cLine)(r:VR T s.heap x v)
  (ho:s.heap.get? d=some o) (hd:o.data=.dict es ep) (qQ:EW w.params T s.heap l es.toList) (nd:(l.map (·.1)).Nodup) (q:Q (Bs l x) s):wpAny (model prog w) A (dictFind d v (hV w.params x)) Q E s:=by
 cases ks with
 |int i hk=>
  refine Ax (Ag r) fun t CR=>?_;subst CR;refine wpAny_dictFind_of (knd:=intKind prog w) (k:=i) (Ly _ _ _ _) ho hd (fun e he=>?_) ?_
  ·obtain⟨j,hj,rfl⟩:=Array.mem_iff_getElem.mp he
   have BZ:j<l.length:=by refine Rv (aj.length qQ) ?_;refine J De ?_;exact hj
   obtain⟨e,h1,h2,h3,_⟩:=aj.get qQ (Cr BZ);refine Ax (hk _ (G4 BZ)) fun i' FW=>?_;rw[FW]at h2 h3;refine Ax (Ag h3) fun t' Dg=>?_;rw[EH,Kq hj]at h1;obtain rfl:=BC h1;exact⟨i',by refine J Dg ?_;exact Ly _ _ _ _,h2⟩
  ·have e1:=qQ.G8 (is:=(intKind prog w).is i) (x:=.int i) fun p hp v hv=>by
    refine Ax (hk p hp) fun j hj=>?_;rw[hj]at hv ⊢;refine Ax (Ag hv) fun t' B0=>J B0 ?_;refine J (SW (k:=j) (Ly _ _ _ _) _) ?_
    by_cases h:i=j
    ·refine J h ?_;simp
    ·simp[h];exact fun e=>h e.symm
   have e2:es.findIdx? (fun e=>(intKind prog w).is i e.key)=Bs l (.int i):=by cases es;rw[List.findIdx?_toArray];exact e1
   exact J e2 q
 |str i hk=>
  refine Ax (Av r) fun t DK=>?_;subst DK;refine wpAny_dictFind_of (knd:=strKind prog w) (k:=i) (strKind_is _ _ _ _) ho hd (fun e he=>?_) ?_
  ·obtain⟨j,hj,rfl⟩:=Array.mem_iff_getElem.mp he
   have BZ:j<l.length:=by refine Rv (aj.length qQ) ?_;refine J De ?_;exact hj
   obtain⟨e,h1,h2,h3,_⟩:=aj.get qQ (Cr BZ);refine Ax (hk _ (G4 BZ)) fun i' FW=>?_;rw[FW]at h2 h3;refine Ax (Av h3) fun t' Dg=>?_;rw[EH,Kq hj]at h1;exact J (BC h1) ⟨i',by refine J Dg ?_;exact strKind_is _ _ _ _,h2⟩
  ·have e1:=qQ.G8 (is:=(strKind prog w).is i) (x:=.str i) fun p hp v hv=>by
    refine Ax (hk p hp) fun j hj=>?_;rw[hj]at hv ⊢;refine Ax (Av hv) fun t' Ez=>J Ez ?_;refine J (SW (k:=j) (strKind_is _ _ _ _) _) ?_
    by_cases h:i=j
    ·refine J h ?_;simp
    ·simp[h];exact fun e=>h e.symm
   have e2:es.findIdx? (fun e=>(strKind prog w).is i e.key)=Bs l (.str i):=by cases es;rw[List.findIdx?_toArray];exact e1
   exact J e2 q
 |mk k x h hl=>
  refine Ax (k.tup _ h) fun tl Ip=>?_;subst Ip;refine Fv (aL r) fun a vs FV Z=>?_;subst FV;refine B4 (qQ.keyed (prog:=prog) hl) fun xs e1 e2 e3=>?_;have key:∀(j:Nat) (p:Addr×Value),xs[j]? =some (.tup tl,p)->Bs l (.tup tl)=some j:=fun j p hj=>by
   have h1:(l.map (·.1))[j]? =some (.tup tl):=by refine Rv e2 ?_;refine J (Cs) ?_;refine J hj ?_;rfl
   rw[Cs]at h1;refine An (El.mp h1) fun OI hy JV=>?_;obtain⟨y,Aa⟩:=OI;simp only at JV;exact Rv JV (mw nd hy)
  refine wpAny_dictFind_heap (knd:=G7 prog w k) (k:=.tup tl) hu ⟨h,r.key (k.deep _ h)⟩ ho hd e1 e3 (by refine J e2 ?_;exact nd) (fun OJ=>?_) fun j p hj=>?_
  ·cases hx:Bs l (.tup tl)with
   |none=>rw[hx]at q;exact q
   |some j=>
    refine An (bk hx) fun Aa JT Z=>?_;have h1:(xs.map (·.1))[j]? =some (.tup tl):=by refine J e2 ?_;refine J (Cs) ?_;refine J JT ?_;rfl
    rw[Cs]at h1;refine An (El.mp h1) fun OK hy JV=>?_;obtain⟨y,p⟩:=OK;simp only at JV;subst JV;exact Ba hy (OJ j p)
  ·rw[key j p hj]at q;exact q
end
section
section
variable{P:Params}
theorem EW.append{x v:V}{key val:Value}(rk:VR T h x key)(rv:VR T h v val){l:List (V×V)}{es:List DictEntry}(qQ:EW P T h l es):EW P T h (l++[(x,v)]) (es++[⟨hV P x,key,val⟩]):=aj.append qQ (.cons ⟨rfl,rk,rv⟩ .nil)
theorem EW.modify{x v:V}{val:Value}(rv:VR T h v val){l:List (V×V)}{es:List DictEntry}(qQ:EW P T h l es):∀{i:Nat},Bs l x=some i->EW P T h (dput l x v) (es.modify i fun e=>{e with val:=val}):=by
 induction qQ with
 |nil=>intro i hi;injection hi
 | @cons p e l es d t ih=>
  intro i hi;unfold Bs at hi;rw[JL]at hi;unfold dput
  by_cases hx:p.1=x
  ·have hi:=(AS (DU hx))▸hi
   obtain rfl:=BC hi;exact J (AS hx) (.cons ⟨d.hash,d.key,rv⟩ t)
  ·rw[AK (fun h=>hx (Fc h))]at hi
   refine An (El.mp hi) fun j hj Bg=>Rv Bg ?_;exact J (AK hx) (.cons d (ih hj))
end
theorem bL{l:List (V×V)}{x v:V}(h:Bs l x=none):dput l x v=l++[(x,v)]:=by
 induction l with
 |nil=>rfl
 |cons p l ih=>
  unfold Bs at h;rw[JL]at h
  by_cases hx:p.1=x
  ·rw[if_pos (by simpa using hx)]at h;exact nomatch h
  ·rw[if_neg (by simpa using hx)]at h
   unfold dput;refine J (if_neg hx) (J (ih (by simpa [Bs]using h)) ?_);rfl
theorem jx{l:List (V×V)}{x v:V}{i:Nat}(h:Bs l x=some i):(dput l x v).map (·.1)=l.map (·.1):=by
 induction l generalizing i with
 |nil=>simp[Bs]at h
 |cons p l ih=>
  unfold Bs at h;rw[JL]at h;unfold dput
  by_cases hx:p.1=x
  ·exact J (AS hx) rfl
  ·rw[if_neg (by simpa using hx)]at h
   refine An (El.mp h) fun j hj BX=>J BX ?_;refine J (AK hx) (J Ec (J Ec (J (ih hj) ?_)));rfl
theorem k7{l:List (V×V)}{x:V}(h:Bs l x=none):x∉l.map (·.1):=by
 intro hm;refine An (BF.mp hm) fun p hp Dx=>?_;subst Dx;unfold Bs at h;rw[List.findIdx?_eq_none_iff]at h;have:=h p hp
 simp at this
theorem di{l:List (V×V)}{x v:V}(nd:(l.map (·.1)).Nodup):((dput l x v).map (·.1)).Nodup:=by
 cases h:Bs l x with
 |some i=>exact J (jx h) nd
 |none=>
  refine J (bL h) (J DT ?_);rewrite[Ko];refine⟨nd,by simp,fun a ha b hb=>?_⟩;simp only[List.map_cons,List.map_nil,List.mem_singleton]at hb;subst hb
  rintro rfl
  exact k7 h ha
theorem bD{l:List (V×V)}{x y:V}(h:Az l x=some y):∃i,Bs l x=some i/\l[i]? =some (x,y):=by
 cases hi:Bs l x with
 |none=>have h:=(fH hi)▸h;injection h
 |some i=>
  refine An (bk hi) fun v h1 h2=>?_;have h2:=h▸h2;obtain rfl:=BC h2;exact⟨i,rfl,h1⟩
theorem bU{l:List (V×V)}{x:V}(h:Az l x=none):Bs l x=none:=by
 cases hi:Bs l x with
 |none=>rfl
 |some i=>refine An (bk hi) fun v Z h2=>?_;have h2:=h▸h2;injection h2
theorem ay{l:List (V×V)}{x y v:V}:Az (dput l x v) y=if y=x then some v else Az l y:=by
 induction l with
 |nil=>
  unfold dput Az
  by_cases e:y=x
  ·refine J e ?_;simp
  ·simp[e];exact fun h=>e h.symm
 |cons p l ih=>
  unfold dput
  by_cases hx:p.1=x
  ·refine J (AS hx) ?_
   unfold Az;refine J (Nu) (J (Nu) (?_))
   by_cases e:y=x
   ·refine J e ?_;simp[hx]
   ·have:¬p.1=y:=fun h=>e (by exact Rv h (J hx rfl))
    simp[this,e]
  ·refine J (AK hx) ?_
   unfold Az at ih ⊢;refine J (Nu) (J (Nu) (?_))
   by_cases e:p.1=y
   ·have:¬y=x:=fun h=>hx (by exact J e (J h rfl))
    simp[e,this]
   ·simp only[e,decide_false];exact ih
section
variable{E:Value->Shared->Prop}
theorem eI(R:Rep c ρ U s){d:Addr}{l l':List (V×V)}{o:Obj}{es:Array DictEntry}{n tn:Nat}{f:Obj->Obj}{Fw:Array DictEntry}{n':Nat}(Ar:U d=some (.dict l))(e:s.heap.get? d=some o)(ex:(f o).ExactDict)(fd:(f o).data=.dict Fw n')
  (qQ:∀T h,Keeps (tk ρ U) s.heap T h->EW c.w.params T h l' Fw.toList) (nd:(l'.map (·.1)).Nodup):Rep c ρ (U.set d (.dict l')) {s with heap:=s.heap.update d f,toks:=tn}/\Bp U s (U.set d (.dict l')) {s with heap:=s.heap.update d f,toks:=tn}:=
 R.upd Ar (Fb ..) (fun K=>⟨_,Fw,n',Fu _ e (Obj.isFreed_of_dict fd),ex,fd,qQ _ _ K,nd⟩) rfl rfl
theorem dO{P:Option Value->Shared->Prop}(R:Rep c ρ U s){d:Addr}{l:List (V×V)}{x:V}{v:Value}(Ar:U d=some (.dict l))(ks:KS l x)(hu:A.units+3<cLine)(r:VR (tk ρ U) s.heap x v)
  (q1:∀y Aa,Az l x=some y->VR (tk ρ U) s.heap y Aa->P (some Aa) {s with toks:=s.toks+dr x}) (q0:Az l x=none->P none {s with toks:=s.toks+dr x}):wpAny (model c.prog c.w) A (dictGet d v) P E s:=by
 refine Kw ((R.obj _ _ Ar).1) fun o es n e ex hd qQ nd=>?_;unfold dictGet
 try with_reducible refine Dq ?_
 refine Am (fA 3 x ks.kv hu r (Am (kp (s:={s with toks:=s.toks+dr x}) ks hu r e hd qQ nd ?_)))
 cases hi:Bs l x with
 |none=>exact AE (q0 (fH hi))
 |some i=>
  refine An (bk hi) fun y h1 h2=>?_;obtain⟨en,g1,_,_,g4⟩:=aj.get qQ h1;refine Am (RY (s:={s with toks:=s.toks+dr x}) e hd ?_);exact J (IE g1) (AE (q1 y _ h2 g4))
where IE {es:Array DictEntry} {i:Nat} {e:DictEntry} (h:es.toList[i]? =some e):es[i]? =some e:=by exact Rv (EH) h
theorem mh{es:Array DictEntry}{i:Nat}{e:DictEntry}(h:es.toList[i]? =some e):es[i]? =some e:=by exact Rv (EH) h
theorem ju{P:Unit->Shared->Prop}(R:Rep c ρ U s){d:Addr}{l:List (V×V)}{x y:V}{v Aa:Value}(Ar:U d=some (.dict l))(ks:KS l x)(hu:A.units+3<cLine)(r:VR (tk ρ U) s.heap x v)(ry:VR (tk ρ U) s.heap y Aa)(hl:l.length<=1000)
  (q:∀s',Rep c ρ (U.set d (.dict (dput l x y))) s'->Bp U s (U.set d (.dict (dput l x y))) s'->P () s'):wpAny (model c.prog c.w) A (dictSet d v Aa) P E s:=by
 refine Kw ((R.obj _ _ Ar).1) fun o es n e ex hd qQ nd=>?_;have hz:es.size<=sizeLine:=bT (by exact Rv De (J (aj.length qQ) hl));unfold dictSet
 try with_reducible refine Dq ?_
 refine Am (fA 3 x ks.kv hu r ?_);unfold dictSetHashed
 try with_reducible refine Dq ?_
 refine Am (kp (s:={s with toks:=s.toks+dr x}) ks hu r e hd qQ nd ?_)
 cases hi:Bs l x with
 |some i=>
  have σ:=eI (f:=Obj.mapDict (·.modify i fun e=>{e with val:=Aa})) (l':=dput l x y) R (tn:=s.toks+dr x) Ar e (ex.mapDict _) (Obj.data_mapDict hd _) (es:=es) (n:=n) (fun T h K=>by exact J Array.toList_modify ((qQ.mono K).modify (ry.mono K) hi)) (di nd);exact Am (Kj (Am (wpAny_updateDict (s:={s with toks:=s.toks+dr x}) e hd (wpAny_point (q _ σ.1 σ.2)))))
 |none=>
  have σ:=eI (f:=Obj.mapDictKeys (·.push ⟨hV c.w.params x,v,Aa⟩)) (l':=dput l x y) R (tn:=s.toks+dr x) Ar e (ex.mapDictKeys _) (Obj.data_mapDictKeys hd _) (es:=es) (n:=n) (fun T h K=>by exact J Ny (J (bL hi) ((qQ.mono K).append (r.mono K) (ry.mono K)))) (di nd);exact Am (Kj (RV (hz:=hz) (s:={s with toks:=s.toks+dr x}) e hd (q _ σ.1 σ.2)))
theorem db(R:Rep c ρ U s){d:Addr}{l:List (V×V)}(Ar:U d=some (.dict l)):s.TypeIs (.ref d) "dict" :=by exact Kw ((R.obj _ _ Ar).1) fun o es n e ex hd qQ nd=>⟨o,e,ex.1⟩
theorem ej(K:c.Ok)(R:Rep c ρ U s){d:Addr}{o:O}(Ar:U d=some o):(d==sysModules)=false:=by refine beq_eq_false_iff_ne.mpr fun h=>?_;have h1:=(R.obj _ _ Ar).2;subst h;refine Ax K.sys fun o' e=>?_;have h1:=e▸h1;injection h1
theorem set_dict{d:Addr}{l:List (V×V)}{x y:V}{Q:u->Prop}(Ar:U d=some (.dict l))(ks:KS l x)(hu:A.units+10<cLine)(hl:l.length<=1000)(q:Q (U.set d (.dict (dput l x y)))):Rt c A setItem (.ex (.ref d)) x y Q U:=fun ρ s Aa v w R ru rv KD=>by
 refine J (aG ru) ?_;have hT:=db R Ar;unfold setItem
 try with_reducible refine Dq ?_
 refine Am (QK hT (by decide) ?_);refine Am (My (name:=Ai "__setitem__") hT slot_dict_setitem
  (Gj slot_dict_setitem hT entry_dict_setitem ?_ (args_dict_setitem _ _ _)))
 refine Am (RU hT ?_)
 show wpAny _ _ (dictSet d v w>>=_) _ _ s
 exact Am (ju R Ar ks (by show A.units+1+3<cLine;exact aA (.a (.a (.a D qW) qS) qW) Y 1 1 (.a (.a D qR) qW) Y (c2 _ _) hu rfl) rv KD hl fun s' R' S'=>AE ⟨.none,rfl,AE ⟨_,R',S',q⟩⟩)
theorem sI{value slice:Expr}{d:Addr}{l:List (V×V)}{x y:V}(Ar:U d=some (.dict l))(ks:KS l x)(hu:A.units+10<cLine)(hy:Az l x=some y)(q:Q y U)
  (hs:∀v:Value,subscripted slice false (.ref d) v=operate [.ref d,v] (getItem (.ref d) v)):k6 c A value slice (.ex (.ref d)) x Q U:=fun ρ s Aa v R ru rv=>by
 refine J (aG ru) ?_;have hT:=db R Ar;refine JR hT slot_dict_getitem.lookup ?_ (hs v);unfold getItem
 try with_reducible refine Dq ?_
 refine Am (QK hT (by decide) ?_);refine Am (My (name:=Ai "__getitem__") hT slot_dict_getitem
  (Gj slot_dict_getitem hT entry_dict_getitem ?_ (args_dict_getitem _ _)))
 show wpAny _ _ (dictGet d v>>=_) _ _ s
 refine Am (dO R Ar ks (by show A.units+1+3<cLine;exact aA (.a (.a (.a D qW) qS) qW) Y 1 1 (.a (.a D qR) qW) Y (c2 _ _) hu rfl) rv (fun y' u' E3 ry=>?_) fun h0=>by have h0:=hy▸h0;exact Ba h0 nofun);rw[hy]at E3;obtain rfl:=BC E3;exact AE ⟨u',rfl,AE (R.AO _ ry q)⟩
theorem in_dict(K:c.Ok){d:Addr}{l:List (V×V)}{x:V}(Ar:U d=some (.dict l))(ks:KS l x)(hu:A.units+10<cLine)(q:Q (.ex (.bool (Az l x).isSome)) U):O2 c A (compareOp .In) x (.ex (.ref d)) Q U:=fun ρ s v Aa R rv ru=>by
 refine J (aG ru) ?_;have hT:=db R Ar;refine Am ?_;unfold contains
 try with_reducible refine Dq ?_
 refine Am (Lv hT slot_dict_contains.lookup ?_);refine Dd rfl ?_;refine Am (wpAny_callSpecialUnlessNone?_slot (name:=Ai "__contains__") hT QJ
  (Gj QJ hT entry_dict_contains ?_ (args_dict_contains _ _)))
 show wpAny _ _ (dictGet d v>>=_) _ _ s
 refine Am (dO R Ar ks (by show A.units+1+3<cLine;exact aA (.a (.a (.a D qW) qS) qW) Y 1 1 (.a (.a D qR) qW) Y (c2 _ _) hu rfl) rv (fun y' u' E3 ry=>?_) fun h0=>?_)
 ·rw[E3]at q
  exact AE ⟨_,rfl,Jl (AE (R.AO _ aW q))⟩
 ·have q:=h0▸q
  exact Am (wpAny_pendingKey_other (ej K R Ar) (AE ⟨_,rfl,Jl (AE (R.AO _ aW q))⟩))
theorem notin_dict(K:c.Ok){d:Addr}{l:List (V×V)}{x:V}(Ar:U d=some (.dict l))(ks:KS l x)(hu:A.units+10<cLine)(q:Q (.ex (.bool (!(Az l x).isSome))) U):O2 c A (compareOp .NotIn) x (.ex (.ref d)) Q U:=fun ρ s v Aa R rv ru=>by
 refine J (aG ru) ?_;have hT:=db R Ar;refine Am ?_;unfold contains
 try with_reducible refine Dq ?_
 refine Am (Lv hT slot_dict_contains.lookup ?_);refine Dd rfl ?_;refine Am (wpAny_callSpecialUnlessNone?_slot (name:=Ai "__contains__") hT QJ
  (Gj QJ hT entry_dict_contains ?_ (args_dict_contains _ _)))
 show wpAny _ _ (dictGet d v>>=_) _ _ s
 refine Am (dO R Ar ks (by show A.units+1+3<cLine;exact aA (.a (.a (.a D qW) qS) qW) Y 1 1 (.a (.a D qR) qW) Y (c2 _ _) hu rfl) rv (fun y' u' E3 ry=>?_) fun h0=>?_)
 ·rw[E3]at q
  exact AE ⟨_,rfl,Jl (AE (R.AO _ aW q))⟩
 ·have q:=h0▸q
  exact Am (wpAny_pendingKey_other (ej K R Ar) (AE ⟨_,rfl,Jl (AE (R.AO _ aW q))⟩))
theorem tj(K:c.Ok){d:Addr}{l:List (V×V)}{x y:V}(Ar:U d=some (.dict l))(ks:KS l x)(hu:A.units+10<cLine)(q:Q ((Az l x).getD y) U):a6 c A (.builtin "dict.get") [.ex (.ref d),x,y] Q U:=fun ρ s vs R r=>by
 refine Bc (Ae r) fun v r' Et rv r'=>J Et ?_;refine Bc (Ae r') fun Aa Ex Ik ru Ex=>J Ik ?_;refine Bc (Ae Ex) fun w r3 Ey KD r3=>J Ey ?_;refine J (Aj r3) (J (aG rv) ?_);have hT:=db R Ar;refine Gj PySem.F.slot_dict_get hT PySem.F.entry_dict_get ?_ (PySem.F.args_dict_get_3 _ _ _)
 show wpAny _ _ (dictGet d Aa>>=_) _ _ s
 refine Am (dO R Ar ks (by show A.units+1+3<cLine;exact aA (.a (.a (.a D qW) qS) qW) Y 1 1 (.a (.a D qR) qW) Y (c2 _ _) hu rfl) ru (fun y' u' E3 ry=>?_) fun h0=>?_)
 ·rw[E3]at q
  exact AE ⟨u',rfl,R.AO _ ry q⟩
 ·have q:=h0▸q
  exact Am (wpAny_missed_other (ej K R Ar) (AE ⟨w,rfl,R.AO _ KD q⟩))
theorem gD(K:c.Ok){d:Addr}{l:List (V×V)}{x y:V}(Ar:U d=some (.dict l))(ks:KS l x)(hu:A.units+10<cLine)(hl:l.length<=1000)(q1:∀z,Az l x=some z->Q z U)(q0:Az l x=none->Q y (U.set d (.dict (dput l x y)))):
  a6 c A (.builtin "dict.setdefault") [.ex (.ref d),x,y] Q U:=fun ρ s vs R r=>by
 refine Bc (Ae r) fun v r' FX rv r'=>J FX ?_;refine Bc (Ae r') fun Aa Ex DI ru Ex=>J DI ?_;refine Bc (Ae Ex) fun w r3 FT KD r3=>J FT ?_;refine J (Aj r3) (J (aG rv) ?_);have hT:=db R Ar;refine Kw ((R.obj _ _ Ar).1) fun o es n e ex hd qQ nd=>?_;have hz:es.size<=sizeLine:=bT (by exact Rv De (J (aj.length qQ) hl));refine Gj PySem.F.slot_dict_setdefault hT PySem.F.entry_dict_setdefault ?_ (PySem.F.args_dict_setdefault_3 _ _ _);unfold Builtin.«dict.setdefault»;refine Am ?_;unfold Builtin.Dict.keyAndDefault;refine Am (RU hT ?_);refine AE ?_
 show wpAny _ _ (if(d==sysModules)=true then _ else(dictSetDefault d Aa w>>=_)) _ _ s
 refine Dd (Df (by rw[ej K R Ar];exact Ed)) (Am ?_);unfold dictSetDefault
 try with_reducible refine Dq ?_
 refine Am (fA 3 x ks.kv (by show A.units+1+3<cLine;exact aA (.a (.a (.a D qW) qS) qW) Y 1 1 (.a (.a D qR) qW) Y (c2 _ _) hu rfl) ru (Am (kp (s:={s with toks:=s.toks+dr x}) ks (by show A.units+1+3<cLine;exact aA (.a (.a (.a D qW) qS) qW) Y 1 1 (.a (.a D qR) qW) Y (c2 _ _) hu rfl) ru e hd qQ nd ?_)))
 cases hi:Bs l x with
 |some i=>
  refine An (bk hi) fun z h1 h2=>?_;obtain⟨en,g1,_,_,g4⟩:=aj.get qQ h1;refine Am (RY (s:={s with toks:=s.toks+dr x}) e hd ?_);exact J (mh g1) (Am (Kj (AE (AE ⟨_,rfl,R.AO _ g4 (q1 z h2)⟩))))
 |none=>
  have σ:=eI (f:=Obj.mapDictKeys (·.push ⟨hV c.w.params x,Aa,w⟩)) (l':=dput l x y) R (tn:=s.toks+dr x) Ar e (ex.mapDictKeys _) (Obj.data_mapDictKeys hd _) (es:=es) (n:=n) (fun T h K=>by exact J Ny (J (bL hi) ((qQ.mono K).append (ru.mono K) (KD.mono K)))) (di nd);exact Am (Kj (Am (RV (hz:=hz) (s:={s with toks:=s.toks+dr x}) e hd (AE (AE ⟨w,rfl,_,_,σ.1,σ.2,KD.CG R σ.2,q0 (fH hi)⟩)))))
theorem rO(K:c.Ok){d:Addr}{l:List (V×V)}{i:Int}{y:V}{k:Nat}(Ar:U d=some (.dict l))(ks:KS l (.int i))(hu:A.units+10<cLine)(hl:l.length<=1000)(hi:Bs l (.int i)=some k)(hy:Az l (.int i)=some y)(q:Q y (U.set d (.dict (l.eraseIdx k)))):
  a6 c A (.builtin "dict.pop") [.ex (.ref d),.int i] Q U:=fun ρ s vs R r=>by
 refine Bc (Ae r) fun v r' FU rv r'=>?_;refine J FU ?_;refine Bc (Ae r') fun Aa Ex FV ru Ex=>?_;refine J FV ?_;refine J (Aj Ex) (J (aG rv) (?_));have hT:=db R Ar;refine Kw ((R.obj _ _ Ar).1) fun o es n e ex hd qQ nd=>?_;have hz:es.size<=sizeLine:=bT (by exact Rv De (J (aj.length qQ) hl));have VY:=ru;refine Ax (Ag ru) fun t Iq=>?_;subst Iq;refine Gj PySem.F.slot_dict_pop hT PySem.F.entry_dict_pop ?_ (PySem.F.args_dict_pop_2 _ _);unfold Builtin.«dict.pop»;refine Am ?_;unfold Builtin.Dict.keyAndDefault;refine Am (RU hT ?_);refine AE ?_;refine Gs rfl ?_;refine Am (AE ?_);refine Dd rfl ?_;refine Am ?_;unfold Builtin.Dict.takeOut
 try with_reducible refine Dq ?_
 refine Am (fA 3 (.int i) ks.kv (by show A.units+1+3<cLine;exact aA (.a (.a (.a D qW) qS) qW) Y 1 1 (.a (.a D qR) qW) Y (c2 _ _) hu rfl) VY (Am (kp (s:={s with toks:=s.toks+dr (.int i)}) ks (by show A.units+1+3<cLine;exact aA (.a (.a (.a D qW) qS) qW) Y 1 1 (.a (.a D qR) qW) Y (c2 _ _) hu rfl) VY e hd qQ nd ?_)));refine J hi ?_;refine An (bk hi) fun z h1 h2=>?_;rw[hy]at h2;obtain rfl:=BC h2;obtain⟨en,g1,_,_,g4⟩:=aj.get qQ h1;refine Am (RY (s:={s with toks:=s.toks+dr (.int i)}) e hd ?_);refine J (mh g1) ?_;have σ:=eI (f:=Obj.mapDictKeys (·.eraseIdxIfInBounds k)) (l':=l.eraseIdx k) R (tn:=s.toks+dr (.int i)) Ar e (ex.mapDictKeys _) (Obj.data_mapDictKeys hd _) (es:=es) (n:=n) (fun T h K=>by
  have e1:(es.eraseIdxIfInBounds k).toList=es.toList.eraseIdx k:=by
   unfold Array.eraseIdxIfInBounds
   split
   ·exact J Array.toList_eraseIdx rfl
   ·exact J (List.eraseIdx_of_length_le (by rw[De];lia)) rfl
  exact J e1 ((qQ.mono K).erase)) (by
  have e2:(l.eraseIdx k).map (·.1)=(l.map (·.1)).eraseIdx k:=by exact J (So _ _) (J (So _ _) (J DT (J Sy (J List.map_drop rfl))))
  exact J e2 (nd.sublist (List.eraseIdx_sublist _ _)))
 refine Am (RV (hz:=hz) (s:={s with toks:=s.toks+dr (.int i)}) e hd (AE ?_) (hf:= ?_))
 ·refine Dd rfl ?_
  exact Am (wpAny_letGo (AE ⟨_,rfl,_,_,σ.1,σ.2,g4.CG R σ.2,q⟩))
 ·unfold Array.eraseIdxIfInBounds
  split
  ·exact J (Array.size_eraseIdx _ _) (aA D (.a Y qW) 1 1 D Y (c2 _ _) (Nj _ _) rfl)
  ·exact Ea _ _
end
end
section
noncomputable def Ee(a:Int)(n:Nat):List V:=(List.range n).map fun i=> .int (a+(i:Nat))
theorem bz(h:(Ee a n)[k]? =some x):k<n/\x=.int (a+k):=by unfold Ee at h;rw[Cs]at h;refine An (El.mp h) fun i hi Bg=>Rv Bg ?_;refine Ax (CP.mp hi) fun h1 h2=>?_;rw[Ek]at h1;rw[List.getElem_range]at h2;exact Rv h2 ⟨h1,rfl⟩
theorem a7(a:Int)(n:Nat):(Ee a n).length=n:=by simp[Ee]
theorem iq(hh:A.handled=none)(x:Int)(n:Nat):Walk c A target (.ref a) (Ee x n) (fun Z=>True) (· =a) (GI c a (fun h k=>IsRangeIter h a (x+k) ((n:Int)-k) 1) fun Z Z Z=>True):=
 GI.walk (t:= "range_iterator") (fun h k it=>⟨_,it,rfl,fun Z e=>e⟩) (by decide) (by decide) (by decide) (fun Z Z Z Z Z Z Z Z Z=>trivial)
  (fun ρ U s k y Q hx R Z it q=>A5 (bz hx) fun hk e=>by refine wpAny_pyNext_range_item it (Int.sub_pos_of_lt (FJ.mpr hk)) fun h' Gm sb=>q _ h' _ (J e aq) ?_ sb;refine J (Int.add_assoc x k 1).symm (J (Int.sub_sub n k 1).symm Gm))
  (fun ρ U s Q R Z it q=>by rw[a7]at it;exact wpAny_pyNext_range_end hh it (Int.le_of_eq (Int.sub_self _)) fun h' sb=>q h' _ sb)
  fun k s Q it q=>wpAny_pyIter_rangeiter it q
theorem bW{P:Value->Shared->Prop}(O:c.Ok)(hk:aw c f)(R:Rep c ρ U s)
  (h:EV c A (.Name x np) env (fun y Ab=>y=.ex f/\EV c A e env (fun z Ah=>∀Aw v,Rep c ρ Ah Aw->Bp U s Ah Aw->VR (tk ρ Ah) Aw.heap z v->wpAny (model c.prog c.w) A (call f [v]) P Ca Aw) Ab) U) (hn:aO [e]=true):
  wpAny (model c.prog c.w) A (eval (.Call (.Name x np) [e] [] pos) env) P Ca s:=
 QL (h.run R fun v Ak y Ab Aq Au r OM=>A5 OM fun hy q=>by
  subst hy;refine J (aG r) (aEl (P:=c.K.In) (by show((backTo pos (starEach [e] env)).any (·.1)||false)=false;exact J (CU.C5 hn) rfl) (fun hh X=>hk _ hh X) ?_);have key:wpAny (model c.prog c.w) A (spliced (backTo pos (starEach [e] env))) (fun vs Aw=>c.K.In Aw.heap/\wpAny (model c.prog c.w) A (call f ([]++vs) []) P Ca Aw) Ca Ak:=
   Nf (q.run Aq fun Aa Aw z Ah AV AP By BI=>QO ⟨AV.K O,BI Aw Aa AV (Au.trans AP) By⟩) (A8 hn).1
  rw[(A8 hn).1]at key ⊢;exact Rj key)
theorem jG{P:Value->Shared->Prop}(O:c.Ok)(hk:aw c f)(R:Rep c ρ U s)
  (h:EV c A (.Name x np) env (fun y Ab=>y=.ex f/\EV c A e env (fun z Ah=>EV c A e' env (fun z' Ap=>∀Bb v v',Rep c ρ Ap Bb->Bp U s Ap Bb->VR (tk ρ Ap) Bb.heap z v->VR (tk ρ Ap) Bb.heap z' v'->wpAny (model c.prog c.w) A (call f [v,v']) P Ca Bb) Ah) Ab) U) (hn:aO [e,e']=true):
  wpAny (model c.prog c.w) A (eval (.Call (.Name x np) [e,e'] [] pos) env) P Ca s:=
 QL (h.run R fun v Ak y Ab Aq Au r ON=>A5 ON fun hy q=>by
  subst hy;refine J (aG r) (aEl (P:=c.K.In) (by show((backTo pos (starEach [e,e'] env)).any (·.1)||false)=false;exact J (CU.C5 hn) rfl) (fun hh X=>hk _ hh X) ?_);have key:wpAny (model c.prog c.w) A (spliced (backTo pos (starEach [e,e'] env))) (fun vs Aw=>c.K.In Aw.heap/\wpAny (model c.prog c.w) A (call f ([]++vs) []) P Ca Aw) Ca Ak:=
   Nf (q.run Aq fun Aa Aw z Ah AV AP By BI=>Nf (BI.run AV fun u' Bb z' Ap BJ B6 Gz FP=>QO ⟨BJ.K O,FP Bb Aa u' BJ ((Au.trans AP).trans B6) (By.CG AV B6) Gz⟩) (A8 (env:=env) (A8 (env:=env) hn).2).1) (A8 hn).1
  rw[(A8 hn).1]at key ⊢;exact Rj key)
theorem oe{K:List V->(u->Prop)->u->Prop}(O:c.Ok)(hh:A.handled=none)
  (h:EV c A (.Name (Ai "range") np) env (fun y Ab=>y=.ex (.type "range")/\EV c A e env (fun z Ah=>∃n:Int,z=.int n/\n<=1000/\-1000<=n/\K (Ee 0 n.toNat) (fun Z=>True) Ah) Ab) U) (hn:aO [e]=true):
  Kz c A target (.Call (.Name (Ai "range") np) [e] [] pos) env K U:=fun ρ s R=>
 bW O ac R (TV.mono h fun y Ab IF=>A5 IF fun hy q=>⟨hy,TV.mono q fun z Ah OO Aw v AV AP r=>Hg OO fun n hz Ru Tz k=>by
  subst hz;refine Ax (Ag r) fun t Dv=>J Dv ?_;refine call_range_1 (wpAny_pyIter_range (a:=0) (b:=n) (c:=1) (DB _ rfl) (small_one (by decide) (by decide) (by lia) (by lia)) ?_);have BJ:Rep c ρ Ah {Aw with heap:=Aw.heap.push {cls:=.type "range",data:=.fields #[.int 0 Aw.toks,.int n t,.int 1 (Aw.toks+1)]},toks:=Aw.toks+1+1}:=AV.grown (fun Z Z e=>Cg _ e) rfl rfl;have B6:Bp Ah Aw Ah {Aw with heap:=Aw.heap.push {cls:=.type "range",data:=.fields #[.int 0 Aw.toks,.int n t,.int 1 (Aw.toks+1)]},toks:=Aw.toks+1+1}:=.of_keep fun Z Z e=>Cg _ e;refine⟨Ah,_,_,_,_,BJ.push _,AP.trans (B6.trans (.push _)),fun a p z=>?_,GI.mk ?_ BJ.new BJ.CH (fun q=>BJ.FK (.inr q)) Al,iq hh 0 n.toNat,k⟩
  ·subst p;exact bt (AP.trans B6) z ai
  ·have e1:Builtin.Range.rangeSize 0 n 1=((n.toNat:Int)-(0:Nat)):=(Sa _ _).trans ((te 0 n).trans (AL (fun z:Int=>(z.toNat:Int)-(0:Nat)) (Int.sub_zero n)))
   refine Rv e1 ?_;exact DB _ rfl⟩) hn
theorem pc{K:List V->(u->Prop)->u->Prop}(O:c.Ok)(hh:A.handled=none)
  (h:EV c A (.Name (Ai "range") np) env (fun y Ab=>y=.ex (.type "range")/\EV c A e env (fun z Ah=>EV c A e' env (fun z' Ap=>∃a n:Int,z=.int a/\z'=.int n/\-1000<=a/\a<=1000/\n<=1000/\-1000<=n/\K (Ee a (n-a).toNat) (fun Z=>True) Ap) Ah) Ab) U) (hn:aO [e,e']=true):
  Kz c A target (.Call (.Name (Ai "range") np) [e,e'] [] pos) env K U:=fun ρ s R=>
 jG O ac R (TV.mono h fun y Ab Iy=>A5 Iy fun hy q=>⟨hy,TV.mono q fun z Ah q'=>TV.mono q' fun z' Ap Bg Aw v v' AV AP r r'=>VP Bg fun a n hz DL ZI ZJ Ru Tz k=>by
  subst hz DL;refine Ax (Ag r) fun t GA=>J GA ?_;refine Ax (Ag r') fun t' CR=>J CR ?_;refine call_range_2 (wpAny_pyIter_range (a:=a) (b:=n) (c:=1) (DB _ rfl) (small_one (by lia) (by lia) (by lia) (by lia)) ?_);have BJ:Rep c ρ Ap {Aw with heap:=Aw.heap.push {cls:=.type "range",data:=.fields #[.int a t,.int n t',.int 1 Aw.toks]},toks:=Aw.toks+1}:=AV.grown (fun Z Z e=>Cg _ e) rfl rfl;have B6:Bp Ap Aw Ap {Aw with heap:=Aw.heap.push {cls:=.type "range",data:=.fields #[.int a t,.int n t',.int 1 Aw.toks]},toks:=Aw.toks+1}:=.of_keep fun Z Z e=>Cg _ e;refine⟨Ap,_,_,_,_,BJ.push _,AP.trans (B6.trans (.push _)),fun a p z=>?_,GI.mk ?_ BJ.new BJ.CH (fun q=>BJ.FK (.inr q)) Al,iq hh a (n-a).toNat,k⟩
  ·subst p;exact bt (AP.trans B6) z ai
  ·have e1:Builtin.Range.rangeSize a n 1=(((n-a).toNat:Int)-(0:Nat)):=(Sa _ _).trans (te a n)
   refine Rv e1 (J (show a+((0:Nat):Int)=a by simp) ?_);exact DB _ rfl⟩) hn
end
section
def CT(c:Cx)(A:Around)(ifs:List Expr)(elt:Expr)(D0:Env)(qQ:Addr)(Q:u->Prop)(U:u):Prop:=match ifs with
 |[]=>EV c A elt D0 (fun y Ab=>∃ys,Ab qQ=some (.list ys)/\ys.length<=1000/\Q (Ab.set qQ (.list (ys++[y])))) U
 |[t]=>TS c A t D0 (fun b σ₀=>if b then EV c A elt D0 (fun y Ab=>∃ys,Ab qQ=some (.list ys)/\ys.length<=1000/\Q (Ab.set qQ (.list (ys++[y])))) σ₀ else Q σ₀) U
 |_=>False
theorem o9{P:Value->Shared->Prop}(R:Rep c ρ U s)(Ar:U qQ=some (.list ys))(hl:ys.length<=1000)(r:VR (tk ρ U) s.heap y v)
  (k:∀v s',Rep c ρ (U.set qQ (.list (ys++[y]))) s'->Bp U s (U.set qQ (.list (ys++[y]))) s'->P v s'):wpAny (model c.prog c.w) A (call (.builtin "list.append") [.ref qQ,v]) P Ca s:=
 BE (fe (A:=A) (Q:=fun Z Ac=>Ac=U.set qQ (.list (ys++[y]))) Ar hl rfl s [.ref qQ,v] R (A6 aW (eU r))) (fun Aa s' ⟨_,Ac,R',S',_,e⟩=>by subst e;exact k Aa s' R' S') fun Z Z e=>e.elim
theorem compTurn_gen(elt target iter:Expr)(ifs:List Expr)(scope:Scope)(pos:Pos)(it acc:Value)(env:Env):
  compTurn (.ListComp elt [⟨target,iter,ifs,0⟩] scope pos) 0 it acc env=(do
   standAt iter.pos
   match <- pyNext it with
   |none=>pure (.done .next)
   |some v=>
    letOwnedTupleGo target it v
    assign target env v
    let mut ok:=true
    for c in ifs do
     if ok then ok <- isTrue c env (eval c env)
    if ok then
     (do let _ <- call (.builtin "list.append") [acc,<- eval elt env])
    again (.compLoop (.ListComp elt [⟨target,iter,ifs,0⟩] scope pos) 0 it acc env)):=by rfl
theorem rf{elt target iter:Expr}{G:u->Prop}{P:Addr->Prop}{I:(Addr->Prop)->Nat->u->Shared->Prop}{Rw:Nat->u->Prop}{RR:Result->Shared->Prop}
  (W:Walk c A target it xs G P I) (pn:∀a,P a->σ₀ a=none->s₀.heap.get? a=none) (R:Rep c ρ U s) (S:Bp σ₀ s₀ U s) (i0:I ρ 0 U s) (j0:Rw 0 U)
  (turn:∀k y Ac,xs[k]? =some y->Rw k Ac->AU c A (fun v=>assign target D0 v) y (CT c A ifs elt D0 qQ (fun Ap=>G Ap/\Rw (k+1) Ap)) Ac)
  (done:∀s' Ac,Rep c ρ Ac s'->Bp σ₀ s₀ Ac s'->Rw xs.length Ac->RR (.ok .next) s'):
  codeAny (model c.prog c.w) A (.compLoop (.ListComp elt [⟨target,iter,ifs,0⟩] scope pos) 0 it (.ref qQ) D0) RR s:=by
 refine codeAny_loop rfl (CI c ρ xs.length I Rw σ₀ s₀) (fun n s' zz=>?_) xs.length (.mk 0 U (G0 _) R S i0 j0)
 induction zz with
 |mk k Ac hn R' S' i' j'=>
 show wpAny _ A ((compTurn (.ListComp elt [⟨target,iter,ifs,0⟩] scope pos) 0 it (.ref qQ) D0).onRaise (fun x=>do noteFrame x D0;theTreesLotGoes x)) _ _ s'
 refine wpAny_noted ?_;rw[compTurn_gen];have w:=W.own _ _ _ _ i'
 cases n with
 |succ n=>
  have BZ:=xN hn;refine Am (Jm (Am (BE (W.item ρ Ac s' k _ (Cr BZ) R' i') (fun r Bb zz=>B4 zz fun v hv GC lg=>J hv ?_) fun Z Z e=>e.elim)));refine Am (BE lg (fun Z GD zz=>D4 zz fun Ii rv LU=>?_) fun Z Z e=>e.elim);have Eu:=R'.nx w Ii;have JW:=S'.nx Ii pn;refine Am (fp.run (turn k _ Ac (Cr BZ) j' GD v Eu rv) fun Z Ij Dl FR Hl GF=>?_);have fin:∀BQ DZ,Rep c ρ BQ DZ->Bp Dl Ij BQ DZ->(G BQ/\Rw (k+1) BQ)->∃m,m<n+1/\CI c ρ xs.length I Rw σ₀ s₀ m DZ:=fun BQ DZ Ew Ff q=>
   ⟨n,HF n,.mk (k+1) BQ ((Lz k n).trans hn) Ew (JW.trans (Hl.trans Ff)) (W.keep _ _ _ _ _ _ LU Eu (Hl.trans Ff) Ew q.1) q.2⟩
  have el:∀(E:Value->Shared->Prop) BQ DZ,Rep c ρ BQ DZ->Bp Dl Ij BQ DZ->EV c A elt D0 (fun y Ab=>∃ys,Ab qQ=some (.list ys)/\ys.length<=1000/\(G (Ab.set qQ (.list (ys++[y])))/\Rw (k+1) (Ab.set qQ (.list (ys++[y]))))) BQ->
    wpAny (model c.prog c.w) A (eval elt D0) (fun Aa JX=>wpAny (model c.prog c.w) A (call (.builtin "list.append") [.ref qQ,Aa]) (fun Z LZ=>∃m,m<n+1/\CI c ρ xs.length I Rw σ₀ s₀ m LZ) E JX) E DZ:=
   fun E BQ DZ Ew Ff h=>h.run Ew fun Aa JX y VZ TA TB r zz=>B4 zz fun ys h1 h2 h3=>BE (o9 TA h1 h2 r fun v s' R' S'=>fin _ _ R' ((Ff.trans TB).trans S') h3) (fun Z Z q=>q) fun Z Z e=>e.elim
  cases ifs with
  |nil=>
   refine Am (AE ?_);refine Gs (DU rfl) (Am (Am (BE (el _ Dl Ij FR (.refl _ _) GF) (fun Aa JX L0=>Am (BE L0 (fun Z LZ L1=>AE (AE ⟨rfl,L1⟩)) fun Z Z e=>e)) fun Z Z e=>e)))
  |cons t ts=>
   cases ts with
   |cons t' ts=>exact GF.elim
   |nil=>
    refine Am ?_;rw[Q0];refine Am (Am (TU.run GF FR fun b DZ BQ Ew Ff Hn=>AE (AE ?_)))
    cases b with
    |false=>exact AE ⟨rfl,fin BQ DZ Ew Ff Hn⟩
    |true=>
     exact Am (Am (BE (el _ BQ DZ Ew Ff Hn) (fun Aa JX L0=>Am (BE L0 (fun Z LZ L1=>AE (AE ⟨rfl,L1⟩)) fun Z Z e=>e)) fun Z Z e=>e))
 |zero=>
  have e:k=xs.length:=hn;refine Am (Jm (Am (BE (W.stop ρ Ac s' R' (Rv e i')) (fun r Bb zz=>A5 zz fun hr GC=>J hr ?_) fun Z Z e=>e.elim)));exact AE (done Bb Ac (R'.nx w GC) (S'.nx GC pn) (Rv e j'))
theorem iT{elt target iter:Expr}{cl:List (Str×Addr)}{G:u->Prop}{P:Addr->Prop}{I:(Addr->Prop)->Nat->u->Shared->Prop}{RR:Value->Addr->Result->Shared->Prop}
  (EB:scope.kind=.function) (FY:∀y∈scope.names,y.2≠ .cell) (W:Walk c A target it xs G P I) (pn:∀a,P a->σ₀ a=none->s₀.heap.get? a=none) (R:Rep c ρ Ab s) (S:Bp σ₀ s₀ Ab s) (i0:I ρ 0 Ab s)
  (h:∀qQ C,Ab qQ=none->Ab C=none->qQ≠C->∃Rw:Nat->u->Prop,G ((Ab.set qQ (.list [])).set C (.fr []))/\Rw 0 ((Ab.set qQ (.list [])).set C (.fr []))/\
   (∀k y Ac,xs[k]? =some y->Rw k Ac->AU c A (fun v=>assign target (compEnvC scope cl C env) v) y (CT c A ifs elt (compEnvC scope cl C env) qQ (fun Ap=>G Ap/\Rw (k+1) Ap)) Ac)/\
   ∀s' Ac,Rep c ρ Ac s'->Bp σ₀ s₀ Ac s'->Rw xs.length Ac->RR (.ref qQ) C (.ok .next) s'):
  wpAny (model c.prog c.w) A (newList []) (fun acc Bb=>wpAny (model c.prog c.w) A (newFunctionEnv scope env.globals cl [] env.qual none .none (some env)) (fun D0 GD=>
   codeAny (model c.prog c.w) A (.compStart (.ListComp elt [⟨target,iter,ifs,0⟩] scope pos) 0 it acc {D0 with scope:=relabel scope env}) (RR acc D0.locals) GD) Ca Bb) Ca s:=by
 have R1:=R.newList Bn;refine wpAny_newObj_type (wpAny_newFunctionEnv FY (by intro y hy;simp at hy) (fun Ar JY Xt=>?_) EB);have hD:Ab s.heap.objs.size=none:=R.new;have TC:=R1.1.new;have Fd:(s.heap.push {cls:=.type "list",data:=.seq ([]:List Value).toArray}).objs.size=s.heap.objs.size+1:=HM ..;generalize TG:(s.heap.push {cls:=.type "list",data:=.seq ([]:List Value).toArray}).objs.size=C at*;have Cc:s.heap.objs.size≠C:=by exact fun e=>Ei 0 (aH qW qV 0 1 (.a Y qW) D 1 D Y (c2 _ _) (AA Fd.symm) (AA e.symm) rfl)
 have hC:Ab C=none:=by rw[u.Ad _ _ (fun e=>Cc e.symm)]at TC;exact TC
 have grow:∀b o,(s.heap.push {cls:=.type "list",data:=.seq ([]:List Value).toArray}).get? b=some o->Ar.get? b=some o:=fun b o e=>by refine Xt.extBut b o (fun q=>?_) (Cg _ e);have:=DG e;rw[TG]at this;rw[q]at this;exact Ba this (Gk _)
 have A1:=R1.1.alloc (o:=.fr []) (s':={s with heap:=Ar,toks:=s.toks+([]:List (Str×Value)).length}) (a:=C) TC grow (by exact Rv TG ai) (by exact Rv TG R1.1.CH) ⟨_,JY,fun x=>rfl⟩ rfl rfl;refine Hg (h _ _ hD hC Cc) fun Rw g0 j0 turn done=>?_;have S2:=S.trans (R1.2.trans A1.2);have i1:I ρ 0 ((Ab.set s.heap.objs.size (.list [])).set C (.fr [])) {s with heap:=Ar,toks:=s.toks+([]:List (Str×Value)).length}:=W.keep _ _ _ _ _ _ i0 R (R1.2.trans A1.2) A1.1 g0;have loop:=rf (elt:=elt) (iter:=iter) (pos:=pos) (scope:=scope) (RR:=RR (.ref s.heap.objs.size) C) W pn A1.1 S2 i1 j0 turn done;exact codeAny_compStart_list loop (BE (W.self ρ 0 _ _ (fun Gm s'=>codeAny (model c.prog c.w) A (.compLoop (.ListComp elt [⟨target,iter,ifs,0⟩] scope pos) 0 Gm (.ref s.heap.objs.size) (compEnvC scope cl C env)) (RR (.ref s.heap.objs.size) C) s') i1 loop) (fun Z Z q=>q) fun Z Z e=>e.elim)
theorem jr(R:Rep c ρ Ac s)(hC:Ac C=some (.fr m))(d:Bd.le Ac)(n:Bd C=none)(sb:Heap.SameBut C s.heap h'):Rep c ρ Bd {s with heap:=h'}/\Keeps (tk ρ Bd) s.heap (tk ρ Bd) h'/\(∀b o,b≠C->s.heap.get? b=some o->h'.get? b=some o):=by
 refine A5 (R.obj _ _ hC) fun JZ h0=>An JZ fun f hn Z=>?_;clear JZ;refine HN hn fun o es ep e hd Z=>?_;clear hn;have nf:¬ρ C:=fun q=>by have hC:=((R.res _ q).1)▸hC;injection hC
 have w:Own c ρ (· =C) Bd s:=⟨fun Z p=>p▸n,fun Z p=>p▸h0,fun b p vs OP=>Ax OP fun k e'=>(by subst p;rw[e]at e';obtain rfl:=BC e';injection hd),fun b p vs OQ=>Ax OQ fun k e'=>(by subst p;rw[e]at e';obtain rfl:=BC e';injection hd),fun Z p=>p▸nf⟩
 have nx:Nx (· =C) s {s with heap:=h'}:=.same (n:=s.toks) sb;exact⟨(R.drop d).nx w nx,Keeps.nx w nx,fun b o hb e=>(sb.2 b hb).trans e⟩
theorem vW{elt target iter:Expr}{cl:List (Str×Addr)}(IG:closureFor scope env=pure cl)(EB:scope.kind=.function)(FY:∀y∈scope.names,y.2≠ .cell)(GH:∀y∈scope.names,y.2=.local->scope.names.lookup y.1=some .local)
  (h:Kz c A target iter env (fun xs G Ab=>∀qQ C,Ab qQ=none->Ab C=none->qQ≠C->∃Rw:Nat->u->Prop,G ((Ab.set qQ (.list [])).set C (.fr []))/\Rw 0 ((Ab.set qQ (.list [])).set C (.fr []))/\
   (∀k y Ac,xs[k]? =some y->Rw k Ac->AU c A (fun v=>assign target (compEnvC scope cl C env) v) y (CT c A ifs elt (compEnvC scope cl C env) qQ (fun Ap=>G Ap/\Rw (k+1) Ap)) Ac)/\
   ∀Ac,Rw xs.length Ac->∃ys m Bd,Ac qQ=some (.list ys)/\Ac C=some (.fr m)/\Bd.le Ac/\Bd qQ=none/\Bd C=none/\Q (.lst ys) Bd) U)
  (hs:∀x,foldedSetIterable iter env x=pure x):EV c A (.ListComp elt [⟨target,iter,ifs,0⟩] scope pos) env Q U:=fun ρ s R=>by
 rw[eval_ListComp];refine wpAny_comprehension_free (use:=none) rfl hs IG EB GH (BE (h s R) (fun v Ak Ar=>BE Ar (fun it Aw zz=>?_) fun Z Z e=>e.elim) fun Z Z e=>e.elim);obtain⟨Ab,xs,G,P,I,AV,AP,pn,i0,W,k⟩:=zz;refine iT (σ₀:=U) (s₀:=s) (RR:=fun acc C=>compPost (model c.prog c.w) A Ca none (Gw c ρ U s Q) acc C) EB FY W pn AV AP i0 fun qQ C hD hC Cc=>Hg (k qQ C hD hC Cc) fun Rw g0 j0 turn done=>⟨Rw,g0,j0,turn,fun s' Ac R' S' j=>?_⟩
 refine Rp (done Ac j) fun ys m Bd d1 d2 d3 d4 d5 q=>An ((R'.obj _ _ d2).1) fun f hn Z=>⟨f,hn,fun h' sb=>?_⟩
 refine D4 (jr R' d2 d3 d5 sb) fun R3 K3 g3=>An ((R'.obj _ _ d1).1) fun vs hl rr=>?_;have TH:¬ρ qQ:=fun q=>by have d1:=((R'.res _ q).1)▸d1;injection d1
 have TJ:¬tk ρ Bd qQ:=fun t=>t.elim (fun e=>e d4) TH;have S3:Bp U s Bd {s' with heap:=h'}:=by refine⟨fun b o e z=>g3 b o (fun hb=>?_) (S'.grow b o e z),fun b o e z=>u.le_none d3 (S'.fresh b o e z)⟩;subst hb;have:=S'.fresh b o e z;have this:=d2▸this;injection this
 exact⟨.lst ys,Bd,R3,S3,bm TJ (hl.keep fun o e=>g3 qQ o Cc e) ((rr.mono (⟨fun Z Z e=>e,fun a o z e=>⟨bh (u.le_none d3) z,e⟩⟩:Keeps (tk ρ Ac) s'.heap (tk ρ Bd) s'.heap)).mono K3),q⟩
end
section
theorem AX.ints:∀{vs:List Value},AX T h (ns.map .int) vs->IntsAre vs ns:=by
 induction ns with
 |nil=>intro vs r;subst r;exact .nil
 |cons n ns ih=>intro vs r;refine Bc (Ae r) fun v q Bg a b=>?_;refine J Bg ?_;refine Ax (Ag a) fun t C6=>?_;exact J C6 (.cons n t (ih b))
theorem AX.Em(i:IntsAre vs ns):AX T h (ns.map .int) vs:=by
 induction i with
 |nil=>exact Bn
 |cons n t _ ih=>exact A6 aq ih
theorem nI(hl:ns.length<64)(q:∀Ce:List Int,Ce.Perm ns->Ce.Pairwise (·<= ·)->Q (.lst (Ce.map .int)) U):a6 c A (.builtin "sorted") [.lst (ns.map .int)] Q U:=fun ρ s vs R r=>by
 refine Bc (Ae r) fun v r' Dx rv r'=>J Dx ?_;refine J (Aj r') (DC (aV rv) fun l ws CS z BO rr=>J CS ?_);have hI:=rr.ints;refine sorted_ints (vs:=ws.toList) (by simpa using BO.isList) hI (by exact J (IntsAre.length hI) hl) fun out Ce a1 a2 a3=>?_;refine Ax (sortedAll_at s.heap ws.toList out) fun e he=>?_;have k:∀b o,s.heap.get? b=some o->(sortedAll s.heap ws.toList out).get? b=some o:=fun Z Z=>sortedAll_old;have R':Rep c ρ U {s with heap:=sortedAll s.heap ws.toList out}:=R.grown k rfl rfl;have hf:¬tk ρ U (s.heap.objs.size+1):=fun t=>t.elim (fun e=>by
  cases q:U (s.heap.objs.size+1)with
  |none=>exact e q
  |some o=>exact Ba (R.lt q) (H0.mpr (G2 _))) fun r=>by obtain⟨_,o,e⟩:=R.res _ r;exact Ba (DG e) (H0.mpr (G2 _))
 exact⟨_,U,R',.of_keep k,bm hf ⟨e,he⟩ (AX.Em a1),q Ce a2 a3⟩
def HO(c:Cx)(A:Around):List (Value->Sem Unit)->List V->(u->Prop)->u->Prop
 |t::ts,x::xs,Q,U=>AU c A t x (fun Ab=>HO c A ts xs Q Ab) U
 |[],[],Q,U=>Q U
 |_,_,_,_=>False
theorem HO.run{P:Unit->Shared->Prop}:∀{xs:List V} {Q:u->Prop} {U:u} {s:Shared} {vs:List Value},HO c A ts xs Q U->Rep c ρ U s->AX (tk ρ U) s.heap xs vs->
  (∀s' Ac,Rep c ρ Ac s'->Bp U s Ac s'->Q Ac->P () s')->wpAny (model c.prog c.w) A (assignInOrder ts vs) P Ca s:=by
 induction ts with
 |nil=>
  intro xs Q U s vs h R r k
  cases xs with
  |nil=>subst r;exact AE (k s U R (.refl U s) h)
  |cons x xs=>exact h.elim
 |cons t ts ih=>
  intro xs Q U s vs h R r k
  cases xs with
  |nil=>exact h.elim
  |cons x xs=>
   refine Bc (Ae r) fun v q CL a b=>J CL ?_
   show wpAny _ _ (do holding q (t v);assignInOrder ts q) _ _ _
   exact Am (Dq (BE (h s v R a) (fun Z Ak ⟨Ab,Aq,Au,CZ⟩=>ih CZ Aq (b.CG R Au) fun s' Ac R' S' h'=>k s' Ac R' (Au.trans S') h') fun Z Z e=>e.elim))
theorem yP{k:Nat}{Q:u->Prop}(hh:A.handled=none)(h:HO c A ((assignEach elts env).map (·.2)) xs Q U)(hn:(assignEach elts env).length=xs.length)(IH:(assignEach elts env).findIdx? (·.1)=none):
  AU c A (fun v=>assign (.Tuple elts k pos) env v) (.tup xs) Q U:=fun ρ s v R r=>by
 refine Bc (aL r) fun a vs CJ ht rr=>J CJ ?_;refine assign_Tuple_tuple hh ht.isTup (by exact J rr.size hn) IH fun h' he=>?_;have k':∀b o,s.heap.get? b=some o->h'.get? b=some o:=fun b o e=>he b o (Ej (DG e)) e;have S':Bp U s U {s with heap:=h'}:=.of_keep k';exact HO.run h (R.grown k' rfl rfl) (rr.CG R S') fun s' Ac R' Ho q=>⟨Ac,R',S'.trans Ho,q⟩
theorem xg{k:Nat}{Q:u->Prop}(hh:A.handled=none)(h:HO c A ((assignEach elts env).map (·.2)) xs Q U)(hn:(assignEach elts env).length=xs.length)(IH:(assignEach elts env).findIdx? (·.1)=none):
  AU c A (fun v=>assign (.Tuple elts k pos) env v) (.lst xs) Q U:=fun ρ s v R r=>by
 refine DC (aV r) fun a vs C4 z hl rr=>J C4 ?_
 show wpAny _ _ (assign (.Tuple elts k pos) env (.ref a)) _ _ _
 rw[PyProof.Rows.assign_Tuple];refine Am (Jm ?_);unfold unpack;refine J (show(assignEach elts env).length=vs.size by rw[rr.size];exact hn) (J IH ?_);refine Am (Dq (kun_itemsOf hh hl.isList fun h' he=>?_));have k':∀b o,s.heap.get? b=some o->h'.get? b=some o:=fun b o e=>he b o (Ej (DG e)) e;have S':Bp U s U {s with heap:=h'}:=.of_keep k';exact HO.run h (R.grown k' rfl rfl) (rr.CG R S') fun s' Ac R' Ho q=>⟨Ac,R',S'.trans Ho,q⟩
theorem wb{Q:u->Prop}(h:AU c A (fun v=>storeName env x v) y Q U):AU c A (fun v=>bindName env x v) y Q U:=fun ρ s v R r=>wpAny_bindName (h s v R r)
theorem vo{k:Nat}{Q:Fl->u->Prop}(hh:A.handled=none)(h:EV c A value env (fun y Ab=>∃xs,y=.tup xs/\names.length=xs.length/\HO c A (names.reverse.map fun n=>fun v=>bindName env n v) xs.reverse (Q .next) Ab) U)
  (hs:swapsWithSole [.Tuple elts k II] value pos.line env=pure false) (hw:swappedStores [.Tuple elts k II] value env=pure (some names)):EX c A (.Assign [.Tuple elts k II] value pos) env Q U:=fun ρ s R=>
 Assign_Tuple_swapped (h.run R fun v Ak y Ab Aq Au r OR=>B4 OR fun xs hy hl q=>by subst hy;refine Bc (aL r) fun a vs C7 ht rr=>J C7 ?_;refine J (show names.length=vs.size by rw[rr.size];exact hl) (unpackItems_tuple hh ht.isTup fun h' he=>?_);have k':∀b o,Ak.heap.get? b=some o->h'.get? b=some o:=fun b o e=>he b o (Ej (DG e)) e;have S':Bp Ab Ak Ab {Ak with heap:=h'}:=.of_keep k';exact HO.run q (Aq.grown k' rfl rfl) (rr.CG Aq S').FN fun s' Ac R' Ho q=>⟨.next,Ac,R',Au.trans (S'.trans Ho),rfl,q⟩) hs hw
end
section
theorem rR(C:Addr)(rest:List Value)(kw:List (Str×Value)):(Code.builtin "type.__call__" ⟨.ref C::rest,kw⟩).weight=1:=by kernel_rfl
theorem sV(C:Addr)(rest:List Value)(kw:List (Str×Value)):(Code.builtin "type.__call__" ⟨.ref C::rest,kw⟩).cUnits=1:=by kernel_rfl
theorem rV(O:c.Ok)(hm:makesIn c.K C=true)(hi:findIn c.K (.ref C) "__init__" =some (some (.ref fI)))(hf:typeIn c.K (.ref fI)=some (.type "function"))
  (h:∀a d:Addr,U a=none->U d=none->a≠d->∀A':Around,A'.handled=A.handled->A'.depth=A.depth+1->A'.units=A.units+1->aR c A' (.ref fI) (.ex (.ref a)::xs) (fun v Ac=>v=.ex .none/\Q (.ex (.ref a)) Ac) ((U.set d (.ns [])).set a (.inst C d))):aR c A (.ref C) xs Q U:=fun ρ s vs R r=>by
 obtain⟨hh,g,dr,t,os⟩:=s;refine make_core (makes_of (R.K O) hm) (looks_findIn (R.K O) hi) (fun self=>bind_fn (R.K O) self hf) (.inl rfl) ?_;have n1:U hh.objs.size=none:=R.new;have R1:=R.alloc (a:=hh.objs.size) (o:=.ns []) (s':=⟨hh.push emptyDict,g,dr,t,os⟩) R.new (fun Z Z e=>Cg _ e) ai R.CH ⟨_,_,_,DB _ rfl,rfl,.nil⟩ rfl rfl;have n2:(U.set hh.objs.size (.ns [])) (hh.objs.size+1)=none:=by have:=R1.1.new;rwa [HM]at this
 have z2:c.h₀.get? (hh.objs.size+1)=none:=by have:=R1.1.CH;rwa [HM]at this
 have R2:=R1.1.alloc (a:=hh.objs.size+1) (o:=.inst C hh.objs.size) (s':=⟨(hh.push emptyDict).push (instObj C hh.objs.size),g,dr,t,os⟩) n2 (fun Z Z e=>Cg _ e) (by exact Rv (HM hh emptyDict) ai) z2 (by show Heap.get? _ _=_;heap_get) rfl rfl;have ne:hh.objs.size+1≠hh.objs.size:=Sj _;have S:=R1.2.trans R2.2;refine Mz (h (hh.objs.size+1) hh.objs.size (by rwa [u.Ad _ _ ne]at n2) n1 ne (A.under (.builtin "type.__call__" ⟨.ref C::vs,[]⟩)) rfl (AL (A.depth+ ·) (rR _ _ _)) (AL (A.units+ ·) (sV _ _ _)) _ _ R2.1 (A6 aW (r.CG R S))) fun res s' z=>?_
 match res,z with
 | .ok (.ret v),z=>
  obtain⟨x,Ac,R',S',rx,rfl,q⟩:=z;exact⟨rx,⟨_,Ac,R',S.trans S',aW,q⟩⟩
 | .error e,z=>exact z.elim
end
section
section
variable{A:Around}{U:u}{Q:V->u->Prop}{env:Env}
theorem Rep.newDict(R:Rep c ρ U s):Rep c ρ (U.set s.heap.objs.size (.dict [])) {s with heap:=s.heap.push {cls:=.type "dict",data:=.dict #[]}}/\Bp U s (U.set s.heap.objs.size (.dict [])) {s with heap:=s.heap.push {cls:=.type "dict",data:=.dict #[]}}:=
 R.alloc R.new (fun Z Z e=>Cg _ e) ai R.CH ⟨_,#[],_,DB _ rfl,⟨rfl,rfl,rfl⟩,rfl,.nil,FG⟩ rfl rfl
theorem tO(q:∀a,U a=none->Q (.ex (.ref a)) (U.set a (.dict []))):EV c A (.Dict [] [] pos) env Q U:=fun ρ s R=>
 wpAny_Dict_empty ⟨_,_,R.newDict.1,R.newDict.2,aW,q _ R.new⟩
theorem aY:(dput l x v).length<=l.length+1:=by
 induction l with
 |nil=>exact Bf _
 |cons p l ih=>
  show(if _ then _ else _:List (V×V)).length<=_
  split
  ·exact G2 _
  ·exact JF ih
def GJ(c:Cx)(A:Around):List (Expr×Expr)->Env->(List (V×V)->u->Prop)->u->Prop
 |[],env,Q,U=>Q [] U
 |(k,v)::r,env,Q,U=>EV c A k env (fun x Ab=>EV c A v env (fun y Ah=>GJ c A r env (fun l Ap=>Q ((x,y)::l) Ap) Ah) Ab) U
def K4:List (V×V)->List (V×V)->Prop
 |l,[]=>True
 |l,(x,y)::r=>KS l x/\K4 (dput l x y) r
noncomputable def cj:List (V×V)->List (V×V)->List (V×V)
 |l,[]=>l
 |l,(x,y)::r=>cj (dput l x y) r
abbrev MM(T:Addr->Prop)(h:Heap):List (V×V)->List (Value×Value)->Prop:=aj fun p q=>VR T h p.1 q.1/\VR T h p.2 q.2
theorem GJ.mono:∀{U:u} {Q Q':List (V×V)->u->Prop},GJ c A es env Q U->(∀l Ac,Q l Ac->Q' l Ac)->GJ c A es env Q' U:=by
 induction es with
 |nil=>intro U Q Q' h k;exact k _ _ h
 |cons p es ih=>intro U Q Q' h k;exact TV.mono h fun x Ab Ar=>TV.mono Ar fun y Ah Du=>ih Du fun l Ap q=>k _ _ q
theorem MM.CG(R:Rep c ρ U s)(S:Bp U s Ac s')(h:MM (tk ρ U) s.heap l vs):MM (tk ρ Ac) s'.heap l vs:=h.mono fun Z Z h=>⟨h.1.CG R S,h.2.CG R S⟩
noncomputable def mL(es:List (Expr×Expr))(env:Env)(pos:Pos):List (Sem Value×Sem Value):=es.map fun p=>(eval p.1 env,do let x <- eval p.2 env;standAt pos;pure x)
theorem GJ.run:∀{P:List (Value×Value)->Shared->Prop} {U:u} {s:Shared} {Q:List (V×V)->u->Prop},GJ c A es env Q U->Rep c ρ U s->
  (∀vs s' l Ac,Rep c ρ Ac s'->Bp U s Ac s'->MM (tk ρ Ac) s'.heap l vs->Q l Ac->P vs s')->wpAny (model c.prog c.w) A (evalPairs (mL es env pos)) P Ca s:=by
 induction es with
 |nil=>intro P U s Q h R k;exact evalPairs_nil (k [] s [] U R (.refl U s) .nil h)
 |cons p es ih=>
  intro P U s Q h R k;exact evalPairs_cons (TV.run h R fun v Ak x Ab Aq Au BH Ar=>Am (TV.run Ar Aq fun Aa Aw y Ah AV AP By Du=>Am (Jm (AE
   (ih Du AV fun vs Bb l Ap BJ B6 Gz q=>k _ _ ((x,y)::l) Ap BJ (Au.trans (AP.trans B6)) (.cons ⟨(BH.CG Aq AP).CG AV B6,By.CG AV B6⟩ Gz) q)))))
theorem qP{P:PUnit->Shared->Prop}(hu:A.units+3<cLine):∀{acc:List (V×V)} {vs:List (Value×Value)} {U:u} {s:Shared},K4 acc l->Rep c ρ (U.set d (.dict acc)) s->MM (tk ρ (U.set d (.dict acc))) s.heap l vs->l.length+acc.length<=1000->
  (∀s',Rep c ρ (U.set d (.dict (cj acc l))) s'->Bp (U.set d (.dict acc)) s (U.set d (.dict (cj acc l))) s'->P Rn s')->
  wpAny (model c.prog c.w) A (forIn vs Rn fun(x:Value×Value) (Z:PUnit)=>(do dictSet d x.1 x.2;pure (S7 Rn):Sem (ForInStep PUnit))) P Ca s:=by
 induction l with
 |nil=>intro acc vs U s sp R r hl k;cases r;exact AE (k s R (.refl _ _))
 |cons p l ih=>
  intro acc vs U s sp R r hl k
  cases r with
  |cons ra rr=>
   rw[Q0];refine Am (Am (ju R (u.set_same _ _ _) sp.1 hu ra.1 ra.2 (AG (EK _ _) hl) fun Ak Aq Au=>AE ?_));have K5:=u.set_set U _ _ _▸Au;exact ih sp.2 (u.set_set U _ _ _▸Aq) (MM.CG R K5 rr) (AG (LA aY _) (AG (AA (Nat.succ_add _ _).symm) hl)) fun s' R' S'=>k s' R' (K5.trans S')
theorem u.L2(h:U a=some o):U.set a o=U:=by
 funext b
 by_cases e:b=a
 ·refine J e (J (u.set_same _ _ _) (J h ?_));rfl
 ·exact J (u.Ad _ _ e) rfl
theorem qo:((evalEachOpt (es.map fun p=>some p.1) env).zip ((evalEach (es.map (·.2)) env).map fun v=>do let x <- v;standAt pos;pure x))=(mL es env pos).map fun p=>(some p.1,p.2):=by
 induction es with
 |nil=>rfl
 |cons e es ih=>exact AL (List.cons _) ih
theorem GJ.len:∀{U:u} {Q:List (V×V)->u->Prop},GJ c A es env Q U->GJ c A es env (fun l Ab=>l.length=es.length/\Q l Ab) U:=by
 induction es with
 |nil=>intro U Q h;exact⟨rfl,h⟩
 |cons p es ih=>intro U Q h;exact TV.mono h fun x Ab Ar=>TV.mono Ar fun y Ah Du=>GJ.mono (ih Du) fun l Ap q=>⟨AL (· +1) q.1,q.2⟩
theorem vT(h:∀a,U a=none->GJ c A es env (fun l Ab=>Ab a=some (.dict [])/\K4 [] l/\Q (.ex (.ref a)) (Ab.set a (.dict (cj [] l)))) (U.set a (.dict [])))(hu:A.units+3<cLine)
  (h0:es≠[]) (hlen:es.length<=15):EV c A (.Dict (es.map fun p=>some p.1) (es.map (·.2)) pos) env Q U:=fun ρ s R=>by
 rewrite[arm_eval_Dict];refine J qo (J (dictDisplay_pairs _ (by unfold mL;simpa using h0) (by unfold mL;rw[List.length_map];exact aA (.a D qW) (.n 17) 1 1 D (.n 15) (c1 _) hlen rfl)) (?_));refine Am (Jm (Am ?_));unfold subDict;refine Am (wpAny_alloc ?_);refine Am (Dq ?_);refine wpAny_ite_true (decide_eq_true (by unfold mL;rw[List.length_map];exact hlen)) (wpAny_bind (GJ.run (GJ.len (h _ R.new)) R.newDict.1 fun vs Ak l Ab Aq Au BH zz=>?_));refine MK zz fun hl e sp q=>?_;clear zz;refine Dq ?_;have e':Ab.set s.heap.objs.size (.dict [])=Ab:=u.L2 e;refine Am (qP hu sp (Rv e'.symm Aq) (Rv e'.symm BH) (hl.symm▸AG hlen (by decide)) fun s' R' S'=>AE (AE (AE ⟨_,_,R',R.newDict.2.trans (Au.trans (by have S':=e'▸S';exact S')),aW,q⟩)))
end
end
section
section
variable{A:Around}{U:u}{Q:V->u->Prop}{env:Env}
theorem q8{Q:Bool->u->Prop}
  (h:EV c A l env (fun x Ab=>EV c A r env (fun y Ah=>O2 c A (compareOp op) x y (fun v Ap=>∃b,v=.ex (.bool b)/\if b then EV c A r' env (fun z G9=>O2 c A (compareOp TK) y z (fun v Dl=>∃b,v=.ex (.bool b)/\Q b Dl) G9) Ap else Q false Ap) Ah) Ab) U)
  (hm:lastMarks [op,TK] [r,r']=false):TS c A (.Compare l [op,TK] [r,r'] pos) env Q U:=fun ρ s R=>by
 refine isTrue_chain (h.run R fun a Ak x Ab Aq Au BH CZ=>test_link (CZ.run Aq fun b Aw y Ah AV AP By BI=>BE (BI Aw a b AV (BH.CG Aq AP) By) (fun v Bb zz=>?_) fun Z Z e=>e.elim)) hm;obtain⟨z,Ap,BJ,B6,Gz,b',hz,FP⟩:=zz;subst hz;refine J (aG Gz) (Jl ?_)
 cases b' with
 |false=>
  exact⟨Ap,BJ,(Au.trans AP).trans B6,FP⟩
 |true=>
  have OS:EV c A r' env (fun z G9=>O2 c A (compareOp TK) y z (fun v Dl=>∃b,v=.ex (.bool b)/\Q b Dl) G9) Ap:=FP;refine test_last (OS.run BJ fun d GD z G9 Eu JW TL TN=>BE (TN GD b d Eu ((By.CG AV B6).CG BJ JW) TL) (fun v Ij zz=>?_) fun Z Z e=>e.elim);obtain⟨z',Dl,FR,Hl,TO,ZK,hz,GF⟩:=zz;subst hz;exact J (aG TO) (Jl ⟨Dl,FR,(((Au.trans AP).trans B6).trans JW).trans Hl,GF⟩)
theorem Rep.C8(R:Rep c ρ U s)(o:Obj):Rep c ρ U {s with heap:=s.heap.push o}/\Bp U s U {s with heap:=s.heap.push o}:=⟨R.grown (fun Z Z e=>Cg _ e) rfl rfl,.of_keep fun Z Z e=>Cg _ e⟩
theorem ku(h:EV c A value env (fun x Ab=>∃y xs,x=.tup (y::xs)/\xs.length<=900/\Q (.tup xs) Ab) U)
  (hs:∀l i:Addr,subscripted (.Slice (some (.Constant (.int 1) k cp)) none none p) false (.ref l) (.ref i)=operate [.ref i,.ref l] (getItem (.ref l) (.ref i))):
  EV c A (.Subscript value (.Slice (some (.Constant (.int 1) k cp)) none none p) pos) env Q U:=fun ρ s R=>by
 refine NC (h.run R fun a Ak x Ab Aq Au BH OT=>Bc OT fun y xs hx hl q=>QP ?_);subst hx;refine(ij (i:=1) (k:=k) (pos:=cp) (Q:=fun z Ah=>z=.int 1/\Q (.tup xs) Ah) ⟨rfl,q⟩).run Aq fun v Aw z Ah AV AP By OU=>A5 OU fun hz q=>AE (AE ?_);subst hz;refine Ax (Ag By) fun t CK=>J CK ?_;refine Bc (aL (BH.CG Aq AP)) fun l vs CS ht rr=>J CS ?_;have P:=AV.C8 {cls:=.type "slice",data:=.fields #[.int 1 t,.none,.none]};have Dg:=ht.keep fun o e=>Cg {cls:=.type "slice",data:=.fields #[.int 1 t,.none,.none]} e;have hz:=rr.size;rw[EG]at hz;refine JR Dg.isTup.typeIs slot_tuple_getitem.lookup (getItem_tuple_from (a:=1) Dg.isTup (Rg _ _ _ _) (Bf _) (aA qW D 1 1 (.a Y qW) D (c2 _ _) (AA hz.symm) rfl) ?_ (by exact J FD (aH D (.n 16777216) 1 1 D (.a Y qW) 1 Y qT (c2 _ _) (AA hz) hl rfl))) (hs _ _);have P2:=P.1.C8 {cls:=.type "tuple",data:=.seq (vs.toList.drop 1).toArray};refine⟨.tup xs,Ah,P2.1,Au.trans (AP.trans (P.2.trans P2.2)),dH ⟨_,DB _ rfl⟩ ?_,q⟩;have HP:=(rr.CG AV P.2).CG P.1 P2.2;exact Bc (Ae HP) fun v q' e Z rq=>J (show(vs.toList.drop 1).toArray.toList=q' by rw[e];rfl) rq
theorem rL(h:EV c A value env (fun x Ab=>∃xs,x=.lst xs/\xs.length<=sizeLine/\Q (.lst (xs.take m)) Ab) U)
  (hs:∀l i:Addr,subscripted (.Slice none (some (.Constant (.int m) k cp)) none p) false (.ref l) (.ref i)=operate [.ref i,.ref l] (getItem (.ref l) (.ref i))):
  EV c A (.Subscript value (.Slice none (some (.Constant (.int m) k cp)) none p) pos) env Q U:=fun ρ s R=>by
 refine NC (h.run R fun a Ak x Ab Aq Au BH OV=>B4 OV fun xs hx hl q=>QP (AE ?_));subst hx;refine(ij (i:=m) (k:=k) (pos:=cp) (Q:=fun z Ah=>z=.int m/\Q (.lst (xs.take m)) Ah) ⟨rfl,q⟩).run Aq fun v Aw z Ah AV AP By OW=>A5 OW fun hz q=>AE ?_;subst hz;refine Ax (Ag By) fun t GA=>J GA ?_;refine DC (aV (BH.CG Aq AP)) fun l vs CL zf ht rr=>J CL ?_;have P:=AV.C8 {cls:=.type "slice",data:=.fields #[.none,.int m t,.none]};have Dg:=ht.keep fun o e=>Cg {cls:=.type "slice",data:=.fields #[.none,.int m t,.none]} e;have hz:=rr.size;refine JR Dg.isList.typeIs slot_list_getitem.lookup (wpAny_getItem_list_slice Dg.isList (Rg _ _ _ _) .none (.int _ _) .none (by decide) ?_ (by exact J hz hl)) (hs _ _);refine J (slicePick_upto' _ _) ?_;have P2:=P.1.C8 {cls:=.type "list",data:=.seq (vs.toList.take m).toArray};refine⟨.lst (xs.take m),Ah,P2.1,Au.trans (AP.trans (P.2.trans P2.2)),bm ?_ ⟨_,DB _ rfl⟩ ?_,q⟩
 ·exact P.1.FK
 have HP:=(rr.CG AV P.2).CG P.1 P2.2
 simpa using HP.Ky m
theorem rD(h:vs.size<=2):slicePick vs none none (some (-1))=vs.toList.reverse.toArray:=by
 obtain⟨l⟩:=vs
 match l,h with
 |[],_=>rfl
 |[x],_=>
  unfold slicePick;refine J (show sliceRange (sliceBounds none none (some (-1)) (Ks [x]).size).1 (sliceBounds none none (some (-1)) (Ks [x]).size).2.1 (sliceBounds none none (some (-1)) (Ks [x]).size).2.2=[0]from by rw[show(Ks [x]).size=1 from rfl];decide) ?_;rfl
 |[x,y],_=>
  unfold slicePick;refine J (show sliceRange (sliceBounds none none (some (-1)) (Ks [x,y]).size).1 (sliceBounds none none (some (-1)) (Ks [x,y]).size).2.1 (sliceBounds none none (some (-1)) (Ks [x,y]).size).2.2=[1,0]from by rw[show(Ks [x,y]).size=2 from rfl];decide) ?_;rfl
 |x::y::z::l,h=>simp at h
theorem lT(h:EV c A value env (fun x Ab=>∃l xs,x=.ex (.ref l)/\Ab l=some (.list xs)/\xs.length<=2/\Q (.lst xs.reverse) Ab) U)
  (hs:∀l i:Addr,subscripted (.Slice none none (some (.UnaryOp .USub (.Constant (.int 1) k cp) np)) p) false (.ref l) (.ref i)=operate [.ref l,.ref i] (getItem (.ref l) (.ref i))):
  EV c A (.Subscript value (.Slice none none (some (.UnaryOp .USub (.Constant (.int 1) k cp) np)) p) pos) env Q U:=fun ρ s R=>by
 refine NC (h.run R fun a Ak x Ab Aq Au BH OX=>DC OX fun l xs hx Ar hl q=>QP (AE (AE ?_)));subst hx;refine(sj (x:=.Constant (.int 1) k cp) (pos:=np) (Q:=fun z Ah=>z=.int (-1)/\Ah l=some (.list xs)/\Q (.lst xs.reverse) Ah) (ij ⟨1,rfl,rfl,Ar,q⟩)).run Aq fun v Aw z Ah AV AP By zz=>D4 zz fun hz Ar q=>?_;clear zz;subst hz;refine Ax (Ag By) fun t Cz=>J Cz ?_;refine J (aG BH) ?_;have P:=AV.C8 {cls:=.type "slice",data:=.fields #[.none,.none,.int (-1) t]};refine An ((P.1.obj _ _ Ar).1) fun vs Dg rr=>?_;have hz:=rr.size;refine JR Dg.isList.typeIs slot_list_getitem.lookup (wpAny_getItem_list_slice Dg.isList (Rg _ _ _ _) .none .none (.int _ _) (by decide) ?_ (by exact J hz (J FD (aA D (.n 16777216) 1 1 D qU (c1 _) hl rfl)))) (hs _ _);refine J (rD (aH D qU 1 1 D Y 1 Y qU (c2 _ _) (AA hz) hl rfl)) ?_;have P2:=P.1.C8 {cls:=.type "list",data:=.seq vs.toList.reverse.toArray};refine⟨.lst xs.reverse,Ah,P2.1,Au.trans (AP.trans (P.2.trans P2.2)),bm P.1.FK ⟨_,DB _ rfl⟩ ?_,q⟩
 simpa using(rr.CG P.1 P2.2).FN
theorem oA(n:Nat)(h:1<=n):Builtin.Slice.sliceAdjust none (some 1) 1 (n:Int)=(0,1):=by
 unfold Builtin.Slice.sliceAdjust;have h1:¬((1:Int)<0):=by decide
 congr 1
 lia
theorem l5{E:Value->Shared->Prop}{n:Nat}{Q:Int×Int×Nat->Shared->Prop}(hs:s.heap.IsSliceOf sl .none (.int 1 Aa) .none)(ha:1<=n)(h:Q (0,1,1) s):
  wpAny (model prog w) A (Builtin.Slice.sliceApplied (.ref sl) (pure (n:Int))) Q E s:=by
 refine B4 (id hs) fun os IJ J0 Rx=>?_;unfold Builtin.Slice.sliceApplied Builtin.Slice.sliceFields;refine Am (Am (wpAny_field IJ Rx (x:=.none) rfl (Am (wpAny_field IJ Rx (x:=.int 1 Aa) rfl (Am (wpAny_field IJ Rx (x:=.none) rfl (AE ?_)))))));refine Am (slicePart_none ?_);refine Dd rfl (Am (slicePart_none (Am (slicePart_int (Am (AE ?_))))));exact J (oA n ha) (AE h)
theorem kT{E:Value->Shared->Prop}{Q:Value->Shared->Prop}(ht:IsTup s.heap t items)(hs:s.heap.IsSliceOf sl .none (.int 1 Aa) .none)(ha:2<=items.size)(hx:items[0]? =some x)
  (h:Q (.ref s.heap.objs.size) {s with heap:=s.heap.push {cls:=.type "tuple",data:=.seq #[x]}}):wpAny (model prog w) A (getItem (.ref t) (.ref sl)) Q E s:=by
 have Ha:sizeOk (.seq #[x]):=by
  show(1:Nat)<=sizeLine
  exact J FD (EK _ _)
 refine B4 (id hs) fun os IJ J0 Rx=>?_;have Xu:s.TypeIs (.ref sl) "slice" :=⟨os,IJ,J0⟩
 unfold getItem
 try with_reducible refine Dq ?_
 first|refine Am (AE ?_)|skip
 refine Am (QK ht.typeIs (by decide) ?_);refine Am (My (name:=Ai "__getitem__") ht.typeIs slot_tuple_getitem
  (Gj slot_tuple_getitem ht.typeIs entry_tuple_getitem ?_ (args_tuple_getitem _ _)))
 show wpAny _ _ (Builtin.Tuple.tupleItemsOf (.ref t)>>=_) _ _ s
 refine Am (tupleItemsOf_ ht ?_);refine Am (Ni Xu ?_);refine Gs rfl (Am (l5 hs (aA qW D 1 1 qU D (c1 _) ha rfl) ?_));have OJ:¬(((0:Int)==0 &&(1:Int)==1 &&((1:Nat)==items.size))=true):=by
  have:((1:Nat)==items.size)=false:=by rw[beq_eq_false_iff_ne];exact fun e=>Ei 0 (aH qW qV 0 1 qU D 1 D qW (c1 _) ha (AA e.symm) rfl)
  refine J this ?_;simp
 refine Dd (Df OJ) ?_;have hp:((List.range 1).filterMap fun(k:Nat)=>items[((0:Int)+(k:Int)*1).toNat]?).toArray= #[x]:=by
  show(List.filterMap _ [0]).toArray=_
  refine J Nr (J (show items[((0:Int)+((0:Nat):Int)*1).toNat]? =some x from hx) ?_);rfl
 refine J hp ?_
 first
  |exact Am (m:=Rc _) (JD (AE ⟨_,rfl,AE h⟩) Ha)
  |exact Am (m:=Rc _) (JD (Am (AE (AE ⟨_,rfl,AE h⟩))) Ha)
  |exact Am (Am (m:=Rc _) (JD (AE (AE ⟨_,rfl,AE h⟩)) Ha))
  |exact Am (Am (m:=Rc _) (JD (AE ⟨_,rfl,AE h⟩) Ha))
theorem oh(h:EV c A value env (fun x Ab=>∃y z xs,x=.tup (y::z::xs)/\Q (.tup [y]) Ab) U)
  (hs:∀l i:Addr,subscripted (.Slice none (some (.Constant (.int 1) k cp)) none p) false (.ref l) (.ref i)=operate [.ref i,.ref l] (getItem (.ref l) (.ref i))):
  EV c A (.Subscript value (.Slice none (some (.Constant (.int 1) k cp)) none p) pos) env Q U:=fun ρ s R=>by
 refine NC (h.run R fun a Ak x Ab Aq Au BH OY=>LN OY fun y y' xs hx q=>QP (AE ?_));subst hx;refine(ij (i:=1) (k:=k) (pos:=cp) (Q:=fun z Ah=>z=.int 1/\Q (.tup [y]) Ah) ⟨rfl,q⟩).run Aq fun v Aw z Ah AV AP By OZ=>A5 OZ fun hz q=>AE ?_;subst hz;refine Ax (Ag By) fun t DK=>J DK ?_;refine Bc (aL (BH.CG Aq AP)) fun l vs FX ht rr=>J FX ?_;have P:=AV.C8 {cls:=.type "slice",data:=.fields #[.none,.int 1 t,.none]};have Dg:=ht.keep fun o e=>Cg {cls:=.type "slice",data:=.fields #[.none,.int 1 t,.none]} e;have hz:=rr.size;rw[EG,EG]at hz;refine An ((rr.CG AV P.2).get (i:=0) rfl) fun v hv rv=>?_;have P2:=P.1.C8 {cls:=.type "tuple",data:=.seq #[v]};refine JR Dg.isTup.typeIs slot_tuple_getitem.lookup (kT Dg.isTup (Rg _ _ _ _) (aA qU D 1 1 (.a (.a Y qW) qW) D (c2 _ _) (AA hz.symm) rfl) (eW hv) ?_) (hs _ _);exact⟨.tup [y],Ah,P2.1,Au.trans (AP.trans (P.2.trans P2.2)),dH ⟨_,DB _ rfl⟩ (A6 (rv.CG P.1 P2.2) Bn),q⟩
end
end
section
theorem il{ns:List Int}(hh:A.handled=none)(q:Q (.int ns.sum) U):a6 c A (.builtin "sum") [.lst (ns.map .int)] Q U:=fun ρ s vs R r=>by
 refine Bc (Ae r) fun v r' Bg rv r'=>J Bg ?_;refine J (Aj r') (DC (aV rv) fun l ws BX z BO rr=>J BX ?_);have hI:=rr.ints;refine Ax hI.allInts.items fun xs hx=>?_;have L5:s.heap.IsList l (intItems xs):=by exact Rv hx BO.isList
 refine sum_intListG hh L5 fun h' tk t' hk=>?_;have e1:ns=xs.toList.map (·.1):=by refine Rv (nums_intItems _) (Rv hx ?_);exact(show numsOf ws.toList.toArray.toList=ns from hI.numsOf).symm
 have e2:preSum (numAt xs) xs.size=ns.sum:=by refine J (preSum_eq _ _) (J (List.take_of_length_le (by simp)) (J e1 ?_));rfl
 refine J e2 ?_;have R':Rep c ρ U {s with heap:=h',toks:=tk}:=R.grown hk rfl rfl;exact⟨_,U,R',.of_keep hk,aq,q⟩
theorem k9(hh:A.handled=none)(Cc:ns≠[])(q:∀M,M∈ns->Q (.int M) U):a6 c A (.builtin "max") [.lst (ns.map .int)] Q U:=fun ρ s vs R r=>by
 refine Bc (Ae r) fun v r' CS rv r'=>J CS ?_;refine J (Aj r') (DC (aV rv) fun l ws Dw z BO rr=>J Dw ?_);have hI:=rr.ints;refine Ax hI.allInts.items fun xs hx=>?_;have L5:s.heap.IsList l (intItems xs):=by exact Rv hx BO.isList
 have e1:ns=xs.toList.map (·.1):=by refine Rv (nums_intItems _) (Rv hx ?_);exact(show numsOf ws.toList.toArray.toList=ns from hI.numsOf).symm
 have Fd:0<xs.size:=by
  refine Or.elim (Nat.eq_zero_or_pos xs.size) (fun e=>?_) fun e=>?_
  ·exact absurd (by refine J e1 ?_;simpa using e) Cc
  ·exact e
 refine max_intList hh L5 Fd fun v h' tk hv hk=>Ax (intItems_at hv) fun t CR=>J CR ?_;refine A5 (argBest_gt (numAt xs) (xs.size-1)) fun h1 h2=>?_;have R':Rep c ρ U {s with heap:=h',toks:=tk}:=R.grown hk rfl rfl;refine⟨_,U,R',.of_keep hk,aq,q _ ?_⟩;exact J e1 (J (numAt_eq _ _) (getD_mem (by exact J (Bl _) (J De (aH (.a D qW) Y 1 1 D qY 1 (.a qY qW) Y (c3 _ _ _) h1 (AA (Ds (aA qW D 1 1 (.a qV qW) D (c1 _) Fd rfl))) rfl)))))
theorem Rep.listed(R:Rep c ρ U s)(k:∀b o,s.heap.get? b=some o->h'.get? b=some o)(e:h'.get? s.heap.objs.size=some {cls:=.type "list",dict:=none,data:=.seq ws n,slots:= #[]})
  (r:AX (tk ρ U) s.heap xs ws.toList):Rep c ρ (U.set s.heap.objs.size (.list xs)) {s with heap:=h',toks:=tn}/\Bp U s (U.set s.heap.objs.size (.list xs)) {s with heap:=h',toks:=tn}:=by
 refine R.alloc R.new k ai R.CH ⟨ws,⟨n,e⟩,?_⟩ rfl rfl;refine r.mono ⟨fun Z Z e=>e.keep fun Z=>k _ _,fun b o z e=>⟨?_,e.keep fun Z=>k _ _⟩⟩;refine Ax e ?_;clear e;intro n e;exact bh (fun z=>by exact J (u.Ad _ _ (Ej (DG e))) z) z
theorem jL(hl:xs.length<=1000)(q:∀a,U a=none->Q (.ex (.ref a)) (U.set a (.list xs))):a6 c A (.type "list") [.lst xs] Q U:=fun ρ s vs R r=>by refine Bc (Ae r) fun v r' C7 rv r'=>J C7 ?_;refine J (Aj r') (DC (aV rv) fun l ws DM z K6 rr=>J DM (Ax K6 fun n e=>?_));clear K6;refine call_list_seq l (.inl rfl) e rfl rfl (fun h' c' k e'=>?_) (bT (by exact J rr.size hl));have P:=R.listed (tn:=s.toks) k e' rr;exact⟨_,_,P.1,P.2,aW,q _ R.new⟩
theorem jB(Ar:U m=some (.list xs))(hl:xs.length<=1000)(q:∀a,U a=none->Q (.ex (.ref a)) (U.set a (.list xs))):a6 c A (.type "list") [.ex (.ref m)] Q U:=fun ρ s vs R r=>by refine Bc (Ae r) fun v r' Et rv r'=>J Et ?_;refine J (Aj r') (J (aG rv) ?_);refine An ((R.obj _ _ Ar).1) fun ws B0 rr=>Ax B0 fun n e=>?_;clear B0;refine call_list_seq m (.inl rfl) e rfl rfl (fun h' c' k e'=>?_) (bT (by exact J rr.size hl));have P:=R.listed (tn:=s.toks) k e' rr;exact⟨_,_,P.1,P.2,aW,q _ R.new⟩
theorem fF(Ar:U l=some (.list (ns.map .int)))(hl:ns.length<64)(q:∀Ce:List Int,Ce.Perm ns->Ce.Pairwise (·<= ·)->Q (.lst (Ce.map .int)) U):a6 c A (.builtin "sorted") [.ex (.ref l)] Q U:=fun ρ s vs R r=>by
 refine Bc (Ae r) fun v r' Ey rv r'=>J Ey ?_;refine J (Aj r') (J (aG rv) ?_);refine An ((R.obj _ _ Ar).1) fun ws BO rr=>?_;have hI:=rr.ints;refine sorted_ints (vs:=ws.toList) (by simpa using BO.isList) hI (by exact J (IntsAre.length hI) hl) fun out Ce a1 a2 a3=>?_;refine Ax (sortedAll_at s.heap ws.toList out) fun e he=>?_;have k:∀b o,s.heap.get? b=some o->(sortedAll s.heap ws.toList out).get? b=some o:=fun Z Z=>sortedAll_old;have R':Rep c ρ U {s with heap:=sortedAll s.heap ws.toList out}:=R.grown k rfl rfl;have hf:¬tk ρ U (s.heap.objs.size+1):=fun t=>t.elim (fun e=>by
  cases q:U (s.heap.objs.size+1)with
  |none=>exact e q
  |some o=>exact Ba (R.lt q) (H0.mpr (G2 _))) fun r=>by obtain⟨_,o,e⟩:=R.res _ r;exact Ba (DG e) (H0.mpr (G2 _))
 exact⟨_,U,R',.of_keep k,bm hf ⟨e,he⟩ (AX.Em a1),q Ce a2 a3⟩
end
section
theorem iH(q:Q (.ex (.bool true)) U):O2 c A (compareOp .Is) (.ex .none) (.ex .none) Q U:=fun ρ s Aa v R ru rv=>by exact J (aG ru) (J (aG rv) (wpAny_is_self rfl (R.Dk aW q)))
theorem jS(q:Q (.ex (.bool false)) U):O2 c A (compareOp .Is) (.tup l) (.ex .none) Q U:=fun ρ s Aa v R ru rv=>by refine Bc (aL ru) fun a vs Bg Z Z=>J Bg ?_;exact J (aG rv) (wpAny_is_other rfl (by simp) (R.Dk aW q))
theorem uc{E:Value->Shared->Prop}{P:Value->Shared->Prop}(hl:s.heap.IsList l ws)(hb:s.heap.IsList b us)(hz:us.size=0)(hu:A.units<cLine)(q:P (.bool (decide (ws.size=0))) s):
  wpAny (model prog w) A (compareOp .Eq (.ref l) (.ref b)) P E s:=by
 by_cases e:ws.size=0
 ·refine SeqAt.RcAt.lists (A:=A) (e:=fun Z=>true) hl hb (CW (aA D Y 1 1 D qV (c2 _ _) (AA e) rfl) (aA D Y 1 1 D qV (c2 _ _) (AA hz) rfl)) hu (fun j h1 Z=>by lia) prog w E P ?_
  rw[DU e]at q;have:(List.range ws.size).all (fun Z=>true)=true:=by simp
  exact J this q
 ·refine SeqAt.RcAt.lists_lengths (A:=A) hl hb (by refine J hz ?_;simpa using e) hu prog w E P ?_
  rw[Df e]at q;exact q
theorem sN{E:Value->Shared->Prop}{P:Value->Shared->Prop}(hl:s.heap.IsList l ws)(hb:s.heap.IsList b us)(hz:us.size=0)(hu:A.units<cLine)(q:P (.bool (!decide (ws.size=0))) s):
  wpAny (model prog w) A (compareOp .NotEq (.ref l) (.ref b)) P E s:=by
 by_cases e:ws.size=0
 ·refine SeqAt.RcNeAt.lists (A:=A) (e:=fun Z=>true) hl hb (CW (aA D Y 1 1 D qV (c2 _ _) (AA e) rfl) (aA D Y 1 1 D qV (c2 _ _) (AA hz) rfl)) hu (fun j h1 Z=>by lia) prog w E P ?_
  rw[DU e]at q;have:(!(List.range ws.size).all (fun Z=>true))=false:=by simp
  exact J this q
 ·refine SeqAt.RcNeAt.lists_lengths (A:=A) hl hb (by refine J hz ?_;simpa using e) hu prog w E P ?_
  rw[Df e]at q;exact q
theorem mq{s:Shared}{T:Addr->Prop}{us:Array Value}(r:AX T s.heap [] us.toList):us.size=0:=by exact Rv De (J (Aj r) rfl)
theorem rh(hu:A.units<cLine)(q:Q (.ex (.bool (decide (xs.length=0)))) U):O2 c A (compareOp .Eq) (.lst xs) (.lst []) Q U:=fun ρ s Aa v R ru rv=>by refine DC (aV ru) fun l ws BX Z hl rr=>J BX ?_;refine DC (aV rv) fun b us Dx Z hb HP=>J Dx ?_;exact uc hl.isList hb.isList (mq HP) hu (J rr.size (R.Dk aW q))
theorem n8(Ar:U l=some (.list xs))(hu:A.units<cLine)(q:Q (.ex (.bool (!decide (xs.length=0)))) U):O2 c A (compareOp .NotEq) (.ex (.ref l)) (.lst []) Q U:=fun ρ s Aa v R ru rv=>by refine J (aG ru) (An ((R.obj _ _ Ar).1) fun ws hl rr=>DC (aV rv) fun b us Dw Z hb HP=>J Dw ?_);exact sN hl.isList hb.isList (mq HP) hu (J rr.size (R.Dk aW q))
theorem jl(hu:A.units<cLine)(q:Q (.ex (.bool true)) U):O2 c A (compareOp .NotEq) (.tup l) (.ex .none) Q U:=fun ρ s Aa v R ru rv=>by refine Bc (aL ru) fun a vs C9 ht Z=>J C9 ?_;exact J (aG rv) (SeqAt.RcNeAt.tuple_none (A:=A) ht.B5 hu _ _ _ _ (R.Dk aW q))
theorem xO{s:Shared}{T:Addr->Prop}{ws:Array Value}{xs:List V}{x:V}(k:KV 3 x)(kx:∀y∈xs,KV 3 y)(r:AX T s.heap xs ws.toList):(open Classical in ws.any fun v=>decide (VR T s.heap x v))=decide (x∈xs):=by
 classical
 refine Rv Array.any_toList ?_;generalize ws.toList=vs at r
 induction xs generalizing vs with
 |nil=>exact J (Aj r) rfl
 |cons y xs ih=>
  refine Bc (Ae r) fun v Ry CL a b=>J CL ?_;refine J Sz (J (ih (fun z hz=>kx z (.tail _ hz)) Ry b) ?_);have e:decide (VR T s.heap x v)=decide (x=y):=decide_eq_decide.mpr ⟨fun h=>VR.inj k ⟨_,kx y (.head _)⟩ h a,fun h=>h▸a⟩;refine J e (Rv (Bool.decide_or _ _) ?_);exact decide_eq_decide.mpr (by rw[BP])
theorem uA(k:KV 3 x)(kx:∀y∈xs,KV 3 y)(sm:∀y∈xs,Sm y x)(hu:A.units+10<cLine)(q:Q (.ex (.bool (decide (x∈xs)))) U):O2 c A (compareOp .In) x (.lst xs) Q U:=fun ρ s Aa v R ru rv=>by
 classical
 refine DC (aV rv) fun l ws CJ Z hl rr=>J CJ ?_;refine SeqAt.in_listAt (fun v=>decide (VR (tk ρ U) s.heap x v)) hl.isList (fun y hy=>?_) ?_
 ·refine Ax (H5.mp (Nv.mpr hy)) fun i hi=>?_
  have J4:i<xs.length:=by exact Rv rr.length ((CP.mp hi).1)
  refine An (rr.get (Cr J4)) fun y' E3 ry=>?_;have E3:=hi▸E3;obtain rfl:=BC E3;intro prog w E P hp;refine vK 3 _ (kx _ (G4 J4)) k (sm _ (G4 J4)) (by show A.units+1+3<_;exact aA (.a (.a (.a D qW) qS) qW) Y 1 1 (.a (.a D qR) qW) Y (c2 _ _) hu rfl) ry ru ?_;have e:decide (VR (tk ρ U) s.heap x y)=decide (xs[i]=x):=decide_eq_decide.mpr ⟨fun h=>(VR.inj k ⟨_,kx _ (G4 J4)⟩ h ry).symm,fun h=>h▸ry⟩;exact Rv e hp
 ·have:=xO k kx rr
  exact J this (R.Dk aW q)
end
section
noncomputable def Jv(xs:List V):List V:=xs.zipIdx.map fun p=> .tup [.int (p.2:Nat),p.1]
theorem kP{k:Nat}(h:(Jv xs)[k]? =some y):∃x,xs[k]? =some x/\y=.tup [.int (k:Nat),x]:=by unfold Jv at h;rw[Cs,List.getElem?_zipIdx]at h;refine An (El.mp h) fun p hp Bg=>Rv Bg ?_;refine An (El.mp hp) fun x hx BX=>Rv BX ?_;exact⟨x,hx,by simp⟩
theorem dg(xs:List V):(Jv xs).length=xs.length:=by simp[Jv]
inductive TP(c:Cx)(e it l:Addr)(xs:List V)(ρ:Addr->Prop)(k:Nat)(U:u)(s:Shared):Prop
 |mk (old:Value) (vs:Array Value) (he:IsEnum s.heap e it (k:Nat) old) (hi:s.heap.IsListIter it l k) (z1:U e=none) (z2:U it=none) (n1:c.h₀.get? e=none) (n2:c.h₀.get? it=none) (f1:¬ρ e) (f2:¬ρ it) (nl:¬tk ρ U l) (hl:IsL s.heap l vs) (rr:AX (tk ρ U) s.heap xs vs.toList)
theorem g9{P:Addr->Prop}(h1:P e)(h2:P it):∀a,a=e\/a=it->P a:=fun a h=>h.elim (fun q=>q▸h1) fun q=>q▸h2
theorem qg{x1:Nat}(hh:A.handled=none)(Cc:e≠it):Walk c A (.Tuple elts x1 tp) (.ref e) (Jv xs) (fun Z=>True) (fun a=>a=e\/a=it) (TP c e it l xs):=by
 have own:∀ρ k U s,TP c e it l xs ρ k U s->Own c ρ (fun a=>a=e\/a=it) U s:=fun ρ k U s I=>by
  induction I with
  |mk old vs he hi z1 z2 n1 n2 f1 f2=>
  refine B4 hi fun o hi hc Z=>⟨g9 z1 z2,g9 n1 n2,g9 (fun vs h=>?_) (fun vs h=>?_),g9 (fun vs h=>?_) (fun vs h=>?_),g9 f1 f2⟩
  ·refine Ax h fun n h=>?_
   rw[he]at h;simp at h
  ·refine Ax h fun n h=>?_
   rw[hi]at h;obtain rfl:=Option.some.inj h;simp at hc
  ·refine Ax h fun n h=>?_
   rw[he]at h;simp at h
  ·refine Ax h fun n h=>?_
   rw[hi]at h;obtain rfl:=Option.some.inj h;simp at hc
 refine⟨own,fun ρ U s k y hx R I=>?_,fun ρ U s R I=>?_,fun ρ k U s Q I q=>?_,fun ρ k U s Ac s' I R S R' Z=>?_⟩
 ·have w:=own _ _ _ _ I
  induction I with
  |mk old vs he Gm z1 z2 n1 n2 f1 f2 nl hl rr=>
  refine An (kP hx) fun x CM CS=>J CS ?_;refine An (rr.get CM) fun v hv rv=>wpAny_pyNext_enum_item he Gm hl.isList (by exact Rv (EH) hv) Cc fun h' e1 e2 e3 e4 e5=>⟨_,rfl,⟨fun b o hb e=>e5 b o (fun h=>hb (.inl h)) (fun h=>hb (.inr h)) e,rfl,rfl⟩,?_⟩
  refine wpAny_letOwnedTupleGo_enum e1 fun FZ f' sb=>?_;have N:Nx (fun a=>a=e\/a=it) s {s with heap:=FZ,toks:=s.toks+1}:=⟨fun b o hb q=>(sb.2 b (fun h=>hb (.inl h))).trans (e5 b o (fun h=>hb (.inl h)) (fun h=>hb (.inr h)) q),rfl,rfl⟩
  have K:=Keeps.nx w N;have TQ:s.heap.objs.size≠e:=LC (DG he);have O0:FZ.IsListIter it l (k+1):=e2.at fun o q=>(sb.2 it (Ne.symm Cc)).trans q;refine⟨N,?_,.mk v vs ?_ O0 z1 z2 n1 n2 f1 f2 nl (K.2 _ _ nl hl).2 (rr.mono K)⟩
  ·exact dH ⟨_,(sb.2 _ TQ).trans e3⟩ (A6 aq (A6 (rv.mono K) Bn))
  ·exact f'
 ·generalize hn:(Jv xs).length=n at I
  induction I with
  |mk old vs he Gm z1 z2 n1 n2 f1 f2 nl hl rr=>
  refine wpAny_pyNext_enum_end hh he Gm hl.isList ?_ fun h' sb=>⟨rfl,⟨fun b o hb q=>sb b o (fun h=>hb (.inr h)) q,rfl,rfl⟩⟩
  exact Rv hn (J (dg _) (nq rr))
 ·induction I with
  |mk old vs he=>exact wpAny_pyIter_enum he q
 ·induction I with
  |mk old vs he hi z1 z2 n1 n2 f1 f2 nl hl rr=>
  refine An hi fun o hi r=>?_;have K:=R.keeps S;exact .mk old vs (S.grow _ _ he z1) ⟨o,S.grow _ _ hi z2,r⟩ (S.fresh _ _ he z1) (S.fresh _ _ hi z2) n1 n2 f1 f2 (K.2 _ _ nl hl).1 (K.2 _ _ nl hl).2 (rr.mono K)
theorem s0{K:List V->(u->Prop)->u->Prop}(O:c.Ok)(hh:A.handled=none)
  (h:EV c A (.Name (Ai "enumerate") np) env (fun y Ab=>y=.ex (.type "enumerate")/\EV c A e env (fun z Ah=>∃xs,z=.lst xs/\K (Jv xs) (fun Z=>True) Ah) Ab) U) (hn:aO [e]=true):
  Kz c A (.Tuple elts x1 tp) (.Call (.Name (Ai "enumerate") np) [e] [] pos) env K U:=fun ρ s R=>
 bW O ac R (TV.mono h fun y Ab O4=>A5 O4 fun hy q=>⟨hy,TV.mono q fun z Ah O5 Aw v AV AP r=>An O5 fun xs hz k=>by
  subst hz;refine DC (aV r) fun l vs C9 zf hl rr=>J C9 ?_;refine call_enumerate_list hl.isList fun h' he hi Fd hk=>wpAny_pyIter_enum he ?_;have BJ:Rep c ρ Ah {Aw with heap:=h'}:=AV.grown hk rfl rfl;have Hb:∀b,Aw.heap.objs.size<=b->Aw.heap.get? b=none:=fun b hb=>Heap.get?_none_of_le hb;have fresh:∀b,Aw.heap.objs.size<=b->Ah b=none/\c.h₀.get? b=none/\¬ρ b:=fun b hb=>by
   refine⟨?_,?_,?_⟩
   ·cases q:Ah b with
    |none=>rfl
    |some o=>exact Ba (AV.lt q) (H0.mpr hb)
   ·cases q:c.h₀.get? b with
    |none=>rfl
    |some o=>exact Ba (DG (AV.keep _ _ q)) (H0.mpr hb)
   ·intro q
    obtain⟨_,o,e⟩:=AV.res _ q;exact Ba (DG e) (H0.mpr hb)
  refine D4 (fresh (Aw.heap.objs.size+1) (G2 _)) fun a1 a2 a3=>D4 (fresh Aw.heap.objs.size (Bf _)) fun b1 b2 b3=>⟨Ah,_,_,_,_,BJ,AP.trans (.of_keep hk),fun a p z=>?_,TP.mk _ vs he hi a1 b1 a2 b2 a3 b3 zf (hl.keep fun o=>hk _ o) (rr.mono (AV.keeps (.of_keep hk))),qg hh (Sj _),k⟩
  rcases p with rfl|rfl
  ·exact bt AP z (Hb _ (G2 _))
  ·exact bt AP z (Hb _ (Bf _))⟩) hn
end
section
section
variable{E:Value->Shared->Prop}{S:Addr}
theorem qi(hT:s.TypeIs (.ref S) "dict")(h:Q false s):wpAny (model prog w) A (SR (.ref S)) Q E s:=mJ hT F.slot_dict_len.lookup (by decide+kernel:splitId "dict.__len__" =some ("dict","__len__")) F.sub_dict_dict (.inr rfl) h
theorem lY(hh:A.handled=none)(TR:(S==sysModules)=false)(hm:s.heap.DictAt (intKind prog w) S Fg ep)(hz:Fg.length<=60)
  (hQ:∀vs h' tk,IntsAre vs (Fg.map (·.1))->(∀b o,s.heap.get? b=some o->h'.get? b=some o)->Q vs {s with heap:=h',toks:=tk}):
  wpAny (model prog w) A (collect (.ref S)) Q E s:=by
 unfold collect;refine Am (R8 (Ki F.entry_proto_collect ?_));refine J (LK F.plain_proto_collect _) ?_
 show wpAny _ A.in1 (newList []>>=fun l=>again (.builtin "list.__iadd__" ⟨[l,.ref S],[]⟩)) _ _ s
 refine Am (JD ?_);refine AE ⟨Lw Rh _,Ki F.entry_list_iadd ?_⟩;refine J (LK Rh _) ?_
 show wpAny _ A.in1 (Builtin.List.listExtendWith (.ref s.heap.objs.size) (.ref S) (.ref s.heap.objs.size)) _ _ _
 unfold Builtin.List.listExtendWith;have L6:S<s.heap.objs.size:=hm.lt_size;have MN:(s.heap.push {cls:=.type "list",data:=.seq ([]:List Value).toArray}).DictAt (intKind prog w) S Fg ep:=hm.push _;have K7:ND {s with heap:=s.heap.push {cls:=.type "list",data:=.seq ([]:List Value).toArray}} (.ref S) "dict" :=MN.dictOf.typeIs;refine Am (Ni K7 ?_);have h1:Builtin.List.listSameRef (.ref s.heap.objs.size) (.ref S)=false:=by simp[Builtin.List.listSameRef,Nat.ne_of_gt L6]
 refine Dd (Df (by rw[h1];decide)) ?_;have Fd:(s.heap.push {cls:=.type "list",data:=.seq ([]:List Value).toArray}).objs.size=s.heap.objs.size+1:=HM ..;refine Am (wpAny_pyIter_dict (s:={s with heap:=s.heap.push {cls:=.type "list",data:=.seq ([]:List Value).toArray}}) TR MN ?_);generalize hI:(Shared.heap {s with heap:=s.heap.push {cls:=.type "list",data:=.seq ([]:List Value).toArray}}).objs.size=I;have TX:I=s.heap.objs.size+1:=hI.symm.trans Fd;generalize Rz:(Shared.heap {s with heap:=s.heap.push {cls:=.type "list",data:=.seq ([]:List Value).toArray}}).push {cls:=.type "dict_keyiterator",data:=.fields #[.ref S,.int 0 0,.int Fg.length 0,.int ep 0]}=h';have hk:∀b o,(s.heap.push {cls:=.type "list",data:=.seq ([]:List Value).toArray}).get? b=some o->h'.get? b=some o:=fun b o e=>by refine Rv Rz ?_;exact Cg _ e
 have hit:h'.IsKeyIter I S 0 Fg.length ep:=⟨_,by refine Rv Rz ?_;refine Rv hI ?_;exact DB _ rfl,rfl,rfl⟩
 have MO:h'.DictAt (intKind prog w) S Fg ep:=MN.keep hk;have K8:ND {s with heap:=h'} (.ref S) "dict" :=MO.dictOf.typeIs;refine Am (Dq (qi K8 ?_))
 show wpAny _ A.in1 (rule "list.extend.makes-room" >>=fun Z=>Builtin.List.listTouch (.ref s.heap.objs.size)>>=fun Z=>
  again (.builtin "list.extend.loop" ⟨[.ref s.heap.objs.size,.ref I,.ref s.heap.objs.size],[]⟩)) _ _ _
 refine Am (Kj ?_);have F1:h'.get? s.heap.objs.size=some {cls:=.type "list",data:=.seq ([]:List Value).toArray}:=hk _ _ (DB _ rfl);refine Am (Am (QN F1 rfl ?_));have F2:=Fu (Obj.mapSeq (·.push MH)) F1 rfl;refine QN F2 rfl ?_;have IK:=Fu (Obj.mapSeq (·.pop)) F2 rfl;have MP:∀b o,b≠s.heap.objs.size->h'.get? b=some o->((h'.update s.heap.objs.size (Obj.mapSeq (·.push MH))).update s.heap.objs.size (Obj.mapSeq (·.pop))).get? b=some o:=
  fun b o hb e=>(Jp _ _ (Ne.symm hb)).trans ((Jp _ _ (Ne.symm hb)).trans e)
 have Hp:I≠s.heap.objs.size:=by refine J TX ?_;exact Sj _
 have Xv:S≠I:=by refine J TX ?_;exact Ej (EF L6)
 have W:=(Walks.dictKeys (prog:=prog) (w:=w) (A:=A.in1) (knd:=intKind prog w) hh I S Xv Fg ep).toS;have K9:s.heap.objs.size∉[I,S]:=by simp only[List.mem_cons,List.not_mem_nil,or_false,not_or];exact⟨Hp.symm,LC L6⟩
 refine AE ⟨Lw F.plain_extend_loop _,codeAny_extend_loopS W (by refine J FD ?_;exact aA D (.n 16777216) 1 1 D (.n 60) (c1 _) hz rfl) _ K9 _ Fg.length 0 _ _ _ rfl (DS _)
  ⟨hit.at fun o e=>MP I o Hp e,MO.at' fun o e=>MP S o (Ej L6) e⟩ IK (ItemsOf.nil _) fun s' F3 c' Fx J5 GK=>?_⟩
 refine Am (wpAny_load J5 ?_);obtain⟨FZ,TY,RA,IL,L7⟩:=s';have eg:TY=s.gens:=Fx.gens;have ed:RA=s.drawn:=Fx.drawn;have eo:L7=s.os:=Fx.os;refine J eg (J ed (J eo ?_));refine AE (hQ F3.toList FZ IL ?_ fun b o e=>?_)
 ·have key:∀(n:Nat) (l:List Value) (ks:List (Int×Value)),l.length=ks.length->(∀(j:Nat) (v:Value),l[j]? =some v->∃k x,ks[j]? =some (k,x)/\(intKind prog w).is k v=true)->IntsAre l (ks.map (·.1)):=by
   intro n l
   induction l with
   |nil=>intro ks hl _;cases ks with
    |nil=>exact .nil
    |cons _ _=>injection hl
   |cons v l ih=>
    intro ks hl hj
    cases ks with
    |nil=>injection hl
    |cons p ks=>
     refine Fv (hj 0 v rfl) fun k x e1 e2=>?_;have e1:=(List.getElem?_cons_zero)▸e1;obtain rfl:=BC e1;refine Ax (Value.isInt_shape e2) fun t CK=>J CK ?_;exact .cons k t (ih ks (JQ hl) fun j v hv=>hj (j+1) v (by refine J (List.getElem?_cons_succ) ?_;exact hv))
  refine key 0 F3.toList Fg (by refine J De ?_;exact GK.1) fun j v hv=>?_;exact GK.2 j v (by refine Rv (EH) ?_;exact hv)
 ·have hb:=DG e
  refine Fx.heap b o ?_ (MP b o (Ej hb) (hk _ _ (Cg _ e)));simp only[List.mem_cons,List.not_mem_nil,or_false,not_or];exact⟨Ej hb,by refine J TX ?_;exact Ej (EF hb)⟩
theorem EW.dictAt{P:Params}(qQ:EW P T h l es)(k:∀p∈l,∃i,p.1=.int i):
  ∃Fg:List (Int×Value),Pairs (intKind prog w) es Fg/\(Fg.map (·.1)).map V.int=l.map (·.1)/\∀e∈es,∃k,(intKind prog w).is k e.key=true/\e.hash=(intKind prog w).hash k:=by
 induction qQ with
 |nil=>exact⟨[],.nil,rfl,fun Z h=>nomatch h⟩
 | @cons p e l es d t ih=>
  refine B4 (ih fun p hp=>k p (.tail _ hp)) fun Fg h1 h2 h3=>Ax (k p (.head _)) fun i hi=>Ax (Ag (Rv hi d.key)) fun t ht=>?_;have ek:(intKind prog w).is i e.key=true:=by exact J ht (Ly _ _ _ _)
  refine⟨(i,e.val)::Fg,.cons ek rfl h1,by rw[Ec,Ec,Ec,h2,hi],fun x hx=>?_⟩
  rcases BP.mp hx with rfl|hx
  ·exact⟨i,ek,d.hash.trans (by exact J hi rfl)⟩
  ·exact h3 x hx
end
section
theorem cR(K:c.Ok)(Ar:U d=some (.dict l))(hk:l.map (·.1)=ns.map .int)(hl:l.length<=60)(hh:A.handled=none)(q:∀Ce:List Int,Ce.Perm ns->Ce.Pairwise (·<= ·)->Q (.lst (Ce.map .int)) U):a6 c A (.builtin "sorted") [.ex (.ref d)] Q U:=fun ρ s vs R r=>by
 refine Bc (Ae r) fun v r' CL rv r'=>J CL ?_;refine J (Aj r') (J (aG rv) ?_);refine Kw ((R.obj _ _ Ar).1) fun o es n e ex hd qQ nd=>?_;have kk:∀p∈l,∃i,p.1=.int i:=fun p hp=>by have:p.1∈ns.map V.int:=hk▸BF.mpr ⟨p,hp,rfl⟩;exact An (BF.mp this) fun i Z h=>⟨i,h.symm⟩
 refine B4 (EW.dictAt (prog:=c.prog) (w:=c.w) qQ kk) fun Fg h1 h2 h3=>?_;have inj:∀a b:List Int,a.map V.int=b.map V.int->a=b:=fun a=>by
  induction a with
  |nil=>intro b h;cases b with
   |nil=>rfl
   |cons _ _=>injection h
  |cons x a ih=>
   intro b h
   cases b with
   |nil=>injection h
   |cons y b=>
    rw[Ec,Ec]at h;injection h with e1 e2
    injection e1 with e1
    refine J e1 (J (ih b e2) ?_);rfl
 have JY:Fg.map (·.1)=ns:=inj _ _ (h2.trans hk);have hlen:Fg.length=l.length:=by have:=congrArg List.length h2;simpa using this
 have hm:s.heap.DictAt (intKind c.prog c.w) d Fg n:=by
  refine⟨o,es,e,ex,hd,fun x hx=>h3 x (Nv.mpr hx),h1,?_⟩;have:((Fg.map (·.1)).map V.int).Nodup:=by exact J h2 nd
  exact SV V.int (fun a b h e=>h (AL _ e)) this
 refine Calls.call_function_entry kind_sorted plain_sorted entry_sorted (args_sorted1 _) ?_;unfold Builtin.«sorted»;refine Am (m:=checkCount "sorted" 1 1 _) (AE ?_);refine wpAny_bind (lY (by first|exact hh|simpa using hh) (ej K R Ar) hm (aH D (.n 60) 1 1 D Y 1 Y (.n 60) (c2 _ _) (Nat.le_of_eq hlen) hl rfl) fun vs h' La hI Ck=>?_);have V0:vs.length=l.length:=by exact J (IntsAre.length hI) (J (Bl _) (J hlen rfl))
 refine Am (R9 ?_ (by exact J V0 (J FD (aA D (.n 16777216) 1 1 D (.n 60) (c1 _) hl rfl))));have MQ:(h'.push (seqObj "list" vs.toArray 0)).get? h'.objs.size=some (seqObj "list" vs.toArray 0):=DB _ rfl;refine Am (Dq (Gj slot_list_sort ⟨_,MQ,rfl⟩ entry_list_sort (list_sort_tree MQ hI (aH (.a D qW) (.n 64) 1 1 D Y 1 Y (.n 60) (c2 _ _) (AA V0) hl rfl) fun out Ce a1 a2 a3=>⟨_,rfl,?_⟩) (args_list_sort _)));refine AE ⟨_,rfl,?_⟩;have Cb:s.heap.get? h'.objs.size=none:=by
  cases q:s.heap.get? h'.objs.size with
  |none=>rfl
  |some o'=>exact Ba (DG (Ck _ _ q)) (Gk _)
 have F4:∀b o,s.heap.get? b=some o->(sortedHeap (h'.push (seqObj "list" vs.toArray 0)) h'.objs.size vs out).get? b=some o:=fun b o e=>by have hb:=Ck _ _ e;exact(SU (Ej (DG hb)) (by exact J (HM _ _) (EF (DG hb)))).trans (Cg _ hb)
 refine Ax (sortedHeap_at (out:=out) MQ) fun e1 Xw=>?_;have R':Rep c ρ U {s with heap:=sortedHeap (h'.push (seqObj "list" vs.toArray 0)) h'.objs.size vs out,toks:=La}:=R.grown F4 rfl rfl;refine⟨.lst (Ce.map .int),U,R',.of_keep F4,bm ?_ ⟨e1,Xw⟩ (AX.Em a1),q Ce (Rv JY a2) a3⟩;intro t;refine Or.elim t (fun t=>?_) fun t=>?_
 ·cases q:U h'.objs.size with
  |none=>exact t q
  |some o=>
   refine An ((R.obj _ _ q).1.some) fun y hy Z=>?_;have hy:=Cb▸hy;injection hy
 ·obtain⟨_,o,e⟩:=R.res _ t
  have e:=Cb▸e;injection e
end
end
section
noncomputable def O6(x:Str):List V:=x.cps.toList.map fun k=> .str ⟨#[k]⟩
theorem tV(hh:A.handled=none)(ha:x.cps.all (· <128)=true):rX c A target (.str x) (O6 x) (fun Z=>True) U:=fun ρ s v R r=>by
 refine Ax (Av r) fun t Ct=>J Ct ?_;exact wpAny_pyIter_ascii ha ⟨fun Z Z e=>Cg _ e,rfl,rfl,(· =s.heap.objs.size),GI c s.heap.objs.size (fun h k=>h.IsStrIter s.heap.objs.size "str_ascii_iterator" x t k) (fun Z Z Z=>True),fun a p=>p▸ai,.Fe R ⟨_,DB _ rfl,rfl,rfl⟩ Al rfl,
  GI.walk (t:= "str_ascii_iterator") (fun h k it=>B4 it fun o e hc r=>⟨o,e,hc,fun h' e'=>⟨o,e',hc,r⟩⟩) (by decide) (by decide) (by decide) (fun Z Z Z Z Z Z Z Z Z=>trivial)
   (fun ρ U s k y Q hx R Z it q=>by unfold O6 at hx;rw[Cs,EH]at hx;exact An (El.mp hx) fun ch TZ e=>wpAny_pyNext_ascii_item it TZ fun h' Gm sb=>q _ h' _ (Rv e on) Gm sb)
   (fun ρ U s Q R Z it q=>wpAny_pyNext_ascii_end hh it (by unfold O6;refine J (Bl _) (J De (?_));rewrite[Array.getElem?_eq_none_iff];exact Bf _) fun h' sb=>q h' _ sb)
   fun k s Q it q=>wpAny_pyIter_striter_ascii it q⟩
theorem oI:MT c (.str x) (Ai "isspace") U (.builtin "str.isspace"):=fun ρ A s v pl P E R r q=>by refine Ax (Av r) fun t Dv=>?_;subst Dv;exact PySem.GM.isspace q
theorem lG(q:Q (.ex (.bool (PySem.Txt.isspace x))) U):a6 c A (.builtin "str.isspace") [.str x] Q U:=fun ρ s vs R r=>by refine Bc (Ae r) fun v r' C9 rv r'=>J C9 ?_;refine J (Aj r') (Ax (Av rv) fun t CR=>J CR ?_);exact PySem.SC.isspace (R.Dk aW q)
theorem sL(q:Q (.ex (.bool (!(Builtin.Str.occurrences x y 0 x.length 1).isEmpty))) U):O2 c A (compareOp .In) (.str y) (.str x) Q U:=fun ρ s Aa v R ru rv=>by refine Ax (Av ru) fun t DH=>J DH (Ax (Av rv) fun t' GG=>J GG ?_);exact PySem.P.in_str (R.Dk aW q)
theorem tE(q:Q (.ex (.bool (x.cps.toList !=y.cps.toList))) U):O2 c A (compareOp .NotEq) (.str x) (.str y) Q U:=fun ρ s Aa v R ru rv=>by refine Ax (Av ru) fun t Cz=>J Cz (Ax (Av rv) fun t' DJ=>J DJ ?_);exact PySem.P.ne_str (R.Dk aW q)
theorem tN(hx:x.cps[0]? =some ch)(q:Q (.str ⟨#[ch]⟩) U)(hs:∀Aa t k,subscripted slice false (.str x Aa) (.int k t)=operate [.str x Aa,.int k t] (getItem (.str x Aa) (.int k t))):
  k6 c A value slice (.str x) (.int 0) Q U:=fun ρ s v Aa R rv ru=>by
 refine Ax (Av rv) fun t CB=>J CB ?_;refine Ax (Ag ru) fun t' B0=>J B0 ?_;have hl:0<x.length:=(SD.mp hx).1;refine JR (typeIs_str s x t) PySem.F.slot_str_getitem.lookup (PySem.P.getItem_str (by decide) (c:=ch) ?_ (R.AO _ on q)) (hs _ _ _);have e:seqIndex? 0 x.length=some 0:=by
  have BO:(0:Int)<(x.length:Int):=by exact FJ.mpr (aA (.a qV qW) D 1 1 (.a qV qW) D (c1 _) hl rfl)
  unfold seqIndex?
  simp
  exact fun e=>Ei 0 (aH qW qV 0 1 (.a qV qW) D 1 D qV (c1 _) hl (AA e) rfl)
 exact J e hx
end
noncomputable def EO(h:Int)(k:Nat):Nat:=Q9 h/32^k
noncomputable def Bo(h:Int):Nat->Nat
 |0=>Q9 h % 8
 |k+1=>(Bo h k*5+1+EO h (k+1)) % 8
noncomputable def pr(h:Int)(k:Nat):SetTable.Probe:={j:=Bo h k,more:=0,i:=Bo h k,perturb:=EO h k,dummy:=none}
theorem lO(h:Int)(k:Nat):Bo h k<8:=by
 cases k with
 |zero=>exact QW _ (by decide)
 |succ k=>exact QW _ (by decide)
theorem zX(hi:i<8):SetTable.runEnd 7 i=i:=by unfold SetTable.runEnd;exact J (AK (fun e=>Ei 0 (aA qW qV 0 1 (.a D (.n 9)) (.n 7) (c1 _) e rfl))) rfl
theorem nE{t:SetTable}(ht:t.mask=7)(h:Int):t.probeStart h=pr h 0:=by
 unfold SetTable.probeStart pr;simp only[ht];have e:Q9 h % (7+1)=Bo h 0:=rfl;refine J e (J (zX (lO h 0)) ?_)
 simp[EO]
theorem dm{t:SetTable}(ht:t.mask=7)(h:Int)(k:Nat):t.advance (pr h k)=pr h (k+1):=by
 unfold SetTable.advance pr SetTable.leap;simp only[ht,Nat.lt_irrefl,if_false,gt_iff_lt];have e1:EO h k/32=EO h (k+1):=by unfold EO;exact J (Nat.div_div_eq_div_mul _ _ _) (J (Nat.pow_succ _ _) rfl)
 refine J e1 ?_;have e2:(Bo h k*5+1+EO h (k+1)) % (7+1)=Bo h (k+1):=rfl;refine J e2 (J (zX (lO h _)) ?_)
 simp
theorem vD(h:Int):Q9 h<2^64:=by unfold SetTable.bits;have h1:=Int.emod_lt_of_pos h (show(0:Int)<2^64 by decide);have h2:=Int.emod_nonneg h (show(2^64:Int)≠0 by decide);exact(Int.toNat_lt h2).mpr h1
theorem rP(h:Int)(hk:13<=k):EO h k=0:=by unfold EO;refine Sk (GZ (vD h) ?_);refine AG (by decide:2^64<=32^13) (QQ (by decide) hk)
noncomputable def T5(a:Nat):Nat->Nat
 |0=>a
 |m+1=>(T5 a m*5+1) % 8
theorem ve:∀a<8,∀j<8,∃m<8,T5 a m=j:=by decide
theorem p6(h:Int):∀m,Bo h (13+m)=T5 (Bo h 13) m
 |0=>rfl
 |m+1=>by
  show(Bo h (13+m)*5+1+EO h (13+m+1)) % 8=_
  refine J (rP h (bP (.n 13) (.a (.a (.n 13) D) qW) 1 (c1 _) rfl)) (J (p6 h m) ?_);rfl
theorem qs(h:Int)(hj:j<8):∃k,k<=20/\Bo h k=j:=by exact An (ve _ (lO h 13) j hj) fun m hm e=>⟨13+m,by exact aA (.a (.n 13) D) zQ 1 1 (.a D qW) (.n 8) (c1 _) hm rfl,by exact J (p6 _ _) (J e rfl)⟩
theorem xI[DecidablePred p]:∀{n:Nat},p n->∃k,k<=n/\p k/\∀i,i<k->¬p i:=by
 intro n
 induction n using Kk with
 |ind n ih=>
  intro hn
  by_cases h:∃i,i<n/\p i
  ·refine An h fun i hi pi=>?_;clear h
   exact B4 (ih i hi pi) fun k a b c=>⟨k,by exact aH D Y 1 1 (.a qY qW) Y 1 D qY (c3 _ _ _) hi a rfl,b,c⟩
  ·exact⟨n,Bf _,hn,fun i hi pi=>h ⟨i,hi,pi⟩⟩
theorem iP{α:Type}[DecidableEq α]:∀{l P:List α},l.Nodup->(∀x∈l,x∈P)->l.length<=P.length
 |[],P,_,_=>DS _
 |x::l,P,hn,hs=>by rw[CQ]at hn;have hx:=hs x (.head _);have:=iP (l:=l) (P:=P.erase x) hn.2 fun y hy=>(List.mem_erase_of_ne (fun e:y=x=>hn.1 (by exact Rv e hy))).mpr (hs y (.tail _ hy));have h1:=List.length_erase_of_mem hx;have h2:0<P.length:=List.length_pos_of_mem hx;exact J EG (az (.a D qW) Y 1 1 D qY 1 (.a qX qW) Y 1 qY qX (c4 _ _ _ _) this (AA (Ds (aA qW D 1 1 (.a qV qW) D (c1 _) h2 rfl))) (AA h1) rfl)
theorem qn{P:List Nat}(h:P.length<8):∃j,j<8/\j∉P:=by refine NB fun n=>?_;have:=iP (l:=List.range 8) (P:=P) List.nodup_range fun x hx=>NB fun q=>n ⟨x,G5.mp hx,q⟩;rw[Ek]at this;exact Ei 0 (aH qW qV 0 1 (.a D qW) (.n 8) 1 (.n 8) D (c1 _) h this rfl)
theorem ip(h:Int){P:List Nat}(hP:P.length<8):∃k,k<=20/\Bo h k∉P/\∀i,i<k->Bo h i∈P:=by exact An (qn hP) fun j hj hf=>An (qs h hj) fun k hk e=>B4 (xI (p:=fun k=>Bo h k∉P) (n:=k) (by rw[e];exact hf)) fun k' a b c=>⟨k',by exact aH D zQ 1 1 D Y 1 Y zQ (c2 _ _) a hk rfl,b,fun i hi=>NB (c i hi)⟩
theorem si(hs:xs.toList.Pairwise (· < ·)):∀(fuel lo hi:Nat),lo<=hi->hi<=xs.size->hi-lo<=fuel->(∀i,i<lo->xs.getD i 0<j)->(∀i,hi<=i->i<xs.size->j<=xs.getD i 0)->
  (MG xs j fuel lo hi<=xs.size/\(∀i,i<MG xs j fuel lo hi->xs.getD i 0<j)/\∀i,MG xs j fuel lo hi<=i->i<xs.size->j<=xs.getD i 0):=by
 have mono:∀i k,i<k->k<xs.size->xs.getD i 0<xs.getD k 0:=fun i k J6 hk=>by
  have h1:i<xs.toList.length:=by exact J De (aH (.a D qW) Y 1 1 (.a D qW) qY 1 (.a qY qW) Y (c3 _ _ _) J6 hk rfl)
  have h2:k<xs.toList.length:=by refine J De ?_;assumption
  have:=LD.mp hs i k h1 h2 J6
  simpa [Array.getD,show i<xs.size by assumption,hk]using this
 intro fuel
 induction fuel with
 |zero=>
  intro lo hi h1 h2 h3 h4 h5;have:lo=hi:=by exact CW (aA D Y 1 1 (.a qY D) Y (c3 _ _ _) (AA (Ds (aA D Y 1 1 D Y (c2 _ _) h1 rfl))) rfl) (aH D Y 1 1 D (.a qY Y) 1 qY qV (c3 _ _ _) EM h3 rfl)
  subst this;exact⟨h2,h4,h5⟩
 |succ fuel ih=>
  intro lo hi h1 h2 h3 h4 h5;refine J (show MG xs j (fuel+1) lo hi=if lo<hi then(if xs.getD ((lo+hi)/2) j<j then MG xs j fuel ((lo+hi)/2+1) hi else MG xs j fuel lo ((lo+hi)/2))else lo from rfl) ?_
  by_cases hl:lo<hi
  ·refine J (AS hl) ?_
   have L8:=GZ (oF hl) h2;have ed:xs.getD ((lo+hi)/2) j=xs.getD ((lo+hi)/2) 0:=by simp[Array.getD,L8]
   refine J ed ?_
   by_cases hm:xs.getD ((lo+hi)/2) 0<j
   ·refine J (AS hm) (ih _ _ (oF hl) h2 (xT hl h3) (fun i FW=>?_) h5)
    by_cases e:i=(lo+hi)/2
    ·exact J e hm
    ·exact EL (mono i _ (by exact aA (.a D qW) Y 1 1 (.a D qW) Y (c2 _ _) (DF (aA D Y 1 1 (.a D qW) (.a Y qW) (c2 _ _) FW rfl) e) rfl) L8) hm
   ·refine J (AK hm) (ih _ _ (oH h1) (Dt L8) (xr hl h3) h4 (fun i FW J8=>?_))
    by_cases e:i=(lo+hi)/2
    ·exact J e (aA D Y 1 1 D Y (c2 _ _) (DR hm) rfl)
    ·exact AG (DR hm) (Dt (mono ((lo+hi)/2) i (aA (.a D qW) Y 1 1 (.a D qW) Y (c2 _ _) (DF (aA D Y 1 1 D Y (c2 _ _) FW rfl) (Ne.symm e)) rfl) J8))
  ·refine J (AK hl) ?_
   have:lo=hi:=by exact CW (aA D Y 1 1 (.a qY D) Y (c3 _ _ _) (AA (Ds (aA D Y 1 1 D Y (c2 _ _) h1 rfl))) rfl) (aA D Y 1 1 D Y (c2 _ _) (DR hl) rfl)
   subst this;exact⟨h2,h4,h5⟩
theorem dx(j:Nat)(hs:xs.toList.Pairwise (· < ·)):FI xs j<=xs.size/\(∀i,i<FI xs j->xs.getD i 0<j)/\∀i,FI xs j<=i->i<xs.size->j<=xs.getD i 0:=
 si hs xs.size 0 xs.size (DS _) (Bf _) (Bf _) (fun i h=>Ba h (Gu _)) (fun i h h'=>Ba h' (fun e=>Ei 0 (aH qW qV 0 1 D Y 1 (.a Y qW) D (c2 _ _) h e rfl)))
theorem kI(hs:xs.toList.Pairwise (· < ·))(h:j∈xs.toList):xs[FI xs j]? =some j:=by
 refine D4 (dx j hs) fun b1 b2 b3=>?_;obtain⟨i,hi,e⟩:=List.getElem_of_mem h;have hi:=De▸hi;rw[SE]at e;have e':xs.getD i 0=j:=by simpa [Array.getD,hi]using e
 have:i=FI xs j:=by
  rcases LB i (FI xs j)with h|h|h
  ·exact Ba (b2 i h) (fun e=>Ei 0 (aH qW qV 0 1 Y D 1 (.a D qW) Y (c2 _ _) (AA e'.symm) e rfl))
  ·exact h
  ·have hb:FI xs j<xs.size:=by exact aH (.a D qW) Y 1 1 (.a qY qW) Y 1 (.a D qW) qY (c3 _ _ _) hi h rfl
   have h1:=b3 _ (Bf _) hb;have h2:xs.toList.length=xs.size:=De;have:=LD.mp hs _ i (by exact J h2 hb) (by exact J h2 hi) h;rw[SE,SE,e]at this;have h3:xs.getD (SetTable.below xs j) 0=xs[SetTable.below xs j]:=by simp[Array.getD,hb]
   exact Ba (Rv h3 h1) (Nat.not_le_of_lt this)
 refine Rv this (J (Kq hi) ?_);exact J e rfl
theorem rS(h:j∉xs.toList):(xs[FI xs j]? ==some j)=false:=by
 cases q:xs[FI xs j]? with
 |none=>rfl
 |some v=>
  have hv:v∈xs.toList:=by have q:=(EH).symm▸q;exact BW q
  have:v≠j:=fun e=>h (Rv e hv)
  simpa using this
theorem wY{t:SetTable}{j:Nat}(hs:t.place.toList.Pairwise (· < ·))(h:j∈t.place.toList):∃i,t.slot j=.live i/\t.place[i]? =some j:=by refine⟨FI t.place j,?_,kI hs h⟩;unfold SetTable.slot;simp only[kI hs h,BEq.rfl,if_true]
theorem uZ{t:SetTable}{j:Nat}(hd:t.dummies= #[])(h:j∉t.place.toList):t.slot j=.empty:=by unfold SetTable.slot;dsimp only;refine J (rS h) (J hd ?_);rfl
section
abbrev MR(P:Params)(T:Addr->Prop)(h:Heap):List (Nat×V)->List (Int×Value)->Prop:=aj fun p e=>∃v,e=(hV P p.2,v)/\VR T h p.2 v
structure AZ(P:Params)(T:Addr->Prop)(h:Heap)(es:Array (Int×Value))(t:SetTable)(m:List (Nat×V)):Prop where
 mask:t.mask=7
 MS:t.dummies= #[]
 place:t.place.toList=m.map (·.1)
 rising:(m.map (·.1)).Pairwise (· < ·)
 lt:∀p∈m,p.1<8
 IM:MR P T h m es.toList
 reach:∀p∈m,∃k,k<=20/\Bo (hV P p.2) k=p.1/\∀i,i<k->Bo (hV P p.2) i∈m.map (·.1)
 once:(m.map (·.2)).Nodup
 EI:m.length<=4
section
variable{P:Params}
theorem aj.insert{R:α->β->Prop}(r:R x y):∀{p:Nat} {l:List α} {m:List β},aj R l m->aj R (l.take p++x::l.drop p) (m.take p++y::m.drop p):=fun{p}=>by
 induction p with
 |zero=>exact fun e=> .cons r e
 |succ p ih=>
  intro l m e
  cases e with
  |nil=>exact .cons r .nil
  |cons a e=>exact .cons a (ih e)
theorem AZ.size(S:AZ P T h es t m):es.size=m.length:=by exact Rv De S.IM.length
theorem AZ.Hc(S:AZ P T h es t m):t.place.size=m.length:=by exact Rv De (J S.place (J (Bl _) rfl))
theorem AZ.fill(S:AZ P T h es t m):t.fill=m.length:=by unfold SetTable.fill;exact J S.Hc (J S.MS rfl)
theorem AZ.fits(S:AZ P T h es t m):t.fits es.size=true:=by have:=S.EI;unfold SetTable.fits;refine J S.Hc (J S.size (J S.fill (J S.mask (J (Gl _ _) ?_))));rewrite[beq_iff_eq];exact J decide_eq_true_eq ⟨rfl,by exact aA D (.n 7) 1 1 D (.n 4) (c1 _) this rfl⟩
theorem AZ.live(S:AZ P T h es t m)(hj:j∈m.map (·.1)):∃i x v,t.slot j=.live i/\m[i]? =some (j,x)/\es[i]? =some (hV P x,v)/\VR T h x v:=by refine An (wY (t:=t) (by rw[S.place];exact S.rising) (by rw[S.place];exact hj)) fun i h1 h2=>?_;rw[<- EH,S.place,Cs]at h2;refine An (El.mp h2) fun IP h3 h4=>?_;obtain⟨j',x⟩:=IP;subst h4;obtain⟨_,h5,v,rfl,h6⟩:=S.IM.get h3;have h5:=(EH)▸h5;exact⟨i,x,v,h1,h3,h5,h6⟩
theorem AZ.empty(S:AZ P T h es t m)(hj:j∉m.map (·.1)):t.slot j=.empty:=uZ S.MS (by exact J S.place hj)
def E4(P:Params)(m:List (Nat×V))(hx:Int)(k:Nat):Prop:=Bo hx k∉m.map (·.1)\/∃x,(Bo hx k,x)∈m/\hV P x=hx
theorem iU(S:AZ P T h es t m){hashAt:Nat->Int}(hh:∀i y v,es[i]? =some (y,v)->hashAt i=y)(n:Nat):∀(k fuel:Nat),(∀i,k<=i->i<k+n->¬E4 P m hx i)->LM t hashAt hx (fuel+n) (pr hx k)=LM t hashAt hx fuel (pr hx (k+n)):=by
 induction n with
 |zero=>exact fun Z Z Z=>rfl
 |succ n ih=>
  intro k fuel no;have n0:=no k (Bf _) (Sd (Nat.succ_pos n));refine Kv (S.live (NB fun q=>n0 (.inl q))) fun i x v h1 h2 h3 h4=>?_;have Cc:¬(hashAt i==hx)=true:=fun q=>n0 (.inr ⟨x,BW h2,(hh _ _ _ h3).symm.trans (beq_iff_eq.mp q)⟩);have e:=ih (k+1) fuel fun i a b=>no i (JE a) (Lz k n▸b);rw[<- dm S.mask,Lz]at e;exact Eq.trans (show _=(match t.slot (Bo hx k)with| .empty=>_| .dummy=>_| .live i=>_)from rfl) (J h1 ((AK Cc).trans e))
theorem oO(S:AZ P T h es t m){hashAt:Nat->Int}(hh:∀i y v,es[i]? =some (y,v)->hashAt i=y)(no:∀i,k<=i->i<k+n->¬E4 P m hx i)(hf:Bo hx (k+n)∉m.map (·.1))(hn:n<fuel):
  LM t hashAt hx fuel (pr hx k)=some (.empty (Bo hx (k+n)) none):=by
 obtain⟨f,rfl⟩:∃f,fuel=f+1+n:=⟨fuel-n-1,by exact CW (aH D (.a (.a Y qW) qY) 1 1 qX (.a Y qW) 1 D (.a qX qY) (c4 _ _ _ _) EM EM rfl) (aH (.a (.a D qW) Y) qY 1 1 (.a D qW) qX 1 (.a qX Y) qY (c4 _ _ _ _) (AA (Ds (aH qW qY 1 1 Y (.a qY D) 1 (.a D qW) Y (c3 _ _ _) EM hn rfl))) (AA (Ds (aA D Y 1 1 (.a D qW) Y (c2 _ _) hn rfl))) rfl)⟩
 refine J (iU S hh n k (f+1) no) ?_
 show(match t.slot (pr hx (k+n)).j with| .empty=>_| .dummy=>_| .live i=>_)=_
 refine J (show(pr hx (k+n)).j=Bo hx (k+n)from rfl) (J (S.empty hf) ?_);rfl
theorem ql(S:AZ P T h es t m){hashAt:Nat->Int}(hh:∀i y v,es[i]? =some (y,v)->hashAt i=y)(no:∀i,k<=i->i<k+n->¬E4 P m hx i)(hf:(Bo hx (k+n),x)∈m)(e:hV P x=hx)(hn:n<fuel):
  ∃i v,LM t hashAt hx fuel (pr hx k)=some (.candidate (Bo hx (k+n)) i (pr hx (k+n+1)))/\t.slot (Bo hx (k+n))=.live i/\es[i]? =some (hx,v)/\VR T h x v:=by
 obtain⟨f,rfl⟩:∃f,fuel=f+1+n:=⟨fuel-n-1,by exact CW (aH D (.a (.a Y qW) qY) 1 1 qX (.a Y qW) 1 D (.a qX qY) (c4 _ _ _ _) EM EM rfl) (aH (.a (.a D qW) Y) qY 1 1 (.a D qW) qX 1 (.a qX Y) qY (c4 _ _ _ _) (AA (Ds (aH qW qY 1 1 Y (.a qY D) 1 (.a D qW) Y (c3 _ _ _) EM hn rfl))) (AA (Ds (aA D Y 1 1 (.a D qW) Y (c2 _ _) hn rfl))) rfl)⟩
 refine J (iU S hh n k (f+1) no) (Kv (S.live (BF.mpr ⟨_,hf,rfl⟩)) fun i x' v h1 h2 h3 h4=>?_);have ex:x'=x:=by
  have m1:=BW h2;have hp:=S.rising;refine Ax (H5.mp m1) fun a ha=>Ax (H5.mp hf) fun b hb=>?_;have la:(m.map (·.1))[a]? =some (Bo hx (k+n)):=by exact J (Cs) (J ha rfl)
  have lb:(m.map (·.1))[b]? =some (Bo hx (k+n)):=by exact J (Cs) (J hb rfl)
  refine Ax (CP.mp la) fun V1 ZL=>?_;refine Ax (CP.mp lb) fun V2 ZM=>?_
  rcases LB a b with q|q|q
  ·have:=LD.mp hp a b V1 V2 q;lia
  ·subst q;have hb:=ha▸hb;cases hb;rfl
  ·have:=LD.mp hp b a V2 V1 q;lia
 subst ex;have RB:es[i]? =some (hx,v):=by exact J h3 (J e rfl)
 refine⟨i,v,?_,h1,RB,h4⟩
 show(match t.slot (pr hx (k+n)).j with| .empty=>_| .dummy=>_| .live i=>_)=_
 refine J (show(pr hx (k+n)).j=Bo hx (k+n)from rfl) (J h1 ?_);dsimp only;refine J (hh _ _ _ RB) (J (if_pos (by simp)) (J (dm S.mask _ _) ?_));rfl
end
end
section
section
variable{E:Value->Shared->Prop}
theorem xE(n:Nat):∀(x:V) (d:Nat) {v:Value} {Q:Bool->Shared->Prop},KV n x->n<=d->VR T s.heap x v->Q false s->wpAny (model prog w) A (ofAClassStatement d v) Q E s:=by
 induction n with
 |zero=>
  intro x d v Q k hd r q
  cases x with
  |int i=>refine Ax (Ag r) fun t Ct=>?_;subst Ct;cases d<;>exact AE q
  |str i=>refine Ax (Av r) fun t C6=>?_;subst C6;cases d<;>exact AE q
  |tup l=>exact k.elim
  |lst l=>exact k.Br.elim
  |ex l=>exact k.BR.elim
 |succ n ih=>
  intro x d v Q k hd r q
  cases x with
  |int i=>refine Ax (Ag r) fun t CK=>?_;subst CK;cases d<;>exact AE q
  |str i=>refine Ax (Av r) fun t Ci=>?_;subst Ci;cases d<;>exact AE q
  |tup l=>
   refine Bc (aL r) fun a xs Dw O7 rx=>J Dw (Ax O7 fun na ea=>?_);clear O7;have hT:s.TypeIs (.ref a) "tuple" :=⟨_,ea,rfl⟩
   obtain⟨d,rfl⟩:∃d',d=d'+1:=⟨d-1,by exact CW (aA D (.a Y qW) 1 1 D (.a Y qW) (c2 _ _) EM rfl) (aA (.a D qW) Y 1 1 (.a D qW) Y (c2 _ _) (AA (Ds (aA qW D 1 1 (.a Y qW) D (c2 _ _) hd rfl))) rfl)⟩
   unfold ofAClassStatement;refine Am (Ni hT ?_);refine Gs rfl (Am (AE ?_));refine Dd rfl (Am (Nh ea rfl ?_));refine Am (Rv Q7 (R6 _ (fun rest r s'=>r.1=none/\s'=s/\∃left,AX T s.heap left rest/\∀z∈left,KV n z) _ ?_ ?_ _ _ ⟨rfl,rfl,l,rx,k.tup⟩))
   ·intro Aa rest r s' FL
    obtain⟨hr,rfl,left,hl,kl⟩:=FL
    cases left with
    |nil=>have:=Aj hl;injection this
    |cons y left=>
     refine Bc (Ae hl) fun u' p e ry BO=>?_;injection e with e1 e2
     subst e1 e2;refine Am (ih y d (kl y (.head _)) (aA D Y 1 1 (.a D qW) (.a Y qW) (c2 _ _) hd rfl) ry ?_);exact Dd rfl (AE ⟨rfl,rfl,left,BO,fun z hz=>kl z (.tail _ hz)⟩)
   ·intro Hi s' Ia
    obtain⟨r1,r2⟩:=Hi;obtain⟨hr,rfl,_⟩:=Ia;simp only at hr;exact J hr (AE q)
  |lst l=>exact k.Br.elim
  |ex l=>exact k.BR.elim
theorem sk{K:Mk}(kx:K.is x)(r:VR T s.heap x v)(hy:∀y∈ys,∃z,K.is z/\VR T s.heap z y)(q:Q false s):wpAny (model prog w) A (searchCouldBeSeen v ys) Q E s:=by
 unfold searchCouldBeSeen;refine Am (R6 _ (fun rest r s'=>r.1=none/\s'=s/\∀y∈rest,∃z,K.is z/\VR T s.heap z y) _ ?_ ?_ _ _ ⟨rfl,rfl,hy⟩)
 ·intro Aa rest b s' NG
  obtain⟨hr,rfl,hz⟩:=NG;refine An (hz Aa (.head _)) fun z kz rz=>Ax (K.tup _ kx) fun l DH=>?_;subst DH;refine Ax (K.tup _ kz) fun l' GG=>?_;subst GG;refine Bc (aL r) fun a xs C7 ea rx=>?_;subst C7;refine Bc (aL rz) fun a' Xx DM Xy Xz=>?_;subst DM;dsimp only;have tl:∀y∈rest,∃z,K.is z/\VR T s'.heap z y:=fun y hy=>hz y (.tail _ hy);refine wpAny_ite_split (fun Z=>AE ⟨rfl,rfl,tl⟩) fun Z=>?_
  ·refine Am (lL 8 _ ((K.deep _ kx).up (by decide)) r ?_)
   refine Dd rfl (Am (lL 8 _ ((K.deep _ kz).up (by decide)) rz ?_));refine Dd rfl (Am (xE 3 _ 8 (K.deep _ kx) (by decide) r ?_));refine Dd rfl (Am (xE 3 _ 8 (K.deep _ kz) (by decide) rz ?_));exact Dd rfl (AE ⟨rfl,rfl,tl⟩)
 ·intro XA s' XB
  obtain⟨r1,r2⟩:=XA;obtain⟨hr,rfl,_⟩:=XB;simp only at hr;subst hr;exact AE q
end
end
section
section
variable{E:Value->Shared->Prop}{K:Mk}
theorem AZ.GL{P:Params}(S:AZ P T h es t m)(hf:Bo (hV P x) k0∉m.map (·.1))(F4:∀i,i<k0->(Bo (hV P x) i,x)∉m):x∉m.map (·.2):=fun hx=>by
 refine An (BF.mp hx) fun p hp Bg=>?_;subst Bg;refine B4 (S.reach p hp) fun k hk e hi=>?_
 rcases LB k k0 with h|h|h
 ·exact F4 k h (by exact J e hp)
 ·subst h;exact hf (by exact J e (BF.mpr ⟨p,hp,rfl⟩))
 ·exact hf (hi k0 h)
theorem rI(S:AZ w.params T s.heap es t m)(ho:s.heap.get? a=some o)(hd:o.data=.set es ep t)(km:∀p∈m,K.is p.2)(kx:K.is x)(r:VR T s.heap x v)(hu:A.units+3<cLine)(RC:k0<=20)(hf:Bo (hV w.params x) k0∉m.map (·.1))(Gn:∀i,i<k0->Bo (hV w.params x) i∈m.map (·.1))
  (q1:x∈m.map (·.2)->Q (.there none) s) (q0:x∉m.map (·.2)->Q (.free (Bo (hV w.params x) k0) false) s):
  ∀(d k fuel:Nat) (IQ:Option SetTable.Probe),k+d=k0->IQ.getD (t.probeStart (hV w.params x))=pr (hV w.params x) k->(∀i,i<k->(Bo (hV w.params x) i,x)∉m)->d<fuel->wpAny (model prog w) A (setSearchFrom a v (hV w.params x) true fuel IQ) Q E s:=by
 intro d
 induction d using Kk with
 |ind d ih=>
  intro k fuel IQ hk hs hb hl;obtain⟨fuel,rfl⟩:∃f,fuel=f+1:=⟨fuel-1,by exact CW (aA D (.a Y qW) 1 1 D (.a Y qW) (c2 _ _) EM rfl) (aA (.a D qW) Y 1 1 (.a D qW) Y (c2 _ _) (AA (Ds (aA qW D 1 1 (.a Y qW) D (c2 _ _) hl rfl))) rfl)⟩
  have XC:E4 w.params m (hV w.params x) (k+d):=.inl (by exact J hk hf)
  classical
  refine B4 (xI (p:=fun n=>E4 w.params m (hV w.params x) (k+n)) (n:=d) XC) fun n hn O8 OJ=>?_;have no:∀i,k<=i->i<k+n->¬E4 w.params m (hV w.params x) i:=fun i h1 h2=>by
   have:=OJ (i-k) (by exact aH (.a D qW) Y 1 1 (.a qX qW) (.a qY Y) 1 (.a D qY) qX (c4 _ _ _ _) h2 (AA (Ds (aA D Y 1 1 D Y (c2 _ _) h1 rfl))) rfl)
   rwa [show k+(i-k)=i by exact CW (aA (.a D Y) qY 1 1 (.a Y D) qY (c3 _ _ _) (AA (Ds (aA D Y 1 1 D Y (c2 _ _) h1 rfl))) rfl) (aA D (.a Y qY) 1 1 D (.a qY Y) (c3 _ _ _) EM rfl)]at this
  have before:∀i,i<k+n->(Bo (hV w.params x) i,x)∉m:=fun i hi hm=>by
   by_cases J6:i<k
   ·exact hb i J6 hm
   ·exact no i (aA D Y 1 1 D Y (c2 _ _) (DR J6) rfl) hi (.inr ⟨x,hm,rfl⟩)
  have hh:∀(i:Nat) (y:Int) (Aa:Value),es[i]? =some (y,Aa)->((es[i]?.map (·.1)).getD 0)=y:=fun i y Aa e=>by exact J e rfl
  refine Am (HY ho hd S.fits ?_);dsimp only;have XD:t.gaveWay=false:=by unfold SetTable.gaveWay;exact J S.mask rfl
  refine J XD (Dd rfl (J hs ?_))
  by_cases Hd:Bo (hV w.params x) (k+n)∉m.map (·.1)
  ·have e0:k+n=k0:=by
    rcases LB (k+n) k0 with h|h|h
    ·exact Ba (Gn _ h) Hd
    ·exact h
    ·exact CW (az (.a D Y) qY 0 1 (.a D qX) qY 1 Y qX 1 (.a qY qW) (.a D Y) (c4 _ _ _ _) (AA hk) hn h rfl) (aA D (.a Y qY) 1 1 (.a D qW) (.a Y qY) (c3 _ _ _) h rfl)
   have hp:t.probe (fun i=>((es[i]?.map (·.1)).getD 0)) (hV w.params x) (pr (hV w.params x) k)=some (.empty (Bo (hV w.params x) (k+n)) none):=by unfold SetTable.probe;exact J S.mask (oO S hh no Hd (by show n<220;exact aH (.a D qW) (.n 220) 1 1 (.a qY D) Y 1 Y zQ (c3 _ _ _) (AA e0) RC rfl))
   refine J hp ?_;rw[e0]at before ⊢;exact AE (q0 (S.GL hf before))
  ·obtain⟨y,hy,ey⟩:∃y,(Bo (hV w.params x) (k+n),y)∈m/\hV w.params y=hV w.params x:=by
    refine Or.elim O8 (fun h=>?_) fun h=>?_
    ·exact Ba h Hd
    ·exact h
   obtain⟨i,Aa,hc,O9,V3,ru⟩:=ql S (fuel:=220) hh no hy ey (az (.a D qW) (.n 220) 1 1 D qX 1 (.a qY qX) Y 1 Y zQ (c4 _ _ _ _) hn (AA hk) RC rfl);have hp:t.probe (fun i=>((es[i]?.map (·.1)).getD 0)) (hV w.params x) (pr (hV w.params x) k)=some (.candidate (Bo (hV w.params x) (k+n)) i (pr (hV w.params x) (k+n+1))):=by unfold SetTable.probe;exact J S.mask hc
   refine J hp ?_;dsimp only;have ky:K.is y:=km _ hy;have Lc:wpAny (model prog w) A (do
     let some (_,y):=es[i]? |unsupported "internal:set-entry"
     let equal <- holding [y] (eqBool y v)
     let(Fw,_,t') <- setState a
     if true &&equal then return .there none
     let some same:=t'.sameMemory t.moves t.mask|unsupported "set.changed-during-lookup:is-the-new-block-at-the-old-address"
     let O' <- match(if same then t'.slot (Bo (hV w.params x) (k+n))else .empty)with
      | .live i'=>match Fw[i']? with
       |some (_,y')=>do pure (if <- isSame y' y then some i' else none)
       |none=>pure none
      |_=>pure none
     match O' with
     |none=>rule "set.search.anew";setSearchFrom a v (hV w.params x) true fuel none
     |some i'=>if equal then return .there (some i')else setSearchFrom a v (hV w.params x) true fuel (some (pr (hV w.params x) (k+n+1)))) Q E s:=by
    refine J V3 (Am (Dq (vK 3 _ (K.deep _ ky) (K.deep _ kx) (K.sm _ _ ky kx) hu ru r ?_)));refine Am (HY ho hd S.fits ?_)
    by_cases T6:y=x
    ·subst T6
     exact wpAny_ite_true (decide_eq_true (by simp)) (wpAny_pure (q1 (List.mem_map.mpr ⟨_,hy,rfl⟩)))
    ·refine J (Df T6) (Dd rfl ?_)
     have XE:t.sameMemory t.moves t.mask=some true:=by unfold SetTable.sameMemory;simp
     refine J XE ?_;dsimp only;refine J (AS rfl) (J O9 ?_);dsimp only;refine J V3 ?_;dsimp only;refine Ax (K.tup _ ky) fun l' Ci=>?_;subst Ci;refine Bc (aL ru) fun a' Xx Dw Xy Xz=>J Dw ?_;refine Am (wpAny_isSame_ref_self (Am (AE ?_)));refine J (AS rfl) ?_;have BZ:k+n<k0:=by
      rcases LB (k+n) k0 with h|h|h
      ·exact h
      ·exact Ba (by exact J h hf) Hd
      ·exact az (.a (.a D Y) qW) qY 0 1 (.a D qX) qY 1 Y qX 1 (.a qY qW) (.a D Y) (c4 _ _ _ _) (AA hk) hn h rfl
     refine ih (k0-(k+n+1)) (by exact aH (.a D qW) Y 1 1 qY (.a qX Y) 1 (.a D (.a (.a qX (.v 4)) qW)) qY (c5 _ _ _ _ _) (AA hk.symm) (AA (Ds (aA (.a (.a Y qY) qW) D 1 1 (.a (.a Y qY) qW) D (c3 _ _ _) BZ rfl))) rfl) (k+n+1) fuel (some (pr (hV w.params x) (k+n+1))) (by exact CW (aA (.a (.a (.a D Y) qW) qY) qX 1 1 (.a qY (.a (.a D Y) qW)) qX (c4 _ _ _ _) (AA (Ds (aA (.a (.a D Y) qW) qY 1 1 (.a (.a D Y) qW) qY (c3 _ _ _) BZ rfl))) rfl) (aA D (.a (.a (.a Y qY) qW) qX) 1 1 D (.a qX (.a (.a Y qY) qW)) (c4 _ _ _ _) EM rfl)) rfl (fun i' FW=>?_) (by lia)
     by_cases e:i'=k+n
     ·refine J e ?_
      intro Fx;have hp:=S.rising;refine Ax (H5.mp Fx) fun b1 RD=>Ax (H5.mp hy) fun b2 RE=>?_;have l1:(m.map (·.1))[b1]? =some (Bo (hV w.params x) (k+n)):=by exact J (Cs) (J RD rfl)
      have l2:(m.map (·.1))[b2]? =some (Bo (hV w.params x) (k+n)):=by exact J (Cs) (J RE rfl)
      refine Ax (CP.mp l1) fun V4 V5=>?_;refine Ax (CP.mp l2) fun V6 V7=>?_
      rcases LB b1 b2 with q|q|q
      ·have:=LD.mp hp b1 b2 V4 V6 q;exact Ei 0 (az qW qV 0 1 Y D 1 qY Y 1 (.a D qW) qY (c3 _ _ _) (AA V5.symm) (AA V7) this rfl)
      ·subst q;have RE:=RD▸RE;cases RE;exact T6 rfl
      ·have:=LD.mp hp b2 b1 V6 V4 q;exact Ei 0 (az qW qV 0 1 D Y 1 Y qY 1 (.a qY qW) D (c3 _ _ _) (AA V5) (AA V7.symm) this rfl)
     ·exact before i' (by exact aA (.a D qW) (.a Y qY) 1 1 (.a D qW) (.a Y qY) (c3 _ _ _) (DF (aA D (.a Y qY) 1 1 (.a D qW) (.a (.a Y qY) qW) (c3 _ _ _) FW rfl) e) rfl)
   by_cases DN:t.led=true
   ·exact J DN (Dd rfl Lc)
   ·rw[SG]at DN
    refine J DN (Gs rfl (Am (sk kx r (fun z hz=>?_) ?_)))
    ·rw[BF]at hz
     refine An hz fun e he C7=>?_;clear hz;subst C7;have Pa:=(Nv.mpr (Array.mem_filter.mp (Nv.mp he)).1)
     refine Ax (H5.mp Pa) fun j hj=>?_;have V8:j<m.length:=S.IM.length▸(CP.mp hj).1;obtain⟨_,g1,u',rfl,g2⟩:=S.IM.get (Cr V8);have g1:=hj▸g1;obtain rfl:=BC g1;exact⟨_,km _ (G4 V8),g2⟩
    ·exact Dd rfl Lc
theorem tz(S:AZ w.params T s.heap es t m)(ho:s.heap.get? a=some o)(hd:o.data=.set es ep t)(km:∀p∈m,K.is p.2)(kx:K.is x)(r:VR T s.heap x v)(hu:A.units+3<cLine)
  (q1:x∈m.map (·.2)->Q (.there none) s) (q0:∀k0,k0<=20->Bo (hV w.params x) k0∉m.map (·.1)->(∀i,i<k0->Bo (hV w.params x) i∈m.map (·.1))->x∉m.map (·.2)->Q (.free (Bo (hV w.params x) k0) false) s):
  wpAny (model prog w) A (setSearch a v (hV w.params x) true) Q E s:=by
 have:=S.EI;obtain⟨k0,a1,a2,a3⟩:=ip (hV w.params x) (P:=m.map (·.1)) (by exact J (Bl _) (aA (.a D qW) (.n 8) 1 1 D (.n 4) (c1 _) this rfl));unfold setSearch;exact rI S ho hd km kx r hu a1 a2 a3 q1 (q0 k0 a1 a2 a3) k0 0 _ none (CW (bP (.a qV D) D 1 (c1 _) rfl) (bP D (.a qV D) 1 (c1 _) rfl)) (nE S.mask _) (fun i h=>Ba h (Gu _)) (aA (.a D qW) (.n 100000) 1 1 D zQ (c1 _) a1 rfl)
end
end
section
section
variable{E:Value->Shared->Prop}
theorem qd(n:Nat):∀(x:V) {v:Value} {Q:Bool->Shared->Prop},KV 3 x->VR T s.heap x v->(∀b,Q b s)->wpAny (model prog w) A (hashByValue n v) Q E s:=by
 induction n with
 |zero=>
  intro x v Q k r q
  cases x with
  |int i=>refine Ax (Ag r) fun t Ct=>?_;subst Ct;exact AE (q _)
  |str i=>refine Ax (Av r) fun t C6=>?_;subst C6;exact AE (q _)
  |tup l=>refine Bc (aL r) fun a xs Dx ea rx=>?_;exact J Dx (AE (q _))
  |lst l=>exact k.Br.elim
  |ex l=>exact k.BR.elim
 |succ n ih=>
  intro x v Q k r q
  cases x with
  |int i=>refine Ax (Ag r) fun t Ci=>?_;subst Ci;exact AE (q _)
  |str i=>refine Ax (Av r) fun t Dv=>?_;subst Dv;exact AE (q _)
  |tup l=>
   refine Bc (aL r) fun a xs C9 Pb rx=>J C9 (Ax Pb fun na ea=>?_);clear Pb;have hT:s.TypeIs (.ref a) "tuple" :=⟨_,ea,rfl⟩
   unfold hashByValue;refine Am (Lv hT F.slot_tuple_hash.lookup ?_);refine Am (Nh ea rfl ?_);refine Am (Rv Q7 (R6 _ (fun rest r s'=>r.1=none/\s'=s/\∃left,AX T s.heap left rest/\∀z∈left,KV 3 z) _ ?_ ?_ _ _ ⟨rfl,rfl,l,rx,fun z hz=>(k.tup z hz).up (by decide)⟩))
   ·intro Aa rest r s' FL
    obtain⟨hr,rfl,left,hl,kl⟩:=FL
    cases left with
    |nil=>have:=Aj hl;injection this
    |cons y left=>
     refine Bc (Ae hl) fun u' p e ry BO=>?_;injection e with e1 e2
     subst e1 e2;refine Am (ih y (kl y (.head _)) ry fun b=>?_)
     cases b with
     |true=>
      exact Dd rfl (AE ⟨rfl,rfl,left,BO,fun z hz=>kl z (.tail _ hz)⟩)
     |false=>
      exact Gs rfl (AE (AE (q _)))
   ·intro Hi s' Ia
    obtain⟨r1,r2⟩:=Hi;obtain⟨hr,rfl,_⟩:=Ia;simp only at hr;exact J hr (AE (q _))
  |lst l=>exact k.Br.elim
  |ex l=>exact k.BR.elim
end
section
variable{P:Params}
theorem je{L:List Nat}{p j:Nat}(hs:L.Pairwise (· < ·))(h1:∀i,i<p->∀y,L[i]? =some y->y<j)(h2:∀i,p<=i->∀y,L[i]? =some y->j<y):(L.take p++j::L.drop p).Pairwise (· < ·):=by
 have hl:∀y∈L.take p,y<j:=fun y hy=>by
  refine Ax (H5.mp hy) fun i hi=>?_;have hi:=(List.getElem?_take)▸hi
  split at hi
  ·exact h1 i (by assumption) y hi
  ·exact nomatch hi
 have hr:∀y∈L.drop p,j<y:=fun y hy=>by refine Ax (H5.mp hy) fun i hi=>?_;rw[List.getElem?_drop]at hi;exact h2 (p+i) (Ea _ _) y hi
 have e:=Nn p L;rw[<- e]at hs;refine D4 (List.pairwise_append.mp hs) fun a b c=>List.pairwise_append.mpr ⟨a,List.pairwise_cons.mpr ⟨hr,b⟩,fun y hy z hz=>?_⟩
 rcases BP.mp hz with rfl|hz
 ·exact hl y hy
 ·exact c y hy z hz
theorem AZ.put(S:AZ P T h es t m)(r:VR T h x v)(h3:m.length<=3)(hk:k0<=20)(hf:Bo (hV P x) k0∉m.map (·.1))(Gn:∀i,i<k0->Bo (hV P x) i∈m.map (·.1))(hx:x∉m.map (·.2)):
  AZ P T h (FH es (t.put (Bo (hV P x) k0)).2 (hV P x,v)) (t.put (Bo (hV P x) k0)).1 (m.take (t.put (Bo (hV P x) k0)).2++(Bo (hV P x) k0,x)::m.drop (t.put (Bo (hV P x) k0)).2):=by
 generalize hj:Bo (hV P x) k0=j at hf ⊢;have hP:(t.put j).2=FI t.place j:=rfl;have ht:(t.put j).1={t with place:=FH t.place (FI t.place j) j}:=by
  unfold SetTable.put;have:SetTable.has t.dummies j=false:=by refine J S.MS ?_;rfl
  simp only[this,Bool.false_eq_true,if_false]
 refine J ht (J hP ?_);have Pc:t.place.toList.Pairwise (· < ·):=by exact J S.place S.rising
 refine D4 (dx j Pc) fun b1 b2 b3=>?_;generalize FI t.place j=p at b1 b2 b3 ⊢;have IS:∀i y,(m.map (·.1))[i]? =some y->i<t.place.size/\t.place.getD i 0=y:=fun i y e=>by rw[<- S.place,EH]at e;refine Ax (SD.mp e) fun hi e'=>?_;exact⟨hi,by simp[Array.getD,hi,e']⟩
 have Pd:(m.take p++(j,x)::m.drop p).map (·.1)=(m.map (·.1)).take p++j::(m.map (·.1)).drop p:=by refine J DT (J Ec (J Sy (J List.map_drop ?_)));rfl
 have BM:(m.take p++(j,x)::m.drop p).Perm ((j,x)::m):=by refine MF.trans (.cons _ ?_);refine J (Nn _ _) ?_;rfl
 refine⟨S.mask,S.MS,?_,?_,?_,?_,?_,?_,?_⟩
 ·exact J Pd (Rv S.place (SetTable.toList_insertAt _ _ _))
 ·refine J Pd (je S.rising (fun i hi y e=>?_) (fun i hi y e=>?_))
  ·refine A5 (IS i y e) fun q1 q2=>?_
   have:=b2 i hi;exact aH (.a D qW) Y 1 1 D qY 1 (.a qY qW) Y (c3 _ _ _) (AA q2.symm) this rfl
  ·refine A5 (IS i y e) fun q1 q2=>?_
   have:=b3 i hi q1;have Cc:j≠y:=fun e'=>hf (by exact J e' (BW e));exact aA (.a D qW) Y 1 1 (.a D qW) Y (c2 _ _) (DF (aH D Y 1 1 qY Y 1 D qY (c3 _ _ _) (AA q2) this rfl) Cc) rfl
 ·intro q hq
  rcases BP.mp (BM.mem_iff.mp hq)with rfl|hq
  ·exact Rv hj (lO _ _)
  ·exact S.lt q hq
 ·exact J (SetTable.toList_insertAt _ _ _) (S.IM.insert ⟨_,rfl,r⟩)
 ·intro q hq
  have sub:∀z,z∈m.map (·.1)->z∈(m.take p++(j,x)::m.drop p).map (·.1):=fun z hz=>by refine An (BF.mp hz) fun y hy FX=>Rv FX ?_;exact BF.mpr ⟨y,BM.mem_iff.mpr (.tail _ hy),rfl⟩
  rcases BP.mp (BM.mem_iff.mp hq)with rfl|hq
  ·exact⟨k0,hk,hj,fun i hi=>sub _ (Gn i hi)⟩
  ·exact B4 (S.reach q hq) fun k q1 q2 q3=>⟨k,q1,q2,fun i hi=>sub _ (q3 i hi)⟩
 ·have:=(BM.map (·.2)).nodup_iff.mpr (by exact J Ec (CQ.mpr ⟨hx,S.once⟩))
  exact this
 ·exact J BM.length_eq (J EG (aA (.a D qW) (.n 4) 1 1 D qS (c1 _) h3 rfl))
theorem AZ.mono(S:AZ P T h es t m)(k:∀p∈m,∀v,VR T h p.2 v->VR T' h' p.2 v):AZ P T' h' es t m:=
 ⟨S.mask,S.MS,S.place,S.rising,S.lt,S.IM.imp fun p hp {Z} z=>z.elim fun v z=>⟨v,z.1,k p hp v z.2⟩,S.reach,S.once,S.EI⟩
theorem AZ.off(S:AZ P T h es t m):AZ P T h es {t with plain:=false} m:=⟨S.mask,S.MS,S.place,S.rising,S.lt,S.IM,S.reach,S.once,S.EI⟩
end
section
variable{E:Value->Shared->Prop}{K:Mk}
theorem XF(S:AZ w.params T s.heap es t m)(ho:s.heap.get? a=some o)(hd:o.data=.set es ep t)(km:∀p∈m,K.is p.2)(kx:K.is x)(r:VR T s.heap x v)(hu:A.units+3<cLine)(h3:x∉m.map (·.2)->m.length<=3)
  (q1:x∈m.map (·.2)->Q false s)
  (q0:x∉m.map (·.2)->∀h' Fw t' m' j,Heap.SameBut a s.heap h'->h'.get? a=some {o with data:=.set Fw (ep+1) t'}->AZ w.params T s.heap Fw t' m'->m'.Perm ((j,x)::m)->t'.led=t.led->Q true {s with heap:=h'}):
  wpAny (model prog w) A (setAddHashed a v (hV w.params x)) Q E s:=by
 unfold setAddHashed setAddHashedIn;refine Dq (Am (HY ho hd S.fits ?_));dsimp only;refine Ax (K.tup _ kx) fun l D5=>?_;subst D5;refine Bc (aL r) fun b xs EA ea rx=>?_;subst EA;have hb:byScan (.ref b) es=false:=rfl;refine Dd (Df fun h=>Ed (hb.symm.trans h)) (Am (tz S ho hd km kx r hu (fun hx=>AE (q1 hx)) fun k0 c1 c2 c3 hx=>?_));refine Am (HY ho hd S.fits ?_);have S':=S.put r (h3 hx) c1 c2 c3 hx;have BM:(m.take (t.put (Bo (hV w.params (.tup l)) k0)).2++(Bo (hV w.params (.tup l)) k0,.tup l)::m.drop (t.put (Bo (hV w.params (.tup l)) k0)).2).Perm ((Bo (hV w.params (.tup l)) k0,.tup l)::m):=by refine MF.trans (.cons _ ?_);refine J (Nn _ _) ?_;rfl
 have DN:(t.put (Bo (hV w.params (.tup l)) k0)).1.led=t.led:=rfl;generalize Hk:t.put (Bo (hV w.params (.tup l)) k0)=tp at S' BM DN ⊢;obtain⟨t1,p⟩:=tp;dsimp only at S' BM DN ⊢;have fin:∀t2:SetTable,AZ w.params T s.heap (FH es p (hV w.params (.tup l),.ref b)) t2 (m.take p++(Bo (hV w.params (.tup l)) k0,.tup l)::m.drop p)->t2.led=t.led->
   wpAny (model prog w) A (do
    storeSet a (FH es p (hV w.params (.tup l),.ref b)) t2
    if(!false &&t2.tooFull)=true then do setRelay a (Q8 (es.size+1));pure true else pure true) Q E s:=fun t2 S2 l2=>by
  have hz:(FH es p (hV w.params (.tup l),.ref b)).size<=sizeLine:=by refine J S2.size (J BM.length_eq (J EG (J FD ?_)));have:=h3 hx;lia
  refine Am (wpAny_storeSet_of ho hd ?_ hz);have K9:t2.tooFull=false:=by unfold SetTable.tooFull;refine J S2.fill (J S2.mask ?_);rewrite[decide_eq_false_iff_not];have:=S2.EI;lia
  refine Dd (Df fun h=>Ed (K9.symm.trans h)) (AE (q0 hx _ _ _ _ _ (Fb s.heap a _) ?_ S2 BM l2));have:=Fu (Obj.putSet (FH es p (hV w.params (.tup l),.ref b)) t2) ho (by refine J (putSet_of _ _ hd) ?_;rfl);rw[putSet_of _ _ hd]at this;exact this
 by_cases hp:t1.plain=true
 ·refine Gs (DU hp) (Am (qd 8 _ (K.deep _ kx) r fun b'=>?_))
  cases b' with
  |true=>exact fin t1 S' DN
  |false=>exact fin _ S'.off DN
 ·rw[SG]at hp
  refine Dd (Df fun h=>Ed (hp.symm.trans h)) (Am (AE ?_));exact fin t1 S' DN
end
end
section
section
variable{P:Params}
theorem jz(S:AZ P T h es t m):∀(n k fuel:Nat),(∀i,k<=i->i<k+n->Bo hx i∈m.map (·.1))->LM t (fun Z=>hx+1) hx (fuel+n) (pr hx k)=LM t (fun Z=>hx+1) hx fuel (pr hx (k+n))
 |0,k,fuel,_=>rfl
 |n+1,k,fuel,yes=>by
  obtain⟨i,x,v,h1,h2,h3,h4⟩:=S.live (yes k (Bf _) (bP (.a D qW) (.a D (.a Y qW)) 1 (c2 _ _) rfl));have Cc:(hx+1==hx)=false:=by rw[beq_eq_false_iff_ne];lia
  refine J (show fuel+(n+1)=(fuel+n)+1 by exact CW (bP (.a D (.a Y qW)) (.a (.a D Y) qW) 1 (c2 _ _) rfl) (bP (.a (.a D Y) qW) (.a D (.a Y qW)) 1 (c2 _ _) rfl)) ?_
  show(match t.slot (pr hx k).j with| .empty=>_| .dummy=>_| .live i=>_)=_
  refine J (show(pr hx k).j=Bo hx k from rfl) (J h1 ?_);dsimp only;refine J Cc (J (AK (by decide)) (J (dm S.mask _ _) (J (jz S n (k+1) fuel (fun i a b=>yes i (aA D Y 1 1 (.a D qW) Y (c2 _ _) a rfl) (aA (.a D qW) (.a Y (.a qY qW)) 1 1 (.a D qW) (.a (.a Y qW) qY) (c3 _ _ _) b rfl))) (J (show k+1+n=k+(n+1) by exact CW (bP (.a (.a D qW) Y) (.a D (.a Y qW)) 1 (c2 _ _) rfl) (bP (.a D (.a Y qW)) (.a (.a D qW) Y) 1 (c2 _ _) rfl)) ?_))));rfl
theorem rY(S:AZ P T h es t m)(RC:k0<=20)(hf:Bo hx k0∉m.map (·.1))(Gn:∀i,i<k0->Bo hx i∈m.map (·.1)):t.freeSlot hx=some (Bo hx k0,false):=by
 unfold SetTable.freeSlot SetTable.probe;refine J S.mask (J (nE S.mask _) ?_);have e:(10*SetTable.turns 7:Nat)=(219-k0)+1+k0:=by show 220=_;exact CW (aA (.n 220) (.a (.a D qW) Y) 1 1 (.n 219) (.a D Y) (c2 _ _) EM rfl) (aA (.a (.a D qW) Y) (.n 220) 1 1 (.a D Y) (.n 219) (c2 _ _) (AA (Ds (aA D (.n 219) 1 1 D zQ (c1 _) RC rfl))) rfl)
 refine J e (J (jz S k0 0 _ (fun i Z hi=>Gn i (aA (.a D qW) Y 1 1 (.a D qW) (.a qV Y) (c2 _ _) hi rfl))) (J (G0 _) ?_));have:LM t (fun Z=>hx+1) hx (219-k0+1) (pr hx k0)=some (.empty (Bo hx k0) none):=by
  show(match t.slot (pr hx k0).j with| .empty=>_| .dummy=>_| .live i=>_)=_
  refine J (show(pr hx k0).j=Bo hx k0 from rfl) (J (S.empty hf) ?_);rfl
 refine J this ?_;rfl
end
section
variable{E:Value->Shared->Prop}
theorem MR.ints{P:Params}{h:Heap}{m:List (Nat×V)}{es:List (Int×Value)}(r:MR P T h m es):(∀p∈m,∃i,p.2=.int i)->ElemsOf (intKind prog w) es/\∀x:Int,es.findIdx? (fun e=>(intKind prog w).is x e.2)=(m.map (·.2)).findIdx? (fun y=>decide (y=.int x)):=by
 induction r with
 |nil=>exact fun Z=>⟨fun Z he=>Ba he JN,fun Z=>rfl⟩
 | @cons p e l es a r ih=>
  intro k;refine Ax (k p (.head _)) fun i hi=>An a ?_;clear a;intro v C6 a;refine J C6 ?_;have a:=hi▸a;refine Ax (Ag a) fun tk CK=>J CK ?_;refine A5 (ih fun p hp=>k p (.tail _ hp)) fun h1 h2=>⟨fun e he=>?_,fun x=>?_⟩
  ·cases he with
   |head=>exact⟨⟨i,Ly _ _ _ _,AL (hV P) hi⟩,rfl⟩
   |tail _ he=>exact h1 e he
  ·have e1:(intKind prog w).is x (MI i tk)=decide (p.2=V.int x):=by refine J hi (J (SW (Ly (prog:=prog) (w:=w) i tk) x) ?_);exact decide_eq_decide.mpr ⟨fun h=>AL V.int h.symm,fun h=>(V.int.inj h).symm⟩
   refine J Ec (J (JL) ?_);refine J (JL) ?_;refine J (h2 x) (J e1 ?_);rfl
theorem add_int(S:AZ w.params T s.heap es t m)(ho:s.heap.get? a=some o)(hd:o.data=.set es ep t)(km:∀p∈m,∃i,p.2=.int i)(r:VR T s.heap (.int x) v)(h3:V.int x∉m.map (·.2)->m.length<=3)
  (q1:V.int x∈m.map (·.2)->Q false s)
  (q0:V.int x∉m.map (·.2)->∀h' Fw t' m' j,Heap.SameBut a s.heap h'->h'.get? a=some {o with data:=.set Fw (ep+1) t'}->AZ w.params T s.heap Fw t' m'->m'.Perm ((j,V.int x)::m)->t'.led=t.led->Q true {s with heap:=h'}):
  wpAny (model prog w) A (setAddHashed a v (hV w.params (.int x))) Q E s:=by
 refine Ax (Ag r) fun tk Dv=>J Dv ?_;refine A5 (MR.ints (prog:=prog) (w:=w) S.IM km) fun V9 XG=>?_;have RD:es.size<scanBound:=by refine J S.size ?_;have:=S.EI;unfold scanBound;exact aA (.a D qW) (.n 4096) 1 1 D (.n 4) (c1 _) this rfl
 unfold setAddHashed setAddHashedIn;refine Dq (Am (HY ho hd S.fits ?_));dsimp only;refine Gs (DU (byScan_of rfl RD V9)) ?_;unfold setAddByScan;refine Am (Am (Kj ?_));refine Am (wpAny_setScan_of (knd:=intKind prog w) (k:=x) (Ly _ _ _ _) ho hd S.fits V9 ?_);refine J (XG x) ?_
 by_cases hx:V.int x∈m.map (·.2)
 ·cases hr:(m.map (·.2)).findIdx? (fun y=>decide (y=V.int x))with
  |none=>have:=List.findIdx?_eq_none_iff.mp hr _ hx;simp at this
  |some j=>
   exact AE (AE (q1 hx))
 ·refine J (List.findIdx?_eq_none_iff.mpr (fun y hy=>by simp only[decide_eq_false_iff_not];rintro rfl;exact hx hy)) ?_
  have T7:=S.EI;obtain⟨k0,c1,c2,c3⟩:=ip (hV w.params (.int x)) (P:=m.map (·.1)) (by refine J (Bl _) ?_;exact aA (.a D qW) (.n 8) 1 1 D (.n 4) (c1 _) T7 rfl);have S':=S.put (v:=.int x tk) aq (h3 hx) c1 c2 c3 hx;have BM:(m.take (t.put (Bo (hV w.params (.int x)) k0)).2++(Bo (hV w.params (.int x)) k0,V.int x)::m.drop (t.put (Bo (hV w.params (.int x)) k0)).2).Perm ((Bo (hV w.params (.int x)) k0,V.int x)::m):=by refine MF.trans (.cons _ ?_);refine J (Nn _ _) ?_;rfl
  have LQ:layNew t es (hV w.params (.int x)) (.int x tk)=(FH es (t.put (Bo (hV w.params (.int x)) k0)).2 (hV w.params (.int x),.int x tk),(t.put (Bo (hV w.params (.int x)) k0)).1,false,false):=by unfold layNew;refine J (rY S c1 c2 c3) ?_;dsimp only;unfold SetTable.orStandIn;refine J S'.fits ?_;rfl
  refine J LQ ?_;have DN:(t.put (Bo (hV w.params (.int x)) k0)).1.led=t.led:=rfl;generalize t.put (Bo (hV w.params (.int x)) k0)=tp at S' BM DN ⊢;obtain⟨t1,p⟩:=tp;dsimp only at S' BM DN ⊢;refine Am (AE ?_);have fin:∀t2:SetTable,AZ w.params T s.heap (FH es p (hV w.params (.int x),.int x tk)) t2 (m.take p++(Bo (hV w.params (.int x)) k0,V.int x)::m.drop p)->t2.led=t.led->∀R:Option Bool->Shared->Prop,(∀s',Q true s'->R (some true) s')->
    wpAny (model prog w) A (do
     storeSet a (FH es p (hV w.params (.int x),.int x tk)) t2
     if(!false &&t2.tooFull)=true then do
       (match(relayAll t2 (FH es p (hV w.params (.int x),.int x tk)) (Q8 (FH es p (hV w.params (.int x),.int x tk)).size)).2.2 with|true=>rule "set.scan.the-table-gave-way" |false=>pure ())
       storeSet a (relayAll t2 (FH es p (hV w.params (.int x),.int x tk)) (Q8 (FH es p (hV w.params (.int x),.int x tk)).size)).1 (relayAll t2 (FH es p (hV w.params (.int x),.int x tk)) (Q8 (FH es p (hV w.params (.int x),.int x tk)).size)).2.1
       pure (some true)
      else pure (some true)) R E s:=fun t2 S2 l2 R hR=>by
   have hz:(FH es p (hV w.params (.int x),.int x tk)).size<=sizeLine:=by refine J S2.size (J BM.length_eq (J EG (J FD ?_)));have:=h3 hx;lia
   refine Am (wpAny_storeSet_of ho hd ?_ hz);have K9:t2.tooFull=false:=by unfold SetTable.tooFull;refine J S2.fill (J S2.mask ?_);rewrite[decide_eq_false_iff_not];have:=S2.EI;lia
   refine Dd (Df fun h=>Ed (K9.symm.trans h)) (AE (hR _ (q0 hx _ _ _ _ _ (Fb s.heap a _) ?_ S2 BM l2)));have:=Fu (Obj.putSet (FH es p (hV w.params (.int x),.int x tk)) t2) ho (by refine J (putSet_of _ _ hd) ?_;rfl);rw[putSet_of _ _ hd]at this;exact this
  by_cases hp:t1.plain=true
  ·exact Gs (DU hp) (Am (J (hashByValue_scannable 8 rfl) (AE (fin t1 S' DN _ fun s' q=>AE q))))
  ·rw[SG]at hp
   refine Dd (Df fun h=>Ed (hp.symm.trans h)) (Am (AE ?_));exact fin t1 S' DN _ fun s' q=>AE q
end
end
section
inductive SK where
 |mk (K:Mk)
 |num
def SK.is:SK->V->Prop
 | .mk K,x=>K.is x
 | .num,x=>∃i,x=.int i
theorem SK.deep{K:SK}(h:K.is x):KV 3 x:=by
 cases K with
 |mk K=>exact K.deep _ h
 |num=>refine Ax h fun i Ct=>?_;clear h;subst Ct;exact Al
section
variable{E:Value->Shared->Prop}
theorem xq{K:SK}(S:AZ w.params T s.heap es t m)(ho:s.heap.get? a=some o)(hd:o.data=.set es ep t)(km:∀p∈m,K.is p.2)(kx:K.is x)(r:VR T s.heap x v)(hu:A.units+3<cLine)(h3:x∉m.map (·.2)->m.length<=3)
  (q1:x∈m.map (·.2)->Q false s)
  (q0:x∉m.map (·.2)->∀h' Fw t' m' j,Heap.SameBut a s.heap h'->h'.get? a=some {o with data:=.set Fw (ep+1) t'}->AZ w.params T s.heap Fw t' m'->m'.Perm ((j,x)::m)->t'.led=t.led->Q true {s with heap:=h'}):
  wpAny (model prog w) A (setAddHashed a v (hV w.params x)) Q E s:=by
 cases K with
 |mk K=>exact XF S ho hd km kx r hu h3 q1 q0
 |num=>refine Ax kx fun i C6=>?_;clear kx;subst C6;exact add_int S ho hd km r h3 q1 q0
theorem VR.kept(k:KV 3 x)(g:∀b vs,IsT h b vs->IsT h' b vs)(r:VR T h x v):VR T' h' x v:=by
 have K:Keeps (fun Z=>True) h (fun Z=>True) h':=⟨fun b vs e=>g b vs e,fun Z Z z=>Ba Al z⟩
 exact((r.key (T':=fun Z=>True) k).mono K).key k
theorem AX.kept(g:∀b vs,IsT h b vs->IsT h' b vs)(k:∀x∈l,KV 3 x)(r:AX T h l vs):AX T' h' l vs:=
 aj.NH (r.a2.imp fun x hx {Z} a=>a.kept (k x hx) g)
theorem uu(ho:h.get? a=some o)(hd:o.data=.set es ep t)(sb:Heap.SameBut a h h'):∀b vs,IsT h b vs->IsT h' b vs:=fun b vs Iu=>Ax Iu fun n e=>
 ⟨n,(sb.2 b (by intro FL;subst FL;have e:=ho▸e;obtain rfl:=BC e;injection hd)).trans e⟩
structure CO(P:Params)(T:Addr->Prop)(h:Heap)(a:Addr)(K:SK)(led:Bool)(X:V->Prop):Prop where
 ex:∃o es ep t m,h.get? a=some o/\o.ExactSet/\o.data=.set es ep t/\AZ P T h es t m/\(∀p∈m,K.is p.2)/\t.led=led/\∀x,x∈m.map (·.2)↔X x
theorem CO.kept{P:Params}{K:SK}{X:V->Prop}(S:CO P T h a K led X)(k:∀o,h.get? a=some o->h'.get? a=some o)(g:∀b vs,IsT h b vs->IsT h' b vs):CO P T h' a K led X:=by obtain⟨o,es,ep,t,m,h1,h2,h3,h4,h5,h6,h7⟩:=S.ex;exact⟨o,es,ep,t,m,k o h1,h2,h3,h4.mono fun p hp v r=>r.kept (K.deep (h5 p hp)) g,h5,h6,h7⟩
theorem tZ{K:SK}{I l S:Addr}{R:Result->Shared->Prop}(hh:A.in1.handled=none)(Cc:l≠I)(T8:S≠I)(T9:S≠l)(kx:∀x∈xs,K.is x)(hlen:ws.size=xs.length)(hu:A.units+10<cLine)(zs:List V)(hz:zs.length<=4)(CV:∀x∈xs,x∈zs):
  ∀(k i:Nat) (s:Shared),ws.size-i=k->i<=ws.size->s.heap.IsListIter I l i->s.heap.IsList l ws->AX T s.heap xs ws.toList->CO w.params T s.heap S K led (fun x=>x∈xs.take i)->
   (∀h' tk,(∀b o,b≠I->b≠S->s.heap.get? b=some o->h'.get? b=some o)->CO w.params T h' S K led (fun x=>x∈xs)->R (.ok (.ret .none)) {s with heap:=h',toks:=tk})->
   codeAny (model prog w) A (.builtin "set.update.loop" ⟨[.ref S,.ref I],[]⟩) R s:=by
 intro k
 induction k with
 |zero=>
  intro i s hk hi hit Ua rr hS hR;have Gn:i=ws.size:=by exact CW (aA D Y 1 1 (.a qY D) Y (c3 _ _ _) (AA (Ds (aA D Y 1 1 D Y (c2 _ _) hi rfl))) rfl) (aH D Y 1 1 D (.a qY Y) 1 qY qV (c3 _ _ _) EM (AA hk) rfl)
  subst Gn;refine Ki F.entry_set_update_loop (J (LK Rf _) (Am ((Walks.list hh I l Cc ws).done s _ _ ⟨hit,Ua⟩ fun h' tk Ck=>?_)));refine wpAny_pure (hR h' tk (fun b o hb Z e=>Ck b o (by simpa using hb) e) ?_);rw[hlen,Kp]at hS;refine hS.kept (fun o e=>Ck S o (by simpa using T8) e) fun b vs Pe=>Ax Pe fun n e=>⟨n,Ck b _ ?_ e⟩
  refine B4 hit fun oi Ub Uc Z=>?_;clear hit;rw[Eb];intro Hi;subst Hi;have e:=Ub▸e;obtain rfl:=Option.some.inj e;simp at Uc
 |succ k ih=>
  intro i s hk hi hit Ua rr hS hR;have BZ:i<ws.size:=by exact aH (.a D qW) Y 1 1 (.a qY D) Y 1 (.a qX qW) qY (c4 _ _ _ _) (AA (Ds (aA D Y 1 1 D Y (c2 _ _) hi rfl))) (AA hk.symm) rfl
  have Ud:i<xs.length:=hlen▸BZ;have XH:xs[i]? =some xs[i]:=Cr Ud;refine Ki F.entry_set_update_loop (J (LK Rf _) (Am ((Walks.list hh I l Cc ws).item i s _ _ BZ ⟨hit,Ua⟩ fun v h' tk hv st Ck=>?_)));refine A5 st fun Ue Ug=>?_;clear st;have nt:∀b vs,IsT s.heap b vs->b≠I:=fun b vs Pf=>Ax Pf fun n e=>by refine B4 hit fun oi Ub Uc Z=>?_;clear hit;intro Ia;subst Ia;have e:=Ub▸e;obtain rfl:=Option.some.inj e;simp at Uc
  have g1:∀b vs,IsT s.heap b vs->IsT h' b vs:=fun b vs x=>by have:=nt b vs x;refine Ax x fun n e=>?_;clear x;exact⟨n,Ck b _ (by simpa using this) e⟩
  have J5:CO w.params T h' S K led (fun x=>x∈xs.take i):=hS.kept (fun o e=>Ck S o (by simpa using T8) e) g1;have HP:AX T h' xs ws.toList:=AX.kept g1 (fun x hx=>K.deep (kx x hx)) rr;refine An (HP.get XH) fun Aa JT ru=>?_;have JT:=(EH)▸JT;have JT:=hv▸JT;obtain rfl:=BC JT;obtain⟨o,es,ep,t,m,h1,h2,h3,h4,h5,h6,h7⟩:=J5.ex;have RF:=kx _ (G4 Ud);refine Am (Dq ?_);unfold setAdd;refine Dq (Am (fA 3 _ (K.deep RF) (by show A.units+1+3<cLine;exact aA (.a (.a (.a D qW) qS) qW) Y 1 1 (.a (.a D qR) qW) Y (c2 _ _) hu rfl) ru ?_));have room:xs[i]∉m.map (·.2)->m.length<=3:=fun hn=>by
   classical
   have:=iP (l:=xs[i]::m.map (·.2)) (P:=zs) (CQ.mpr ⟨hn,h4.once⟩) fun y hy=>by
    rcases BP.mp hy with rfl|hy
    ·exact CV _ (G4 _)
    ·exact CV _ (List.mem_of_mem_take ((h7 y).mp hy))
   rw[EG,Bl]at this;exact aH D qS 1 1 (.a D qW) Y 1 Y (.n 4) (c2 _ _) this hz rfl
  have next:∀(FZ:Heap) (La:Nat),(∀b o,b≠S->h'.get? b=some o->FZ.get? b=some o)->(∀b vs,IsT h' b vs->IsT FZ b vs)->CO w.params T FZ S K led (fun x=>x∈xs.take (i+1))->
    codeAny (model prog w) A (.builtin "set.update.loop" ⟨[.ref S,.ref I],[]⟩) R {s with heap:=FZ,toks:=La}:=fun FZ La kk gg SS=>by
   exact ih (i+1) {s with heap:=FZ,toks:=La} (by exact Nat.le_antisymm (az D Y 1 1 qX (.a Y qW) 1 (.a D (.a (.v 4) qW)) qY 1 qY (.a qX (.v 4)) (c5 _ _ _ _ _) (Nat.le_of_eq hk) (Nat.le_of_eq (Nat.sub_add_cancel (aA (.a Y qW) D 1 1 (.a Y qW) D (c2 _ _) BZ rfl))) EM rfl) (az D Y 1 1 (.a D qW) qX 1 qY (.a Y (.a (.v 4) qW)) 1 (.a qX (.v 4)) qY (c5 _ _ _ _ _) (Nat.le_of_eq hk.symm) EM (Nat.le_of_eq (Nat.sub_add_cancel (aA qY Y 1 1 (.a D (.a qY qW)) Y (c3 _ _ _) (Nat.le_of_eq (Nat.sub_add_cancel (aA (.a Y qW) D 1 1 (.a Y qW) D (c2 _ _) BZ rfl))) rfl))) rfl)) BZ (Ue.at fun o e=>kk I o (fun h=>T8 h.symm) e) (Ug.at fun o e=>kk l o (fun h=>T9 h.symm) e) (AX.kept gg (fun x hx=>K.deep (kx x hx)) HP) SS fun h3 XI k3 S3=>hR h3 XI (fun b o b1 b2 e=>k3 b o b1 b2 (kk b o b2 (Ck b o (by simpa using b1) e))) S3
  have V':xs.take (i+1)=xs.take i++[xs[i]]:=by exact J (List.take_succ_eq_append_getElem Ud) rfl
  refine xq (s:={s with heap:=h',toks:=tk+dr xs[i]}) h4 h1 h3 h5 RF ru (by show A.units+1+3<cLine;exact aA (.a (.a (.a D qW) qS) qW) Y 1 1 (.a (.a D qR) qW) Y (c2 _ _) hu rfl) room (fun hx=>?_) (fun hx FZ Fw t' m' j sb hg T9 hp hl=>?_)
  ·refine AE ⟨Lw Rf _,next h' _ (fun Z Z Z e=>e) (fun Z Z e=>e) ⟨o,es,ep,t,m,h1,h2,h3,h4,h5,h6,fun y=>?_⟩⟩
   rewrite[h7 y];refine J V' ?_;rewrite[DA,Eb];exact⟨.inl,fun h=>h.elim id fun e=>by exact J e ((h7 _).mp hx)⟩
  ·refine AE ⟨Lw Rf _,next FZ _ (fun b o hb e=>(sb.2 b hb).trans e) (uu h1 h3 sb) ⟨_,Fw,ep+1,t',m',hg,h2,rfl,T9.mono fun p En v r=>r.kept ?_ (uu h1 h3 sb),?_,hl.trans h6,fun y=>?_⟩⟩
   ·rcases BP.mp (hp.mem_iff.mp En)with rfl|En
    ·exact K.deep RF
    ·exact K.deep (h5 _ En)
   ·intro p En
    rcases BP.mp (hp.mem_iff.mp En)with rfl|En
    ·exact RF
    ·exact h5 _ En
   ·rewrite[(hp.map (·.2)).mem_iff];refine J Ec ?_;rewrite[BP,h7 y];refine J V' ?_;rewrite[DA,Eb]
    exact⟨fun h=>h.elim .inr .inl,fun h=>h.elim .inr .inl⟩
end
end
section
noncomputable abbrev dD(w:World):Bool:= !(w.params.followText "set-order")
noncomputable abbrev Bj(w:World):Obj:={cls:=.type "set",dict:=none,data:=.set #[] 0 (.fresh 0 0 (dD w))}
section
variable{prog:Program}{w:World}{A:Around}{E:Value->Shared->Prop}{s:Shared}{T:Addr->Prop}
theorem wi(a:Value){Q₁:Value->Shared->Prop}(h:Q₁ (.ref s.heap.objs.size) {s with heap:=s.heap.push (Bj w)}):
  codeAny (model prog w) A (.call (.builtin "set.__new__") ⟨[.type "set",a],[]⟩) (wants Q₁ E) s:=by
 refine codeAny_of_tree ?_
 show wpAny _ A.in1 (do checkBuiltinCall "set.__new__" ⟨[.type "set",a],[]⟩;again (.builtin "set.__new__" ⟨[.type "set",a],[]⟩)) _ _ s
 refine Am (wpAny_of_eq (F.newCall_set_1 a) (AE ⟨Lw F.plain_set_new _,Ki F.entry_set_new ?_⟩));rw[LK F.plain_set_new _];unfold Builtin.«set.__new__» Builtin.Frozenset.newClass;have CV:=sub_set_self;obtain⟨hp,g,d,tk,os⟩:=s;dsimp only
 wp_walk
 refine Ng (AE ?_);dsimp only;refine Am (wpAny_alloc (AE ?_));exact AE h
theorem sE{K:SK}{h:Heap}{a:Addr}(e:h.get? a=some (Bj w)):CO w.params T h a K (dD w) (fun x=>x∈([]:List V)):=
 ⟨⟨_,#[],0,_,[],e,⟨rfl,rfl,rfl⟩,rfl,⟨rfl,rfl,rfl,List.Pairwise.nil,fun Z h=>(nomatch h),.nil,fun Z h=>(nomatch h),FG,DS _⟩,fun Z h=>(nomatch h),rfl,fun x=>Iff.rfl⟩⟩
set_option maxHeartbeats 3200000 in
theorem uH{a:Value}{Q Q₁:Value->Shared->Prop}(Cb:codeAny (model prog w) A.in1 (.call (.builtin "set.__new__") ⟨[.type "set",a],[]⟩) (wants Q₁ E) s)
  (Pg:∀obj Ak,Q₁ obj Ak->Ak.TypeIs obj "set" /\wpAny (model prog w) A.in1.in1 (Builtin.«set.__init__» ⟨[obj,a],[]⟩)
    (fun fin s'=>match fin with| .done f=>wants (fun r Aw=>r=.none/\Q obj Aw) E (.ok f) s'| .again c'=>c'.quiet=true/\codeAny (model prog w) A.in1 c' (wants (fun r Aw=>r=.none/\Q obj Aw) E) s')
    (fun e s'=>wants (fun r Aw=>r=.none/\Q obj Aw) E (.error e) s') Ak):wpAny (model prog w) A (call (.type "set") [a]) Q E s:=by
 obtain⟨c,tl,XJ⟩:=F.called_set.mro;have Wa:=F.called_set.made;have Wb:=F.called_set.sub;refine wpAny_call (codeAny_of_tree ?_)
 show wpAny _ _ (callAny (.type "set") _) _ _ _
 refine AE ⟨Code.quiet_builtin _ (by decide+kernel),Ki F.entry_type_call ?_⟩;rw[Around.under_plain (weight_type_call_type "set" [a] []) rfl];have h1:=F.called_set.notType;have h2:=F.called_set.canCreate;have Uh:=F.typeCall_set_1 a
 repeat (any_goals (first|assumption|wp_step))
 refine Mz Cb fun r Ak hr=>?_
 cases r with
 |error e=>exact hr
 |ok fl=>
  cases fl with
  |ret obj=>
   have hr:=Pg obj Ak hr;have hT:=hr.1;have ZN:=F.called_set.init.lookup;have ZO:=F.called_set.init.bind obj
   repeat (any_goals (first|assumption|wp_step))
   refine Mz (codeAny_call_builtin (R:=wants (fun r Aw=>r=.none/\Q obj Aw) E) F.called_set.init.plain F.entry_set_init (check_set_init_1 hT hr.2)) fun By Aw IT=>?_
   cases By with
   |error e=>exact IT
   |ok Ph=>
    cases Ph with
    |ret r=>
     obtain⟨rfl,hq⟩:=IT
     repeat (any_goals (first|assumption|wp_step))
    |_=>exact IT.elim
  |_=>exact hr.elim
theorem uD{S l:Addr}{ws:Array Value}{R:PySem.Fin->Shared->Prop}(hS:s.heap.get? S=some (Bj w))(hl:s.heap.IsList l ws)
  (h:wpAny (model prog w) A (pyIter (.ref l)) (fun a s'=>wpAny (model prog w) A (runValue (.builtin "set.update.loop" ⟨[.ref S,a],[]⟩)>>=fun Z=>pure ()) (fun Z s'=>wpAny (model prog w) A (ret MH) R E s') E s') E s):
  wpAny (model prog w) A (Builtin.«set.__init__» ⟨[.ref S,.ref l],[]⟩) R E s:=by
 have hT:s.TypeIs (.ref S) "set" :=⟨_,hS,rfl⟩
 obtain⟨ol,XK,Ld,nl,Wc⟩:=hl;obtain⟨XN,Wd,We,Ui⟩:=ol;simp only at Ld Wc;subst Ld;subst Wc;have XO:=F.sub_list_set;have XQ:=F.sub_list_frozenset;have Cc:(Value.type "list" ==Value.type "dict")=false:=by decide
 unfold Builtin.«set.__init__» noKeywords Builtin.Frozenset.updateFrom;generalize XR:pyIter=PI
 wp_walk
 subst XR;exact h
theorem mS{K:SK}{l:Addr}{ws:Array Value}{xs zs:List V}{Q:Value->Shared->Prop}(hh:A.handled=none)(hl:s.heap.IsList l ws)(rr:AX T s.heap xs ws.toList)(kx:∀x∈xs,K.is x)(hu:A.units+20<cLine)(hz:zs.length<=4)(CV:∀x∈xs,x∈zs)
  (h:∀(h':Heap) (tk:Nat),CO w.params T h' s.heap.objs.size K (dD w) (fun x=>x∈xs)->(∀b o,s.heap.get? b=some o->h'.get? b=some o)->Q (.ref s.heap.objs.size) {s with heap:=h',toks:=tk}):
  wpAny (model prog w) A (call (.type "set") [.ref l]) Q E s:=by
 have hlen:ws.size=xs.length:=rr.size;refine uH (Q₁:=fun obj Ak=>obj=.ref s.heap.objs.size/\Ak={s with heap:=s.heap.push (Bj w)}) (wi (.ref l) ⟨rfl,rfl⟩) fun obj Ak hr=>?_;obtain⟨rfl,rfl⟩:=hr;have hS:(s.heap.push (Bj w)).get? s.heap.objs.size=some (Bj w):=DB _ rfl;have hT:ND {s with heap:=s.heap.push (Bj w)} (.ref s.heap.objs.size) "set" :=⟨_,hS,rfl⟩
 refine⟨hT,?_⟩;obtain⟨ol,Wf,Ld⟩:=hl;have Uj:(s.heap.push (Bj w)).IsList l ws:=⟨_,Cg _ Wf,Ld⟩
 refine uD hS Uj ?_;refine RX Uj ?_;refine Am (R8 ?_);have Wg:l<s.heap.objs.size:=DG Wf;have Fd:(s.heap.push (Bj w)).objs.size=s.heap.objs.size+1:=HM ..;have hit:((s.heap.push (Bj w)).push {cls:=.type "list_iterator",data:=.fields #[.ref l,.int 0 0]}).IsListIter (s.heap.push (Bj w)).objs.size l 0:=⟨_,DB _ rfl,rfl,rfl⟩
 have g:∀b vs,IsT s.heap b vs->IsT ((s.heap.push (Bj w)).push {cls:=.type "list_iterator",data:=.fields #[.ref l,.int 0 0]}) b vs:=fun b vs ⟨n,e⟩=>⟨n,Cg _ (Cg _ e)⟩
 refine tZ (T:=T) (K:=K) (led:=dD w) (xs:=xs) (by simp[hh]) (by rw[Fd];exact Nat.ne_of_lt (Nat.lt_succ_of_lt Wg)) (by rw[Fd];exact Nat.ne_of_lt (Nat.lt_succ_self _)) (Nat.ne_of_gt Wg) kx hlen (by simp only[Around.in1_units];first|lia|omega) zs hz CV (ws.size-0) 0 _ rfl (Nat.zero_le _) hit (Uj.push _)
  (AX.kept g (fun x hx=>K.deep (kx x hx)) rr) (sE (Cg _ hS)) fun h' tk Ck J5=>?_
 show wpAny _ _ _ _ _ _
 refine AE ?_
 show wpAny _ _ (ret MH) _ _ _
 refine AE ⟨rfl,h _ _ J5 fun b o e=>?_⟩;have hb:=DG e;exact Ck b o (by rw[Fd];exact Ej (EF hb)) (Ej hb) (Cg _ (Cg _ e))
end
end
section
theorem bA:Slot "set_iterator" "__next__" "set_iterator.__next__" :=
 .of (owner:= "set_iterator") (n:= "__next__") (by refine J (typeLookup_type _ _) (J builtinLookup_eq_fast (?_));kernel_rfl) (by decide+kernel) (by decide+kernel) (by decide+kernel)
  (by first|exact .inl (by decide+kernel)|exact .inr (by decide+kernel)) (by refine J (isSubtype_type _ _) ?_;kernel_rfl)
theorem dZ:entryFor table "set_iterator.__next__" =some Builtin.«set_iterator.__next__» :=entryFor_of_tree (by kernel_rfl)
theorem eA(a:Value):argsOk "set_iterator.__next__" ⟨[a],[]⟩:=by unfold argsOk;kernel_rfl
theorem eO:Slot "set_iterator" "__iter__" "set_iterator.__iter__" :=
 .of (owner:= "set_iterator") (n:= "__iter__") (by refine J (typeLookup_type _ _) (J builtinLookup_eq_fast (?_));kernel_rfl) (by decide+kernel) (by decide+kernel) (by decide+kernel)
  (by first|exact .inl (by decide+kernel)|exact .inr (by decide+kernel)) (by refine J (isSubtype_type _ _) ?_;kernel_rfl)
theorem jP:entryFor table "set_iterator.__iter__" =some Builtin.«dict_keyiterator.__iter__» :=entryFor_alias (id':= "dict_keyiterator.__iter__") (by kernel_rfl) rfl (by decide+kernel) (by kernel_rfl)
theorem lW(a:Value):argsOk "set_iterator.__iter__" ⟨[a],[]⟩:=by unfold argsOk;kernel_rfl
theorem iB:entryFor table "set.__iter__" =some Builtin.«frozenset.__iter__» :=entryFor_alias (id':= "frozenset.__iter__") (by kernel_rfl) rfl (by decide+kernel) (by kernel_rfl)
theorem ix{α:Type}{l:List α}:∀{i:Nat} (h:i<l.length),(l[i]::l.eraseIdx i).Perm l:=by
 induction l with
 |nil=>exact fun h=>Ba h (Gu _)
 |cons x l ih=>
  intro i h
  cases i with
  |zero=>exact .refl _
  |succ i=>exact(SY _ _ _).trans ((ih (Se h)).cons _)
theorem sT{α:Type}{l:List α}{i n:Nat}(h:i<l.length)(e:l.length=n+1):(l.eraseIdx i).length=n:=by exact J (List.length_eraseIdx_of_lt h) (J e rfl)
section
variable{prog:Program}{w:World}{A:Around}{E:Value->Shared->Prop}{s:Shared}{T:Addr->Prop}
theorem qu(hn:n≠0)(h:∀i d,i<n->Q i {s with drawn:=d}):wpAny (model prog w) A (choose src n) Q E s:=fun Γ p VV=>by unfold choose;rw[Sem.wp_choose];exact⟨hn,h _ _ (QW _ (Nat.pos_of_ne_zero hn))⟩
theorem bS(h:Q (w.params.followText "set-order") s):wpAny (model prog w) A setsByText Q E s:=by unfold setsByText;exact Am (Ng (AE h))
theorem lH{α:Type}(n:Nat):∀(xs:List α) (s:Shared) {Q:List α->Shared->Prop},n=xs.length->(∀ys d,ys.Perm xs->Q ys {s with drawn:=d})->wpAny (model prog w) A (drawOrder n xs) Q E s:=by
 induction n with
 |zero=>
  intro xs s Q e h
  cases Nl.mp e.symm
  exact AE (h [] s.drawn (.refl _))
 |succ n ih=>
  intro xs s Q e h
  cases xs with
  |nil=>injection e
  |cons x xs=>
   refine wpAny_bind (qu (by simp) fun i d hi=>?_);refine J (Cr hi) ?_;exact Am (ih _ _ (sT hi e.symm).symm fun ys d' hp=>AE (h _ d' ((hp.cons _).trans (ix hi))))
theorem wz{α:Type}(next:Nat->Nat)(fuel:Nat):∀(k:Nat) (left:List α) (out:Array α),left.length<=fuel->(Rm next fuel k left out).toList.Perm (out.toList++left):=by
 induction fuel with
 |zero=>
  intro k left out h
  cases Nl.mp (Nat.le_zero.mp h)
  exact J (HL _) (.refl _)
 |succ fuel ih=>
  intro k left out h
  by_cases h0:left=[]
  ·exact J h0 (J (HL _) (.refl _))
  ·have hi:=QW (next k) (List.length_pos_iff.mpr h0)
   have e:Rm next (fuel+1) k left out=Rm next fuel (k+1) (left.eraseIdx (next k % left.length)) (out.push left[next k % left.length]):=AL (fun o:Option α=>(match o with|some x=>Rm next fuel (k+1) (left.eraseIdx (next k % left.length)) (out.push x)|none=>out:Array α)) (Cr hi)
   refine J e ((ih (k+1) _ _ (Nat.le_of_succ_le_succ (AG (AA (by exact J (List.length_eraseIdx_of_lt hi) (Ds (Dj (DS _) hi)))) h))).trans ?_);refine J Ny (J (HJ _ _ _) ?_);exact List.Perm.append_left _ (ix hi)
theorem kO(next:Nat->Nat)(xs:Array α):(pickOrder next xs).toList.Perm xs.toList:=by
 unfold pickOrder;have:=wz next xs.size 0 xs.toList #[] (by simp)
 simpa using this
end
end
section
inductive Md where
 |text
 |drawn (Tp:Addr) (L:List Nat)
 |plain
noncomputable def Md.ctorIdx(x:Md):Nat:=Md.casesOn x 0 (fun _ _=>1) 2
noncomputable def slotAt(t:SetTable):Nat->Nat
 |0=>0
 |k+1=>t.place.getD k 0+1
noncomputable def Md.first(t:SetTable):Md->Nat->Value
 | .text,_=> .int 0 0
 | .drawn Tp _,_=> .ref Tp
 | .plain,i=> .int (slotAt t i:Nat) 0
noncomputable def Md.ord(P:Params)(S:Addr)(ep:Nat)(es:Array (Int×Value)):Md->List Value
 | .text=>(pickOrder (P.setOrder S ep) es).toList.map (·.2)
 | .drawn _ L=>L.filterMap fun i=>(es[i]?).map (·.2)
 | .plain=>es.toList.map (·.2)
def Md.ok(w:World)(es:Array (Int×Value))(t:SetTable):Md->Prop
 | .text=>w.params.followText "set-order" =true
 | .drawn _ L=>w.params.followText "set-order" =false/\L.Perm (List.range es.size)
 | .plain=>w.params.followText "set-order" =false/\(!t.plain &&es.size>1)=false/\t.led=true/\t.place.toList.Pairwise (· < ·)/\t.place.size=es.size
def Md.tup:Md->Heap->Prop
 | .drawn Tp L,h=>∃o k,h.get? Tp=some o/\o.data=.seq (L.map fun(i:Nat)=>rawInt i).toArray k
 |_,_=>True
noncomputable def Md.at(I:Addr):Md->Addr
 | .drawn Tp _=>Tp
 |_=>I
structure Jw(h:Heap)(I S:Addr)(es:Array (Int×Value))(ep:Nat)(t:SetTable)(md:Md)(i:Nat):Prop where
 it:∃o,h.get? I=some o/\o.cls=.type "set_iterator" /\o.data=.fields #[md.first t i,.int (i:Nat) 0,.ref S,.int (es.size:Nat) 0,.int (ep:Nat) 0]
 set:∃o,h.get? S=some o/\o.data=.set es ep t
 tup:md.tup h
theorem Jw.frame{I S:Addr}(x:Jw h I S es ep t md i)(k:∀b∈[I,S,md.at I],∀o,h.get? b=some o->h'.get? b=some o):Jw h' I S es ep t md i:=by
 obtain⟨⟨o,h1,h2,h3⟩,⟨oS,h4,h5⟩,h6⟩:=x;refine⟨⟨o,k I (by simp) _ h1,h2,h3⟩,⟨oS,k S (by simp) _ h4,h5⟩,?_⟩
 cases md with
 |drawn Tp L=>refine Fv h6 fun o n a b=>?_;clear h6;exact⟨o,n,k Tp (by simp[Md.at]) _ a,b⟩
 |text=>trivial
 |plain=>trivial
section
variable{prog:Program}{w:World}{A:Around}{E:Value->Shared->Prop}{s:Shared}{T:Addr->Prop}{I S:Addr}{es:Array (Int×Value)}{ep:Nat}{t:SetTable}{md:Md}{i:Nat}
theorem iu(t:SetTable)(hs:t.place.toList.Pairwise (· < ·))(hk:k<=t.place.size):FI t.place (slotAt t k)=k:=by
 refine D4 (dx (slotAt t k) hs) fun b1 b2 b3=>?_;have mono:∀i k,i<k->k<t.place.size->t.place.getD i 0<t.place.getD k 0:=fun i k J6 hk=>by
  have h1:i<t.place.toList.length:=by exact J De (aH (.a D qW) Y 1 1 (.a D qW) qY 1 (.a qY qW) Y (c3 _ _ _) J6 hk rfl)
  have h2:k<t.place.toList.length:=by refine J De ?_;assumption
  have:=LD.mp hs i k h1 h2 J6
  simpa [Array.getD,show i<t.place.size by assumption,hk]using this
 have h0:slotAt t 0=0:=rfl;have h1:∀k',slotAt t (k'+1)=t.place.getD k' 0+1:=fun Z=>rfl
 rcases LB (FI t.place (slotAt t k)) k with h|h|h
 ·obtain⟨k',rfl⟩:∃k',k=k'+1:=⟨k-1,by exact CW (aA D (.a Y qW) 1 1 D (.a Y qW) (c2 _ _) EM rfl) (aA (.a D qW) Y 1 1 (.a D qW) Y (c2 _ _) (AA (Ds (aA qW D 1 1 (.a Y qW) D (c2 _ _) h rfl))) rfl)⟩
  have h2:=b3 _ (Bf _) (aH (.a D qW) Y 1 1 (.a qY qW) Y 1 (.a D qW) (.a qY qW) (c3 _ _ _) hk h rfl);generalize FI t.place (slotAt t (k'+1))=B at*;rw[h1]at h2
  by_cases e:B=k'
  ·subst e;lia
  ·have:=mono B k' (by exact aA (.a D qW) Y 1 1 (.a D qW) Y (c2 _ _) (DF (aA D Y 1 1 (.a D qW) (.a Y qW) (c2 _ _) h rfl) e) rfl) (by assumption);lia
 ·exact h
 ·cases k with
  |zero=>have:=b2 0 h;lia
  |succ k'=>
   have h2:=b2 (k'+1) h;generalize FI t.place (slotAt t (k'+1))=B at*;rw[h1]at h2;have:=mono k' (k'+1) (Bf _) (aH (.a (.a D qW) qW) Y 1 1 qY Y 1 (.a (.a D qW) qW) qY (c3 _ _ _) b1 h rfl)
   lia
theorem ec(hS:s.heap.get? S=some oS)(hd:oS.data=.set es ep t)(hf:t.fits es.size=true)(hm:md.ok w es t)(MU:md.first t i=.int (slot:Nat) 0)(hx:(md.ord w.params S ep es)[i]? =some x)(hq:∀D6,md.first t (i+1)=.int (D6:Nat) 0->Q (some (x,D6)) s):
  wpAny (model prog w) A (setNext S slot i ep) Q E s:=by
 unfold setNext;refine Am (HY hS hd hf ?_);dsimp only
 cases md with
 |drawn Tp L=>injection MU
 |text=>
  have hb:w.params.followText "set-order" =true:=hm;refine Am (bS ?_);refine Gs (DU hb) (Dd (Df fun h=>Ba (bne_self_eq_false ep▸h) Ed) (Am ?_));unfold setWalk;refine Am (HY hS hd hf ?_);refine Am (bS ?_);refine Gs (DU hb) (Am (Ng (AE (AE ?_))));have CM:((pickOrder (w.params.setOrder S ep) es).toList.map (·.2))[i]? =some x:=hx;rw[Cs,EH]at CM;refine An (El.mp CM) fun e he CS=>?_;subst CS;have Pa:(pickOrder ((model prog w).w.params.setOrder S ep) es)[i]? =some e:=he;exact J Pa (hq slot (by exact Rv MU rfl))
 |plain=>
  refine Js hm fun hb DW hl hs hz=>?_;clear hm;refine Am (bS ?_);refine J hb (Dd rfl ?_)
  show wpAny _ _ (if(!t.plain &&decide (es.size>1))=true then _ else _) _ _ _
  refine wpAny_ite_false (decide_eq_false (by rw[DW];simp)) ?_;have O9:slot=slotAt t i:=by
   have e:MI ((slotAt t i:Nat):Int) 0=.int (slot:Nat) 0:=MU;injection e with e _
   lia
  refine J O9 ?_;have CM:(es.toList.map (·.2))[i]? =some x:=hx;rw[Cs,EH]at CM;refine An (El.mp CM) fun e he C9=>?_;subst C9;have hi:=(SD.mp he).1;refine wpAny_bind (m:=(if(!t.led && !es.isEmpty)=true then _ else _)) (wpAny_ite_false (decide_eq_false (by rw[hl];simp)) (wpAny_pure (J (iu t hs (aH D Y 1 1 qY Y 1 (.a D qW) qY (c3 _ _ _) (Nat.le_of_eq hz.symm) hi rfl)) (J he (J (Array.getElem?_eq_getElem (show i<t.place.size by exact aH (.a D qW) Y 1 1 qY Y 1 (.a D qW) qY (c3 _ _ _) (Nat.le_of_eq hz.symm) hi rfl)) ?_)))));refine AE (hq _ ?_)
  show MI ((slotAt t (i+1):Nat):Int) 0=_
  unfold slotAt
  simp[Array.getD,show i<t.place.size by exact aH (.a D qW) Y 1 1 qY Y 1 (.a D qW) qY (c3 _ _ _) (Nat.le_of_eq hz.symm) hi rfl]
theorem fb(hS:s.heap.get? S=some oS)(hd:oS.data=.set es ep t)(hf:t.fits es.size=true)(hm:md.ok w es t)(MU:md.first t i=.int (slot:Nat) 0)(hx:i=es.size)(hq:Q none s):
  wpAny (model prog w) A (setNext S slot i ep) Q E s:=by
 unfold setNext;refine Am (HY hS hd hf ?_);dsimp only
 cases md with
 |drawn Tp L=>injection MU
 |text=>
  have hb:w.params.followText "set-order" =true:=hm;refine Am (bS ?_);refine Gs (DU hb) (Dd (Df fun h=>Ba (bne_self_eq_false ep▸h) Ed) (Am ?_));unfold setWalk;refine Am (HY hS hd hf ?_);refine Am (bS ?_);refine Gs (DU hb) (Am (Ng (AE (AE ?_))));have hz:(pickOrder (w.params.setOrder S ep) es).size=es.size:=by exact Rv De (J ((kO _ _).length_eq) (J De rfl))
  have Pa:(pickOrder ((model prog w).w.params.setOrder S ep) es)[i]? =none:=Array.getElem?_eq_none (AA (hz.trans hx.symm));exact J Pa hq
 |plain=>
  refine Js hm fun hb DW hl hs hz=>?_;clear hm;refine Am (bS ?_);refine J hb (Dd rfl ?_)
  show wpAny _ _ (if(!t.plain &&decide (es.size>1))=true then _ else _) _ _ _
  refine wpAny_ite_false (decide_eq_false (by rw[DW];simp)) ?_;have O9:slot=slotAt t i:=by
   have e:MI ((slotAt t i:Nat):Int) 0=.int (slot:Nat) 0:=MU;injection e with e _
   lia
  refine J O9 (wpAny_bind (m:=(if(!t.led && !es.isEmpty)=true then _ else _)) (wpAny_ite_false (decide_eq_false (by rw[hl];simp)) (wpAny_pure (J (iu t hs (aH D Y 1 1 D qY 1 qY Y (c3 _ _ _) (Nat.le_of_eq hx) (Nat.le_of_eq hz.symm) rfl)) (J (Array.getElem?_eq_none (show es.size<=i by exact aA D Y 1 1 D Y (c2 _ _) (Nat.le_of_eq hx.symm) rfl)) ?_)))));exact AE hq
end
end
section
section
variable{E:Value->Shared->Prop}{I S:Addr}
theorem Jw.apart(x:Jw h I S es ep t md i):I≠S/\(∀Tp L,md=.drawn Tp L->Tp≠I):=by
 obtain⟨⟨o,h1,h2,h3⟩,⟨oS,h4,h5⟩,h6⟩:=x;refine⟨fun e=>?_,fun Tp L e e'=>?_⟩
 ·have h1:=e▸h1;have h1:=h4▸h1;obtain rfl:=BC h1;rw[h3]at h5;injection h5
 ·subst e
  refine Fv h6 fun oT k a b=>?_;clear h6;have a:=e'▸a;have a:=h1▸a;obtain rfl:=BC a;rw[h3]at b;injection b
theorem jh(st:Jw s.heap I S es ep t md i)(hm:md.ok w es t)(hf:t.fits es.size=true)(hx:(md.ord w.params S ep es)[i]? =some x)(hi:i<es.size)
  (hQ:∀h',Jw h' I S es ep t md (i+1)->Heap.SameBut I s.heap h'->Q (some x) {s with heap:=h'}):wpAny (model prog w) A (pyNext (.ref I)) Q E s:=by
 have ap:=st.apart;obtain⟨⟨o,ho,hc,hd⟩,⟨oS,IU,IV⟩,F5⟩:=st;have hT:s.TypeIs (.ref I) "set_iterator" :=⟨_,ho,hc⟩
 unfold pyNext;refine Am (wpAny_attempt (My (name:=Ai "__next__") hT bA (Gj bA hT dZ ?_ (eA _))));unfold Builtin.«set_iterator.__next__»;refine Am (AE ?_);refine Am (wpAny_fieldsOf ho hd ?_);refine Am (RW IU IV hf ?_);refine wpAny_ite_false (decide_eq_false (by simp)) ?_
 cases md with
 |drawn Tp L=>
  refine Fv F5 fun oT k K7 K8=>?_;clear F5;refine Am (Nh K7 K8 ?_);dsimp only;refine A5 hm fun hb hp=>?_;clear hm;have hlen:L.length=es.size:=by exact J hp.length_eq (J Ek rfl)
  have Wi:L[i]? =some L[i]:=Cr (aH (.a D qW) Y 1 1 (.a D qW) qY 1 qY Y (c3 _ _ _) hi (AA hlen.symm) rfl);have BZ:L[i]<es.size:=G5.mp (hp.mem_iff.mp (G4 _));have F4:∀(M:List Nat),(∀y∈M,y<es.size)->M.filterMap (fun i=>(es[i]?).map (·.2))=M.map fun i=>(es.getD i (0,.none)).2:=fun M=>by
   induction M with
   |nil=>intro _;rfl
   |cons y M ih=>
    intro hM;have hy:=hM y (.head _);refine J Nr (J (Kq hy) ?_);refine J (ih fun z hz=>hM z (.tail _ hz)) ?_
    simp[Array.getD,hy]
  have CM:(L.filterMap fun i=>(es[i]?).map (·.2))[i]? =some x:=hx;rw[F4 L (fun y hy=>G5.mp (hp.mem_iff.mp hy)),Cs,Wi]at CM;have XS:es[L[i]]? =some (es[L[i]].1,x):=by
   refine J (Kq BZ) ?_;have:(es.getD L[i] (0,.none)).2=x:=by simpa using CM
   refine Rv this ?_;simp[Array.getD,BZ]
  have Uk:((L.map fun(i:Nat)=>rawInt i).toArray)[((i:Nat):Int).toNat]? =some (rawInt (L[i]:Nat)):=by refine J (JP _) (J (List.getElem?_toArray) ?_);exact J (Cs) (J Wi rfl)
  refine J Uk ?_;dsimp only[rawInt];refine Am ?_;unfold setNextDrawn;refine Am (HY IU IV hf ?_);dsimp only;refine J (Int.toNat_natCast _) (wpAny_ite_false (decide_eq_false (by simp)) (J (Int.toNat_natCast _) (J XS ?_)));refine wpAny_pure (wpAny_bind (wpAny_setField ho hd (by simp) ?_));refine AE ⟨_,rfl,AE (hQ _ ⟨⟨_,Fu _ ho (Obj.isFreed_of_fields (Obj.data_mapFields hd _)),(Obj.cls_mapFields ..).trans hc,?_⟩,⟨oS,(Jp _ _ ap.1).trans IU,IV⟩,⟨oT,k,(Jp _ _ (Ne.symm (ap.2 _ _ rfl))).trans K7,K8⟩⟩ (Fb ..))⟩;exact J (Obj.data_mapFields hd _) rfl
 |text=>
  refine Am (ec (md:=.text) (slot:=0) IU IV hf hm rfl hx fun D6 J8=>?_);refine wpAny_bind (wpAny_setField ho hd (by simp[Md.first]) ?_);have He:=Fu (Obj.mapFields (·.setIfInBounds 0 (rawInt (D6:Nat)))) ho (Obj.isFreed_of_fields (Obj.data_mapFields hd _));refine wpAny_bind (wpAny_setField (s:={s with heap:=s.heap.update I (Obj.mapFields (·.setIfInBounds 0 (rawInt (D6:Nat))))}) He (Obj.data_mapFields hd _) (by simp[Md.first]) ?_);refine AE ⟨_,rfl,AE (hQ _ ⟨⟨_,Fu _ He (Obj.isFreed_of_fields (Obj.data_mapFields (Obj.data_mapFields hd _) _)),(Obj.cls_mapFields ..).trans ((Obj.cls_mapFields ..).trans hc),?_⟩,⟨oS,(Jp _ _ ap.1).trans ((Jp _ _ ap.1).trans IU),IV⟩,Al⟩ ((Fb ..).trans (Fb ..)))⟩;refine J (Obj.data_mapFields (Obj.data_mapFields hd _) _) ?_;rw[JP]at J8;refine J J8 ?_;rfl
 |plain=>
  refine Am (ec (md:=.plain) (slot:=slotAt t i) IU IV hf hm rfl hx fun D6 J8=>?_);refine wpAny_bind (wpAny_setField ho hd (by simp[Md.first]) ?_);have He:=Fu (Obj.mapFields (·.setIfInBounds 0 (rawInt (D6:Nat)))) ho (Obj.isFreed_of_fields (Obj.data_mapFields hd _));refine wpAny_bind (wpAny_setField (s:={s with heap:=s.heap.update I (Obj.mapFields (·.setIfInBounds 0 (rawInt (D6:Nat))))}) He (Obj.data_mapFields hd _) (by simp[Md.first]) ?_);refine AE ⟨_,rfl,AE (hQ _ ⟨⟨_,Fu _ He (Obj.isFreed_of_fields (Obj.data_mapFields (Obj.data_mapFields hd _) _)),(Obj.cls_mapFields ..).trans ((Obj.cls_mapFields ..).trans hc),?_⟩,⟨oS,(Jp _ _ ap.1).trans ((Jp _ _ ap.1).trans IU),IV⟩,Al⟩ ((Fb ..).trans (Fb ..)))⟩;refine J (Obj.data_mapFields (Obj.data_mapFields hd _) _) ?_;rw[JP]at J8;refine J J8 ?_;rfl
theorem dp(hh:A.handled=none)(hQ:∀h',(∀b o,s.heap.get? b=some o->h'.get? b=some o)->Q none {s with heap:=h'}){R:PySem.Fin->Shared->Prop}:
  wpAny (model prog w) A.in1 (do raiseNew (<- newExc (.type "StopIteration") []):Sem PySem.Fin) R (fun e s'=>wpAny (model prog w) A (do if <- isInstance e (.type "StopIteration")then pure none else throw e:Sem (Option Value)) Q E s') s:=by
 refine Am (Am (JD ?_ (by size_fits)));refine wpAny_bind (m:=firstArgMember _ _) (wpAny_of_eq (a:=Value.none) (by first|rfl|(simp only[firstArgMember];rfl)) ?_);refine JD ?_ (by size_fits);unfold raiseNew;refine Am (wpAny_handled ?_);refine J (show A.in1.handled=none from hh) (Am (AE (wpAny_throw ?_)));refine Am (RZ (T:= "StopIteration") (b:=true) ⟨_,DB _ rfl,rfl⟩ isSubtype_stop ?_);exact AE (hQ _ fun b o e=>Cg _ (Cg _ e))
theorem kS(hh:A.handled=none)(st:Jw s.heap I S es ep t md i)(hm:md.ok w es t)(hf:t.fits es.size=true)(hi:i=es.size)
  (hQ:∀h',(∀b o,b≠I->s.heap.get? b=some o->h'.get? b=some o)->Q none {s with heap:=h'}):wpAny (model prog w) A (pyNext (.ref I)) Q E s:=by
 have ap:=st.apart;obtain⟨⟨o,ho,hc,hd⟩,⟨oS,IU,IV⟩,F5⟩:=st;have hT:s.TypeIs (.ref I) "set_iterator" :=⟨_,ho,hc⟩
 unfold pyNext;refine Am (wpAny_attempt (My (name:=Ai "__next__") hT bA (Gj bA hT dZ ?_ (eA _))));unfold Builtin.«set_iterator.__next__»;refine Am (AE ?_);refine Am (wpAny_fieldsOf ho hd ?_);refine Am (RW IU IV hf ?_);refine wpAny_ite_false (decide_eq_false (by simp)) ?_
 cases md with
 |drawn Tp L=>
  refine Fv F5 fun oT k K7 K8=>?_;clear F5;refine Am (Nh K7 K8 ?_);dsimp only;refine A5 hm fun hb hp=>?_;clear hm;have hlen:L.length=es.size:=by exact J hp.length_eq (J Ek rfl)
  have Uk:((L.map fun(i:Nat)=>rawInt i).toArray)[((i:Nat):Int).toNat]? =none:=by refine J (JP _) (J (List.getElem?_toArray) ?_);exact J (Cs) (J (H6 (by exact aH D Y 1 1 qY Y 1 D qY (c3 _ _ _) (AA hi.symm) (AA hlen) rfl)) rfl)
  refine J Uk (wpAny_bind (wpAny_setField ho hd (by simp) ?_));have He:=Fu (Obj.mapFields (·.setIfInBounds 0 (rawInt 0))) ho (Obj.isFreed_of_fields (Obj.data_mapFields hd _));refine wpAny_bind (wpAny_setField (s:={s with heap:=s.heap.update I (Obj.mapFields (·.setIfInBounds 0 (rawInt 0)))}) He (Obj.data_mapFields hd _) (by simp) ?_);refine dp hh ?_;refine fun h' hk=>hQ h' fun b o hb e=>hk b o ?_;exact(((Fb ..).trans (Fb ..)).2 b hb).trans e
 |text=>
  refine Am (fb (md:=.text) (slot:=0) IU IV hf hm rfl hi ?_);refine wpAny_bind (wpAny_setField ho hd (by simp[Md.first]) ?_);refine dp hh ?_;refine fun h' hk=>hQ h' fun b o hb e=>hk b o ?_;exact((Fb ..).2 b hb).trans e
 |plain=>
  refine Am (fb (md:=.plain) (slot:=slotAt t i) IU IV hf hm rfl hi ?_);refine wpAny_bind (wpAny_setField ho hd (by simp[Md.first]) ?_);refine dp hh ?_;refine fun h' hk=>hQ h' fun b o hb e=>hk b o ?_;exact((Fb ..).2 b hb).trans e
end
end
section
section
variable{prog:Program}{w:World}{A:Around}{E:Value->Shared->Prop}{s:Shared}{I S:Addr}{es:Array (Int×Value)}{ep:Nat}{t:SetTable}{md:Md}{i:Nat}
theorem Md.EC{P:Params}(hm:md.ok w es t):(md.ord P S ep es).Perm (es.toList.map (·.2)):=by
 cases md with
 |text=>exact(kO _ _).map _
 |plain=>exact .refl _
 |drawn Tp L=>
  refine A5 hm fun hb hp=>?_;clear hm;refine(hp.filterMap _).trans (.of_eq ?_);have e:∀l:List (Int×Value),(List.range l.length).filterMap (fun i=>(l[i]?).map (·.2))=l.map (·.2):=fun l=>by
   refine QZ fun k=>?_;have F4:∀M:List Nat,(∀y∈M,y<l.length)->M.filterMap (fun i=>(l[i]?).map (·.2))=M.map (fun i=>(l.getD i (0,.none)).2):=fun M=>by
    induction M with
    |nil=>intro _;rfl
    |cons y M ih=>
     intro hM;have hy:=hM y (.head _);refine J Nr (J (Cr hy) ?_);simp only[Option.map_some,List.map_cons];refine J (ih fun z hz=>hM z (.tail _ hz)) (J (Er) ?_);exact J (Cr hy) rfl
   have this:=F4 (List.range l.length) fun y hy=>G5.mp hy;refine J this (J (Cs) ?_);refine J (Cs) ?_
   by_cases hk:k<l.length
   ·refine J (Nq hk) (J (Cr hk) (?_));refine J (SF _ _) (J (SF _ _) (J (Er) ?_));exact J (Cr hk) rfl
   ·exact J (H6 (by rw[Ek];exact aA D Y 1 1 D Y (c2 _ _) (DR hk) rfl)) (J (H6 (aA D Y 1 1 D Y (c2 _ _) (DR hk) rfl)) rfl)
  have:=e es.toList;rw[De]at this
  simpa only[Array.getElem?_toList]using this
theorem qp(hh:A.handled=none)(hm:md.ok w es t)(hf:t.fits es.size=true)(Cc:S≠I)(hT:∀Tp L,md=.drawn Tp L->Tp≠I):
  Walks prog w A I [I,S,md.at I] [I] es.size (fun i v=>(md.ord w.params S ep es)[i]? =some v) (fun i h=>Jw h I S es ep t md i) where
 sub:=fun b hb=>by simp at hb;simp[hb]
 frame:=fun Z Z Z st hk=>st.frame hk
 item:=fun i s Q E hi st hQ=>by
  have hlen:(md.ord w.params S ep es).length=es.size:=by exact J ((Md.EC hm).length_eq) (J (Bl _) (J De rfl))
  obtain⟨x,hx⟩:∃x,(md.ord w.params S ep es)[i]? =some x:=⟨_,Cr (aH (.a D qW) Y 1 1 (.a D qW) qY 1 qY Y (c3 _ _ _) hi (AA hlen.symm) rfl)⟩
  exact jh st hm hf hx hi fun h' BB sb=>hQ x h' s.toks hx BB fun b o hb e=>(sb.2 b (by simpa using hb)).trans e
 done:=fun s Q E st hQ=>kS hh st hm hf rfl fun h' hk=>hQ h' s.toks fun b o hb e=>hk b o (by simpa using hb) e
 self:=fun i s Q E st hQ=>by
  obtain⟨⟨o,ho,hc,hd⟩,_,_⟩:=st;have hT:s.TypeIs (.ref I) "set_iterator" :=⟨_,ho,hc⟩
  refine wpAny_pyIter_slot hT eO (Gj eO hT jP ?_ (lW _));exact AE ⟨_,rfl,"set_iterator",_,hT,bA.lookup,hQ⟩
theorem uK(ho:s.heap.get? S=some o)(hx:o.ExactSet)(hd:o.data=.set es ep t)(hf:t.fits es.size=true)(hl:t.led=dD w)(hr:t.place.toList.Pairwise (· < ·))(hz:t.place.size=es.size)(L9:es.size<=4)
  (hQ:∀md I h' dr,md.ok w es t->Jw h' I S es ep t md 0->s.heap.objs.size<=I->(∀Tp L,md=.drawn Tp L->s.heap.objs.size<=Tp)->(∀b o,s.heap.get? b=some o->h'.get? b=some o)->I<h'.objs.size->(∀Tp L,md=.drawn Tp L->Tp<h'.objs.size)->Q (.ref I) {s with heap:=h',drawn:=dr}):
  wpAny (model prog w) A (pyIter (.ref S)) Q E s:=by
 have hT:s.TypeIs (.ref S) "set" :=⟨o,ho,hx.1⟩
 refine wpAny_pyIter_slot hT F.slot_set_iter (Gj F.slot_set_iter hT iB ?_ (F.args_set_iter_1 _));unfold Builtin.«frozenset.__iter__»;refine Am (AE ?_);unfold Builtin.Frozenset.sizeOf;refine Am (Am (RW ho hd hf (AE ?_)));have IW:∀(fst:Value) (s1:Shared) (md:Md),(∀b o,s.heap.get? b=some o->s1.heap.get? b=some o)->(∃dr,s1={s with heap:=s1.heap,drawn:=dr})->md.ok w es t->md.first t 0=fst->md.tup s1.heap->(∀Tp L,md=.drawn Tp L->s.heap.objs.size<=Tp/\Tp<s1.heap.objs.size)->s.heap.objs.size<=s1.heap.objs.size->
   wpAny (model prog w) A.in1 (do ret (<- newFields "set_iterator" [fst,rawInt 0,.ref S,rawInt es.size,rawInt (<- setEpoch S)])) (fun fin s'=>∃v,fin=Fin.done (.ret v)/\∃T' r,s'.TypeIs v T'/\typeLookup (.type T') "__next__" =pure (some r)/\Q v s') E s1:=by
  intro fst s1 md hk ⟨dr,Jx⟩ hm Ul F5 RG Fd;refine Am (wpAny_setEpoch_of (hk _ _ ho) hd hf ?_);unfold newFields;refine Am (JD ?_);have IS:(s1.heap.push {cls:=.type "set_iterator",data:=.fields [fst,rawInt 0,.ref S,rawInt es.size,rawInt ep].toArray}).get? s1.heap.objs.size=some {cls:=.type "set_iterator",data:=.fields [fst,rawInt 0,.ref S,rawInt es.size,rawInt ep].toArray}:=DB _ rfl;refine AE ⟨_,rfl,"set_iterator",_,⟨_,IS,rfl⟩,bA.lookup,?_⟩;have:=hQ md s1.heap.objs.size (s1.heap.push {cls:=.type "set_iterator",data:=.fields [fst,rawInt 0,.ref S,rawInt es.size,rawInt ep].toArray}) dr hm ⟨⟨_,IS,rfl,by exact J Ul rfl⟩,⟨o,Cg _ (hk _ _ ho),hd⟩,?_⟩ Fd (fun Tp L e=>(RG Tp L e).1) (fun b o e=>Cg _ (hk b o e)) (by exact J (HM _ _) (HF _)) (fun Tp L e=>by exact J (HM _ _) (EF (RG Tp L e).2))
  ·exact J Jx this
  ·cases md with
   |drawn Tp L=>refine Fv F5 fun o n a b=>?_;clear F5;exact⟨o,n,Cg _ a,b⟩
   |text=>trivial
   |plain=>trivial
 refine Am ?_;unfold setDrawn;refine Am (HY ho hd hf ?_);refine Am (bS ?_);refine AE ?_
 cases hb:w.params.followText "set-order" with
 |true=>
  refine Dd rfl (Am (AE ?_));exact IW _ s .text (fun Z Z e=>e) ⟨s.drawn,rfl⟩ hb rfl Al (fun Z Z e=>nomatch e) (Bf _)
 |false=>
  show wpAny _ _ (if(!false &&(!t.plain &&decide (es.size>1)))=true then _ else _) _ _ _
  cases XT:(!t.plain &&decide (es.size>1))with
  |false=>
   refine Dd rfl (Am (AE ?_));exact IW _ s .plain (fun Z Z e=>e) ⟨s.drawn,rfl⟩ ⟨hb,XT,by refine J hl ?_;unfold dD;exact J hb rfl,hr,hz⟩ rfl Al (fun Z Z e=>nomatch e) (Nat.le_refl _)
  |true=>
   refine Gs rfl (Am (lH es.size (List.range es.size) s Ek.symm fun L d hp=>?_));have hL:L.length=es.size:=by exact J hp.length_eq (J Ek rfl)
   refine Am (wpAny_newTuple ?_ (by exact J (Bl _) (J hL (J FD (aA D (.n 16777216) 1 1 D (.n 4) (c1 _) L9 rfl)))));exact IW _ _ (.drawn s.heap.objs.size L) (fun Z Z e=>Cg _ e) ⟨d,rfl⟩ ⟨hb,hp⟩ rfl ⟨_,0,DB _ rfl,rfl⟩ (fun Tp L' e=>by injection e with e1 e2;subst e1;exact⟨Bf _,by exact J (HM _ _) (HF _)⟩) (by exact J (HM _ _) (G2 _))
end
end
section
section
variable{E:Value->Shared->Prop}{S:Addr}
theorem sw(hT:s.TypeIs (.ref S) "set")(h:Q false s):wpAny (model prog w) A (SR (.ref S)) Q E s:=mJ hT F.slot_set_len.lookup (by decide+kernel:splitId "set.__len__" =some ("set","__len__")) sub_set_self (.inl rfl) h
theorem mK(hh:A.handled=none)(ho:s.heap.get? S=some o)(hx:o.ExactSet)(hd:o.data=.set es ep t)(hf:t.fits es.size=true)(hl:t.led=dD w)(hr:t.place.toList.Pairwise (· < ·))(hz:t.place.size=es.size)(L9:es.size<=4)
  (hQ:∀vs h' dr tk,List.Perm vs (es.toList.map (·.2))->(∀b o,s.heap.get? b=some o->h'.get? b=some o)->Q vs {s with heap:=h',drawn:=dr,toks:=tk}):
  wpAny (model prog w) A (collect (.ref S)) Q E s:=by
 unfold collect;refine Am (R8 (Ki F.entry_proto_collect ?_));refine J (LK F.plain_proto_collect _) ?_
 show wpAny _ A.in1 (newList []>>=fun l=>again (.builtin "list.__iadd__" ⟨[l,.ref S],[]⟩)) _ _ s
 refine Am (JD ?_);refine AE ⟨Lw Rh _,Ki F.entry_list_iadd ?_⟩;refine J (LK Rh _) ?_
 show wpAny _ A.in1 (Builtin.List.listExtendWith (.ref s.heap.objs.size) (.ref S) (.ref s.heap.objs.size)) _ _ _
 unfold Builtin.List.listExtendWith;have L6:S<s.heap.objs.size:=DG ho;have He:(s.heap.push {cls:=.type "list",data:=.seq ([]:List Value).toArray}).get? S=some o:=Cg _ ho;have K7:ND {s with heap:=s.heap.push {cls:=.type "list",data:=.seq ([]:List Value).toArray}} (.ref S) "set" :=⟨_,He,hx.1⟩
 refine Am (Ni K7 ?_);have h1:Builtin.List.listSameRef (.ref s.heap.objs.size) (.ref S)=false:=by simp[Builtin.List.listSameRef,Nat.ne_of_gt L6]
 refine Dd (Df (by rw[h1];decide)) (Am (uK (s:={s with heap:=s.heap.push {cls:=.type "list",data:=.seq ([]:List Value).toArray}}) He hx hd hf hl hr hz L9 fun md I h' dr hm st hI RG hk ZP ZQ=>?_));have Fd:(s.heap.push {cls:=.type "list",data:=.seq ([]:List Value).toArray}).objs.size=s.heap.objs.size+1:=HM ..;have K8:ND {s with heap:=h',drawn:=dr} (.ref S) "set" :=⟨_,hk _ _ He,hx.1⟩
 refine Am (Dq (sw K8 ?_))
 show wpAny _ A.in1 (rule "list.extend.makes-room" >>=fun Z=>Builtin.List.listTouch (.ref s.heap.objs.size)>>=fun Z=>
  again (.builtin "list.extend.loop" ⟨[.ref s.heap.objs.size,.ref I,.ref s.heap.objs.size],[]⟩)) _ _ _
 refine Am (Kj ?_);have F1:h'.get? s.heap.objs.size=some {cls:=.type "list",data:=.seq ([]:List Value).toArray}:=hk _ _ (DB _ rfl);refine Am (Am (QN F1 rfl ?_));have F2:=Fu (Obj.mapSeq (·.push MH)) F1 rfl;refine QN F2 rfl ?_;have IK:=Fu (Obj.mapSeq (·.pop)) F2 rfl;have MP:∀b o,b≠s.heap.objs.size->h'.get? b=some o->((h'.update s.heap.objs.size (Obj.mapSeq (·.push MH))).update s.heap.objs.size (Obj.mapSeq (·.pop))).get? b=some o:=
  fun b o hb e=>(Jp _ _ (Ne.symm hb)).trans ((Jp _ _ (Ne.symm hb)).trans e)
 have ap:=st.apart;have W:=(qp (prog:=prog) (w:=w) (A:=A.in1) (ep:=ep) hh hm hf (Ne.symm ap.1) ap.2).toS;have Hp:I≠s.heap.objs.size:=by have:=hI;rw[Fd]at this;exact LC (MA this)
 have Um:md.at I≠s.heap.objs.size:=by
  cases md with
  |drawn Tp L=>have:=RG Tp L rfl;rw[Fd]at this;exact LC (MA this)
  |text=>exact Hp
  |plain=>exact Hp
 have K9:s.heap.objs.size∉[I,S,md.at I]:=by simp only[List.mem_cons,List.not_mem_nil,or_false,not_or];exact⟨Hp.symm,LC L6,Um.symm⟩
 refine AE ⟨Lw F.plain_extend_loop _,codeAny_extend_loopS W (by exact J FD (aA D (.n 16777216) 1 1 D (.n 4) (c1 _) L9 rfl)) _ K9 _ es.size 0 _ _ _ rfl (DS _)
  (st.frame fun b hb o e=>MP b o (fun h=>K9 (Rv h hb)) e) IK (ItemsOf.nil _) fun s' F3 c' Fx J5 GK=>?_⟩
 refine Am (wpAny_load J5 ?_);obtain⟨FZ,TY,RA,IL,L7⟩:=s';have eg:TY=s.gens:=Fx.gens;have ed:RA=dr:=Fx.drawn;have eo:L7=s.os:=Fx.os;refine J eg (Rv ed (J eo ?_));refine AE (hQ F3.toList FZ RA IL ?_ fun b o e=>?_)
 ·refine(SX ?_).trans (Md.EC (S:=S) (ep:=ep) (P:=w.params) hm)
  have hlen:(md.ord w.params S ep es).length=es.size:=by exact J ((Md.EC hm).length_eq) (J (Bl _) (J De rfl))
  refine QZ fun k=>?_
  by_cases Ck:k<F3.size
  ·have e1:F3[k]? =some F3[k]:=Kq Ck
   exact J (EH) (J e1 ((GK.2 k _ e1).symm))
  ·exact J (EH) (J (Array.getElem?_eq_none (aA D Y 1 1 D Y (c2 _ _) (DR Ck) rfl)) (J (H6 (by rw[hlen,<- GK.1];exact aA D Y 1 1 D Y (c2 _ _) (DR Ck) rfl)) rfl))
 ·have hb:=DG e
  refine Fx.heap b o ?_ (MP b o (Ej hb) (hk _ _ (Cg _ e)));simp only[List.mem_cons,List.not_mem_nil,or_false,not_or];refine⟨Ej hb,?_⟩;have:=hI;rw[Fd]at this;exact Ej (EL hb (MA this))
end
end
section
noncomputable def qb{α:Type}(p:α->Bool)(n:Nat):KasT α->Bool
 | .ret a=>p a
 | .ask i j k=>decide (i<n) &&decide (j<n) &&qb p n (k true) &&qb p n (k false)
theorem sy:∀n≤4,qb (fun a:Array Nat=>a.toList.isPerm (List.range n)) n (kas_sort n)=true:=by decide+kernel
section
variable{prog:Program}{w:World}{A:Around}{E:Value->Shared->Prop}{s:Shared}{T:Addr->Prop}
theorem qq{α:Type}{p:α->Bool}{n:Nat}{ask:Nat->Nat->(Bool->Shared->Prop)->Shared->Prop}{G:α->Shared->Prop}(ha:∀i j C,i<n->j<n->(∀b,C b s)->ask i j C s)(hG:∀a,p a=true->G a s):∀t:KasT α,qb p n t=true->t.kasWp ask G s:=fun t=>by
 induction t with
 |ret a=>exact fun h=>hG a h
 |ask i j k ih=>
  intro h;replace h:(decide (i<n) &&decide (j<n) &&qb p n (k true) &&qb p n (k false))=true:=h;simp only[Bool.and_eq_true,decide_eq_true_eq]at h;refine A5 h fun Fh h4=>?_;clear h;refine A5 Fh ?_;clear Fh;intro Fh h3;refine A5 Fh fun h1 h2=>?_;clear Fh;refine ha i j _ h1 h2 fun b=>?_
  cases b with
  |true=>exact ih true h3
  |false=>exact ih false h4
def ED(x:V):Prop:=∃(a:Str) (ks:List Int),x=.tup (.str a::ks.map .int)
theorem nB(hq:∀c,Q c s):∀(ks ms:List Int) (vs us:List Value) (i:Nat),AX T s.heap (ks.map .int) vs->AX T s.heap (ms.map .int) us->0<i->KatLex prog w A b fin Q (vs.zip us) i s
 |[],_,vs,us,i,r,_,_=>by exact J (Aj r) (kat_nil (hq _))
 |_::_,[],vs,us,i,_,r,_=>by exact J (Aj r) (J List.zip_nil_right (kat_nil (hq _)))
 |k::ks,m::ms,vs,us,i,r,r',hi=>by
  refine Bc (Ae r) fun v Ry BX a ra=>J BX ?_;refine Bc (Ae r') fun Aa Un Dx c rc=>J Dx ?_;refine Ax (Ag a) fun t Ci=>J Ci ?_;refine Ax (Ag c) fun t' Dv=>J Dv ?_;refine J List.zip_cons_cons (kat_cons (wpAny_eqBool_int (kat_go (fun Z=>kat_yes (nB hq ks ms Ry Un (i+1) ra rc (EK _ _))) fun Z=>kat_no ?_)));have e:(b &&i==0)=false:=by exact J (show(i==0)=false from by rw[beq_eq_false_iff_ne];exact fun e=>Ei 0 (aH qW qV 0 1 (.a qV qW) D 1 D qV (c1 _) hi (AA e) rfl)) (J (Bool.and_false _) rfl)
  exact J e (kat_one _ _ (lt_int (hq _)))
theorem r5(hq:∀c,Q c s)(hx:ED x)(hy:ED y)(r:VR T s.heap x v)(r':VR T s.heap y Aa)(b:Bool)(hb:b=true):wpAny (model prog w) A (keyLt' (tuples' b) v Aa) Q (fun Z Z=>False) s:=by refine Ku hx fun a ks C9=>?_;clear hx;subst C9;refine Ku hy fun c ms CL=>?_;clear hy;subst CL;refine Bc (aL r) fun l ws CJ Pj rr=>J CJ (Ax Pj fun n e=>?_);clear Pj;refine Bc (aL r') fun l' XU C4 J9 HP=>J C4 (Ax J9 fun n' e'=>?_);clear J9;refine Bc (Ae rr) fun f fs h1 h2 h3=>Bc (Ae HP) fun f' XW XX XY RB=>Ax (Av h2) fun t CB=>?_;subst CB;refine Ax (Av XY) fun t' B0=>?_;subst B0;refine kat_lt e rfl e' rfl (J h1 (J XX (J List.zip_cons_cons ?_)));refine kat_cons (wpAny_eqBool_str (kat_go (fun Z=>kat_yes (nB hq ks ms fs XW 1 h3 RB (Bf _))) fun Z=>kat_no ?_));exact J hb (kas_lt_str (hq _))
theorem js:∀{xs:List V} {vs:List Value},(∀x∈xs,ED x)->AX T s.heap xs vs->∃fs,KatTups s.heap vs fs/\fs.length=vs.length/\∀v∈fs,∃a t,v=.str a t
 |[],vs,_,r=>by exact J (Aj r) (⟨[],.nil,rfl,fun Z h=>nomatch h⟩)
 |x::xs,vs,k,r=>by
  refine Bc (Ae r) fun v Ry Ey rv r'=>J Ey ?_;refine B4 (js (fun y hy=>k y (.tail _ hy)) r') fun fs h1 h2 h3=>Ku (k x (.head _)) fun a ks DI=>?_;subst DI;refine Bc (aL rv) fun l ws FT Le rr=>J FT (Ax Le fun n e=>?_);clear Le;refine Bc (Ae rr) fun f gs g1 g2 g3=>Ax (Av g2) fun t Dp=>?_;subst Dp;refine⟨.str a t::fs,.cons e rfl rfl (by exact Rv (EH) (J g1 rfl)) h1,by exact J EG (J EG (J h2 rfl)),fun v hv=>?_⟩
  rcases BP.mp hv with rfl|hv
  ·exact⟨a,t,rfl⟩
  ·exact h3 v hv
theorem qm{n:Nat}{P:PySem.Fin->Shared->Prop}(ho:s.heap.get? a=some (seqObj "list" vs.toArray n))(kx:∀x∈xs,ED x)(r:AX T s.heap xs vs)(h4:vs.length<=4)
  (h:∀out:Array Value,out.toList.Perm vs->P (.done (.ret .none)) {s with heap:=sortedHeap s.heap a vs out}):
  wpAny (model prog w) A (Builtin.«list.sort» ⟨[.ref a],[]⟩) P E s:=by
 refine J (list_sort_plain _) ?_;have ha:a<s.heap.objs.size:=DG ho;refine Am (listItems_at ho rfl ?_);refine Am (listUpdate_at ho rfl ?_ (by exact J Ss (J FD (aA D (.n 16777216) 1 1 D (.n 4) (c1 _) h4 rfl))) (DS _));obtain⟨e1,He⟩:∃e1,(s.heap.update a (Obj.mapSeq fun Z=> #[])).get? a=some (seqObj "list" #[] e1):=⟨_,get?_update_seq ho (fun Z=> #[])⟩
 refine Am (seqEpoch_at He rfl ?_);refine Am (wpAny_newTuple ?_ (by show vs.length<=_;exact J FD (aA D (.n 16777216) 1 1 D (.n 4) (c1 _) h4 rfl)));refine Am (R9 ?_ (DS _));refine Dq ?_;have Wj:(((s.heap.update a (Obj.mapSeq fun Z=> #[])).push (seqObj "tuple" vs.toArray 0)).push (seqObj "list" #[] 0)).get? a=some (seqObj "list" #[] e1):=by refine J (Heap.get?_push_ne _ _ _ (by rw[size_push',Heap.size_update];exact Ej (EF ha))) (J (Heap.get?_push_ne _ _ _ (by rw[Heap.size_update];exact Ej ha)) (?_));exact He
 show wpAny (model prog w) A _ P E {s with heap:=((s.heap.update a (Obj.mapSeq fun Z=> #[])).push (seqObj "tuple" vs.toArray 0)).push (seqObj "list" #[] 0)}
 dsimp only;have fin:∀BB:SortSt,failedOf BB=none->((arrOf BB).map (·.2)).toList.Perm vs->wpAny (model prog w) A (do
   let touched:=(<- seqEpoch a) !=e1
   Builtin.List.listUpdate (.ref a) fun Z=>(arrOf BB).map (·.2)
   if let some e:=failedOf BB then rule "list.sort.comparison-raised";throw e
   if touched then rule "list.sort.modified";raiseError "ValueError" "list modified during sort"
   ret .none) P E {s with heap:=((s.heap.update a (Obj.mapSeq fun Z=> #[])).push (seqObj "tuple" vs.toArray 0)).push (seqObj "list" #[] 0)}:=fun BB hf hp=>by
  have hz:((arrOf BB).map (·.2)).size=vs.length:=by exact Rv De (J hp.length_eq rfl)
  refine Am (seqEpoch_at Wj rfl ?_);refine Am (listUpdate_at Wj rfl ?_ (DS _) (AG (AA hz) (by exact J FD (aA D (.a (.n 16777216) qW) 1 1 D (.n 4) (c1 _) h4 rfl))));exact J hf (wpAny_ite_false (decide_eq_false (by simp)) (wpAny_pure (h _ hp)))
 by_cases h2:vs.toArray.size<2
 ·refine J (AS h2) (J (AS h2) ?_)
  refine Am (AE ?_);refine J (StateT.run_pure _ _) (Am (AE ?_));refine fin _ rfl (J Array.toList_map (J Array.toList_zip (J (List.map_snd_zip (Bf _)) ?_)));rfl
 ·refine J (AK h2) (J (AK h2) ?_)
  rw[Ss]at h2;have g:∀b ws,IsT s.heap b ws->IsT (((s.heap.update a (Obj.mapSeq fun Z=> #[])).push (seqObj "tuple" vs.toArray 0)).push (seqObj "list" #[] 0)) b ws:=fun b ws IC=>Ax IC fun k e=>by
   refine⟨k,Cg _ (Cg _ ((Heap.get?_update_ne _ _ _ _ ?_).trans e))⟩
   rintro rfl
   rw[ho]at e;simp[seqObj]at e
  have deep:∀x∈xs,KV 3 x:=fun x hx=>by
   refine Ku (kx x hx) fun a ks Il=>J Il ?_;intro y hy
   rcases BP.mp hy with rfl|hy
   ·exact Al
   ·exact An (BF.mp hy) fun k Z FU=>Rv FU Al
  have r':AX T (((s.heap.update a (Obj.mapSeq fun Z=> #[])).push (seqObj "tuple" vs.toArray 0)).push (seqObj "list" #[] 0)) xs vs:=AX.kept g deep r;refine B4 (js (s:={s with heap:=((s.heap.update a (Obj.mapSeq fun Z=> #[])).push (seqObj "tuple" vs.toArray 0)).push (seqObj "list" #[] 0)}) kx r') fun fs f1 f2 f3=>Am (kat_kind (T:=.type "str") f1 (aH (.a qV qW) D 1 1 Y D 1 qU Y (c2 _ _) (AA f2.symm) (DR h2) rfl) (fun v hv=>by refine Ku (f3 v hv) fun a t Pk=>?_;exact J Pk (S8 rfl)) (by decide) ?_);refine Am (BE (kat_run (Q:=fun BB s'=>s'={s with heap:=((s.heap.update a (Obj.mapSeq fun Z=> #[])).push (seqObj "tuple" vs.toArray 0)).push (seqObj "list" #[] 0)}/\failedOf BB=none/\((arrOf BB).map (·.2)).toList.Perm vs)
   (G:=fun p s'=>s'={s with heap:=((s.heap.update a (Obj.mapSeq fun Z=> #[])).push (seqObj "tuple" vs.toArray 0)).push (seqObj "list" #[] 0)}/\p.toList.Perm (List.range vs.length)) rfl (aA qU D 1 1 qU D (c1 _) (DR h2) rfl) (aA (.a D qW) (.n 64) 1 1 D (.n 4) (c1 _) h4 rfl) (fun p BB s' a1 a2 a3 Pl=>A5 Pl fun a4 a5=>⟨a4,a3,?_⟩) ?_) ?_ fun Z Z e=>e)
  ·refine J (kat_snds rfl a2) ((a5.map _).trans (.of_eq ?_))
   refine QZ fun k=>J (Cs) ?_
   by_cases hk:k<vs.length
   ·refine J (Nq hk) ?_;refine J (SF _ _) (J (Er) ?_);exact J (Cr hk) rfl
   ·exact J (H6 (by rw[Ek];exact aA D Y 1 1 D Y (c2 _ _) (DR hk) rfl)) (J (H6 (aA D Y 1 1 D Y (c2 _ _) (DR hk) rfl)) rfl)
  ·refine qq (p:=fun a:Array Nat=>a.toList.isPerm (List.range vs.length)) (n:=vs.length) (fun i j C hi hj hC=>?_) (fun p hp=>⟨rfl,List.isPerm_iff.mp hp⟩) _ (sy _ h4)
   have Wk:xs.length=vs.length:=(AX.length r).symm;have gi:=r'.get (i:=i) (Cr (aH (.a D qW) Y 1 1 (.a D qW) qY 1 qY Y (c3 _ _ _) hi (AA Wk.symm) rfl:i<xs.length));have gj:=r'.get (i:=j) (Cr (aH (.a D qW) Y 1 1 (.a D qW) qY 1 qY Y (c3 _ _ _) hj (AA Wk.symm) rfl:j<xs.length));refine An gi fun vi XZ ri=>?_;clear gi;refine An gj fun vj X0 rj=>?_;clear gj
   show kas_ask prog w A _ vs i j C _
   unfold kas_ask;refine J (Er) (J (Er) (?_));refine J XZ (J X0 ?_);exact r5 hC (kx _ (G4 _)) (kx _ (G4 _)) ri rj _ (by decide)
  ·rintro ⟨⟨⟩,BB⟩ s' ⟨rfl,hf,hp⟩
   exact fin BB hf hp
end
end
section
theorem AX.perm(p:vs.Perm us):∀{xs:List V},AX T h xs us->∃ys:List V,ys.Perm xs/\AX T h ys vs:=by
 induction p with
 |nil=>intro xs r;exact⟨xs,.refl _,r⟩
 |cons v p ih=>
  intro xs r
  cases xs with
  |nil=>have:=Aj r;injection this
  |cons x xs=>
   refine Bc (Ae r) fun Aa Un e a b=>?_;injection e with e1 e2
   subst e1 e2;exact An (ih b) fun ys h1 h2=>⟨x::ys,h1.cons x,A6 a h2⟩
 |swap v Aa l=>
  intro xs r
  cases xs with
  |nil=>have:=Aj r;injection this
  |cons x xs=>
   refine Bc (Ae r) fun u1 Un e a b=>?_;injection e with e1 e2
   subst e1 e2
   cases xs with
   |nil=>have:=Aj b;injection this
   |cons y xs=>
    refine Bc (Ae b) fun u2 ZR e a2 b2=>?_;injection e with e1 e2
    subst e1 e2;exact⟨y::x::xs,.swap _ _ _,A6 a2 (A6 a b2)⟩
 |trans p q X5 X6=>
  intro xs r;exact An (X6 r) fun ys h1 h2=>An (X5 h2) fun zs h3 h4=>⟨zs,h3.trans h1,h4⟩
theorem MR.vals{P:Params}(r:MR P T h m es):AX T h (m.map (·.2)) (es.map (·.2)):=by
 induction r with
 |nil=>exact Bn
 |cons a r ih=>refine An a ?_;clear a;intro v CR a;exact J CR (A6 a ih)
section
variable{E:Value->Shared->Prop}{S:Addr}
theorem eT(hh:A.handled=none)(ho:s.heap.get? S=some o)(hx:o.ExactSet)(hd:o.data=.set es ep t)(hf:t.fits es.size=true)(hl:t.led=dD w)(hr:t.place.toList.Pairwise (· < ·))(hz:t.place.size=es.size)(L9:es.size<=4)
  (hQ:∀vs (s1:Shared) (qQ:Addr) (A':Around),List.Perm vs (es.toList.map (·.2))->(∀b o,s.heap.get? b=some o->s1.heap.get? b=some o)->s1.gens=s.gens->s1.os=s.os->s1.heap.get? qQ=some (seqObj "list" vs.toArray 0)->s.heap.get? qQ=none->
   wpAny (model prog w) A' (Builtin.«list.sort» ⟨[.ref qQ],[]⟩) (fun fin s'=>fin=.done (.ret .none)/\Q (.ref qQ) s') E s1):
  wpAny (model prog w) A (call (.builtin "sorted") [.ref S]) Q E s:=by
 refine Calls.call_function_entry kind_sorted plain_sorted entry_sorted (args_sorted1 _) ?_;unfold Builtin.«sorted»;refine Am (m:=checkCount "sorted" 1 1 _) (AE ?_);refine wpAny_bind (mK (by first|exact hh|simpa using hh) ho hx hd hf hl hr hz L9 fun vs h' dr tk hp hk=>?_);have hlen:vs.length=es.size:=by exact J hp.length_eq (J (Bl _) (J De rfl))
 refine Am (R9 ?_ (by exact J hlen (J FD (aA D (.n 16777216) 1 1 D (.n 4) (c1 _) L9 rfl))));have MQ:(h'.push (seqObj "list" vs.toArray 0)).get? h'.objs.size=some (seqObj "list" vs.toArray 0):=DB _ rfl;have hle:s.heap.get? h'.objs.size=none:=by
  cases e:s.heap.get? h'.objs.size with
  |none=>rfl
  |some o'=>exact Ba (DG (hk _ _ e)) (Gk _)
 refine Am (Dq (Gj slot_list_sort ⟨_,MQ,rfl⟩ entry_list_sort (BE (hQ vs {s with heap:=h'.push (seqObj "list" vs.toArray 0),drawn:=dr,toks:=tk} h'.objs.size _ hp (fun b o e=>Cg _ (hk b o e)) rfl rfl MQ hle) (fun fin s' EA=>A5 EA fun e q=>⟨_,e,?_⟩) fun Z Z e=>e) (args_list_sort _)));exact AE ⟨_,rfl,q⟩
theorem hZ{h:Heap}{qQ:Addr}{vs:List Value}{out:Array Value}{n:Nat}{h0:Heap}(hk:∀b o,h0.get? b=some o->h.get? b=some o)(hD:h0.get? qQ=none)(ho:h.get? qQ=some (seqObj "list" vs.toArray n)):(∀b o,h0.get? b=some o->(sortedHeap h qQ vs out).get? b=some o)/\∃e,(sortedHeap h qQ vs out).get? qQ=some (seqObj "list" out e):=by
 refine⟨fun b o e=>?_,sortedHeap_at ho⟩;have hb:b≠qQ:=by intro FL;subst FL;have e:=hD▸e;injection e
 exact(SU hb (DG (hk b o e))).trans (hk b o e)
theorem lV{K:Mk}{X:V->Prop}{Q:Value->Shared->Prop}(hn:∀x,K.is x->ED x)(hh:A.handled=none)(SA:CO w.params T s.heap S (.mk K) (dD w) X)
  (hQ:∀(ys:List V) h' dr tk qQ ws e,ys.Nodup->(∀x,x∈ys↔X x)->(∀b o,s.heap.get? b=some o->h'.get? b=some o)->s.heap.get? qQ=none->h'.get? qQ=some (seqObj "list" ws e)->AX T h' ys ws.toList->Q (.ref qQ) {s with heap:=h',drawn:=dr,toks:=tk}):
  wpAny (model prog w) A (call (.builtin "sorted") [.ref S]) Q E s:=by
 obtain⟨o,es,ep,t,m,h1,h2,h3,h4,h5,h6,h7⟩:=SA.ex;refine eT hh h1 h2 h3 h4.fits h6 (by exact J h4.place h4.rising) (h4.Hc.trans h4.size.symm) (by exact J h4.size h4.EI) fun vs s1 qQ A' hp hk hg IJ hD Cb=>?_;have g:∀b ws,IsT s.heap b ws->IsT s1.heap b ws:=fun b ws Pm=>Ax Pm fun n e=>⟨n,hk _ _ e⟩
 have deep:∀x∈m.map (·.2),KV 3 x:=fun x hx=>by refine An (BF.mp hx) fun p hp C4=>Rv C4 ?_;exact K.deep _ (h5 p hp)
 refine An (AX.perm hp (AX.kept g deep h4.IM.vals (T':=T))) fun ys p1 r1=>?_;have ky:∀x∈ys,ED x:=fun x hx=>by refine An (BF.mp (p1.mem_iff.mp hx)) fun p hp DM=>Rv DM ?_;exact hn _ (h5 p hp)
 refine qm hD ky r1 (by exact J hp.length_eq (J (Bl _) (J De (J h4.size h4.EI)))) fun out ho=>⟨rfl,?_⟩
 obtain⟨k2,e,he⟩:=hZ (out:=out) hk Cb hD;have g2:∀b ws,IsT s1.heap b ws->b≠qQ->IsT (sortedHeap s1.heap qQ vs out) b ws:=fun b ws Pn hb=>Ax Pn fun n e=>⟨n,(SU hb (DG e)).trans e⟩
 have g3:∀b ws,IsT s.heap b ws->IsT (sortedHeap s1.heap qQ vs out) b ws:=fun b ws Iv=>Ax Iv fun n e=>⟨n,k2 _ _ e⟩
 refine An (AX.perm (ho.trans hp) (AX.kept g3 deep h4.IM.vals (T':=T))) fun zs p2 r2=>?_;have:=hQ zs (sortedHeap s1.heap qQ vs out) s1.drawn s1.toks qQ out e (p2.nodup_iff.mpr h4.once) (fun x=>(p2.mem_iff).trans (h7 x)) k2 Cb he r2;obtain⟨X7,g1,d1,t1,o1⟩:=s1;simp only at hg IJ this ⊢;subst hg IJ;exact this
theorem nL{X:V->Prop}{Q:Value->Shared->Prop}(hh:A.handled=none)(SA:CO w.params T s.heap S .num (dD w) X)
  (hQ:∀(ys:List V) h' dr tk qQ ws e,ys.Nodup->(∀x,x∈ys↔X x)->(∀b o,s.heap.get? b=some o->h'.get? b=some o)->s.heap.get? qQ=none->h'.get? qQ=some (seqObj "list" ws e)->AX T h' ys ws.toList->Q (.ref qQ) {s with heap:=h',drawn:=dr,toks:=tk}):
  wpAny (model prog w) A (call (.builtin "sorted") [.ref S]) Q E s:=by
 obtain⟨o,es,ep,t,m,h1,h2,h3,h4,h5,h6,h7⟩:=SA.ex;refine eT hh h1 h2 h3 h4.fits h6 (by exact J h4.place h4.rising) (h4.Hc.trans h4.size.symm) (by exact J h4.size h4.EI) fun vs s1 qQ A' hp hk hg IJ hD Cb=>?_;have g:∀b ws,IsT s.heap b ws->IsT s1.heap b ws:=fun b ws Iz=>Ax Iz fun n e=>⟨n,hk _ _ e⟩
 have deep:∀x∈m.map (·.2),KV 3 x:=fun x hx=>by refine An (BF.mp hx) fun p hp DI=>Rv DI ?_;exact SK.deep (h5 p hp)
 refine An (AX.perm hp (AX.kept g deep h4.IM.vals (T':=T))) fun ys p1 r1=>?_;have ky:∀x∈ys,∃i,x=.int i:=fun x hx=>by refine An (BF.mp (p1.mem_iff.mp hx)) fun p hp EA=>Rv EA ?_;exact h5 p hp
 obtain⟨ns,JY⟩:∃ns:List Int,ys=ns.map .int:=by
  clear p1 r1
  induction ys with
  |nil=>exact⟨[],rfl⟩
  |cons y ys ih=>
   refine Ax (ky _ (.head _)) fun i Dp=>J Dp ?_;refine Ax (ih fun x hx=>ky x (.tail _ hx)) fun ns Ez=>J Ez ?_;exact⟨i::ns,rfl⟩
 subst JY;refine list_sort_tree hD r1.ints (by refine J hp.length_eq (J (Bl _) (J De (J h4.size (?_))));have:=h4.EI;exact aA (.a D qW) (.n 64) 1 1 D (.n 4) (c1 _) this rfl) fun out Ce a1 a2 a3=>⟨rfl,?_⟩
 obtain⟨k2,e,he⟩:=hZ (out:=out) hk Cb hD;have p2:(Ce.map V.int).Perm (m.map (·.2)):=(a2.map _).trans p1;have:=hQ (Ce.map .int) (sortedHeap s1.heap qQ vs out) s1.drawn s1.toks qQ out e (p2.nodup_iff.mpr h4.once) (fun x=>(p2.mem_iff).trans (h7 x)) k2 Cb he (AX.Em a1);obtain⟨X7,g1,d1,t1,o1⟩:=s1;simp only at hg IJ this ⊢;subst hg IJ;exact this
end
end
section
def SK.fit:SK->Prop
 | .mk K=>∀x,K.is x->ED x
 | .num=>True
theorem qv{K:SK}{E:Value->Shared->Prop}{T:Addr->Prop}{S:Addr}{X:V->Prop}{Q:Value->Shared->Prop}(hn:K.fit)(hh:A.handled=none)(SA:CO w.params T s.heap S K (dD w) X)
  (hQ:∀(ys:List V) h' dr tk qQ ws e,ys.Nodup->(∀x,x∈ys↔X x)->(∀b o,s.heap.get? b=some o->h'.get? b=some o)->s.heap.get? qQ=none->h'.get? qQ=some (seqObj "list" ws e)->AX T h' ys ws.toList->Q (.ref qQ) {s with heap:=h',drawn:=dr,toks:=tk}):
  wpAny (model prog w) A (call (.builtin "sorted") [.ref S]) Q E s:=by
 cases K with
 |mk K=>exact lV hn hh SA hQ
 |num=>exact nL hh SA hQ
theorem eq{P:Value->Shared->Prop}(O:c.Ok)(hk:aw c f)(R:Rep c ρ U s)
  (h:EV c A (.Name x np) env (fun y Ab=>y=.ex f/\∀Ak,Rep c ρ Ab Ak->Bp U s Ab Ak->wpAny (model c.prog c.w) A (eval e env) (fun v Aw=>c.K.In Aw.heap/\wpAny (model c.prog c.w) A (call f [v]) P Ca Aw) Ca Ak) U) (hn:aO [e]=true):
  wpAny (model c.prog c.w) A (eval (.Call (.Name x np) [e] [] pos) env) P Ca s:=
 QL (h.run R fun v Ak y Ab Aq Au r Po=>A5 Po fun hy q=>by
  subst hy;refine J (aG r) (aEl (P:=c.K.In) (by show((backTo pos (starEach [e] env)).any (·.1)||false)=false;exact J (CU.C5 hn) rfl) (fun hh X=>hk _ hh X) ?_);have key:wpAny (model c.prog c.w) A (spliced (backTo pos (starEach [e] env))) (fun vs Aw=>c.K.In Aw.heap/\wpAny (model c.prog c.w) A (call f ([]++vs) []) P Ca Aw) Ca Ak:=
   Nf (BE (q Ak Aq Au) (fun Aa Aw BI=>QO BI) fun Z Z e=>e) (A8 hn).1
  rw[(A8 hn).1]at key ⊢;exact Rj key)
theorem wS(O:c.Ok)(hh:A.handled=none)(hu:A.units+20<cLine)
  (h:EV c A (.Name (Ai "sorted") np) env (fun y Ab=>y=.ex (.builtin "sorted")/\EV c A (.Name (Ai "set") Jy) env (fun y Ah=>y=.ex (.type "set")/\EV c A e env (fun z Ap=>∃(K:SK) (xs zs:List V),K.fit/\z=.lst xs/\(∀x∈xs,K.is x)/\zs.length<=4/\(∀x∈xs,x∈zs)/\
   ∀ys:List V,ys.Nodup->(∀x,x∈ys↔x∈xs)->Q (.lst ys) Ap) Ah) Ab) U) (hn:aO [e]=true):
  EV c A (.Call (.Name (Ai "sorted") np) [.Call (.Name (Ai "set") Jy) [e] [] Dy] [] pos) env Q U:=fun ρ s R=>
 eq O aX R (TV.mono h fun y Ab Pp=>A5 Pp fun hy q=>⟨hy,fun Ak Aq Au=>
  bW O ac Aq (TV.mono q fun y2 Ah IF=>A5 IF fun JV q2=>⟨JV,TV.mono q2 fun z Ap Pq Bb v BJ B6 r=>Rp Pq fun K xs zs hK hz kx X8 CV q3=>by
   subst hz;refine DC (aV r) fun l ws Bg zf hl rr=>J Bg ?_;refine mS hh hl.isList rr kx hu X8 CV fun h' La SA hk=>?_;have Eu:Rep c ρ Ap {Bb with heap:=h',toks:=La}:=BJ.grown hk rfl rfl;refine⟨Eu.K O,?_⟩;refine qv (s:={Bb with heap:=h',toks:=La}) hK hh SA fun ys FZ dr IL qQ XU e nd hm Ck hD hg X9=>?_;have FR:Rep c ρ Ap {Bb with heap:=FZ,drawn:=dr,toks:=IL}:=BJ.grown (fun b o e=>Ck b o (hk b o e)) rfl rfl;refine⟨.lst ys,Ap,FR,Au.trans (B6.trans (.of_keep fun b o e=>Ck b o (hk b o e))),bm ?_ ⟨_,hg⟩ ?_,q3 ys nd hm⟩
   ·intro t
    refine Or.elim t (fun t=>?_) fun t=>?_
    ·cases q:Ap qQ with
     |none=>exact t q
     |some o=>
      refine An ((Eu.obj _ _ q).1.some) fun y hy Z=>?_;have E3:h'.get? qQ=some y:=hy;have E3:=hD▸E3;injection E3
    ·obtain⟨_,o,e⟩:=Eu.res _ t
     have e':h'.get? qQ=some o:=e;have e':=hD▸e';injection e'
   ·exact X9⟩) hn⟩) rfl
end
section
theorem AX.of_get:∀{vs:List Value},l.length=vs.length->(∀(j:Nat) x v,l[j]? =some x->vs[j]? =some v->VR T h x v)->AX T h l vs:=by
 induction l with
 |nil=>exact fun hl Z=>Nl.mp hl.symm▸Bn
 |cons x l ih=>
  intro vs hl k
  cases vs with
  |nil=>injection hl
  |cons v vs=>exact A6 (k 0 x v rfl rfl) (ih (JQ hl) fun j x v a b=>k (j+1) x v a b)
theorem AX.IX(i:ItemsOf (fun i v=>∃t,v=.int ((0:Int)+(i:Nat)*1) t) acc n):AX T h (Ee 0 n) acc.toList:=by refine AX.of_get (by exact J (a7 _ _) (J De i.1.symm)) fun j x v a b=>?_;refine A5 (bz a) fun hj Ct=>J Ct ?_;refine Ax (i.2 j v (by rw[<- EH];exact b)) fun t C6=>?_;exact J C6 (J (Int.mul_one _) aq)
theorem jY(O:c.Ok)(hh:A.handled=none)
  (h:EV c A (.Name (Ai "list") np) env (fun y Ab=>y=.ex (.type "list")/\EV c A (.Name (Ai "range") Jy) env (fun y Ah=>y=.ex (.type "range")/\EV c A e env (fun z Ap=>∃n:Nat,z=.int n/\n<=1000/\Q (.lst (Ee 0 n)) Ap) Ah) Ab) U) (hn:aO [e]=true):
  EV c A (.Call (.Name (Ai "list") np) [.Call (.Name (Ai "range") Jy) [e] [] Dy] [] pos) env Q U:=fun ρ s R=>
 eq O ac R (TV.mono h fun y Ab Bg=>A5 Bg fun hy q=>⟨hy,fun Ak Aq Au=>
  bW O ac Aq (TV.mono q fun y Ah Pr=>A5 Pr fun JV q2=>⟨JV,TV.mono q2 fun z Ap Ir Bb v BJ B6 r=>B4 Ir fun n hz Ru k=>by subst hz;refine Ax (Ag r) fun t CK=>J CK ?_;have G1:∀b o,Bb.heap.get? b=some o->(Bb.heap.push {cls:=.type "range",data:=.fields #[.int 0 Bb.toks,.int n t,.int 1 (Bb.toks+1)]}).get? b=some o:=fun Z Z e=>Cg _ e;have R4:Rep c ρ Ap {Bb with heap:=Bb.heap.push {cls:=.type "range",data:=.fields #[.int 0 Bb.toks,.int n t,.int 1 (Bb.toks+1)]},toks:=Bb.toks+1+1}:=BJ.grown G1 rfl rfl;refine call_range_1 ⟨R4.K O,?_⟩;refine call_list_range hh (DB _ rfl) (small_one (by decide) (by decide) (Int.ofNat_nonneg _) (by lia)) (n:=n) (by refine J (Sa _ _) ?_;split<;>lia) (by lia) fun h' tk F3 c' hk J5 GK=>?_;have S4:Bp Ap Bb Ap {Bb with heap:=Bb.heap.push {cls:=.type "range",data:=.fields #[.int 0 Bb.toks,.int n t,.int 1 (Bb.toks+1)]},toks:=Bb.toks+1+1}:=.of_keep G1;have R5:Rep c ρ Ap {Bb with heap:=h',toks:=tk}:=R4.grown hk rfl rfl;have S5:Bp Ap {Bb with heap:=Bb.heap.push {cls:=.type "range",data:=.fields #[.int 0 Bb.toks,.int n t,.int 1 (Bb.toks+1)]},toks:=Bb.toks+1+1} Ap {Bb with heap:=h',toks:=tk}:=.of_keep hk;exact⟨_,Ap,R5,Au.trans (B6.trans (S4.trans S5)),bm R4.FK ⟨c',J5⟩ (AX.IX GK),k⟩⟩) hn⟩) rfl
theorem iE{elt target iter:Expr}{cl:List (Str×Addr)}{Q:Fl->u->Prop}(IG:closureFor scope env=pure cl)(EB:scope.kind=.function)(FY:∀y∈scope.names,y.2≠ .cell)(GH:∀y∈scope.names,y.2=.local->scope.names.lookup y.1=some .local)
  (h:Kz c A target iter env (fun xs G Ab=>∀qQ C,Ab qQ=none->Ab C=none->qQ≠C->∃Rw:Nat->u->Prop,G ((Ab.set qQ (.list [])).set C (.fr []))/\Rw 0 ((Ab.set qQ (.list [])).set C (.fr []))/\
   (∀k y Ac,xs[k]? =some y->Rw k Ac->AU c A (fun v=>assign target (compEnvC scope cl C env) v) y (CT c A ifs elt (compEnvC scope cl C env) qQ (fun Ap=>G Ap/\Rw (k+1) Ap)) Ac)/\
   ∀Ac,Rw xs.length Ac->∃ys m Bd,Ac qQ=some (.list ys)/\Ac C=some (.fr m)/\Bd.le Ac/\Bd qQ=none/\Bd C=some (.fr m)/\AU c A (fun v=>assign (.Name x pos') env v) (.lst ys) (fun Ah=>∃m' Ap,Ah C=some (.fr m')/\Ap.le Ah/\Ap C=none/\Q .next Ap) Bd) U)
  (Pu:swapsWith (.ListComp elt [⟨target,iter,ifs,0⟩] scope pos) (some (.Name x pos')) Dy.line env=pure true)
  (hs:∀x,foldedSetIterable iter env x=pure x):EX c A (.Assign [.Name x pos'] (.ListComp elt [⟨target,iter,ifs,0⟩] scope pos) Dy) env Q U:=fun ρ s R=>by
 refine J (exec_Assign_Name_used _ _ _ _ Pu) (Am (Jm (Am ?_)));rw[arm_evalThenUse_ListComp];refine Am (wpAny_comprehension_free (use:=some (assign (.Name x pos') env)) rfl hs IG EB GH (BE (h s R) (fun v Ak Ar=>BE Ar (fun it Aw zz=>?_) fun Z Z e=>e.elim) fun Z Z e=>e.elim));obtain⟨Ab,xs,G,P,I,AV,AP,pn,i0,W,k⟩:=zz;refine iT (σ₀:=U) (s₀:=s) (RR:=fun acc C=>compPost (model c.prog c.w) A Ca (some (assign (.Name x pos') env)) (fun Z s'=>wpAny (model c.prog c.w) A (pure Rn) (fun Z s'=>wpAny (model c.prog c.w) A (pure Flow.next) (qz c ρ U s Q) Ca s') Ca s') acc C) EB FY W pn AV AP i0 fun qQ C hD hC Cc=>Hg (k qQ C hD hC Cc) fun Rw g0 j0 turn done=>⟨Rw,g0,j0,turn,fun s' Ac R' S' j=>?_⟩
 refine Rp (done Ac j) fun ys m Bd d1 d2 d3 d4 d5 q=>An ((R'.obj _ _ d1).1) fun vs hl rr=>?_;have TH:¬ρ qQ:=fun q=>by have d1:=((R'.res _ q).1)▸d1;injection d1
 have TJ:¬tk ρ Bd qQ:=fun t=>t.elim (fun e=>e d4) TH;have Ya:=R'.drop d3;have Ho:Bp U s Bd s':=S'.drop d3;have rv:VR (tk ρ Bd) s'.heap (.lst ys) (.ref qQ):=bm TJ hl (rr.mono (⟨fun Z Z e=>e,fun a o z e=>⟨bh (u.le_none d3) z,e⟩⟩:Keeps (tk ρ Ac) s'.heap (tk ρ Bd) s'.heap));refine BE (q s' _ Ya rv) (fun Z s2 zz=>?_) fun Z Z e=>e.elim;obtain⟨Ah,R2,S2,m',Ap,e1,e2,e3,q2⟩:=zz;refine An ((R2.obj _ _ e1).1) fun f hn Z=>⟨f,hn,fun h' sb=>?_⟩
 refine D4 (jr R2 e1 e2 e3 sb) fun R3 K3 g3=>?_;have Uo:=Ho.trans S2;refine AE (AE ⟨.next,Ap,R3,⟨fun b o e z=>g3 b o (fun hb=>?_) (Uo.grow b o e z),fun b o e z=>u.le_none e2 (Uo.fresh b o e z)⟩,rfl,q2⟩);subst hb;have:=Uo.fresh b o e z;have this:=e1▸this;injection this
end
noncomputable def up(p:List Nat)(a:Nat):Nat:=p.getD a a
noncomputable def Hq(p:List Nat):Nat->Nat->Nat
 |0,a=>a
 |n+1,a=>if up p a=a then a else Hq p n (up p a)
noncomputable def find(p:List Nat)(a:Nat):Nat:=Hq p a a
def Dc(p:List Nat):Prop:=∀a,up p a<=a
theorem pZ(h:Dc p):∀(n a:Nat),a<=n->Hq p n a=Hq p a a:=by
 intro n
 induction n using Kk with
 |ind n ih=>
  intro a ha
  cases n with
  |zero=>
   obtain rfl:a=0:=CW (aA D qV 1 1 D qV (c1 _) ha rfl) (bP qV D 1 (c1 _) rfl);rfl
  |succ n=>
   cases a with
   |zero=>
    have h0:=h 0;have:up p 0=0:=by exact CW (aA D qV 1 1 D qV (c1 _) h0 rfl) (bP qV D 1 (c1 _) rfl)
    simp[Hq,this]
   |succ a=>
    unfold Hq
    by_cases e:up p (a+1)=a+1
    ·exact J (AS e) (J (AS e) rfl)
    ·refine J (AK e) (J (AK e) (?_))
     have h1:=h (a+1);exact J (ih n (by exact Bf _) _ (by exact aH D Y 1 1 (.a qY qW) (.a Y qW) 1 (.a D qW) (.a qY qW) (c3 _ _ _) ha (DF (aA D (.a Y qW) 1 1 D (.a Y qW) (c2 _ _) h1 rfl) e) rfl)) (J (ih a (by assumption) _ (by exact aA D Y 1 1 (.a D qW) (.a Y qW) (c2 _ _) (DF (aA D (.a Y qW) 1 1 D (.a Y qW) (c2 _ _) h1 rfl) e) rfl)) rfl)
theorem aT(e:up p a=a):find p a=a:=by
 unfold find
 cases a with
 |zero=>rfl
 |succ a=>unfold Hq;exact J (if_pos e) rfl
theorem cT(h:Dc p)(a:Nat):find p (up p a)=find p a:=by
 by_cases e:up p a=a
 ·exact J e rfl
 ·have h1:=h a
  show _=Hq p a a
  cases a with
  |zero=>exact Ba (show up p 0=0 by exact CW (aA D qV 0 1 (.a D qW) qV (c1 _) (DF (aA D qV 1 1 D qV (c1 _) h1 rfl) e) rfl) (aA qV D 0 1 (.a D qW) qV (c1 _) (DF (aA D qV 1 1 D qV (c1 _) h1 rfl) e) rfl)) e
  |succ a=>
   unfold Hq;refine J (AK e) ?_;exact(pZ h a _ (by exact aA D Y 1 1 (.a D qW) (.a Y qW) (c2 _ _) (DF (aA D (.a Y qW) 1 1 D (.a Y qW) (c2 _ _) h1 rfl) e) rfl)).symm
theorem bR(h:Dc p)(a:Nat):up p (find p a)=find p a:=by
 induction a using Kk with
 |ind a ih=>
  by_cases e:up p a=a
  ·exact J (aT e) (J e rfl)
  ·refine Rv (cT h a) ?_
   have:=h a;exact ih _ (by exact aA (.a D qW) Y 1 1 (.a D qW) Y (c2 _ _) (DF (aA D Y 1 1 D Y (c2 _ _) this rfl) e) rfl)
theorem cY(h:Dc p)(a:Nat):find p a<=a:=by
 induction a using Kk with
 |ind a ih=>
  by_cases e:up p a=a
  ·exact J (aT e) (Bf _)
  ·refine Rv (cT h a) ?_
   have:=h a;exact AG (ih _ (by exact aA (.a D qW) Y 1 1 (.a D qW) Y (c2 _ _) (DF (aA D Y 1 1 D Y (c2 _ _) this rfl) e) rfl)) (h a)
theorem ew(h:Dc p)(a:Nat):find p (find p a)=find p a:=aT (bR h a)
theorem cb(hg:g<p.length)(a:Nat):up (p.set g k) a=if a=g then k else up p a:=by
 unfold up;refine J (Er) (J (Er) (J (Nt) (?_)))
 by_cases e:a=g
 ·refine J e ?_;simp[hg]
 ·exact J (AK (fun h=>e h.symm)) (J (AK e) rfl)
theorem lN(h:Dc p)(hg:g<p.length)(hk:k<=g):Dc (p.set g k):=fun a=>by
 refine J (cb hg _) ?_
 set_option tactic.hygienic true in split
 ·rename_i e;exact J e hk
 ·exact h a
theorem d7(h:Dc p)(hg:g<p.length)(hk:k<g)(rg:up p g=g)(rk:up p k=k)(a:Nat):find (p.set g k) a=if find p a=g then k else find p a:=by
 have h':=lN h hg (Dt hk)
 induction a using Kk with
 |ind a ih=>
  by_cases ea:a=g
  ·refine J ea ?_
   refine J (aT rg) (J (AS rfl) (Rv (cT h' _) (J (cb hg _) (J (AS rfl) (?_)))));exact aT (by exact J (cb hg _) (J (AK (by exact fun e=>Ei 0 (aH qW qV 0 1 (.a D qW) Y 1 Y D (c2 _ _) hk (AA e.symm) rfl))) rk))
  ·by_cases e:up p a=a
   ·refine J (aT e) (J (AK ea) (?_))
    exact aT (by exact J (cb hg _) (J (AK ea) e))
   ·have:=h a
    exact Rv (cT h' _) (J (cb hg _) (J (AK ea) (J (ih _ (by exact aA (.a D qW) Y 1 1 (.a D qW) Y (c2 _ _) (DF (aA D Y 1 1 D Y (c2 _ _) this rfl) e) rfl)) (J (cT h _) rfl))))
theorem bj(a:Nat):up (p++[p.length]) a=up p a:=by
 unfold up;refine J (Er) (J (Er) (?_))
 by_cases h:a<p.length
 ·exact J (Kl h) rfl
 ·refine J (MB (by exact aA D Y 1 1 D Y (c2 _ _) (DR h) rfl)) (J (H6 (by exact aA D Y 1 1 D Y (c2 _ _) (DR h) rfl:p.length<=a)) (?_))
  by_cases e:a=p.length
  ·refine J e ?_;simp
  ·exact J (List.getElem?_eq_none (by simp;exact aH qW D 1 1 qY (.a D Y) 1 (.a Y qW) qY (c3 _ _ _) EM (Nat.lt_of_le_of_ne (aA Y qY 1 1 (.a D Y) qY (c3 _ _ _) (Nat.le_of_eq (Nat.sub_add_cancel (aA D Y 1 1 D Y (c2 _ _) (Nat.le_of_not_lt h) rfl))) rfl) (Ne.symm e)) rfl)) rfl
theorem kN(h:∀a,up p a=up q a):∀n a,Hq p n a=Hq q n a
 |0,a=>rfl
 |n+1,a=>by
       by_cases e:up q a=a
       ·unfold Hq;exact J (h a) (J (if_pos e) (J (if_pos e) rfl))
       ·unfold Hq;exact J (h a) (J (if_neg e) (J (if_neg e) (kN h n _)))
theorem bZ(p:List Nat)(a:Nat):find (p++[p.length]) a=find p a:=kN bj _ _
theorem eV(h:Dc p)(ha:a<p.length):find p a<p.length:=Dj (cY h a) ha
noncomputable abbrev Node:=Str×List Nat
noncomputable def nV(n:Node):V:=.tup (.str n.1::n.2.map fun k=> .int (k:Nat))
noncomputable abbrev iV(n:Nat):V:=.int (n:Nat)
noncomputable def AW(l:List Nat):List V:=l.map iV
noncomputable def Cu(ns:List Node):List (V×V):=ns.zipIdx.map fun p=>(nV p.1,iV p.2)
theorem qE(h:i<l.length):(AW l)[i]? =some (iV (l.getD i i)):=by unfold AW;exact J (Cs) (J (Cr h) (J (Er) (J (Cr h) rfl)))
theorem nj(l:List Nat):(AW l).length=l.length:=by simp[AW]
inductive Lb where
 |h (a:Nat)|l (a:Nat)|o (a:Nat)|A9 (i:Nat)|use (c:Nat)|A0 (k:Nat)|way (k:Nat)|vi (k:Nat)|vd (k:Nat)|ci (k:Nat)|cd (k:Nat)|cm (k:Nat)|F6 (k:Nat)
noncomputable def Lb.ctorIdx(x:Lb):Nat:=Lb.casesOn x (fun _=>0) (fun _=>1) (fun _=>2) (fun _=>3) (fun _=>4) (fun _=>5) (fun _=>6) (fun _=>7) (fun _=>8) (fun _=>9) (fun _=>10) (fun _=>11) (fun _=>12)
noncomputable abbrev Lb.hi:Lb:=.h 0
noncomputable abbrev Lb.hd:Lb:=.h 1
noncomputable abbrev Lb.bi:Lb:=.h 2
noncomputable abbrev Lb.bd:Lb:=.h 3
noncomputable abbrev Lb.nodes:Lb:=.h 4
noncomputable abbrev Lb.AJ:Lb:=.h 5
noncomputable abbrev Lb.AR:Lb:=.h 6
noncomputable abbrev Lb.Bh:Lb:=.h 7
noncomputable abbrev Lb.ui:Lb:=.h 8
noncomputable abbrev Lb.ud:Lb:=.h 9
noncomputable abbrev Lb.par:Lb:=.h 10
noncomputable abbrev Lb.Ao:Lb:=.h 11
noncomputable abbrev Lb.merged:Lb:=.h 12
noncomputable abbrev Lb.AF:Lb:=.h 13
noncomputable abbrev Lb.AQ:Lb:=.h 14
noncomputable abbrev Lb.known:Lb:=.h 15
noncomputable abbrev Lb.above:Lb:=.h 16
noncomputable abbrev Lb.waiting:Lb:=.h 17
noncomputable abbrev Lb.li:Lb:=.l 0
noncomputable abbrev Lb.ld:Lb:=.l 1
noncomputable abbrev Lb.beneath:Lb:=.l 2
noncomputable abbrev Lb.told:Lb:=.l 3
noncomputable abbrev Lb.Bz:Lb:=.l 4
noncomputable abbrev Lb.B1:Lb:=.l 5
noncomputable abbrev Lb.hand:Lb:=.o 0
noncomputable abbrev Lb.cells:Lb:=.o 1
noncomputable abbrev Lb.Wl:Lb:=.o 2
noncomputable abbrev Lb.pairs:Lb:=.o 3
noncomputable abbrev XM:=Lb->Addr
def Inj(X:XM):Prop:=∀l m,X l=X m->l=m
theorem Inj.ne{X:XM}(h:Inj X)(k:l≠m):X l≠X m:=fun e=>k (h _ _ e)
noncomputable def Lb.num:Lb->Nat×Nat
 | .h a=>(a,0)| .l a=>(20+a,0)| .o a=>(34+a,0)| .A9 i=>(18,i)| .use c=>(19,c)| .A0 k=>(26,k)| .way k=>(27,k)| .vi k=>(28,k)| .vd k=>(29,k)| .ci k=>(30,k)| .cd k=>(31,k)| .cm k=>(32,k)| .F6 k=>(33,k)
def below(n a:Nat):Prop:=cond (Nat.ble (a+1) n) True False
theorem ng(h:below n a):a<n:=by
 unfold below at h
 cases e:Nat.ble (a+1) n with
 |true=>exact Dr e
 |false=>have h:=e▸h;exact Kt h
theorem lq{P:Nat->Prop}:∀a,a<0->P a:=fun a h=>Ba h (Gu a)
theorem af{P:Nat->Prop}(h:∀a,a<n->P a)(k:P n):∀a,a<n+1->P a:=fun a q=>(Nat.lt_or_eq_of_le (QU q)).elim (h a) fun e=>e▸k
theorem aU{α:Type}{x:Option α}{o:α}(e:x=some o):x≠none:=fun h=>nomatch (e.symm.trans h)
theorem AH{X:XM}(h:Inj X)(e:Nat.beq l.num.1 m.num.1=false):X l≠X m:=fun q=>by rw[h _ _ q]at e;exact Ed (e.symm.trans (Nat.beq_refl _))
noncomputable def XM.to(X:XM)(l:Lb)(a:Addr):XM:=open Classical in fun m=>if m=l then a else if X m=a then X l else X m
theorem AD{X:XM}{U:u}{l m:Lb}{o:O}{x:Option O}(h:Inj X)(e:Nat.beq l.num.1 m.num.1=false)(k:U (X l)=x):(U.set (X m) o) (X l)=x:=aB (AH h e) k
theorem XM.Bq(X:XM)(l:Lb)(a:Addr):X.to l a l=a:=by unfold XM.to;exact J (if_pos rfl) rfl
theorem XM.Bm(X:XM)(h:m≠l)(k:X m≠a):X.to l a m=X m:=by unfold XM.to;exact J (if_neg h) (J (if_neg k) rfl)
theorem XM.D1{X:XM}(h:Inj X)(l:Lb)(a:Addr):Inj (X.to l a):=fun m n e=>by
 unfold XM.to at e
 by_cases e1:m=l
 ·by_cases e2:n=l
  ·exact J e1 (J e2 rfl)
  ·rw[AS e1,AK e2]at e
   by_cases e3:X n=a
   ·rw[AS e3]at e;exact Ba (h n l (e3.trans e)) e2
   ·rw[AK e3]at e;exact Ba e.symm e3
 ·rw[AK e1]at e
  by_cases e2:n=l
  ·rw[AS e2]at e
   by_cases e3:X m=a
   ·rw[AS e3]at e;exact Ba (h m l (e3.trans e.symm)) e1
   ·rw[AK e3]at e;exact Ba e e3
  ·rw[AK e2]at e
   by_cases e3:X m=a
   ·by_cases e4:X n=a
    ·exact h m n (e3.trans e4.symm)
    ·rw[AS e3,AK e4]at e;exact Ba (h l n e).symm e2
   ·by_cases e4:X n=a
    ·rw[AK e3,AS e4]at e;exact Ba (h m l e) e1
    ·rw[AK e3,AK e4]at e;exact h m n e
structure HS where
 nodes:List Node
 par:List Nat
 Ao:List (List Nat)
 merged:List V
 AF:List V
 AQ:List V
 known:List (V×V)
 As:Nat->List Nat
 waiting:List Nat
 ws:List Int
 ds:List Int
noncomputable def IY(X:XM):List (String×V):=[("nodes",.ex (.ref (X .nodes))),("numbers",.ex (.ref (X .AJ))),("weights",.ex (.ref (X .AR))),("depths",.ex (.ref (X .Bh)))]
noncomputable def IZ(X:XM):List (String×V):=[("above",.ex (.ref (X .par))),("lots",.ex (.ref (X .Ao))),("merged",.ex (.ref (X .merged)))]
noncomputable def Fy(X:XM):List (String×V):=[("bank",.ex (.ref (X .bi))),("unions",.ex (.ref (X .ui))),("edges",.ex (.ref (X .AF))),("forest",.ex (.ref (X .AQ))),("known",.ex (.ref (X .known))),("above",.ex (.ref (X .above))),("waiting",.ex (.ref (X .waiting))),("backs",.int 0)]
structure bv(X:XM)(U:u)(ns:List Node)(ws ds:List Int):Prop where
 i:U (X .bi)=some (.inst 186 (X .bd))
 d:U (X .bd)=some (.ns (IY X))
 nodes:U (X .nodes)=some (.list (ns.map nV))
 AJ:U (X .AJ)=some (.dict (Cu ns))
 AR:U (X .AR)=some (.list (ws.map .int))
 Bh:U (X .Bh)=some (.list (ds.map .int))
structure a8(X:XM)(U:u)(p:List Nat)(ls:List (List Nat))(mg:List V):Prop where
 i:U (X .ui)=some (.inst 357 (X .ud))
 d:U (X .ud)=some (.ns (IZ X))
 par:U (X .par)=some (.list (AW p))
 Ao:U (X .Ao)=some (.list ((List.range ls.length).map fun i=> .ex (.ref (X (.A9 i)))))
 A9:∀i l,ls[i]? =some l->U (X (.A9 i))=some (.list (AW l))
 merged:U (X .merged)=some (.list mg)
def HS.root(S:HS)(c:Nat):Prop:=c<S.par.length/\up S.par c=c
structure AB(X:XM)(S:HS)(l:List (V×V)):Prop where
 keys:∀p∈l,∃j,p.1=.int j
 len:l.length<=S.par.length
 at_:∀c,S.root c->Az l (iV c)=some (.ex (.ref (X (.use c))))
structure Af(X:XM)(U:u)(S:HS):Prop where
 i:U (X .hi)=some (.inst 487 (X .hd))
 d:U (X .hd)=some (.ns (Fy X))
 BS:bv X U S.nodes S.ws S.ds
 Bk:a8 X U S.par S.Ao S.merged
 AF:U (X .AF)=some (.list S.AF)
 AQ:U (X .AQ)=some (.list S.AQ)
 known:U (X .known)=some (.dict S.known)
 above:∃l,U (X .above)=some (.dict l)/\AB X S l
 use:∀c,S.root c->U (X (.use c))=some (.list (AW (S.As c)))
 waiting:U (X .waiting)=some (.list (AW S.waiting))
theorem bv.le{X:XM}(h:bv X U ns ws ds)(k:U.le Ac):bv X Ac ns ws ds:=⟨k _ _ h.i,k _ _ h.d,k _ _ h.nodes,k _ _ h.AJ,k _ _ h.AR,k _ _ h.Bh⟩
theorem a8.le{X:XM}{U Ac:u}{p:List Nat}{Ao:List (List Nat)}{mg:List V}(h:a8 X U p Ao mg)(k:U.le Ac):a8 X Ac p Ao mg:=⟨k _ _ h.i,k _ _ h.d,k _ _ h.par,k _ _ h.Ao,fun i l e=>k _ _ (h.A9 i l e),k _ _ h.merged⟩
theorem Af.le{X:XM}{S:HS}(h:Af X U S)(k:U.le Ac):Af X Ac S:=
 ⟨k _ _ h.i,k _ _ h.d,h.BS.le k,h.Bk.le k,k _ _ h.AF,k _ _ h.AQ,k _ _ h.known,h.above.imp fun l E1=>A5 E1 fun a b=>⟨k _ _ a,b⟩,fun Aa hu=>k _ _ (h.use Aa hu),k _ _ h.waiting⟩
theorem l8(a:List Nat):∀(b:List Nat),KZ (a.map fun k=>V.int (k:Nat)) (b.map fun k=>V.int (k:Nat)):=by
 induction a with
 |nil=>intro b;exact Al
 |cons x a ih=>
  intro b
  cases b with
  |nil=>exact Al
  |cons y b=>show Sm (V.int x) (V.int y)/\_;exact⟨Al,ih b⟩
theorem d8(n:Node):KV 3 (nV n):=by
 intro y hy
 rcases BP.mp hy with rfl|hy
 ·exact Al
 ·exact An (BF.mp hy) fun k Z Bg=>Rv Bg Al
noncomputable def cG:Mk where
 is:=fun x=>∃n:Node,x=nV n
 deep:=fun x ⟨n,e⟩=>e▸d8 n
 tup:=fun x ⟨n,e⟩=>⟨_,e⟩
 sm:=fun x y ⟨n,e⟩ ⟨m,e'⟩=>by
  subst e e'
  show Sm (V.str n.1) (V.str m.1)/\KZ _ _
  exact⟨Al,l8 _ _⟩
theorem fP(h:nV a=nV b):a=b:=by
 obtain⟨x,l⟩:=a;obtain⟨y,m⟩:=b;unfold nV at h;injection h with h
 injection h with h1 h2
 injection h1 with h1
 subst h1
 congr 1
 simp only at h2
 induction l generalizing m with
 |nil=>cases m with
  |nil=>rfl
  |cons _ _=>injection h2
 |cons k l ih=>
  cases m with
  |nil=>injection h2
  |cons k' m=>
   rw[Ec,Ec]at h2;injection h2 with h3 h4
   injection h3 with h3
   refine J (Int.ofNat.inj h3) (J (ih m h4) ?_);rfl
theorem oz:(SK.mk cG).fit:=fun x IA=>Ax IA fun n e=>⟨n.1,n.2.map (fun k:Nat=>(k:Int)),by refine J e ?_;unfold nV;exact J List.map_map rfl⟩
structure Pt(f:Nat->Nat):Prop where
 le:∀n,f n<=n
 idem:∀n,f (f n)=f n
noncomputable def jn(f:Nat->Nat)(a b:Nat):Nat->Nat:=fun n=>if f n=max (f a) (f b)then min (f a) (f b)else f n
theorem Pt.jn(h:Pt f)(a b:Nat):Pt (jn f a b) where
 le n:=by
  unfold Mine.Internal.jn
  set_option tactic.hygienic true in split
  ·rename_i e;have:=h.le n;exact t4 D Y 1 1 qY Y 1 D (.v 4) 1 qX qY 1 (.v 4) qX (c5 _ _ _ _ _) this (Nat.min_le_right _ _) (AA e.symm) (Nat.le_max_right _ _) rfl
  ·exact h.le n
 idem n:=by
  unfold Mine.Internal.jn;have ha:=h.idem a;have hb:=h.idem b;have hn:=h.idem n;have hm:f (min (f a) (f b))=min (f a) (f b):=by
   rcases Jo (f a) (f b)with l|l
   ·refine J (JI l) (J ha ?_);rfl
   ·refine J (JG l) (J hb ?_);rfl
  by_cases e:f n=max (f a) (f b)
  ·refine J (AS e) (J hm ?_)
   split
   ·rfl
   ·rfl
  ·refine J (AK e) (J hn (J (AK e) ?_));rfl
theorem b9(e:f i=f j):jn f a b i=jn f a b j:=by unfold jn;exact J e rfl
theorem qD(f:Nat->Nat)(a b:Nat):jn f a b a=jn f a b b:=by
 unfold jn
 rcases Jo (f a) (f b)with l|l
 ·refine J (JH l) (J (JI l) (J (AS rfl) (?_)));split<;>rfl
 ·refine J (JJ l) (J (JG l) (J (AS rfl) (?_)));split<;>rfl
theorem p7(e:f a=f b):jn f a b=f:=by
 funext n;unfold jn;refine J e (J (Nat.max_self _) (J (Nat.min_self _) (?_)));set_option tactic.hygienic true in split
 ·rename_i h;exact h.symm
 ·rfl
theorem nG{f g:Nat->Nat}{a b i j:Nat}(h:∀i j,f i=f j->g i=g j)(hp:Pt f)(k:g a=g b)(e:jn f a b i=jn f a b j):g i=g j:=by
 have key:∀i,g i=g (jn f a b i):=by
  intro i;unfold jn
  set_option tactic.hygienic true in split
  ·rename_i e1
   refine Or.elim (Jo (f a) (f b)) (fun l=>?_) fun l=>?_
   ·rw[JH l]at e1
    refine J (JI l) (J (h (f a) a (hp.idem a)) (J k ?_));exact h _ _ e1
   ·rw[JJ l]at e1
    refine J (JG l) (J (h (f b) b (hp.idem b)) (Rv k ?_));exact h _ _ e1
  ·exact(h _ _ (hp.idem i)).symm
 refine J (key i) (J (key j) (J e ?_));rfl
noncomputable def canon(f:Nat->Nat)(nd:Node):Node:=(nd.1,nd.2.map f)
theorem dL(h:∀i j,f i=f j->g i=g j)(e:canon f x=canon f y):canon g x=canon g y:=by
 obtain⟨x1,x2⟩:=x;obtain⟨y1,y2⟩:=y;unfold canon at e ⊢;simp only[Prod.mk.injEq]at e ⊢;refine⟨e.1,?_⟩;have e2:=e.2;clear e
 induction x2 generalizing y2 with
 |nil=>cases y2 with
  |nil=>rfl
  |cons _ _=>injection e2
 |cons k l ih=>
  cases y2 with
  |nil=>injection e2
  |cons k' m=>
   rw[Ec,Ec]at e2 ⊢;injection e2 with e3 e4
   refine J (h _ _ e3) (J (ih m e4) ?_);rfl
theorem canon_canon(h:∀n,f (f n)=f n)(x:Node):canon f (canon f x)=canon f x:=by unfold canon;simp only[List.map_map,Prod.mk.injEq,true_and];exact List.map_congr_left fun a Z=>h a
def Cl(ns:List Node)(g:Nat->Nat):Prop:=∀i j x y,ns[i]? =some x->ns[j]? =some y->canon g x=canon g y->g i=g j
def Tl(R:List (Nat×Nat))(g:Nat->Nat):Prop:=∀p∈R,g p.1=g p.2
def Eo(ns:List Node)(R:List (Nat×Nat))(f:Nat->Nat):Prop:=∀g,Cl ns g->Tl R g->∀i j,f i=f j->g i=g j
structure Ef(ns:List Node)(R:List (Nat×Nat))(f:Nat->Nat):Prop where
 pt:Pt f
 cl:Cl ns f
 tl:Tl R f
 snd:Eo ns R f
theorem Ef.uniq{R:List (Nat×Nat)}(h:Ef ns R f)(k:Ef ns R g):f=g:=by
 funext n
 have a:f (g n)=f n:=k.snd f h.cl h.tl _ _ (k.pt.idem n);have b:g (f n)=g n:=h.snd g k.cl k.tl _ _ (h.pt.idem n);have c:f n<=g n:=by exact Rv a (h.pt.le _)
 have d:g n<=f n:=by exact Rv b (k.pt.le _)
 exact CW (aA D Y 1 1 D Y (c2 _ _) c rfl) (aA D Y 1 1 D Y (c2 _ _) d rfl)
theorem Eo.id(ns:List Node)(R:List (Nat×Nat)):Eo ns R id:=fun g Z Z i j e=>by exact J (show i=j from e) rfl
theorem Pt.id:Pt id:=⟨fun Z=>Bf _,fun Z=>rfl⟩
def Dz(ns:List Node)(R:List (Nat×Nat))(a b:Nat):Prop:=∀g,Cl ns g->Tl R g->g a=g b
theorem Eo.jn{R:List (Nat×Nat)}{f:Nat->Nat}(h:Eo ns R f)(p:Pt f){a b:Nat}(o:Dz ns R a b):Eo ns R (jn f a b):=fun g c t i j e=>nG (h g c t) p (o g c t) e
theorem Dz.told{R:List (Nat×Nat)}(h:(a,b)∈R):Dz ns R a b:=fun g c t=>t _ h
theorem Dz.Ma{R:List (Nat×Nat)}(h:Eo ns R f)(ha:ns[a]? =some x)(hb:ns[b]? =some y)(e:canon f x=canon f y):Dz ns R a b:=fun g c t=>c a b x y ha hb (dL (h g c t) e)
theorem Eo.more{R R':List (Nat×Nat)}(h:Eo ns R f)(hn:∀(i:Nat) x,ns[i]? =some x->Ce[i]? =some x)(hr:∀p∈R,p∈R'):Eo Ce R' f:=fun g c t=>h g (fun i j x y hx hy e=>c i j x y (hn _ _ hx) (hn _ _ hy) e) fun p hp=>t p (hr p hp)
theorem Ef.told{R R':List (Nat×Nat)}(h:Ef ns R f)(t:Tl R' f)(hr:∀p∈R,p∈R'):Ef ns R' f:=⟨h.pt,h.cl,t,h.snd.more (fun Z Z e=>e) hr⟩
noncomputable def Fz(f:Nat->Nat)(R:List (Nat×Nat)):Nat->Nat:=match R with
 |[]=>f
 |p::r=>Fz (jn f p.1 p.2) r
theorem iC{R:List (Nat×Nat)}:∀{f:Nat->Nat},f i=f j->Fz f R i=Fz f R j:=by
 induction R with
 |nil=>exact fun e=>e
 |cons p r ih=>exact fun e=>ih (b9 e)
theorem t8{R:List (Nat×Nat)}:∀{f:Nat->Nat},Pt f->Pt (Fz f R):=by
 induction R with
 |nil=>exact fun h=>h
 |cons p r ih=>exact fun h=>ih (h.jn _ _)
theorem tH{R:List (Nat×Nat)}:∀{f:Nat->Nat},Tl R (Fz f R):=by
 induction R with
 |nil=>exact fun Z hp=>nomatch hp
 |cons q r ih=>
  intro f p hp
  cases hp with
  |head=>exact iC (R:=r) (qD f _ _)
  |tail _ hp=>exact ih p hp
theorem rl{g:Nat->Nat}{R:List (Nat×Nat)}:∀{f:Nat->Nat},(∀i j,f i=f j->g i=g j)->Pt f->Tl R g->∀i j,Fz f R i=Fz f R j->g i=g j:=by
 induction R with
 |nil=>exact fun h Z Z=>h
 |cons q r ih=>exact fun h hp t=>ih (fun i j e=>nG h hp (t q (.head _)) e) (hp.jn _ _) fun p hp=>t p (.tail _ hp)
theorem rE{α:Type}{P:Nat->α->Prop}{R:List (Nat×Nat)}:∀{f:Nat->Nat} {n:Nat},(∀c,∃zs:List α,zs.length<=n/\∀i x,P i x->f i=c->x∈zs)->∀c,∃zs:List α,zs.length<=n*2^R.length/\∀i x,P i x->Fz f R i=c->x∈zs:=by
 induction R with
 |nil=>exact fun h c=>(h c).elim fun zs h=>⟨zs,(Nat.mul_one _).symm▸h.1,h.2⟩
 |cons q r ih=>
  intro f n h c;obtain⟨zs,a,b⟩:=ih (f:=jn f q.1 q.2) (n:=n*2) (fun c=>(h c).elim fun z1 h1=>(h (max (f q.1) (f q.2))).elim fun z2 h2=>⟨z1++z2,CY▸Nat.mul_two n▸Jn h1.1 h2.1,fun i x hp e=>by
   unfold jn at e
   set_option tactic.hygienic true in split at e
   ·rename_i e2;exact G3 _ (h2.2 i x hp e2)
   ·exact HG _ (h1.2 i x hp e)⟩) c
  refine⟨zs,?_,b⟩;exact J EG (J (Nat.pow_succ _ _) (J (Nat.mul_comm (2^_) 2) (Rv (Nat.mul_assoc _ _ _) a)))
noncomputable def AM(ns:List Node)(f:Nat->Nat)(i:Nat):Nat:=match ns[i]? with
 |none=>i
 |some x=>ns.findIdx fun y=>decide (canon f y=canon f x)
theorem bO(h:ns[i]? =some x):∃y,ns[AM ns f i]? =some y/\canon f y=canon f x/\AM ns f i<=i:=by
 unfold AM;refine J h ?_;have hx:=CP.mp h;refine Ax hx ?_;clear hx;intro hi hx;have hle:ns.findIdx (fun y=>decide (canon f y=canon f x))<=i:=DR fun BZ=>by have:=List.not_of_lt_findIdx BZ;rw[hx]at this;simp at this
 refine⟨_,Cr (by exact aH (.a D qW) Y 1 1 (.a qY qW) Y 1 D qY (c3 _ _ _) hi hle rfl),?_,hle⟩;have:=List.findIdx_getElem (p:=fun y=>decide (canon f y=canon f x)) (xs:=ns) (w:=by exact aH (.a D qW) Y 1 1 (.a qY qW) Y 1 D qY (c3 _ _ _) hi hle rfl)
 simpa using this
theorem dG(hx:ns[i]? =some x)(hy:ns[j]? =some y)(e:canon f x=canon f y):AM ns f i=AM ns f j:=by unfold AM;refine J hx (J hy ?_);simp only[e]
theorem kR(ns:List Node)(f:Nat->Nat):Pt (AM ns f) where
 le n:=by
  cases h:ns[n]? with
  |none=>unfold AM;exact J h (Nat.le_refl _)
  |some x=>refine B4 (bO (f:=f) h) fun Z Z Z h=>?_;exact h
 idem n:=by
  cases h:ns[n]? with
  |none=>
   have:AM ns f n=n:=by unfold AM;exact J h rfl
   refine J this (J this ?_);rfl
  |some x=>refine B4 (bO (f:=f) h) fun y h1 h2 Z=>?_;exact dG h1 h h2
theorem Ef.EI{R:List (Nat×Nat)}(h:Ef ns R f)(c:Nat):∃zs:List Node,zs.length<=2^R.length/\∀i x,ns[i]? =some x->f i=c->canon f x∈zs:=by
 have hl:∀i j,AM ns f i=AM ns f j->f i=f j:=by
  have one:∀i,f (AM ns f i)=f i:=by
   intro i
   cases hi:ns[i]? with
   |none=>unfold AM;exact J hi rfl
   |some x=>refine B4 (bO (f:=f) hi) fun y h1 h2 Z=>?_;exact h.cl _ _ _ _ h1 hi h2
  intro i j e;refine Rv (one i) (Rv (one j) (J e ?_));rfl
 have hg:∀i j,Fz (AM ns f) R i=Fz (AM ns f) R j->f i=f j:=rl hl (kR ns f) h.tl;have hs:=h.snd (Fz (AM ns f) R) (fun i j x y hx hy e=>iC (dG hx hy (dL hg e))) tH;obtain⟨zs,a,b⟩:=rE (α:=Node) (P:=fun i z=>∃x,ns[i]? =some x/\z=canon f x) (R:=R) (f:=AM ns f) (n:=1) (fun c=>by
  cases hc:ns[c]? with
  |none=>exact⟨[],DS _,fun i x IB e=>An IB fun y h1 h2=>by refine An (bO (f:=f) h1) fun z h3 Z=>?_;have h3:=e▸h3;have h3:=hc▸h3;cases h3⟩
  |some y=>exact⟨[canon f y],Bf _,fun i x Iw e=>An Iw fun y' h1 h2=>by refine B4 (bO (f:=f) h1) fun z h3 h4 Z=>?_;have h3:=e▸h3;have h3:=hc▸h3;obtain rfl:=BC h3;exact J h2 (J h4 (.head _))⟩) (Fz (AM ns f) R c)
 refine⟨zs,by simpa using a,fun i x hx e=>?_⟩
 by_cases hi:f c=c
 ·exact b i _ ⟨x,hx,rfl⟩ (hs _ _ (by exact J e (J hi rfl)))
 ·exact Ba (by exact Rv e (J (h.pt.idem _) rfl)) hi
noncomputable def O.ctorIdx(x:O):Nat:=O.casesOn x (fun _=>0) (fun _=>1) (fun _=>2) (fun _=>3) (fun _=>4) (fun _ _=>5)
theorem A7.lb{m n:Nat}{A:Around}(h:A7 m A)(k:Nat.ble n m=true):A7 n A:=h.le (Dr k)
theorem aE{U:u}{a b:Addr}{o:O}(h:U a=some o)(k:U b=none):a≠b:=fun e=>by subst e;have k:=h▸k;cases k
theorem u.set_comm{U:u}{a b:Addr}{o o':O}(h:a≠b):(U.set a o).set b o'=(U.set b o').set a o:=by
 funext x
 unfold u.set
 by_cases e:x=a
 ·subst e;exact J (AK h) (J (AS rfl) (J (AS rfl) rfl))
 ·by_cases e2:x=b
  ·refine Rv e2 (J (AS rfl) (J (AK e) (J (AS rfl) ?_)));rfl
  ·refine J (AK e2) (J (AK e) (J (AK e) (J (AK e2) ?_)));rfl
theorem aP{U:u}{a b:Addr}{o:O}(h:(U.set b o) a=none):a≠b/\U a=none:=by
 by_cases e:a=b
 ·subst e;rw[u.set_same]at h;cases h
 ·exact⟨e,by rwa [u.Ad _ _ e]at h⟩
theorem eH{U:u}{a b:Addr}{o:O}:(U.set b o) a=none↔a≠b/\U a=none:=⟨aP,fun I0=>A5 I0 fun h k=>by exact J (u.Ad _ _ h) k⟩
theorem Cf{U:u}{x d C e:Addr}{m:List (String×V)}(hx:U x=some (.inst C e))(hd:U d=some (.ns m)):x≠d:=fun q=>by subst q;have hd:=hx▸hd;cases hd
theorem lB(q:Q (.lst [.int (min a b),.int (max a b)]) U):a6 c A (.builtin "sorted") [.lst [.int a,.int b]] Q U:=by
 refine nI (ns:=[a,b]) (by simp) fun Ce hp hs=>?_;have hq:Ce.Perm [min a b,max a b]:=hp.trans (by
  by_cases h:a<=b
  ·refine J (SO h) (J (SN h) ?_);rfl
  ·exact J (SJ (Int.le_of_lt (Int.not_le.mp h))) (J (SP (Int.le_of_lt (Int.not_le.mp h))) (SY _ _ _)))
 have e:Ce=[min a b,max a b]:=hq.eq_of_pairwise (fun x y Z Z h1 h2=>Int.le_antisymm h1 h2) hs (List.pairwise_pair.mpr (Ra (Int.min_le_left a b) (Int.le_max_left a b)));exact J e q
theorem fQ{P:Params}{c:Cx}(h:c.K=K P):c=⟨K P,c.prog,c.w,c.h₀,c.os⟩:=by exact Rv h rfl
theorem pN(P:Params)(c:Cx)(h:c.K=K P):bY c 357:=by exact J (fQ h) (⟨rfl,rfl,rfl,rfl,rfl⟩)
theorem sZ(P:Params)(c:Cx)(h:c.K=K P):bY c 186:=by exact J (fQ h) (⟨rfl,rfl,rfl,rfl,rfl⟩)
theorem r6(P:Params)(c:Cx)(h:c.K=K P):bY c 487:=by exact J (fQ h) (⟨rfl,rfl,rfl,rfl,rfl⟩)
theorem om(P:Params)(c:Cx)(h:c.K=K P):bY c 629:=by exact J (fQ h) (⟨rfl,rfl,rfl,rfl,rfl⟩)
theorem iX(P:Params)(c:Cx)(h:c.K=K P):bY c 731:=by exact J (fQ h) (⟨rfl,rfl,rfl,rfl,rfl⟩)
theorem pJ(P:Params)(c:Cx)(h:c.K=K P):bY c 275:=by exact J (fQ h) (⟨rfl,rfl,rfl,rfl,rfl⟩)
theorem boot_len:bootBuiltins (Ai "len")=some (.builtin "len"):=by rfl
theorem boot_range:bootBuiltins (Ai "range")=some (.type "range"):=by rfl
theorem boot_sorted:bootBuiltins (Ai "sorted")=some (.builtin "sorted"):=by rfl
theorem boot_sum:bootBuiltins (Ai "sum")=some (.builtin "sum"):=by rfl
theorem boot_max:bootBuiltins (Ai "max")=some (.builtin "max"):=by rfl
theorem boot_min:bootBuiltins (Ai "min")=some (.builtin "min"):=by rfl
theorem boot_abs:bootBuiltins (Ai "abs")=some (.builtin "abs"):=by rfl
theorem boot_int:bootBuiltins (Ai "int")=some (.type "int"):=by rfl
theorem boot_tuple:bootBuiltins (Ai "tuple")=some (.type "tuple"):=by rfl
theorem boot_list:bootBuiltins (Ai "list")=some (.type "list"):=by rfl
theorem boot_set:bootBuiltins (Ai "set")=some (.type "set"):=by rfl
theorem boot_enumerate:bootBuiltins (Ai "enumerate")=some (.type "enumerate"):=by rfl
section
def HS.has(S:HS):Lb->Prop
 | .h a=>below 18 a
 | .A9 i=>i<S.Ao.length
 | .use c=>S.root c
 |_=>False
theorem HS.hc{S:HS}{P:Lb->Prop}(f:∀a,a<18->P (.h a))(hl:∀i,i<S.Ao.length->P (.A9 i))(hu:∀c,S.root c->P (.use c))(m:Lb)(h:S.has m):P m:=by
 cases m with
 |h a=>exact f a (ng h)
 |A9 i=>exact hl i h
 |use c=>exact hu c h
 |_=>exact Kt h
def Lb.fix:Lb->Prop
 | .A9 _=>False
 | .use _=>False
 |_=>True
structure Bi(X:XM)(S:HS)(U:u)(X':XM)(S':HS)(Ac:u):Prop where
 lb:∀m:Lb,m.fix->U (X m)≠none->X' m=X m
 out:∀a o,U a=some o->(∀m,S.has m->a≠X m)->Ac a=some o
 al:∀a,U a≠none->Ac a≠none
 pl:∀m,S'.has m->(∃m',S.has m'/\X' m=X m')\/U (X' m)=none
theorem Bi.refl{X:XM}{S:HS}:Bi X S U X S U:=⟨fun Z Z Z=>rfl,fun Z Z h Z=>h,fun Z h=>h,fun m h=> .inl ⟨m,h,rfl⟩⟩
theorem Bi.trans{X X' Gp:XM}{S S' Ho:HS}(h:Bi X S U X' S' Ac)(k:Bi X' S' Ac Gp Ho Bd):Bi X S U Gp Ho Bd where
 lb m i n:=by have e:=h.lb m i n;exact Rv e (k.lb m i (by exact J e (h.al _ n)))
 out a o e n:=k.out a o (h.out a o e n) fun m hm q=>by
  rcases h.pl m hm with⟨m',h1,h2⟩|h1
  ·exact n m' h1 (q.trans h2)
  ·have h1:=q.symm▸h1;have h1:=e▸h1;exact nomatch h1
 al a n:=k.al a (h.al a n)
 pl m hm:=by
  rcases k.pl m hm with⟨m',h1,h2⟩|h1
  ·exact J h2 (h.pl m' h1)
  ·exact .inr (by cases e:U (Gp m)with
    |none=>rfl
    |some o=>exact Ba h1 (h.al _ (by exact J e nofun)))
theorem Bi.keep{X X':XM}{S S':HS}(T:Bi X S U X' S' Ac)(h:U L=some o)(n:∀m,S.has m->X m≠L):Ac L=some o/\∀m,S'.has m->X' m≠L:=
 ⟨T.out L o h fun m hm e=>n m hm e.symm,fun m hm e=>by
  rcases T.pl m hm with⟨m',h1,h2⟩|h1
  ·exact n m' h1 (h2.symm.trans e)
  ·have h1:=e▸h1;have h1:=h▸h1;cases h1⟩
theorem Bi.set{X:XM}{S S':HS}(o:O)(h:S.has m)(hs:∀m,S'.has m->S.has m):Bi X S U X S' (U.set (X m) o) where
 lb _ _ _:=rfl
 out a x e n:=by exact J (u.Ad _ _ (n m h)) e
 al a n:=by
  by_cases e:a=X m
  ·exact J e (J (u.set_same _ _ _) nofun)
  ·exact J (u.Ad _ _ e) n
 pl m hm:=.inl ⟨m,hs m hm,rfl⟩
theorem Af.val{X:XM}{S:HS}(H:Af X U S):∀m,S.has m->U (X m)≠none:=fun m hm=>An H.above fun l hl Z=>
 HS.hc (P:=fun m=>U (X m)≠none) (af (af (af (af (af (af (af (af (af (af (af (af (af (af (af (af (af (af lq (aU H.i)) (aU H.d)) (aU H.BS.i)) (aU H.BS.d)) (aU H.BS.nodes)) (aU H.BS.AJ)) (aU H.BS.AR)) (aU H.BS.Bh)) (aU H.Bk.i)) (aU H.Bk.d)) (aU H.Bk.par)) (aU H.Bk.Ao)) (aU H.Bk.merged)) (aU H.AF)) (aU H.AQ)) (aU H.known)) (aU hl)) (aU H.waiting)) (fun i hi=>aU (H.Bk.A9 i _ (Cr hi))) (fun c r=>aU (H.use c r)) m hm
theorem Af.apart{X:XM}{S:HS}(H:Af X U S)(h:U L=none):∀m,S.has m->X m≠L:=fun m hm e=>H.val m hm (J e h)
theorem Bi.new{X:XM}{S S':HS}(o:O)(hv:∀m,S.has m->U (X m)≠none)(h:U a=none)(hl:¬l.fix)(hs:∀m,S'.has m->m=l\/S.has m):Bi X S U (X.to l a) S' (U.set a o) where
 lb m i n:=by refine XM.Bm X (fun e=>hl (Rv e i)) fun e=>n (by exact J e h)
 out b x e n:=by exact J (u.Ad _ _ (fun q=>by subst q;have e:=h▸e;injection e)) e
 al b n:=by exact J (u.Ad _ _ (fun q=>by subst q;exact n h)) n
 pl m hm:=by
  by_cases e:m=l
  ·exact J e (J (XM.Bq _ _ _) (.inr h))
  ·rcases hs m hm with h1|h1
   ·exact Ba h1 e
   ·exact J (XM.Bm X e (fun q=>hv m h1 (by rw[q];exact h))) (.inl ⟨m,h1,rfl⟩)
section
variable{X:XM}{U:u}{S:HS}
theorem xm{l:List (List Nat)}{L':XM}(σ:∀i x,l[i]? =some x->U (L' (.A9 i))=some (.list (AW x))){b:Addr}{o:O}(hb:∀i,i<l.length->L' (.A9 i)≠b):∀i x,l[i]? =some x->(U.set b o) (L' (.A9 i))=some (.list (AW x)):=fun i x e=>by exact J (u.Ad _ _ (hb i (CP.mp e).1)) (σ i x e)
theorem Af.other(H:Af X U S){b:Addr}{o:O}(h:∀m,S.has m->X m≠b):Af X (U.set b o) S where
 i:=(u.Ad _ _ (h .hi Al)).trans H.i
 d:=(u.Ad _ _ (h .hd Al)).trans H.d
 BS:=⟨(u.Ad _ _ (h .bi Al)).trans H.BS.i,(u.Ad _ _ (h .bd Al)).trans H.BS.d,(u.Ad _ _ (h .nodes Al)).trans H.BS.nodes,
  (u.Ad _ _ (h .AJ Al)).trans H.BS.AJ,(u.Ad _ _ (h .AR Al)).trans H.BS.AR,(u.Ad _ _ (h .Bh Al)).trans H.BS.Bh⟩
 Bk:=⟨(u.Ad _ _ (h .ui Al)).trans H.Bk.i,(u.Ad _ _ (h .ud Al)).trans H.Bk.d,(u.Ad _ _ (h .par Al)).trans H.Bk.par,
  (u.Ad _ _ (h .Ao Al)).trans H.Bk.Ao,xm H.Bk.A9 fun i hi=>h (.A9 i) hi,(u.Ad _ _ (h .merged Al)).trans H.Bk.merged⟩
 AF:=(u.Ad _ _ (h .AF Al)).trans H.AF
 AQ:=(u.Ad _ _ (h .AQ Al)).trans H.AQ
 known:=(u.Ad _ _ (h .known Al)).trans H.known
 above:=H.above.imp fun l Pw=>A5 Pw fun a b=>⟨(u.Ad _ _ (h .above Al)).trans a,b⟩
 use c r:=(u.Ad _ _ (h (.use c) r)).trans (H.use c r)
 waiting:=(u.Ad _ _ (h .waiting Al)).trans H.waiting
theorem Af.Hr(H:Af X U S)(hX:Inj X)(l:List V):Af X (U.set (X .AF) (.list l)) {S with AF:=l}:=by
 obtain⟨h1,h2,⟨b1,b2,b3,b4,b5,b6⟩,⟨u1,u2,u3,u4,u5,u6⟩,h3,h4,h5,⟨l',h6,Eg⟩,h7,h8⟩:=H;refine⟨?_,?_,⟨?_,?_,?_,?_,?_,?_⟩,⟨?_,?_,?_,?_,fun i x e=>(u.Ad _ _ (hX.ne (by intro e;injection e))).trans (u5 i x e),?_⟩,?_,?_,?_,⟨l',?_,⟨Eg.1,Eg.2,Eg.3⟩⟩,fun c r=>(u.Ad _ _ (hX.ne (by intro e;injection e))).trans (h7 c r),?_⟩
 all_goals repeat first|assumption|exact u.set_same _ _ _|refine AD hX rfl ?_
theorem Af.Hs(H:Af X U S)(hX:Inj X)(l:List (V×V)):Af X (U.set (X .known) (.dict l)) {S with known:=l}:=by
 obtain⟨h1,h2,⟨b1,b2,b3,b4,b5,b6⟩,⟨u1,u2,u3,u4,u5,u6⟩,h3,h4,h5,⟨l',h6,Eg⟩,h7,h8⟩:=H;refine⟨?_,?_,⟨?_,?_,?_,?_,?_,?_⟩,⟨?_,?_,?_,?_,fun i x e=>(u.Ad _ _ (hX.ne (by intro e;injection e))).trans (u5 i x e),?_⟩,?_,?_,?_,⟨l',?_,⟨Eg.1,Eg.2,Eg.3⟩⟩,fun c r=>(u.Ad _ _ (hX.ne (by intro e;injection e))).trans (h7 c r),?_⟩
 all_goals repeat first|assumption|exact u.set_same _ _ _|refine AD hX rfl ?_
theorem Af.F7(H:Af X U S)(hX:Inj X)(l:List Nat):Af X (U.set (X .waiting) (.list (AW l))) {S with waiting:=l}:=by
 obtain⟨h1,h2,⟨b1,b2,b3,b4,b5,b6⟩,⟨u1,u2,u3,u4,u5,u6⟩,h3,h4,h5,⟨l',h6,Eg⟩,h7,h8⟩:=H;refine⟨?_,?_,⟨?_,?_,?_,?_,?_,?_⟩,⟨?_,?_,?_,?_,fun i x e=>(u.Ad _ _ (hX.ne (by intro e;injection e))).trans (u5 i x e),?_⟩,?_,?_,?_,⟨l',?_,⟨Eg.1,Eg.2,Eg.3⟩⟩,fun c r=>(u.Ad _ _ (hX.ne (by intro e;injection e))).trans (h7 c r),?_⟩
 all_goals repeat first|assumption|exact u.set_same _ _ _|refine AD hX rfl ?_
theorem Af.Ka(H:Af X U S)(hX:Inj X)(l:List Nat):Af X (U.set (X (.use c)) (.list (AW l))) {S with As:=fun d=>if d=c then l else S.As d}:=by
 obtain⟨h1,h2,⟨b1,b2,b3,b4,b5,b6⟩,⟨u1,u2,u3,u4,u5,u6⟩,h3,h4,h5,⟨l',h6,Eg⟩,h7,h8⟩:=H;refine⟨?_,?_,⟨?_,?_,?_,?_,?_,?_⟩,⟨?_,?_,?_,?_,fun i x e=>(u.Ad _ _ (hX.ne (by intro e;injection e))).trans (u5 i x e),?_⟩,?_,?_,?_,⟨l',?_,⟨Eg.1,Eg.2,Eg.3⟩⟩,fun d r=>?_,?_⟩
 rotate_right
 ·repeat first|assumption|exact u.set_same _ _ _|refine AD hX rfl ?_
 rotate_right
 ·show _=some (O.list (AW (if d=c then l else S.As d)))
  by_cases e:d=c
  ·refine J e (J (AS rfl) (J (u.set_same _ _ _) ?_));rfl
  ·exact J (AK e) (J (u.Ad _ _ (hX.ne (by intro q;injection q with zq;subst zq;contradiction))) (h7 d r))
 all_goals repeat first|assumption|exact u.set_same _ _ _|refine AD hX rfl ?_
theorem Af.I1(H:Af X U S)(hX:Inj X)(ns:List Node)(ws ds:List Int):Af X ((((U.set (X .AJ) (.dict (Cu ns))).set (X .nodes) (.list (ns.map nV))).set (X .AR) (.list (ws.map .int))).set (X .Bh) (.list (ds.map .int))) {S with nodes:=ns,ws:=ws,ds:=ds}:=by
 obtain⟨h1,h2,⟨b1,b2,b3,b4,b5,b6⟩,⟨u1,u2,u3,u4,u5,u6⟩,h3,h4,h5,⟨l',h6,Eg⟩,h7,h8⟩:=H;refine⟨?_,?_,⟨?_,?_,?_,?_,?_,?_⟩,⟨?_,?_,?_,?_,fun i x e=>?_,?_⟩,?_,?_,?_,⟨l',?_,⟨Eg.1,Eg.2,Eg.3⟩⟩,fun c r=>?_,?_⟩
 case refine_13=>have:=u5 i x e;repeat first|assumption|exact u.set_same _ _ _|refine AD hX rfl ?_
 case refine_19=>have:=h7 c r;repeat first|assumption|exact u.set_same _ _ _|refine AD hX rfl ?_
 all_goals repeat first|assumption|exact u.set_same _ _ _|refine AD hX rfl ?_
end
end
section
noncomputable def HS.joined(S:HS)(k g:Nat)(e:V):HS:=
 {S with AF:=S.AF++[e],par:=S.par.set g k,Ao:=S.Ao.set k (S.Ao.getD k []++S.Ao.getD g []),merged:=S.merged++[.tup [iV k,iV g]],AQ:=S.AQ++[iV S.AF.length],waiting:=S.waiting++S.As g,As:=fun c=>if c=k then S.As k++S.As g else S.As c}
noncomputable def HS.made(S:HS):HS:={S with par:=S.par++[S.par.length],Ao:=S.Ao++[[S.Ao.length]],As:=fun c=>if c=S.par.length then []else S.As c}
theorem aa{S:HS}(BD:k<g)(hg:g<S.par.length):(S.joined k g e).root c↔c≠g/\S.root c:=by
 unfold HS.root HS.joined;refine J Sw ?_;refine J (cb hg _) ?_
 by_cases h:c=g
 ·refine J h (J (AS rfl) (?_));constructor
  ·intro FL;obtain⟨_,h⟩:=FL;exact⟨fun e=>Ei 0 (aH qW qV 0 1 (.a D qW) Y 1 Y D (c2 _ _) BD (AA h.symm) rfl),⟨aH (.a D qW) Y 0 1 (.a qY qW) D 1 D qY (c3 _ _ _) BD (AA h.symm) rfl,CW (aH D Y 0 1 (.a qY qW) Y 1 Y qY (c3 _ _ _) BD (AA h.symm) rfl) (aH D Y 0 1 (.a qY qW) D 1 D qY (c3 _ _ _) BD (AA h.symm) rfl)⟩⟩
  ·intro Hi;obtain⟨h,_⟩:=Hi;exact Ba rfl h
 ·refine J (AK h) ?_;constructor
  ·intro h2;exact⟨h,h2⟩
  ·intro Ia;obtain⟨_,h2⟩:=Ia;exact h2
theorem CC{S:HS}:S.made.root c↔c=S.par.length\/S.root c:=by
 unfold HS.root HS.made;simp only[List.length_append,List.length_cons,List.length_nil];refine J (bj _) ?_;constructor
 ·intro NG
  obtain⟨h,h2⟩:=NG
  by_cases e:c=S.par.length
  ·exact .inl e
  ·exact .inr ⟨by exact aA (.a D qW) Y 1 1 (.a D qW) Y (c2 _ _) (DF (aA D Y 1 1 (.a D qW) (.a Y (.a qV qW)) (c2 _ _) h rfl) e) rfl,h2⟩
 ·rintro (h|h)
  ·refine J h ?_
   refine⟨by exact Bf _,?_⟩;unfold up;exact J (Er) (J (H6 (Bf _)) rfl)
  ·exact⟨by exact aA (.a D qW) (.a Y (.a qV qW)) 1 1 (.a D qW) Y (c2 _ _) h.1 rfl,h.2⟩
theorem cX(h:y≠x):∀{l:List (V×V)} {i:Nat},Bs l x=some i->Az (l.eraseIdx i) y=Az l y
 |[],i,e=>by injection e
 |p::l,i,e=>by
  unfold Bs at e;rw[JL]at e
  by_cases q:p.1=x
  ·rw[if_pos (by simpa using q)]at e
   obtain rfl:=BC e;unfold Az;refine J List.eraseIdx_cons_zero ?_;rewrite[List.find?_cons_of_neg];rfl;refine J decide_eq_true_eq ?_;intro h2;exact h (h2.symm.trans q)
  ·rw[if_neg (by simpa using q)]at e
   refine An (El.mp e) fun j hj Bg=>?_;refine Rv Bg ?_;refine J List.eraseIdx_cons_succ ?_;unfold Az
   by_cases q2:p.1=y
   ·exact J (List.find?_cons_of_pos (by simpa using q2)) (J (List.find?_cons_of_pos (by simpa using q2)) rfl)
   ·refine J (List.find?_cons_of_neg (by simpa using q2)) (J (List.find?_cons_of_neg (by simpa using q2)) (?_))
    exact cX (l:=l) h hj
theorem bB{P:V->Prop}(hx:P x):∀{l:List (V×V)},(∀p∈l,P p.1)->∀p∈dput l x v,P p.1
 |[],h,p,hp=>by unfold dput at hp;rw[Eb]at hp;subst hp;exact hx
 |q::l,h,p,hp=>by
  unfold dput at hp
  split at hp
  ·rcases BP.mp hp with rfl|hp
   ·exact h q (.head _)
   ·exact h p (.tail _ hp)
  ·rcases BP.mp hp with rfl|hp
   ·exact h _ (.head _)
   ·exact bB (l:=l) hx (fun p hp=>h p (.tail _ hp)) p hp
theorem lu(h:Az l x=some y):(dput l x v).length=l.length:=by
 refine An (bD h) fun i hi Z=>?_;have:=AL List.length (jx (v:=v) hi)
 simpa using this
theorem av(h:iV a=iV b):a=b:=by injection h with h;exact Int.ofNat.inj h
section
variable{X:XM}{S:HS}
theorem Af.joined(H:Af X U S)(hX:Inj X){k g:Nat}(BD:k<g)(hg:g<S.par.length)(rk:up S.par k=k)(rg:up S.par g=g)(hl:AB X S l){i:Nat}(hi:Bs l (iV g)=some i)(ha:U a=none)(e:V):
  Af (X.to (.use k) a) ((((((((U.set (X .AF) (.list (S.AF++[e]))).set (X .par) (.list (AW (S.par.set g k)))).set (X (.A9 k)) (.list (AW (S.Ao.getD k []++S.Ao.getD g [])))).set (X .merged) (.list (S.merged++[.tup [iV k,iV g]]))).set (X .AQ) (.list (S.AQ++[iV S.AF.length]))).set
   (X .waiting) (.list (AW (S.waiting++S.As g)))).set (X .above) (.dict (dput (l.eraseIdx i) (iV k) (.ex (.ref a))))).set a (.list (AW (S.As k++S.As g)))) (S.joined k g e):=by
 have hv:=H.val;have ef:∀m:Lb,m.fix->S.has m->(X.to (.use k) a) m=X m:=fun m h1 h2=>XM.Bm X (fun e=>by subst e;exact h1) fun e=>hv m h2 (J e ha);have el:∀i,i<S.Ao.length->(X.to (.use k) a) (.A9 i)=X (.A9 i):=fun i h2=>XM.Bm X nofun fun e=>hv (.A9 i) h2 (J e ha);have eu:∀c,c≠k->S.root c->(X.to (.use k) a) (.use c)=X (.use c):=fun c h h2=>XM.Bm X (fun e=>h (by cases e;rfl)) fun e=>hv (.use c) h2 (J e ha);have dl:Az (l.eraseIdx i) (iV k)=some (.ex (.ref (X (.use k)))):=by exact J (cX (fun h=>by have:=av h;exact Ei 0 (aH qW qV 0 1 (.a D qW) Y 1 Y D (c2 _ _) BD (AA this.symm) rfl)) hi) (hl.at_ k ⟨by exact aH (.a D qW) Y 1 1 (.a D qW) qY 1 (.a qY qW) Y (c3 _ _ _) BD hg rfl,rk⟩)
 obtain⟨h1,h2,⟨b1,b2,b3,b4,b5,b6⟩,⟨u1,u2,u3,u4,u5,u6⟩,h3,h4,h5,⟨l',h6,Eg⟩,h7,h8⟩:=H;refine⟨?_,?_,⟨?_,?_,?_,?_,?_,?_⟩,⟨?_,?_,?_,?_,fun i x e=>?_,?_⟩,?_,?_,?_,⟨dput (l.eraseIdx i) (iV k) (.ex (.ref a)),?_,⟨?_,?_,?_⟩⟩,fun c r=>?_,?_⟩
 case refine_13=>
  have FW:i<S.Ao.length:=by
   have:=(CP.mp e).1;have e2:(S.joined k g ‹V›).Ao.length=S.Ao.length:=by unfold HS.joined;simp
   exact aH (.a D qW) Y 1 1 (.a D qW) qY 1 qY Y (c3 _ _ _) this (AA e2) rfl
  refine J (el i FW) ?_;have Cc:X (.A9 i)≠a:=fun q=>hv (.A9 i) FW (J q ha);replace e:(S.Ao.set k (S.Ao.getD k []++S.Ao.getD g []))[i]? =some x:=e;rw[Nt]at e
  by_cases q:i=k
  ·subst q
   rw[AS rfl,AS FW]at e;obtain rfl:=BC e
   repeat first|assumption|exact u.set_same _ _ _|refine aB (by first|exact AH hX rfl|assumption|exact Ne.symm (by assumption)|exact aE (by assumption) (by assumption)|exact(aE (by assumption) (by assumption)).symm) ?_
  ·rw[AK (fun h=>q h.symm)]at e
   have:=u5 i x e;have J6:X (.A9 i)≠X (.A9 k):=fun e=>q (by have:=hX _ _ e;injection this)
   repeat first|assumption|exact u.set_same _ _ _|refine aB (by first|exact AH hX rfl|assumption|exact Ne.symm (by assumption)|exact aE (by assumption) (by assumption)|exact(aE (by assumption) (by assumption)).symm) ?_
 case refine_12=>
  refine J (ef .Ao Al Al) ?_;have:(List.range (S.joined k g e).Ao.length).map (fun i=>V.ex (.ref ((X.to (.use k) a) (.A9 i))))=(List.range S.Ao.length).map (fun i=>V.ex (.ref (X (.A9 i)))):=by refine J (show(S.joined k g e).Ao.length=S.Ao.length by unfold HS.joined;simp) ?_;exact HH fun i hi=>by exact J (el i (G5.mp hi)) rfl
  refine J this ?_
  repeat first|assumption|exact u.set_same _ _ _|refine aB (by first|exact AH hX rfl|assumption|exact Ne.symm (by assumption)|exact aE (by assumption) (by assumption)|exact(aE (by assumption) (by assumption)).symm) ?_
 case refine_19=>exact bB (P:=fun x=>∃j,x=V.int j) ⟨_,rfl⟩ fun p hp=>hl.keys p (List.mem_of_mem_eraseIdx hp)
 case refine_20=>
  refine J (lu dl) ?_;refine AG (List.length_eraseIdx_le ..) ?_;have:=hl.len;unfold HS.joined;simpa using this
 case refine_21=>
  intro c hc;refine A5 ((aa BD hg).mp hc) fun c1 c2=>?_;refine J ay ?_
  by_cases q:c=k
  ·exact J q (J (AS rfl) (J (XM.Bq _ _ _) rfl))
  ·exact J (AK (fun h=>q (av h))) (J (cX (fun h=>c1 (av h)) hi) (J (hl.at_ c c2) (J (eu c q c2) rfl)))
 case refine_22=>
  refine A5 ((aa BD hg).mp r) fun c1 c2=>?_
  by_cases q:c=k
  ·refine J q ?_
   refine J (XM.Bq _ _ _) (J (u.set_same _ _ _) (?_));unfold HS.joined;simp
  ·refine J (eu c q c2) ?_
   have h9:=h7 c c2;have e1:(S.joined k g e).As c=S.As c:=by unfold HS.joined;exact if_neg q
   refine J e1 ?_;have Cc:X (.use c)≠a:=fun z=>hv (.use c) c2 (J z ha)
   repeat first|assumption|exact u.set_same _ _ _|refine aB (by first|exact AH hX rfl|assumption|exact Ne.symm (by assumption)|exact aE (by assumption) (by assumption)|exact(aE (by assumption) (by assumption)).symm) ?_
 all_goals simp only[Fy,IY,IZ,ef .hi Al Al,ef .hd Al Al,ef .bi Al Al,ef .bd Al Al,ef .nodes Al Al,ef .AJ Al Al,ef .AR Al Al,ef .Bh Al Al,ef .ui Al Al,ef .ud Al Al,ef .par Al Al,
  ef .Ao Al Al,ef .merged Al Al,ef .AF Al Al,ef .AQ Al Al,ef .known Al Al,ef .above Al Al,ef .waiting Al Al]
 all_goals repeat first|assumption|exact u.set_same _ _ _|refine aB (by first|exact AH hX rfl|assumption|exact Ne.symm (by assumption)|exact aE (by assumption) (by assumption)|exact(aE (by assumption) (by assumption)).symm) ?_
theorem Bi.joined(H:Af X U S)(BD:k<g)(hg:g<S.par.length)(rk:up S.par k=k)(ha:U a=none)(e:V)(hk:k<S.Ao.length):
  Bi X S U (X.to (.use k) a) (S.joined k g e) ((((((((U.set (X .AF) o1).set (X .par) o2).set (X (.A9 k)) o3).set (X .merged) o4).set (X .AQ) o5).set (X .waiting) o6).set (X .above) o7).set a o8):=by
 have hv:=H.val;have s1:Bi X S U X S (U.set (X .AF) o1):=.set (m:=.AF) o1 Al fun Z h=>h;have s2:=s1.trans (.set (m:=.par) (S':=S) o2 Al fun Z h=>h);have s3:=s2.trans (.set (m:=.A9 k) (S':=S) o3 hk fun Z h=>h);have s4:=s3.trans (.set (m:=.merged) (S':=S) o4 Al fun Z h=>h);have s5:=s4.trans (.set (m:=.AQ) (S':=S) o5 Al fun Z h=>h);have s6:=s5.trans (.set (m:=.waiting) (S':=S) o6 Al fun Z h=>h);have s7:=s6.trans (.set (m:=.above) (S':=S) o7 Al fun Z h=>h);have kn:∀m,S.has m->a≠X m:=fun m hm q=>hv m hm (Rv q ha);refine s7.trans (.new o8 (fun m hm=>s7.al _ (hv m hm)) ?_ (l:=.use k) id fun m hm=>?_)
 ·refine J (u.Ad _ _ (kn .above Al)) (J (u.Ad _ _ (kn .waiting Al)) (J (u.Ad _ _ (kn .AQ Al)) (J (u.Ad _ _ (kn .merged Al)) (J (u.Ad _ _ (kn (.A9 k) hk)) (J (u.Ad _ _ (kn .par Al)) (J (u.Ad _ _ (kn .AF Al)) (?_)))))))
  exact ha
 ·set_option tactic.hygienic true in cases m<;>first|exact .inr hm|skip
  ·rename_i i
   refine .inr ?_;have h2:i<(S.joined k g e).Ao.length:=hm;have:(S.joined k g e).Ao.length=S.Ao.length:=by unfold HS.joined;simp
   exact aH (.a D qW) Y 1 1 (.a D qW) qY 1 qY Y (c3 _ _ _) h2 (AA this) rfl
  ·exact .inr ((aa BD hg).mp hm).2
theorem Af.made(H:Af X U S)(hX:Inj X)(HQ:S.Ao.length=S.par.length)(hl:AB X S l)(ha:U a=none)(hb:U b=none)(Lg:b≠a):
  Af ((X.to (.A9 S.par.length) a).to (.use S.par.length) b) (((((U.set (X .par) (.list (AW (S.par++[S.par.length])))).set a (.list (AW [S.par.length]))).set (X .Ao) (.list ((List.range S.Ao.length).map (fun i=> .ex (.ref (X (.A9 i))))++[.ex (.ref a)]))).set b (.list [])).set
   (X .above) (.dict (dput l (iV S.par.length) (.ex (.ref b))))) S.made:=by
 have hv:=H.val;have ef:∀m:Lb,m.fix->S.has m->((X.to (.A9 S.par.length) a).to (.use S.par.length) b) m=X m:=fun m h1 h2=>by have e1:X.to (.A9 S.par.length) a m=X m:=XM.Bm X (fun e=>by subst e;exact h1) fun e=>hv m h2 (J e ha);exact J (XM.Bm _ (fun e=>by subst e;exact h1) (by refine J e1 ?_;exact fun e=>hv m h2 (J e hb))) (J e1 rfl)
 have el:∀i,i<S.Ao.length->((X.to (.A9 S.par.length) a).to (.use S.par.length) b) (.A9 i)=X (.A9 i):=fun i h2=>by have e1:X.to (.A9 S.par.length) a (.A9 i)=X (.A9 i):=XM.Bm X (fun e=>by injection e with zq;subst zq;exact Ei 0 (aH qW qV 0 1 D Y 1 (.a Y qW) D (c2 _ _) (AA HQ) h2 rfl)) fun e=>hv (.A9 i) h2 (J e ha);exact(XM.Bm _ (fun e=>by injection e) (by exact J e1 (fun e=>hv (.A9 i) h2 (J e hb)))).trans e1
 have Wm:((X.to (.A9 S.par.length) a).to (.use S.par.length) b) (.A9 S.par.length)=a:=by exact(XM.Bm _ (fun e=>by injection e) (by exact J (XM.Bq _ _ _) (fun e=>Lg e.symm))).trans (XM.Bq _ _ _)
 have eu:∀c,c≠S.par.length->S.root c->((X.to (.A9 S.par.length) a).to (.use S.par.length) b) (.use c)=X (.use c):=fun c h h2=>by have e1:X.to (.A9 S.par.length) a (.use c)=X (.use c):=XM.Bm X nofun fun e=>hv (.use c) h2 (J e ha);exact J (XM.Bm _ (fun e=>h (by cases e;rfl)) (by refine J e1 ?_;exact fun e=>hv (.use c) h2 (J e hb))) (J e1 rfl)
 obtain⟨h1,h2,⟨b1,b2,b3,b4,b5,b6⟩,⟨u1,u2,u3,u4,u5,u6⟩,h3,h4,h5,⟨l',h6,Eg⟩,h7,h8⟩:=H;refine⟨?_,?_,⟨?_,?_,?_,?_,?_,?_⟩,⟨?_,?_,?_,?_,fun i x e=>?_,?_⟩,?_,?_,?_,⟨dput l (iV S.par.length) (.ex (.ref b)),?_,⟨?_,?_,?_⟩⟩,fun c r=>?_,?_⟩
 case refine_13=>
  have FW:=(CP.mp e).1;replace e:(S.Ao++[[S.Ao.length]])[i]? =some x:=e
  by_cases q:i<S.Ao.length
  ·have e:=(Kl q)▸e
   refine J (el i q) ?_;have Cc:X (.A9 i)≠a:=fun z=>hv (.A9 i) q (J z ha);have Uq:X (.A9 i)≠b:=fun z=>hv (.A9 i) q (J z hb);have:=u5 i x e
   repeat first|assumption|exact u.set_same _ _ _|refine aB (by first|exact AH hX rfl|assumption|exact Ne.symm (by assumption)|exact aE (by assumption) (by assumption)|exact(aE (by assumption) (by assumption)).symm) ?_
  ·have:i=S.Ao.length:=by
    have:(S.made).Ao.length=S.Ao.length+1:=by unfold HS.made;simp
    exact CW (aH D Y 1 1 (.a D qW) qY 1 qY (.a Y qW) (c3 _ _ _) FW (AA this) rfl) (aA D Y 1 1 D Y (c2 _ _) (DR q) rfl)
   subst this;rw[MB (Bf _)]at e
   simp at e;subst e
   refine J HQ (J Wm (?_))
   repeat first|assumption|exact u.set_same _ _ _|refine aB (by first|exact AH hX rfl|assumption|exact Ne.symm (by assumption)|exact aE (by assumption) (by assumption)|exact(aE (by assumption) (by assumption)).symm) ?_
 case refine_12=>
  refine J (ef .Ao Al Al) ?_;have:(List.range (S.made).Ao.length).map (fun i=>V.ex (.ref (((X.to (.A9 S.par.length) a).to (.use S.par.length) b) (.A9 i))))=(List.range S.Ao.length).map (fun i=>V.ex (.ref (X (.A9 i))))++[.ex (.ref a)]:=by
   refine J (show(S.made).Ao.length=S.Ao.length+1 by unfold HS.made;simp) (J List.range_succ (J List.map_append (J List.map_singleton (J HQ (J Wm (?_))))));refine Rv HQ ?_
   congr 1
   exact HH fun i hi=>by exact J HQ (J (el i (G5.mp hi)) rfl)
  refine J this ?_
  repeat first|assumption|exact u.set_same _ _ _|refine aB (by first|exact AH hX rfl|assumption|exact Ne.symm (by assumption)|exact aE (by assumption) (by assumption)|exact(aE (by assumption) (by assumption)).symm) ?_
 case refine_19=>exact bB (P:=fun x=>∃j,x=V.int j) ⟨_,rfl⟩ fun p hp=>hl.keys p hp
 case refine_20=>
  refine AG aY ?_;have:=hl.len;unfold HS.made;simpa using this
 case refine_21=>
  intro c hc;refine J ay ?_
  by_cases q:c=S.par.length
  ·subst q;exact J (AS rfl) (J (XM.Bq _ _ _) rfl)
  ·refine J (AK (fun h=>q (av h))) ?_
   rcases CC.mp hc with h|h
   ·exact Ba h q
   ·exact J (hl.at_ c h) (J (eu c q h) rfl)
 case refine_22=>
  rcases CC.mp r with rfl|h
  ·refine J (XM.Bq _ _ _) ?_
   have:S.made.As S.par.length=[]:=by unfold HS.made;simp
   refine J this ?_
   repeat first|assumption|exact u.set_same _ _ _|refine aB (by first|exact AH hX rfl|assumption|exact Ne.symm (by assumption)|exact aE (by assumption) (by assumption)|exact(aE (by assumption) (by assumption)).symm) ?_
  ·have q:c≠S.par.length:=fun e=>by have:=h.1;exact Ei 0 (aH qW qV 0 1 D Y 1 (.a Y qW) D (c2 _ _) (AA e.symm) this rfl)
   refine J (eu c q h) ?_;have e1:S.made.As c=S.As c:=by unfold HS.made;exact if_neg q
   refine J e1 ?_;have h9:=h7 c h;have Cc:X (.use c)≠a:=fun z=>hv (.use c) h (J z ha);have Uq:X (.use c)≠b:=fun z=>hv (.use c) h (J z hb)
   repeat first|assumption|exact u.set_same _ _ _|refine aB (by first|exact AH hX rfl|assumption|exact Ne.symm (by assumption)|exact aE (by assumption) (by assumption)|exact(aE (by assumption) (by assumption)).symm) ?_
 all_goals simp only[Fy,IY,IZ,ef .hi Al Al,ef .hd Al Al,ef .bi Al Al,ef .bd Al Al,ef .nodes Al Al,ef .AJ Al Al,ef .AR Al Al,ef .Bh Al Al,ef .ui Al Al,ef .ud Al Al,ef .par Al Al,
  ef .Ao Al Al,ef .merged Al Al,ef .AF Al Al,ef .AQ Al Al,ef .known Al Al,ef .above Al Al,ef .waiting Al Al]
 all_goals repeat first|assumption|exact u.set_same _ _ _|refine aB (by first|exact AH hX rfl|assumption|exact Ne.symm (by assumption)|exact aE (by assumption) (by assumption)|exact(aE (by assumption) (by assumption)).symm) ?_
theorem Bi.made(H:Af X U S)(ha:U a=none)(hb:U b=none)(Lg:b≠a)(HQ:S.Ao.length=S.par.length):
  Bi X S U ((X.to (.A9 S.par.length) a).to (.use S.par.length) b) S.made (((((U.set (X .par) o1).set a o2).set (X .Ao) o3).set b o4).set (X .above) o5):=by
 have hv:=H.val;have ka:∀m,S.has m->X m≠a:=fun m hm q=>hv m hm (J q ha);have kb:∀m,S.has m->X m≠b:=fun m hm q=>hv m hm (J q hb);have ef:∀m:Lb,m.fix->U (X m)≠none->((X.to (.A9 S.par.length) a).to (.use S.par.length) b) m=X m:=fun m h1 h2=>by have e1:X.to (.A9 S.par.length) a m=X m:=XM.Bm X (fun e=>by subst e;exact h1) fun e=>h2 (J e ha);exact J (XM.Bm _ (fun e=>by subst e;exact h1) (by refine J e1 ?_;exact fun e=>h2 (J e hb))) (J e1 rfl)
 refine⟨ef,fun c o e n=>?_,fun c n=>?_,fun m hm=>?_⟩
 ·refine J (u.Ad _ _ (n .above Al)) (J (u.Ad _ _ (fun q=>by subst q;rw[hb]at e;exact nomatch e)) (J (u.Ad _ _ (n .Ao Al)) (J (u.Ad _ _ (fun q=>by subst q;rw[ha]at e;injection e)) (J (u.Ad _ _ (n .par Al)) (?_)))))
  exact e
 ·have s:∀(τ:u) (d:Addr) (o:O),τ c≠none->(τ.set d o) c≠none:=fun τ d o h=>by
   by_cases q:c=d
   ·exact J q (J (u.set_same _ _ _) nofun)
   ·exact J (u.Ad _ _ q) h
  exact s _ _ _ (s _ _ _ (s _ _ _ (s _ _ _ (s _ _ _ n))))
 ·by_cases q:m.fix
  ·have h1:S.has m:=by cases m<;>first|exact hm|exact q.elim
   exact .inl ⟨m,h1,ef m q (hv m h1)⟩
  ·set_option tactic.hygienic true in cases m<;>try exact Ba Al q
   ·rename_i i
    have h2:i<(S.made).Ao.length:=hm;have:(S.made).Ao.length=S.Ao.length+1:=by unfold HS.made;simp
    by_cases z:i<S.Ao.length
    ·refine .inl ⟨.A9 i,z,?_⟩
     have e1:X.to (.A9 S.par.length) a (.A9 i)=X (.A9 i):=XM.Bm X (fun e=>by injection e with zq;subst zq;exact Ei 0 (aH qW qV 0 1 D Y 1 (.a Y qW) D (c2 _ _) (AA HQ) z rfl)) (ka (.A9 i) z);exact(XM.Bm _ (fun e=>by injection e) (by exact J e1 (kb (.A9 i) z))).trans e1
    ·have:i=S.par.length:=by exact CW (az D Y 1 1 qY Y 1 (.a D qW) qX 1 qX (.a qY qW) (c4 _ _ _ _) (AA HQ) h2 (AA this) rfl) (aH D Y 1 1 D qY 1 qY Y (c3 _ _ _) (AA HQ.symm) (DR z) rfl)
     refine J this ?_;refine J (show((X.to (.A9 S.par.length) a).to (.use S.par.length) b) (.A9 S.par.length)=a from(XM.Bm _ (fun e=>by injection e) (by refine J (XM.Bq _ _ _) ?_;exact fun e=>Lg e.symm)).trans (XM.Bq _ _ _)) ?_;exact .inr ha
   ·rename_i c
    rcases CC.mp hm with rfl|h
    ·exact J (XM.Bq _ _ _) (.inr hb)
    ·refine .inl ⟨.use c,h,?_⟩
     have e1:X.to (.A9 S.par.length) a (.use c)=X (.use c):=XM.Bm X nofun (ka (.use c) h);exact J (XM.Bm _ (fun e=>by injection e with zq;subst zq;have:=h.1;exact Ei 0 (aA qW qV 0 1 (.a D qW) D (c1 _) this rfl)) (by refine J e1 ?_;exact kb (.use c) h)) (J e1 rfl)
end
end
noncomputable def Bx:List (Addr×O)->u->u
 |[],U=>U
 |p::r,U=>(Bx r U).set p.1 p.2
theorem ag:a∉l.map (·.1)->Bx l U a=U a:=by
 induction l with
 |nil=>exact fun Z=>rfl
 |cons p r ih=>exact fun h=>(u.Ad _ _ fun e=>h (BP.mpr (.inl e))).trans (ih fun m=>h (DX _ m))
theorem cZ:(l.map (·.1)).Nodup->(a,o)∈l->Bx l U a=some o:=by
 induction l with
 |nil=>exact fun Z h=>nomatch h
 |cons p r ih=>
  intro nd h;have nd:=CQ.mp nd
  cases h with
  |head=>exact u.set_same _ _ _
  |tail _ h=>exact(u.Ad _ _ fun e=>nd.1 (BF.mpr ⟨_,h,e⟩)).trans (ih nd.2 h)
theorem bV:a∈l.map (·.1)->∃o,Bx l U a=some o/\(a,o)∈l:=by
 induction l with
 |nil=>exact fun h=>nomatch h
 |cons p r ih=>
  intro h
  by_cases e:a=p.1
  ·exact J e ⟨_,u.set_same _ _ _,EU⟩
  ·exact(ih ((BP.mp h).resolve_left e)).elim fun o h=>⟨o,(u.Ad _ _ e).trans h.1,DX _ h.2⟩
theorem cK{U:u}{a b:Addr}{o o':O}(h:a≠b):(U.set a o).set b o'=(U.set b o').set a o:=by
 funext x;unfold u.set;by_cases e:x=b
 ·refine J (AS e) (J (AK (fun q=>h (q.symm.trans e))) (J (AS e) ?_));rfl
 ·refine J (AK e) (J (AK e) ?_);rfl
theorem gM{a:Addr}{o:O}{U:u}{l:List (Addr×O)}:a∉l.map (·.1)->(Bx l U).set a o=Bx l (U.set a o):=by
 induction l with
 |nil=>exact fun Z=>rfl
 |cons p r ih=>exact fun h=>(cK fun e=>h (BP.mpr (.inl e.symm))).trans (AL (·.set p.1 p.2) (ih fun m=>h (DX _ m)))
theorem hJ:Bx (l++m) U=Bx l (Bx m U):=by
 induction l with
 |nil=>rfl
 |cons p r ih=>exact AL (·.set p.1 p.2) ih
noncomputable def BU:List (Addr×O)->Nat->Option (Addr×O)
 |[],_=>none
 |p::_,0=>some p
 |_::r,n+1=>BU r n
noncomputable def A4:List (Addr×O)->Nat->O->List (Addr×O)
 |[],_,_=>[]
 |p::r,0,o=>(p.1,o)::r
 |p::r,n+1,o=>p::A4 r n o
theorem cy:∀{n:Nat} {p:Addr×O},BU l n=some p->p∈l:=by
 induction l with
 |nil=>exact fun h=>nomatch h
 |cons q r ih=>
  intro n p h
  cases n with
  |zero=>obtain rfl:=BC h;exact EU
  |succ n=>exact DX _ (ih h)
theorem dK:∀{n:Nat},(A4 l n o).map (·.1)=l.map (·.1):=by
 induction l with
 |nil=>intro _;rfl
 |cons q r ih=>
  intro n
  cases n with
  |zero=>rfl
  |succ n=>exact AL (q.1:: ·) ih
theorem lC{a:Addr}{o o':O}{U:u}{l:List (Addr×O)}:∀{n:Nat},(l.map (·.1)).Nodup->BU l n=some (a,o)->(Bx l U).set a o'=Bx (A4 l n o') U:=by
 induction l with
 |nil=>exact fun Z h=>nomatch h
 |cons q r ih=>
  intro n nd h
  cases n with
  |zero=>obtain rfl:=BC h;exact u.set_set _ _ _ _
  |succ n=>
   have nd:=CQ.mp nd;exact(cK fun e=>nd.1 (BF.mpr ⟨_,cy h,e.symm⟩)).trans (AL (·.set q.1 q.2) (ih nd.2 h))
section
theorem dJ:tk ρ (Bx l U) a↔tk (fun a=>ρ a\/a∈l.map (·.1)) U a:=by
 by_cases h:a∈l.map (·.1)
 ·exact An (bV (U:=U) h) fun o e Z=>⟨fun Z=> .inr (.inr h),fun Z=> .inl (by exact J e (fun z=>nomatch z))⟩
 ·unfold tk
  exact J (ag h) ⟨fun x=>x.imp_right .inl,fun x=>x.imp_right fun y=>y.resolve_right h⟩
theorem bC(i:∀a,T a↔T' a):Keeps T h T' h:=⟨fun Z Z e=>e,fun a Z z e=>⟨fun t=>z ((i a).mpr t),e⟩⟩
theorem fJ(R:Rep c ρ (Bx l U) s)(out:∀a∈l.map (·.1),U a=none):Rep c (fun a=>ρ a\/a∈l.map (·.1)) U s:=by
 refine⟨R.keep,fun a o e=>?_,fun a r=>?_,R.gens,R.os⟩
 ·have n:a∉l.map (·.1):=fun m=>by have e:=(out a m)▸e;injection e
  have:=R.obj a o ((ag n).trans e);exact⟨this.1.mono (bC fun Z=>dJ) rfl,this.2⟩
 ·by_cases n:a∈l.map (·.1)
  ·exact An (bV (U:=U) n) fun o e Z=>An ((R.obj a o e).1.some) fun y hy Z=>⟨out a n,y,hy⟩
  ·have:=R.res a (r.resolve_right n)
   exact⟨(ag n).symm.trans this.1,this.2⟩
theorem mO(nd:(l.map (·.1)).Nodup)(out:∀a∈l.map (·.1),U a=none)(R:Rep c ρ (Bx l U) s)(R':Rep c (fun a=>ρ a\/a∈l.map (·.1)) Ac s')(S:Bp U s Ac s'):Rep c ρ (Bx l Ac) s'/\Bp (Bx l U) s (Bx l Ac) s':=by
 have R₀:=fJ R out;refine⟨⟨R'.keep,fun a o e=>?_,fun a r=>?_,R'.gens,R'.os⟩,fun a o h z=>?_,fun a o h z=>?_⟩
 ·by_cases n:a∈l.map (·.1)
  ·refine An (bV (U:=Ac) n) fun o' e' m=>?_
   have e:=e'▸e;cases e;have r:=R.obj a o (cZ nd m);exact An r.1.some fun y hy Z=>⟨((r.1.mono (bC fun Z=>dJ) rfl).mono (R₀.keeps S) ((S.grow a y hy (out a n)).trans hy.symm)).mono (bC fun Z=>dJ.symm) rfl,r.2⟩
  ·have r:=R'.obj a o ((ag n).symm.trans e)
   exact⟨r.1.mono (bC fun Z=>dJ.symm) rfl,r.2⟩
 ·have n:a∉l.map (·.1):=fun n=>by refine An (bV (U:=U) n) fun o e Z=>?_;have e:=((R.res a r).1)▸e;injection e
  have:=R'.res a (.inl r);exact⟨(ag n).trans this.1,this.2⟩
 ·have n:a∉l.map (·.1):=fun n=>by refine An (bV (U:=U) n) fun o e Z=>?_;rw[z]at e;injection e
  exact S.grow a o h ((ag n).symm.trans z)
 ·have n:a∉l.map (·.1):=fun n=>by refine An (bV (U:=U) n) fun o e Z=>?_;rw[z]at e;injection e
  exact(ag n).trans (S.fresh a o h ((ag n).symm.trans z))
theorem tT(nd:(l.map (·.1)).Nodup)(out:∀a∈l.map (·.1),U a=none)(h:OL c A t xs Q U):
  OL c A t xs (fun v τ=>∃Ac,τ=Bx l Ac/\(∀a∈l.map (·.1),Ac a=none)/\Q v Ac) (Bx l U):=fun ρ s vs R r=>
 BE (h s vs (fJ R out) (r.mono (bC fun Z=>dJ))) (fun v s' ⟨x,Ac,R',S',d,q⟩=>
  let⟨B,S⟩:=mO nd out R R' S'
  ⟨x,Bx l Ac,B,S,d.mono (bC fun Z=>dJ.symm),Ac,rfl,fun a m=>(R'.res a (.inr m)).1,q⟩) fun Z Z e=>e
end
def F8(U Ac:u):Prop:=∀a,Ac a=U a\/∃m m',U a=some (.fr m)/\Ac a=some (.fr m')/\∀x,look m x=look m' x
theorem F8.none(h:F8 U Ac)(a:Addr):Ac a=none↔U a=none:=by
 rcases h a with e|⟨m,m',e,e',_⟩
 ·refine J e ?_;rfl
 ·exact J e (J e' ⟨(nomatch ·),(nomatch ·)⟩)
theorem F8.tk(h:F8 U Ac)(a:Addr):tk ρ U a↔tk ρ Ac a:=or_congr (not_congr (h.none a).symm) Iff.rfl
theorem Rep.same(h:F8 U Ac)(R:Rep c ρ U s):Rep c ρ Ac s:=by
 refine⟨R.keep,fun a o e=>?_,fun a r=>⟨(h.none a).mpr (R.res a r).1,(R.res a r).2⟩,R.gens,R.os⟩;have k:=bC (h:=s.heap) (h.tk (ρ:=ρ))
 rcases h a with q|⟨m,m',e1,e2,q⟩
 ·have r:=R.obj a o (q.symm.trans e)
  exact⟨r.1.mono k rfl,r.2⟩
 ·have e:=e2▸e;obtain rfl:=BC e
  have r:=R.obj a _ e1;exact An (r.1.mono k rfl) fun f n z=>⟨⟨f,n,fun x=>q x▸z x⟩,r.2⟩
theorem Bp.same(h:F8 U Ac)(S:Bp σ₀ s₀ U s):Bp σ₀ s₀ Ac s:=⟨S.grow,fun b o e n=>(h.none b).mpr (S.fresh b o e n)⟩
theorem AU.same(h:AU c A t y (fun Ab=>∃Ah,F8 Ab Ah/\Q Ah) U):AU c A t y Q U:=fun ρ s v R r=>
 BE (h s v R r) (fun Z Z ⟨Ab,Aq,Au,Ah,e,q⟩=>⟨Ah,Aq.same e,Au.same e,q⟩) fun Z Z e=>e
section
set_option genInjectivity false
structure Nm where
 vars:List (String×Option Nat)
 gl:List String
inductive Op where
 |pop|ld (i:Nat)|st (i:Nat)|val (v:V)|neg|not|bin (o:Operator)|cmp (o:CmpOp)|BA
 |tup (n:Nat)|lst (n:Nat)|BV|D7 (n:Nat)|attr (x:Str)|GN (x:Str)|call (n:Nat)
 |sub|Co|Px|I2 (m:Nat)|back|D8 (x:Str)|Bt|Ht (n:Nat)|sset|D2
set_option genCtorIdx true in
inductive Src where
 |v|r1|r2|en
inductive Code where
 |done|fail|ret
 |op (o:Op) (k:Code)
 |br (a b k:Code)
 |and (a k:Code)
 |or (a k:Code)
 |chain (o:CmpOp) (a k:Code)
 |I3 (t b k:Code)
 |BK (s:Src) (b k:Code)
 |comp (s:Src) (nm:Nm) (Bu:List Nat) (e k:Code)
 |F9 (s:Src) (nm:Nm) (Bu:List Nat) (t e k:Code)
noncomputable abbrev Code.ld(i:Nat)(k:Code):Code:=.op (.ld i) k
noncomputable abbrev Code.st(i:Nat)(k:Code):Code:=.op (.st i) k
noncomputable abbrev Code.cl(i:Nat)(k:Code):Code:=.op (.call i) k
noncomputable abbrev Code.ls(i:Nat)(k:Code):Code:=.op (.lst i) k
noncomputable abbrev Code.tp(i:Nat)(k:Code):Code:=.op (.tup i) k
noncomputable abbrev Code.i(i:Int)(k:Code):Code:=.op (.val (.int i)) k
noncomputable abbrev Code.x(v:Value)(k:Code):Code:=.op (.val (.ex v)) k
noncomputable abbrev Code.at(s:String)(k:Code):Code:=.op (.attr (Ai s)) k
noncomputable abbrev Code.sa(s:String)(k:Code):Code:=.op (.D8 (Ai s)) k
noncomputable abbrev Code.mt(s:String)(k:Code):Code:=.op (.GN (Ai s)) k
noncomputable abbrev Code.cm(o:CmpOp)(k:Code):Code:=.op (.cmp o) k
noncomputable abbrev Code.bn(o:Operator)(k:Code):Code:=.op (.bin o) k
noncomputable abbrev Code.sub(k:Code):Code:=.op .sub k
noncomputable abbrev Code.BA(k:Code):Code:=.op .BA k
noncomputable abbrev Code.pop(k:Code):Code:=.op .pop k
structure Pv where
 vs:List (Option V)
 ob:List (Addr×O)
noncomputable def ib:List (Option V)->Nat->Option V
 |[],_=>none
 |v::_,0=>v
 |_::r,n+1=>ib r n
noncomputable def fB:List (Option V)->Nat->V->List (Option V)
 |[],_,_=>[]
 |_::r,0,v=>some v::r
 |Aa::r,n+1,v=>Aa::fB r n v
noncomputable def Pv.set(p:Pv)(i:Nat)(v:V):Pv:=⟨fB p.vs i v,p.ob⟩
noncomputable def Pv.new(p:Pv)(a:Addr)(o:O):Pv:=⟨p.vs,p.ob++[(a,o)]⟩
noncomputable def Pv.upd(p:Pv)(i:Nat)(o:O):Pv:=⟨p.vs,A4 p.ob i o⟩
noncomputable def fm:List (String×Option Nat)->List (Option V)->List (String×V)
 |[],_=>[]
 |Aa::r,vs=>match vs with
  |[]=>[]
  |v::l=>match Aa.2 with
   |some _=>fm r l
   |none=>match v with
    |none=>fm r l
    |some v=>(Aa.1,v)::fm r l
noncomputable def cl(C:Addr):List (String×Option Nat)->List (Option V)->List (Addr×O)
 |[],_=>[]
 |Aa::r,vs=>match vs with
  |[]=>[]
  |v::l=>match Aa.2 with
   |some j=>(C+j,.cell v)::cl C r l
   |none=>cl C r l
structure GV(c:Cx)(s:String)(v:V):Prop where
 ld:∀{A:Around} {env:Env} {pos:Pos} {Q:V->u->Prop} {U:u},env.globals=mainGlobals->env.builtins=builtinsNs->env.scope.kind=.function->env.kindOf (Ai s)=some .globalImplicit->Q v U->EV c A (.Name (Ai s) pos) env Q U
 ok:∀f,v=.ex f->aw c f
noncomputable def iw:List (String×V):=[("range",.ex (.type "range")),("sorted",.ex (.builtin "sorted")),("list",.ex (.type "list")),("set",.ex (.type "set")),("enumerate",.ex (.type "enumerate")),("is_op",.ex (.ref 79)),("Bank",.ex (.ref 186)),("MOST_SIZE",.int 200),("Counts",.ex (.ref 275)),("Unions",.ex (.ref 357)),("Heap",.ex (.ref 487)),("BASE",.int (-1)),("followed",.ex (.ref 498)),("Layers",.ex (.ref 629)),("View",.ex (.ref 731)),("_law_pick",.ex (.ref 742)),("_law_hand",.ex (.ref 747)),("_law_homes",.ex (.ref 752)),("_law_many",.ex (.ref 759)),("_law_counted_right",.ex (.ref 764)),("_law_node_more",.ex (.ref 769)),("len",.ex (.builtin "len")),("sum",.ex (.builtin "sum")),("max",.ex (.builtin "max")),("min",.ex (.builtin "min")),("abs",.ex (.builtin "abs")),("int",.ex (.type "int")),("tuple",.ex (.type "tuple"))]
noncomputable def tM:List (Addr×List String):=[(186,["nodes","numbers","weights","depths"]),(357,["above","lots","merged"]),(487,["bank","unions","edges","forest","known","above","waiting","backs"]),(629,["heap","beneath","told","ways","backs","many","turns"]),(731,["layers","layer","bank"]),(275,["heap","mark","known"])]
noncomputable def pA:List (Addr×String×Addr):=[(186,"size",105),(186,"take",110),(186,"require",117),(186,"op",143),(186,"kids",150),(186,"node",157),(275,"renewed",211),(275,"many",218),(275,"rows",230),(357,"make",300),(357,"size",307),(357,"find",314),(357,"merge",321),(357,"members",328),
 (487,"size",382),(487,"node",387),(487,"add",392),(487,"put",397),(487,"look_at",404),(487,"find",411),(487,"merge",425),(487,"join",432),(487,"settle",439),(487,"members",460),(487,"nodes_of",465),
 (629,"want",519),(629,"assume",526),(629,"way_down",533),(629,"over",538),(629,"find",545),(629,"are_like",552),(629,"join",559),(629,"close_once",564),(629,"nodes_within",571),(629,"renew",581),(629,"settle",588),(629,"merge",595),(629,"members",612),
 (731,"size",678),(731,"find",685),(731,"members",706),(731,"node",711),(731,"nodes_of",716)]
noncomputable def fld(C:Addr)(x:String):Bool:=tM.any fun e=>e.1==C &&e.2.contains x
noncomputable def j4(C:Addr)(x:String):List (Addr×String×Addr)->Option Addr
 |[]=>none
 |e::r=>if e.1=C then(if e.2.1=x then some e.2.2 else j4 C x r)else j4 C x r
theorem rn(h:j4 C x l=some f):(C,x,f)∈l:=by
 induction l with
 |nil=>injection h
 |cons e r ih=>
  unfold j4 at h
  set_option tactic.hygienic true in split at h
  ·set_option tactic.hygienic true in split at h
   ·rename_i a b;refine Rv a (Rv b (?_));obtain rfl:=BC h;exact EU
   ·exact DX _ (ih h)
  ·exact DX _ (ih h)
structure Gx(c:Cx)(A:Around) where
 env:Env
 L:Addr
 C:Addr
 nm:Nm
 R:V->Pv->u->Prop
 ok:c.Ok
 hh:A.handled=none
 hu:A.units+30<cLine
 hk:env.scope.kind=.function
 hL:env.locals=L
 hg:env.globals=mainGlobals
 hb:env.builtins=builtinsNs
 nd:(nm.vars.map (·.1)).Nodup
 hl:∀x,(x,none)∈nm.vars->env.kindOf (Ai x)=some .local
 hc:∀x j,(x,some j)∈nm.vars->env.kindOf (Ai x)=some .cell/\env.cells.lookup (Ai x)=some (C+j)
 hx:∀s∈nm.gl,env.kindOf (Ai s)=some .globalImplicit
 gt:∀e∈iw,GV c e.1 e.2
 ft:∀C x,fld C x=true->bY c C/\findIn c.K (.ref C) (Ai x)=some none
 mt:∀e∈pA,bY c e.1/\findIn c.K (.ref e.1) (Ai e.2.1)=some (some (.ref e.2.2))/\isFn c.K (.ref e.2.2)=true/\keepIn c.K (.ref e.2.2)=true
section
noncomputable def Gx.pl(G:Gx c A)(p:Pv):List (Addr×O):=(G.L,.fr (fm G.nm.vars p.vs))::(cl G.C G.nm.vars p.vs++p.ob)
noncomputable def Gx.Ay(G:Gx c A)(p:Pv)(U:u):u:=Bx (G.pl p) U
structure Gx.Sep(G:Gx c A)(p:Pv)(U:u):Prop where
 nd:((G.pl p).map (·.1)).Nodup
 out:∀a∈(G.pl p).map (·.1),U a=none
 len:p.vs.length=G.nm.vars.length
inductive Lf{α:Type}(G:Gx c A)(Q:α->Pv->u->Prop):α->u->Prop
 |mk (v:α) (p:Pv) (U:u) (S:G.Sep p U) (q:Q v p U):Lf G Q v (G.Ay p U)
inductive Rd(p:Pv)(U:u)(a:Addr)(o:O):Prop
 |AN (h:U a=some o)
 |own (i:Nat) (h:BU p.ob i=some (a,o))
inductive Up(a:Addr)(o o':O):Pv->u->Pv->u->Prop
 |AN {p U} (h:U a=some o):Up a o o' p U p (U.set a o')
 |own {p U} (i:Nat) (h:BU p.ob i=some (a,o)):Up a o o' p U (p.upd i o') U
inductive Jz:V->List V->(Pv->u->Prop)->Pv->u->Prop
 |lst {xs p U}:Jz (.lst xs) xs (fun Z Z=>True) p U
 |tup {xs p U}:Jz (.tup xs) xs (fun Z Z=>True) p U
 |str {x p U} (h:x.cps.all (· <128)=true):Jz (.str x) (O6 x) (fun Z Z=>True) p U
 |obj {a xs p U} (h:Rd p U a (.list xs)):Jz (.ex (.ref a)) xs (fun p U=>Rd p U a (.list xs)) p U
def cB(st:List V)(f:V->List V->Prop):Prop:=match st with|y::r=>f y r|[]=>False
def rT(st:List V)(f:V->V->List V->Prop):Prop:=match st with|y::x::r=>f y x r|_=>False
def Ur(st:List V)(f:V->V->V->List V->Prop):Prop:=match st with|z::y::x::r=>f z y x r|_=>False
noncomputable def cL:Nat->List V->List V->Option (List V×List V)
 |0,acc,st=>some (acc,st)
 |n+1,acc,v::st=>cL n (v::acc) st
 |_,_,[]=>none
def su(n:Nat)(st:List V)(f:Value->List V->List V->Prop):Prop:=match cL n [] st with|some (xs,.ex g::r)=>f g xs r|_=>False
noncomputable def ig:List V->List (V×V)
 |x::y::r=>(x,y)::ig r
 |_=>[]
variable(G:Gx c A)
abbrev Yb(t:Sem Value)(Q:V->Pv->u->Prop)(p:Pv)(U:u):Prop:=G.Sep p U->TV c A t (Lf G Q) (G.Ay p U)
abbrev Py(t:Value->Value->Sem Value)(x y:V)(Q:V->Pv->u->Prop)(p:Pv)(U:u):Prop:=G.Sep p U->O2 c A t x y (Lf G Q) (G.Ay p U)
abbrev Yc(t:Value->Sem Unit)(y:V)(Q:Pv->u->Prop)(p:Pv)(U:u):Prop:=G.Sep p U->AU c A t y (fun τ=>Lf (α:=Unit) G (fun Z=>Q) () τ) (G.Ay p U)
abbrev Yd(t:Value->Value->Value->Sem Unit)(x y z:V)(Q:Pv->u->Prop)(p:Pv)(U:u):Prop:=G.Sep p U->Rt c A t x y z (fun τ=>Lf (α:=Unit) G (fun Z=>Q) () τ) (G.Ay p U)
abbrev xK(f:Value)(xs:List V)(Q:V->Pv->u->Prop)(p:Pv)(U:u):Prop:=G.Sep p U->a6 c A f xs (Lf G Q) (G.Ay p U)
noncomputable def gN:Expr->Bool
 | .Slice .. =>false
 |_=>true
def Wn(o:Op)(K:List V->Pv->u->Prop)(st:List V)(p:Pv)(U:u):Prop:=match o with
 | .pop=>cB st fun Z st=>K st p U
 | .ld i=>∃v,ib p.vs i=some v/\K (v::st) p U
 | .st i=>cB st fun v st=>K st (p.set i v) U
 | .val v=>K (v::st) p U
 | .neg=>cB st fun v st=>∃i,v=.int i/\K (.int (-i)::st) p U
 | .not=>cB st fun v st=>∃b,v=.ex (.bool b)/\K (.ex (.bool (!b))::st) p U
 | .bin o=>rT st fun y x st=>Py G (binaryOp o) x y (fun v=>K (v::st)) p U
 | .cmp o=>rT st fun y x st=>Py G (compareOp o) x y (fun v=>K (v::st)) p U
 | .BA=>cB st fun v st=>∃b,v=.ex (.bool b)/\K (v::st) p U
 | .tup n=>∃xs BB,cL n [] st=some (xs,BB)/\K (.tup xs::BB) p U
 | .lst n=>∃xs BB,cL n [] st=some (xs,BB)/\(K (.lst xs::BB) p U\/(∀a,U a=none->K (.ex (.ref a)::BB) (p.new a (.list xs)) U)\/∀a,U a=none->K (.ex (.ref a)::BB) p (U.set a (.list xs)))
 | .BV=>(∀a,U a=none->K (.ex (.ref a)::st) (p.new a (.dict [])) U)\/∀a,U a=none->K (.ex (.ref a)::st) p (U.set a (.dict []))
 | .D7 n=>∃xs a BB,cL (2*n) [] st=some (xs,.ex (.ref a)::BB)/\K4 [] (ig xs)/\∃p' Ac,Up a (.dict []) (.dict (cj [] (ig xs))) p U p' Ac/\K (.ex (.ref a)::BB) p' Ac
 | .attr x=>cB st fun y st=>∃a,y=.ex (.ref a)/\Yb G (getAttr (.ref a) x true) (fun v=>K (v::st)) p U
 | .GN x=>cB st fun y st=>∃f,(G.Sep p U->MT c y x (G.Ay p U) f)/\aw c f/\K (y::.ex f::st) p U
 | .call n=>su n st fun f xs st=>xK G f xs (fun v=>K (v::st)) p U
 | .sub=>rT st fun y x st=>∀value slice,gN slice=true->Py G (subscriptTail value slice) x y (fun v=>K (v::st)) p U
 | .Co=>cB st fun v st=>∃y xs,v=.tup (y::xs)/\xs.length<=900/\K (.tup xs::st) p U
 | .Px=>cB st fun v st=>∃y z xs,v=.tup (y::z::xs)/\K (.tup [y]::st) p U
 | .I2 m=>cB st fun v st=>∃xs,v=.lst xs/\xs.length<=sizeLine/\K (.lst (xs.take m)::st) p U
 | .back=>cB st fun v st=>∃a xs,v=.ex (.ref a)/\Rd p U a (.list xs)/\xs.length<=2/\K (.lst xs.reverse::st) p U
 | .D8 x=>rT st fun y v st=>∃a,y=.ex (.ref a)/\Yc G (fun v=>setAttr (.ref a) x v) v (K st) p U
 | .Bt=>Ur st fun i y v st=>Yd G setItem y i v (K st) p U
 | .Ht n=>cB st fun v st=>∃xs,(v=.tup xs\/v=.lst xs)/\xs.length=n/\K (xs++st) p U
 | .sset=>cB st fun v st=>∃(S:SK) (xs zs:List V),S.fit/\v=.lst xs/\(∀x∈xs,S.is x)/\zs.length<=4/\(∀x∈xs,x∈zs)/\∀ys:List V,ys.Nodup->(∀x,x∈ys↔x∈xs)->K (.lst ys::st) p U
 | .D2=>cB st fun v st=>∃n:Nat,v=.int n/\n<=1000/\K (.lst (Ee 0 n)::st) p U
def iter(s:Src)(st:List V)(p:Pv)(U:u)(f:List V->(Pv->u->Prop)->List V->Prop):Prop:=match s with
 | .v=>cB st fun y st=>∃xs qQ,Jz y xs qQ p U/\f xs qQ st
 | .r1=>cB st fun y st=>∃n:Int,y=.int n/\n<=1000/\-1000<=n/\f (Ee 0 n.toNat) (fun Z Z=>True) st
 | .r2=>rT st fun y x st=>∃a n:Int,x=.int a/\y=.int n/\-1000<=a/\a<=1000/\n<=1000/\-1000<=n/\f (Ee a (n-a).toNat) (fun Z Z=>True) st
 | .en=>cB st fun y st=>∃xs,y=.lst xs/\f (Jv xs) (fun Z Z=>True) st
noncomputable def Cj(Bu:List Nat)(p:Pv)(ex:List (Addr×O))(x:V):Pv:=⟨some x::Bu.map (ib p.vs),p.ob++ex⟩
def W(G:Gx c A):Code->(List V->Pv->u->Prop)->List V->Pv->u->Prop
 | .done,K,st,p,U=>K st p U
 | .fail,_,_,_,_=>False
 | .ret,_,st,p,U=>cB st fun v Z=>G.R v p U
 | .op o k,K,st,p,U=>Wn G o (W G k K) st p U
 | .br a b k,K,st,p,U=>cB st fun v st=>∃t,v=.ex (.bool t)/\(t=true->W G a (W G k K) st p U)/\(t=false->W G b (W G k K) st p U)
 | .and a k,K,st,p,U=>cB st fun v st=>∃t,v=.ex (.bool t)/\(t=true->W G a (W G k K) st p U)/\(t=false->W G k K (.ex (.bool false)::st) p U)
 | .or a k,K,st,p,U=>cB st fun v st=>∃t,v=.ex (.bool t)/\(t=true->W G k K (.ex (.bool true)::st) p U)/\(t=false->W G a (W G k K) st p U)
 | .chain o a k,K,st,p,U=>rT st fun y x st=>Py G (compareOp o) x y (fun v p U=>∃t,v=.ex (.bool t)/\(t=true->W G a (W G k K) (y::st) p U)/\(t=false->W G k K (.ex (.bool false)::st) p U)) p U
 | .I3 t b k,K,st,p,U=>∃(Rw:Nat->Pv->u->Prop) (n:Nat),Rw n p U/\∀n p U,Rw n p U->W G t (fun BB p U=>∃Aa,BB=[.ex (.bool Aa)]/\(Aa=true->W G b (fun Z p U=>∃m,m<n/\Rw m p U) [] p U)/\(Aa=false->W G k K st p U)) [] p U
 | .BK s b k,K,st,p,U=>iter s st p U fun xs qQ st=>∃Rw:Nat->Pv->u->Prop,Rw 0 p U/\(∀j x p U,xs[j]? =some x->Rw j p U->W G b (fun Z p U=>qQ p U/\Rw (j+1) p U) [x] p U)/\∀p U,Rw xs.length p U->W G k K st p U
 | .comp s nm Bu e k,K,st,p,U=>iter s st p U fun xs qQ st=>xs.length<=1000/\∃Rw:Nat->List V->u->Prop,Rw 0 [] U/\(∀(G':Gx c A) ex j x ys U,G'.nm=nm->xs[j]? =some x->Rw j ys U->
   W G' e (fun BB p' Ac=>∃y,BB=[y]/\p'=Cj Bu p ex x/\qQ p Ac/\Rw (j+1) (ys++[y]) Ac) [] (Cj Bu p ex x) U)/\∀ys U,Rw xs.length ys U->W G k K (.lst ys::st) p U
 | .F9 s nm Bu t e k,K,st,p,U=>iter s st p U fun xs qQ st=>xs.length<=1000/\∃Rw:Nat->List V->u->Prop,Rw 0 [] U/\(∀(G':Gx c A) ex j x ys U,G'.nm=nm->xs[j]? =some x->Rw j ys U->
   W G' t (fun BB p' Ac=>∃Aa,BB=[.ex (.bool Aa)]/\p'=Cj Bu p ex x/\(Aa=true->W G' e (fun BB p' Ac=>∃y,BB=[y]/\p'=Cj Bu p ex x/\qQ p Ac/\Rw (j+1) (ys++[y]) Ac) [] (Cj Bu p ex x) Ac)/\(Aa=false->qQ p Ac/\Rw (j+1) ys Ac)) [] (Cj Bu p ex x) U)/\∀ys U,Rw xs.length ys U->W G k K (.lst ys::st) p U
end
end
section
variable{c:Cx}{A:Around}{G:Gx c A}
abbrev Pz(G:Gx c A)(t:Value->Value->Sem Value)(x y v:V):Prop:=∀{Q:V->Pv->u->Prop} {p:Pv} {U:u},Q v p U->Py G t x y Q p U
noncomputable def zY(G:Gx c A)(o:Operator)(a b:Int):Option {v:V//Pz G (binaryOp o) (.int a) (.int b) v}:=match o with
 | .Add=>some ⟨.int (a+b),fun q S=>Xs (.mk _ _ _ S q)⟩
 | .Sub=>some ⟨.int (a-b),fun q S=>zn (.mk _ _ _ S q)⟩
 |_=>none
noncomputable def Ye(G:Gx c A)(o:Operator)(x y:V):Option {v:V//Pz G (binaryOp o) x y v}:=match x with
 | .int a=>(match y with| .int b=>zY G o a b|_=>none)
 |_=>none
noncomputable def Us(G:Gx c A)(o:CmpOp)(a b:Int):Option {v:Bool//Pz G (compareOp o) (.int a) (.int b) (.ex (.bool v))}:=match o with
 | .Eq=>some ⟨_,fun q S=>Tt (.mk _ _ _ S q)⟩
 | .NotEq=>some ⟨_,fun q S=>Tu (.mk _ _ _ S q)⟩
 | .Lt=>some ⟨_,fun q S=>Tv (.mk _ _ _ S q)⟩
 | .LtE=>some ⟨_,fun q S=>zT (.mk _ _ _ S q)⟩
 | .Gt=>some ⟨_,fun q S=>Tw (.mk _ _ _ S q)⟩
 | .GtE=>some ⟨_,fun q S=>Tx (.mk _ _ _ S q)⟩
 |_=>none
noncomputable def zK(G:Gx c A)(o:CmpOp)(x:V):Option {v:Bool//Pz G (compareOp o) x (.ex .none) (.ex (.bool v))}:=match o with
 | .Is=>(match x with
  | .tup _=>some ⟨_,fun q S=>jS (.mk _ _ _ S q)⟩
  | .ex v=>(match v with| .none=>some ⟨_,fun q S=>iH (.mk _ _ _ S q)⟩|_=>none)
  |_=>none)
 |_=>none
noncomputable def Yf(G:Gx c A)(o:CmpOp)(x y:V):Option {v:Bool//Pz G (compareOp o) x y (.ex (.bool v))}:=match y with
 | .int b=>(match x with| .int a=>Us G o a b|_=>none)
 | .str b=>(match x with| .str a=>(match o with| .Eq=>some ⟨_,fun q S=>tC (.mk _ _ _ S q)⟩|_=>none)|_=>none)
 | .ex v=>(match v with| .none=>zK G o x|_=>none)
 |_=>none
abbrev Yg(G:Gx c A)(o:Op)(st:List V)(p:Pv)(q:List V×Pv):Prop:=∀{K:List V->Pv->u->Prop} {U:u},K q.1 q.2 U->Wn G o K st p U
noncomputable def step(G:Gx c A)(o:Op)(st:List V)(p:Pv):Option {q:List V×Pv//Yg G o st p q}:=match o with
 | .pop=>(match st with|_::st=>some ⟨(st,p),fun k=>k⟩|[]=>none)
 | .ld i=>(match h:ib p.vs i with|some v=>some ⟨(v::st,p),fun k=>⟨v,h,k⟩⟩|none=>none)
 | .st i=>(match st with|v::st=>some ⟨(st,p.set i v),fun k=>k⟩|[]=>none)
 | .val v=>some ⟨(v::st,p),fun k=>k⟩
 | .neg=>(match st with|v::st=>(match v with| .int i=>some ⟨(.int (-i)::st,p),fun k=>⟨i,rfl,k⟩⟩|_=>none)|[]=>none)
 | .not=>(match st with|v::st=>(match v with| .ex v=>(match v with| .bool b=>some ⟨(.ex (.bool (!b))::st,p),fun k=>⟨b,rfl,k⟩⟩|_=>none)|_=>none)|[]=>none)
 | .BA=>(match st with|v::st=>(match v with| .ex v=>(match v with| .bool b=>some ⟨(.ex (.bool b)::st,p),fun k=>⟨b,rfl,k⟩⟩|_=>none)|_=>none)|[]=>none)
 | .bin o=>(match st with|y::x::st=>(match Ye G o x y with|some ⟨v,h⟩=>some ⟨(v::st,p),fun k=>h k⟩|none=>none)|_=>none)
 | .cmp o=>(match st with|y::x::st=>(match Yf G o x y with|some ⟨v,h⟩=>some ⟨(.ex (.bool v)::st,p),fun k=>h k⟩|none=>none)|_=>none)
 | .Ht n=>(match st with
  |v::st=>(match v with
   | .tup xs=>if h:xs.length=n then some ⟨(xs++st,p),fun k=>⟨xs,.inl rfl,h,k⟩⟩else none
   | .lst xs=>if h:xs.length=n then some ⟨(xs++st,p),fun k=>⟨xs,.inr rfl,h,k⟩⟩else none
   |_=>none)
  |[]=>none)
 | .tup n=>(match h:cL n [] st with|some (xs,BB)=>some ⟨(.tup xs::BB,p),fun k=>⟨_,_,h,k⟩⟩|none=>none)
 |_=>none
noncomputable def yW(G:Gx c A):Code->List V->Pv->(Code->List V->Pv->Prop)->Prop
 | .op o k,st,p,f=>match step G o st p with
  |some ⟨(st,p),_⟩=>yW G k st p f
  |none=>f (.op o k) st p
 |k,st,p,f=>f k st p
structure WW(G:Gx c A)(k:Code)(K:List V->Pv->u->Prop)(st:List V)(p:Pv)(U:u):Prop where
 un:W G k K st p U
def Wr(G:Gx c A)(k:Code)(K:List V->Pv->u->Prop)(st:List V)(p:Pv)(U:u):Prop:=yW G k st p fun k st p=>WW G k K st p U
theorem aM{K:List V->Pv->u->Prop}:∀{k:Code} {st:List V} {p:Pv},Wr G k K st p U->W G k K st p U:=fun{k}=>by
 induction k with
 |op o k ih=>
  intro st p h;have h:(match step G o st p with|some ⟨(st,p),_⟩=>yW G k st p fun k st p=>WW G k K st p U|none=>WW G (.op o k) K st p U):=h
  cases e:step G o st p with
  |none=>rw[e]at h;exact h.un
  |some q=>rw[e]at h;exact q.2 (ih h)
 |_=>intro st p h;exact h.un
theorem TV.lf(h:TV c A t (Lf G Q) U)(k:∀v p U,G.Sep p U->Q v p U->Q' v (G.Ay p U)):TV c A t Q' U:=h.mono fun v τ l=>by
 cases l with
 |mk p U S q=>exact k v p U S q
theorem TU.lf{α:Type}{t:Sem α}{Q:α->Pv->u->Prop}{Q':α->u->Prop}{U:u}(h:TU c A t (Lf G Q) U)(k:∀v p U,G.Sep p U->Q v p U->Q' v (G.Ay p U)):TU c A t Q' U:=h.mono fun v τ l=>by
 cases l with
 |mk p U S q=>exact k v p U S q
theorem TF.lf(h:TF c A t (Lf G Q) U)(k:∀v p U,G.Sep p U->Q v p U->Q' v (G.Ay p U)):TF c A t Q' U:=h.mono fun v τ l=>by
 cases l with
 |mk p U S q=>exact k v p U S q
theorem AU.lf(h:AU c A t y (fun τ=>Lf (α:=Unit) G (fun Z=>Q) () τ) U)(k:∀p U,G.Sep p U->Q p U->Q' (G.Ay p U)):AU c A t y Q' U:=h.mono fun τ l=>by
 cases l with
 |mk p U S q=>exact k p U S q
theorem Gx.Sep.key(S:G.Sep p U)(h:U a=some o):a∉(G.pl p).map (·.1):=fun m=>by have h:=(S.out a m)▸h;injection h
theorem Gx.Sep.AN(S:G.Sep p U)(h:U a=some o):G.Ay p U a=some o:=(ag (S.key h)).trans h
theorem Gx.Sep.own(S:G.Sep p U)(h:BU p.ob i=some (a,o)):G.Ay p U a=some o:=cZ S.nd (DX _ (G3 _ (cy h)))
theorem Rd.at(h:Rd p U a o)(S:G.Sep p U):G.Ay p U a=some o:=by
 cases h with
 |AN h=>exact S.AN h
 |own i h=>exact S.own h
theorem Gx.Sep.free(S:G.Sep p U)(h:G.Ay p U a=none):a∉(G.pl p).map (·.1)/\U a=none:=by
 have n:a∉(G.pl p).map (·.1):=fun m=>by refine An (bV (U:=U) m) fun o e Z=>?_;have e:=(show Bx (G.pl p) U a=none from h)▸e;injection e
 exact⟨n,(ag n).symm.trans h⟩
theorem Gx.Sep.PA(S:G.Sep p U)(h:U a=some o):G.Sep p (U.set a o')/\(G.Ay p U).set a o'=G.Ay p (U.set a o'):=
 ⟨⟨S.nd,fun b m=>(u.Ad _ _ (fun e=>S.key h (Eq.mp (AL (·∈_) e) m))).trans (S.out b m),S.len⟩,gM (S.key h)⟩
theorem Gx.Sep.add(S:G.Sep p U)(h:a∉(G.pl p).map (·.1)):G.Sep p (U.set a o)/\(G.Ay p U).set a o=G.Ay p (U.set a o):=
 ⟨⟨S.nd,fun b m=>(u.Ad _ _ (fun e=>h (Eq.mp (AL (·∈_) e) m))).trans (S.out b m),S.len⟩,gM h⟩
theorem Gx.GO:G.pl (p.new a o)=G.pl p++[(a,o)]:=AL _ (HJ _ _ _).symm
theorem Gx.Sep.new(S:G.Sep p U)(h:a∉(G.pl p).map (·.1))(z:U a=none):G.Sep (p.new a o) U/\(G.Ay p U).set a o=G.Ay (p.new a o) U:=by
 refine⟨⟨?_,?_,S.len⟩,?_⟩
 ·refine J G.GO (J DT ?_);rewrite[Ko]
  refine⟨S.nd,CQ.mpr ⟨JN,FG⟩,fun x hx y hy e=>h ?_⟩;subst e;have q:x=a:=Eb.mp hy;exact Rv q hx
 ·refine J G.GO (J DT ?_)
  intro b m;refine Or.elim (DA.mp m) (fun m=>?_) fun m=>?_
  ·exact S.out b m
  ·exact J (Eb.mp m) z
 ·exact(gM h).trans ((AL (fun l=>Bx l U) G.GO).trans hJ).symm
theorem nK:∀{l:List (Addr×O)},A4 (l++m) (l.length+i) o=l++A4 m i o:=fun{l}=>by
 induction l with
 |nil=>exact J List.length_nil (J (G0 _) rfl)
 |cons q r ih=>exact J EG (J (Nat.succ_add _ _) (AL (q:: ·) ih))
theorem m8:∀{l:List (Addr×O)},BU (l++m) (l.length+i)=BU m i:=fun{l}=>by
 induction l with
 |nil=>exact J List.length_nil (J (G0 _) rfl)
 |cons q r ih=>exact J EG (J (Nat.succ_add _ _) ih)
theorem Gx.I5:G.pl (p.upd i o)=A4 (G.pl p) ((cl G.C G.nm.vars p.vs).length+i+1) o:=AL _ nK.symm
theorem Gx.Sep.upd(S:G.Sep p U)(h:BU p.ob i=some (a,o)):G.Sep (p.upd i o') U/\(G.Ay p U).set a o'=G.Ay (p.upd i o') U:=by
 have k:(G.pl (p.upd i o')).map (·.1)=(G.pl p).map (·.1):=by exact J G.I5 dK
 refine⟨⟨k▸S.nd,k▸S.out,S.len⟩,?_⟩;unfold Gx.Ay;exact J G.I5 (lC S.nd (m8.trans h))
theorem Up.at(h:Up a o o' p U p' Ac)(S:G.Sep p U):G.Ay p U a=some o/\G.Sep p' Ac/\(G.Ay p U).set a o'=G.Ay p' Ac:=by
 cases h with
 |AN h=>exact⟨S.AN h,S.PA h⟩
 |own i h=>exact⟨S.own h,S.upd h⟩
theorem ub:∀{l:List (Option V)} {i:Nat},(fB l i v).length=l.length:=fun{l}=>by
 induction l with
 |nil=>intro i;rfl
 |cons Aa r ih=>intro i;cases i with
  |zero=>rfl
  |succ i=>exact AL (· +1) ih
end
section
noncomputable def Cv:List (String×Option Nat)->Nat->Option (String×Option Nat)
 |[],_=>none
 |v::_,0=>some v
 |_::r,n+1=>Cv r n
noncomputable def eqs(s:String)(x:Str):Bool:=(Ai s).cps.toList==x.cps.toList
theorem cF(h:eqs s x=true):x=Ai s:=by
 have h:(Ai s).cps.toList=x.cps.toList:=E9 h
 cases x with
 |mk a=>exact AL Str.mk (Array.toList_inj.mp h).symm
theorem oJ(h:eqs s x=false):(x==Ai s)=false:=by refine beq_eq_false_iff_ne.mpr fun e=>?_;subst e;unfold eqs at h;rw[beq_self_eq_true]at h;injection h
theorem bG:∀{l:List (String×Option Nat)} {i:Nat},Cv l i=some q->q∈l:=fun{l}=>by
 induction l with
 |nil=>intro i h;injection h
 |cons Aa r ih=>intro i h;cases i with
  |zero=>obtain rfl:=BC h;exact EU
  |succ i=>exact DX _ (ih h)
theorem bu(h:y≠x):look (fm ((y,k)::r) (v::vs)) x=look (fm r vs) x:=by
 cases k with
 |some j=>rfl
 |none=>cases v with
  |none=>rfl
  |some v=>exact AK h
theorem wo:∀{l:List (String×Option Nat)} {vs:List (Option V)} {i:Nat},(l.map (·.1)).Nodup->Cv l i=some (x,none)->ib vs i=some v->look (fm l vs) x=some v:=fun{l}=>by
 induction l with
 |nil=>intro vs i n h;injection h
 |cons Aa r ih=>
  intro vs i n h k;rw[Ec,CQ]at n
  cases vs with
  |nil=>injection k
  |cons w vs=>cases i with
   |zero=>obtain rfl:=BC h;cases w with
    |none=>injection k
    |some w=>exact Rv k (AS rfl)
   |succ i=>exact(bu fun e=>n.1 (BF.mpr ⟨_,bG h,e.symm⟩)).trans (ih n.2 h k)
theorem yf:∀{l:List (String×Option Nat)} {vs:List (Option V)} {i:Nat},(l.map (·.1)).Nodup->Cv l i=some (x,none)->vs.length=l.length->∀y,(if y=x then some v else look (fm l vs) y)=look (fm l (fB vs i v)) y:=fun{l}=>by
 induction l with
 |nil=>intro vs i n h;injection h
 |cons Aa r ih=>
  intro vs i n h z y;rw[Ec,CQ]at n
  cases vs with
  |nil=>injection z
  |cons w vs=>cases i with
   |zero=>
    obtain rfl:=BC h
    show _=if x=y then some v else look (fm r vs) y
    by_cases e:y=x
    ·refine J (AS e) (J (AS e.symm) ?_);rfl
    ·exact J (AK e) (J (AK (Ne.symm e)) (bu (Ne.symm e)))
   |succ i=>
    have e:=ih n.2 h (JQ z) y
    show _=look (fm (Aa::r) (w::fB vs i v)) y
    by_cases q:Aa.1=y
    ·have q':y≠x:=fun e=>n.1 (BF.mpr ⟨_,bG h,e.symm.trans q.symm⟩)
     refine J (AK q') ?_;have e:=(AK q')▸e
     cases Aa with
     |mk y' k=>cases k with
      |some j=>exact e
      |none=>cases w with
       |none=>exact e
       |some w=>exact(AS q).trans (AS q).symm
    ·exact(AL (fun m=>if y=x then some v else m) (bu q)).trans (e.trans (bu q).symm)
theorem mF:∀{l:List (String×Option Nat)} {vs:List (Option V)} {i:Nat},Cv l i=some (x,none)->cl C l (fB vs i v)=cl C l vs:=fun{l}=>by
 induction l with
 |nil=>intro vs i h;injection h
 |cons Aa r ih=>
  intro vs i h
  cases vs with
  |nil=>rfl
  |cons w vs=>cases i with
   |zero=>obtain rfl:=BC h;rfl
   |succ i=>cases Aa with
    |mk y k=>cases k with
     |none=>exact ih h
     |some j=>exact AL (_:: ·) (ih h)
theorem wG:∀{l:List (String×Option Nat)} {vs:List (Option V)} {i:Nat},Cv l i=some (x,some j)->fm l (fB vs i v)=fm l vs:=fun{l}=>by
 induction l with
 |nil=>intro vs i h;injection h
 |cons Aa r ih=>
  intro vs i h
  cases vs with
  |nil=>rfl
  |cons w vs=>cases i with
   |zero=>obtain rfl:=BC h;rfl
   |succ i=>cases Aa with
    |mk y k=>cases k with
     |some j=>exact ih h
     |none=>cases w with
      |none=>exact ih h
      |some w=>exact AL (_:: ·) (ih h)
theorem lP:∀{l:List (String×Option Nat)} {vs:List (Option V)} {i:Nat},Cv l i=some (x,some j)->vs.length=l.length->∃n Aa,BU (cl C l vs) n=some (C+j,.cell Aa)/\(∀v,ib vs i=some v->Aa=some v)/\∀v,A4 (cl C l vs) n (.cell (some v))=cl C l (fB vs i v):=fun{l}=>by
 induction l with
 |nil=>intro vs i h;injection h
 |cons Aa r ih=>
  intro vs i h z
  cases vs with
  |nil=>injection z
  |cons w vs=>cases i with
   |zero=>obtain rfl:=BC h;exact⟨0,w,rfl,fun v e=>e,fun v=>rfl⟩
   |succ i=>
    refine Bc (ih h (JQ z)) fun n q a b d=>?_
    cases Aa with
    |mk y k=>cases k with
     |none=>exact⟨n,q,a,b,d⟩
     |some j=>exact⟨n+1,q,a,b,fun v=>AL (_:: ·) (d v)⟩
section
variable{c:Cx}{A:Around}{G:Gx c A}
theorem Yh(h:Cv G.nm.vars i=some (x,k))(S:G.Sep p U)(e:ib p.vs i=some v)(hd:eqs "__debug__" (Ai x)=false)(hn:eqs "__classdict__" (Ai x)=false)
  (q:Q v (G.Ay p U)):EV c A (.Name (Ai x) pos) G.env Q (G.Ay p U):=by
 cases k with
 |none=>exact sn G.hL G.hk (G.hl x (bG h)) (u.set_same _ _ _) (wo G.nd h e) q (oJ hd)
 |some j=>
  have k:=G.hc x j (bG h);refine Bc (lP (C:=G.C) h S.len) fun n Aa a b Z=>vf G.hk (.inl k.1) k.2 (v:=v) (cZ S.nd (DX _ (HG _ ?_))) q (oJ hd) (oJ hn);exact Rv (b v e) (cy a)
theorem dM:∀{l:List (Addr×O)} {i:Nat},BU l i=some q->BU (l++m) i=some q:=fun{l}=>by
 induction l with
 |nil=>intro i h;injection h
 |cons Aa r ih=>intro i h;cases i with
  |zero=>exact h
  |succ i=>exact ih h
theorem qj:∀{l:List (Addr×O)} {i:Nat},BU l i=some q->A4 (l++m) i o=A4 l i o++m:=fun{l}=>by
 induction l with
 |nil=>intro i h;injection h
 |cons Aa r ih=>intro i h;cases i with
  |zero=>rfl
  |succ i=>exact AL (Aa:: ·) (ih h)
theorem eD(S:G.Sep p U)(h:Cv G.nm.vars i=some q):G.Sep (p.set i v) U:=by
 have k:(G.pl (p.set i v)).map (·.1)=(G.pl p).map (·.1):=by
  cases q with
  |mk x k=>cases k with
   |none=>
    show G.L::(cl _ _ (fB p.vs i v)++p.ob).map (·.1)=G.L::(cl _ _ p.vs++p.ob).map (·.1)
    exact J (mF h) rfl
   |some j=>
    refine Bc (lP (C:=G.C) h S.len) fun n Aa a b d=>?_
    show G.L::(cl _ _ (fB p.vs i v)++p.ob).map (·.1)=G.L::(cl _ _ p.vs++p.ob).map (·.1)
    refine Rv (d v) (J DT (J DT (J dK ?_)));rfl
 exact⟨k▸S.nd,k▸S.out,ub.trans S.len⟩
theorem nc(h:Cv G.nm.vars i=some (x,k))(S:G.Sep p U)(q:Q (G.Ay (p.set i v) U)):AU c A (fun v=>storeName G.env (Ai x) v) v Q (G.Ay p U):=by
 cases k with
 |none=>
  refine AU.same (me G.hk (G.hl x (bG h)) G.hL (u.set_same _ _ _) rfl ⟨_,fun a=>?_,q⟩)
  by_cases e:a=G.L
  ·exact J e (.inr ⟨_,_,u.set_same _ _ _,u.set_same _ _ _,fun y=>(mR _ _ _ y).trans (yf G.nd h S.len y)⟩)
  ·refine .inl (Eq.trans ?_ (u.Ad _ _ e).symm)
   refine(u.Ad _ _ e).trans (Eq.trans ?_ (u.Ad _ _ e).symm)
   show Bx (cl _ _ (fB p.vs i v)++p.ob) U a=_
   exact J (mF h) rfl
 |some j=>
  have k:=G.hc x j (bG h);refine Bc (lP (C:=G.C) h S.len) fun n Aa a b d=>?_;have m:BU (G.pl p) (n+1)=some (G.C+j,.cell Aa):=dM a;refine pO G.hk k.1 k.2 (cZ S.nd (cy m)) ?_;have e:(G.Ay p U).set (G.C+j) (.cell (some v))=G.Ay (p.set i v) U:=by
   refine(lC S.nd m).trans (AL (fun l=>Bx l U) ?_)
   show(G.L,O.fr (fm G.nm.vars p.vs))::A4 (cl _ _ p.vs++p.ob) n (.cell (some v))=(G.L,O.fr (fm G.nm.vars (fB p.vs i v)))::(cl _ _ (fB p.vs i v)++p.ob)
   refine J (qj a) (J (d v) (J (wG h) ?_));rfl
  exact J e q
end
end
section
set_option genInjectivity false
inductive Wh where
 |E (e:Expr)|T (e:Expr)|L (es:List Expr)|A (es:List Expr)|O (es:List Expr)|S (s:Stmt)|SS (l:List Stmt)|G (t:Expr)
section
def MV(G:Gx c A)(Q:Pv->u->Prop)(f:Fl)(p:Pv)(U:u):Prop:=match f with
 | .next=>Q p U
 | .ret x=>G.R x p U
def Sound(G:Gx c A)(m:Wh)(k k':Code):Prop:=match m with
 | .E e=>∀K st p U,W G k' K st p U->G.Sep p U->EV c A e G.env (Lf G fun v=>W G k K (v::st)) (G.Ay p U)
 | .T e=>∀K st p U,W G k' K st p U->G.Sep p U->TS c A e G.env (Lf G fun b=>W G k K (.ex (.bool b)::st)) (G.Ay p U)
 | .L es=>∀K st p U,W G k' K st p U->G.Sep p U->CU c A es G.env (Lf G fun xs=>W G k K (xs.reverse++st)) (G.Ay p U)
 | .A es=>∀K st p U,W G k' K st p U->G.Sep p U->TU c A (allTrue .And es G.env) (Lf G fun b=>W G k K (.ex (.bool b)::st)) (G.Ay p U)
 | .O es=>∀K st p U,W G k' K st p U->G.Sep p U->TU c A (allTrue .Or es G.env) (Lf G fun b=>W G k K (.ex (.bool b)::st)) (G.Ay p U)
 | .S s=>∀K p U,W G k' K [] p U->G.Sep p U->EX c A s G.env (Lf G (MV G (W G k K []))) (G.Ay p U)
 | .SS l=>∀K p U,W G k' K [] p U->G.Sep p U->Ib c A l G.env (Lf G (MV G (W G k K []))) (G.Ay p U)
 | .G t=>∀K st y p U,W G k' K (y::st) p U->G.Sep p U->AU c A (fun v=>assign t G.env v) y (fun τ=>Lf (α:=Unit) G (fun Z=>W G k K st) () τ) (G.Ay p U)
variable{G:Gx c A}{k k' kr kl:Code}
theorem lf{α:Type}{Q:α->Pv->u->Prop}{v:α}{p:Pv}{U:u}(S:G.Sep p U)(q:Q v p U):Lf G Q v (G.Ay p U):=.mk _ p U S q
theorem CU.lf(h:CU c A es env (Lf G Q) U)(q:∀v p U,G.Sep p U->Q v p U->Q' v (G.Ay p U)):CU c A es env Q' U:=h.mono fun v τ l=>by
 cases l with
 |mk p U S r=>exact q v p U S r
theorem sX:∀{xs:List V},cL xs.length acc (xs++r)=some (xs.reverse++acc,r):=fun{xs}=>by
 induction xs generalizing acc with
 |nil=>rfl
 |cons x xs ih=>exact ih.trans (by exact J ME (J (HJ _ _ _) rfl))
theorem gY{xs st:List V}(h:xs.length=n):cL n [] (xs.reverse++st)=some (xs,st):=by
 subst h;have:=sX (r:=st) (acc:=[]) (xs:=xs.reverse)
 rwa [Np,List.reverse_reverse,HL]at this
theorem xQ(h:∀{Q:V->u->Prop} {U:u},Q v U->EV c A e G.env Q U):Sound G (.E e) k (.op (.val v) k):=fun K st p U q S=>h (lf S q)
theorem yk{i:Nat}(h:Cv G.nm.vars i=some (x,j))(hd:eqs "__debug__" (Ai x)=false)(hn:eqs "__classdict__" (Ai x)=false):Sound G (.E (.Name (Ai x) pos)) k (.op (.ld i) k):=
 fun K st p U q S=>q.elim fun v q=>Yh h S q.1 hd hn (lf S q.2)
theorem z8(hl:Sound G (.E l) kr kl)(hr:Sound G (.E r) (.op (.bin o) k) kr):Sound G (.E (.BinOp l o r pos)) k kl:=
 fun K st p U q S=>so ((hl K st p U q S).lf fun x p U S q=>(hr K _ p U q S).lf fun y p U S q=>q S)
theorem zZ(hm:behindInMarks o r=false)(hl:Sound G (.E l) kr kl)(hr:Sound G (.E r) (.op (.cmp o) k) kr):Sound G (.E (.Compare l [o] [r] pos)) k kl:=
 fun K st p U q S=>pL ((hl K st p U q S).lf fun x p U S q=>(hr K _ p U q S).lf fun y p U S q=>q S) hm
theorem Yi(h:Sound G (.E x) (.op .neg k) k'):Sound G (.E (.UnaryOp .USub x pos)) k k':=
 fun K st p U q S=>sj ((h K st p U q S).lf fun x p U S q=>q.elim fun i q=>⟨i,q.1,lf S q.2⟩)
theorem Yj(h:Sound G (.E x) (.op .not k) k'):Sound G (.E (.UnaryOp .Not x pos)) k k':=
 fun K st p U q S=>yI ((h K st p U q S).lf fun x p U S q=>q.elim fun i q=>⟨i,q.1,lf S q.2⟩)
theorem xn(hx:Sound G (.E x) (.and kr k) k')(hy:Sound G (.E y) .done kr):Sound G (.E (.BoolOp .And [x,y] pos)) k k':=
 fun K st p U q S=>wP ((hx K st p U q S).lf fun x p U S q=>q.elim fun b q=>⟨b,q.1,by
  cases b with
  |true=>exact hy _ st p U (q.2.1 rfl) S
  |false=>exact lf S (q.2.2 rfl)⟩)
theorem wC(ht:Sound G (.T t) (.br ka kb k) k')(ha:Sound G (.E a) .done ka)(hb:Sound G (.E b) .done kb):Sound G (.E (.IfExp t a b pos)) k k':=
 fun K st p U q S=>sQ ((ht K st p U q S).lf fun x p U S q=>q.elim fun b q=>by
  cases q.1
  cases x with
  |true=>exact ha _ st p U (q.2.1 rfl) S
  |false=>exact hb _ st p U (q.2.2 rfl) S)
theorem vE{j:Nat}(hn:aO es=true)(hs:es.length<=1000)(h:Sound G (.L es) (.op (.tup es.length) k) k'):Sound G (.E (.Tuple es j pos)) k k':=
 fun K st p U q S=>mD ((CU.len (h K st p U q S)).mono fun xs τ h=>by
  refine A5 h fun z l=>?_;clear h
  cases l with
  |mk p U S q=>
   refine Fv q ?_;clear q;intro ys BB e q;rw[gY z]at e;cases e;exact lf S q) hn hs
theorem mC(h:CU c A es env (fun xs Ab=>Q (.lst xs) Ab\/∀a,Ab a=none->Q (.ex (.ref a)) (Ab.set a (.list xs))) U)(hn:aO es=true)(hs:es.length<=1000):EV c A (.List es pos) env Q U:=fun ρ s R=>
 List_ (CU.run (CU.len h) hn R fun vs Ak xs Ab Aq Au r z=>
  PySem.wpAny_newList (z.2.elim (fun q=>⟨_,Ab,Aq.push _,Au.trans (.push _),bm (vs:=vs.toArray) Aq.FK ⟨_,DB _ rfl⟩ (List.toList_toArray (as:=vs)▸r.mono (Keeps.push _)),q⟩) fun q=>⟨_,_,(Aq.newList r).1,Au.trans (Aq.newList r).2,aW,q _ Aq.new⟩)
   (by exact J r.length (J z.1 (J FD (AG hs (by decide))))))
theorem iG{p:Pv}{U:u}{st:List V}{K:List V->Pv->u->Prop}{Q:V->Pv->u->Prop}{o:O}(S:G.Sep p U)(hQ:∀a p U,K (.ex (.ref a)::st) p U->Q (.ex (.ref a)) p U)(h:(∀a,U a=none->K (.ex (.ref a)::st) (p.new a o) U)\/∀a,U a=none->K (.ex (.ref a)::st) p (U.set a o)):
  ∀a,G.Ay p U a=none->Lf G Q (.ex (.ref a)) ((G.Ay p U).set a o):=fun a z=>by
 have f:=S.free z
 rcases h with h|h
 ·have n:=S.new f.1 f.2 (o:=o)
  exact J n.2 (lf n.1 (hQ _ _ _ (h a f.2)))
 ·have n:=S.add f.1 (o:=o)
  exact J n.2 (lf n.1 (hQ _ _ _ (h a f.2)))
theorem x7{es:List Expr}{pos:Pos}(hn:aO es=true)(hs:es.length<=1000)(h:Sound G (.L es) (.op (.lst es.length) k) k'):Sound G (.E (.List es pos)) k k':=
 fun K st p U q S=>mC ((CU.len (h K st p U q S)).mono fun xs τ h=>by
  refine A5 h fun z l=>?_;clear h
  cases l with
  |mk p U S q=>
   refine Fv q ?_;clear q;intro ys BB e q;rw[gY z]at e;cases e;exact q.imp (lf S) fun q=>iG (K:=W G k K) S (fun Z Z Z h=>h) q) hn hs
theorem wF:Sound G (.E (.Dict [] [] pos)) k (.op .BV k):=fun K st p U q S=>tO (iG (K:=W G k K) S (fun Z Z Z h=>h) q)
noncomputable def rd:List (Expr×Expr)->List Expr
 |[]=>[]
 |q::r=>q.1::q.2::rd r
theorem tJ:(rd es).length=2*es.length:=by
 induction es with
 |nil=>rfl
 |cons q r ih=>exact AL (· +2) ih
theorem xe:∀{es:List (Expr×Expr)} {Q:List (V×V)->u->Prop} {U:u},CU c A (rd es) env (fun xs U=>Q (ig xs) U) U->GJ c A es env Q U:=fun{es}=>by
 induction es with
 |nil=>intro Q U h;exact h
 |cons q r ih=>intro Q U h;exact TV.mono h fun x Ab h=>TV.mono h fun y Ah h=>ih h
theorem zB(h0:es≠[])(hl:es.length<=15)(h:Sound G (.L (rd es)) (.op (.D7 es.length) k) k'):Sound G (.E (.Dict (es.map fun p=>some p.1) (es.map (·.2)) pos)) k (.op .BV k'):=fun K st p U q S=>by
 have key:∀a p U,W G k' K (.ex (.ref a)::st) p U->G.Sep p U->GJ c A es G.env (fun l Ab=>Ab a=some (.dict [])/\K4 [] l/\Lf G (fun v=>W G k K (v::st)) (.ex (.ref a)) (Ab.set a (.dict (cj [] l)))) (G.Ay p U):=fun a p U q S=>
  xe ((CU.len (h K _ p U q S)).mono fun xs τ l=>by
   refine A5 l ?_;clear l;intro z l
   cases l with
   |mk p U S q=>
    obtain⟨ys,a',BB,e,sp,p',Ac,Aa,q⟩:=q;rw[gY (z.trans tJ)]at e;cases e;refine D4 (Aa.at S) fun u1 u2 u3=>?_;exact⟨u1,sp,u3▸lf u2 q⟩)
 refine vT (fun a z=>?_) (Dj (LA (by decide) _) G.hu) h0 hl;have f:=S.free z
 rcases q with q|q
 ·have n:=S.new f.1 f.2 (o:=.dict [])
  exact J n.2 (key a _ _ (q a f.2) n.1)
 ·have n:=S.add f.1 (o:=.dict [])
  exact J n.2 (key a _ _ (q a f.2) n.1)
theorem xX(hb:∀w,attributeBase o x G.env w=w)(h:Sound G (.E o) (.op (.attr x) k) k'):Sound G (.E (.Attribute o x pos)) k k':=
 fun K st p U q S=>wq ((h K st p U q S).lf fun v p U S q=>q.elim fun a q=>⟨a,q.1,q.2 S⟩) (hb _)
theorem zR(hp:gN s=true)(hl:Sound G (.E v) kr kl)(hr:Sound G (.E s) (.op .sub k) kr):Sound G (.E (.Subscript v s pos)) k kl:=
 fun K st p U q S=>xV ((hl K st p U q S).lf fun x p U S q=>(hr K _ p U q S).lf fun y p U S q=>q v s hp S)
theorem uz{j:Nat}(h:Sound G (.E v) (.op .Co k) k'):Sound G (.E (.Subscript v (.Slice (some (.Constant (.int 1) j cp)) none none p') pos)) k k':=
 fun K st p U q S=>ku ((h K st p U q S).lf fun x p U S q=>by refine Bc q ?_;clear q;intro y xs e z q;exact⟨y,xs,e,z,lf S q⟩) (fun Z Z=>by with_unfolding_all rfl)
theorem zV{j:Nat}(h:Sound G (.E v) (.op .Px k) k'):Sound G (.E (.Subscript v (.Slice none (some (.Constant (.int 1) j cp)) none p') pos)) k k':=
 fun K st p U q S=>oh ((h K st p U q S).lf fun x p U S q=>by refine LN q ?_;clear q;intro y z xs e q;exact⟨y,z,xs,e,lf S q⟩) (fun Z Z=>by with_unfolding_all rfl)
theorem zM{m j:Nat}(h:Sound G (.E v) (.op (.I2 m) k) k'):Sound G (.E (.Subscript v (.Slice none (some (.Constant (.int m) j cp)) none p') pos)) k k':=
 fun K st p U q S=>rL (m:=m) ((h K st p U q S).lf fun x p U S q=>by refine B4 q ?_;clear q;intro xs e z q;exact⟨xs,e,z,lf S q⟩) (fun Z Z=>by with_unfolding_all rfl)
theorem xU{j:Nat}(h:Sound G (.E v) (.op .back k) k'):Sound G (.E (.Subscript v (.Slice none none (some (.UnaryOp .USub (.Constant (.int 1) j cp) np)) p') pos)) k k':=
 fun K st p U q S=>lT ((h K st p U q S).lf fun x p U S q=>by refine DC q ?_;clear q;intro a xs e r z q;exact⟨a,xs,e,r.at S,z,lf S q⟩) (fun Z Z=>by with_unfolding_all rfl)
theorem xM{st:List V}{K:List V->Pv->u->Prop}(z:xs.length=n)(S:G.Sep p U)(h:su n (xs.reverse++ .ex f::st) fun f xs st=>xK G f xs (fun v=>K (v::st)) p U):a6 c A f xs (Lf G fun v=>K (v::st)) (G.Ay p U):=by unfold su at h;rw[gY z]at h;exact h S
theorem y8(hn:aO es=true)(hv:GV c x (.ex f))(hx:x∈G.nm.gl)(h:Sound G (.L es) (.op (.call es.length) k) k'):Sound G (.E (.Call (.Name (Ai x) np) es [] pos)) k (.op (.val (.ex f)) k'):=
 fun K st p U q S=>mB G.ok (hv.ld G.hg G.hb G.hk (G.hx x hx) ⟨f,rfl,hv.ok f rfl,(CU.len (h K _ p U q S)).mono fun xs τ l=>by
  refine A5 l ?_;clear l;intro z l
  cases l with
  |mk p U S q=>exact xM (K:=W G k K) z S q⟩) hn
theorem wB(hb:∀w,attributeBase o x env w=w)(hn:aO es=true)(hl:es.length<30)(hp:(apos.endLine==pos.line)=true):eval (.Call (.Attribute o x apos) es [] pos) env=(do
   let ov <- eval o env
   standAt apos.atName
   let(f,first) <- holding [ov] (getMethod ov x (do return(<- importBound o env).getD true))
   callWith pos f first (backTo pos (starEach es env)) (backToKw pos (keywordEach [] env))):=by
 have e1:methodCallForm (es.length+([]:List Keyword).length) (backTo pos (starEach es env)) (backToKw pos (keywordEach [] env))=true:=by
  unfold methodCallForm;have h1:(backTo pos (starEach es env)).all (!·.1)=true:=H8.mpr fun x hx=>by exact J (Bool.eq_false_iff.mpr (List.any_eq_false.mp (CU.C5 (pos:=pos) (env:=env) hn) x hx)) rfl
  refine J h1 ?_
  show(true &&decide (es.length+0+0<30))=true
  simpa using hl
 rewrite[arm_eval_Call];refine J (hb _) ?_;unfold methodCall calleeOf methodCallPos;refine J e1 (J hp ?_);rfl
theorem xl(hb:∀w,attributeBase o x G.env w=w)(hn:aO es=true)(hl:es.length<30)(hp:(apos.endLine==pos.line)=true)(ho:Sound G (.E o) (.op (.GN x) kr) k')(h:Sound G (.L es) (.op (.call (es.length+1)) k) kr):
  Sound G (.E (.Call (.Attribute o x apos) es [] pos)) k k':=
 fun K st p U q S=>v9 G.ok ((ho K st p U q S).lf fun y p U S q=>by
  refine B4 q ?_;clear q;intro f m ok q;refine⟨f,m S,ok,(CU.len (h K _ p U q S)).mono fun xs τ l=>?_⟩;refine A5 l ?_;clear l;intro z l
  cases l with
  |mk p U S q=>
   refine xM (K:=W G k K) (xs:=y::xs) (AL (· +1) z) S ?_;exact J ME (J (HJ _ _ _) q)) hn (wB hb hn hl hp)
theorem yr(hv:GV c "sorted" (.ex (.builtin "sorted")))(hx: "sorted" ∈G.nm.gl)(Kb:GV c "set" (.ex (.type "set")))(Ut: "set" ∈G.nm.gl)(hn:aO [e]=true)(h:Sound G (.E e) (.op .sset k) k'):
  Sound G (.E (.Call (.Name (Ai "sorted") np) [.Call (.Name (Ai "set") Jy) [e] [] Dy] [] pos)) k k':=
 fun K st p U q S=>wS G.ok G.hh (Dj (LA (by decide) _) G.hu) (hv.ld G.hg G.hb G.hk (G.hx _ hx) ⟨rfl,Kb.ld G.hg G.hb G.hk (G.hx _ Ut) ⟨rfl,(h K st p U q S).lf fun v p U S q=>by refine Rp q ?_;clear q;intro Z xs zs a b d e f q;exact⟨Z,xs,zs,a,b,d,e,f,fun ys n m=>lf S (q ys n m)⟩⟩⟩) hn
theorem tW(hv:GV c "list" (.ex (.type "list")))(hx: "list" ∈G.nm.gl)(Kb:GV c "range" (.ex (.type "range")))(Ut: "range" ∈G.nm.gl)(hn:aO [e]=true)(h:Sound G (.E e) (.op .D2 k) k'):
  Sound G (.E (.Call (.Name (Ai "list") np) [.Call (.Name (Ai "range") Jy) [e] [] Dy] [] pos)) k k':=
 fun K st p U q S=>jY G.ok G.hh (hv.ld G.hg G.hb G.hk (G.hx _ hx) ⟨rfl,Kb.ld G.hg G.hb G.hk (G.hx _ Ut) ⟨rfl,(h K st p U q S).lf fun v p U S q=>by refine B4 q ?_;clear q;intro n e z q;exact⟨n,e,z,lf S q⟩⟩⟩) hn
theorem Yk:Sound G (.L []) k k:=fun K st p U q S=>lf S q
theorem yT(h:Sound G (.E e) kr k')(hs:Sound G (.L es) k kr):Sound G (.L (e::es)) k k':=
 fun K st p U q S=>(h K st p U q S).lf fun v p U S q=>(hs K _ p U q S).lf fun xs p U S q=>lf S (by exact J ME (J (HJ _ _ _) q))
theorem zm(he:isTrue e G.env (eval e G.env)=(do let v <- eval e G.env;standAt e.pos;holding [v] (truthy v)))(h:Sound G (.E e) (.op .BA k) k'):Sound G (.T e) k k':=
 fun K st p U q S=>wk ((h K st p U q S).lf fun v p U S q=>q.elim fun b q=>⟨b,q.1,lf S (by have e:=q.1;exact Rv e q.2)⟩) he
theorem yQ(hm:behindInMarks o r=false)(hl:Sound G (.E l) kr kl)(hr:Sound G (.E r) (.op (.cmp o) (.op .BA k)) kr):Sound G (.T (.Compare l [o] [r] pos)) k kl:=
 fun K st p U q S=>pU ((hl K st p U q S).lf fun x p U S q=>(hr K _ p U q S).lf fun y p U S q ρ s v Aa R rv ru=>
  BE (q S s v Aa R rv ru) (fun Z Z h=>h.mono fun v τ l=>by
   cases l with
   |mk p U S q=>refine An q ?_;clear q;intro b e q;subst e;exact⟨b,rfl,lf S q⟩) fun Z Z e=>e) hm
theorem xu(h:Sound G (.T x) (.op .not k) k'):Sound G (.T (.UnaryOp .Not x pos)) k k':=
 fun K st p U q S=>yM ((h K st p U q S).lf fun b p U S q=>q.elim fun i q=>lf S (by cases q.1;exact q.2))
theorem yR(h:Sound G (.A es) k k'):Sound G (.T (.BoolOp .And es pos)) k k':=fun K st p U q S=>yA (h K st p U q S)
theorem Yl(h:Sound G (.O es) k k'):Sound G (.T (.BoolOp .Or es pos)) k k':=fun K st p U q S=>ze (h K st p U q S)
theorem w6(h:Sound G (.T e) (.and kr k) k')(hs:Sound G (.A es) .done kr):Sound G (.A (e::es)) k k':=
 fun K st p U q S=>mf ((h K st p U q S).lf fun b p U S q=>q.elim fun i q=>by
  cases q.1
  cases b with
  |true=>exact hs _ _ _ _ (q.2.1 rfl) S
  |false=>exact lf S (q.2.2 rfl))
theorem vF(h:Sound G (.T e) (.or kr k) k')(hs:Sound G (.O es) .done kr):Sound G (.O (e::es)) k k':=
 fun K st p U q S=>mQ ((h K st p U q S).lf fun b p U S q=>q.elim fun i q=>by
  cases q.1
  cases b with
  |true=>exact lf S (q.2.1 rfl)
  |false=>exact hs _ _ _ _ (q.2.2 rfl) S)
theorem vO(hm:lastMarks [o,o'] [r,r']=false)(hl:Sound G (.E l) kr kl)(hr:Sound G (.E r) (.chain o ka k) kr)(ha:Sound G (.E r') (.op (.cmp o') (.op .BA .done)) ka):Sound G (.T (.Compare l [o,o'] [r,r'] pos)) k kl:=
 fun K st p U q S=>q8 ((hl K st p U q S).lf fun x p U S q=>(hr K _ p U q S).lf fun y p U S q ρ s v Aa R rv ru=>
  PySem.wpAny_mono (q S s v Aa R rv ru) (fun Z Z h=>h.mono fun v τ l=>by
   cases l with
   |mk p U S q=>
    refine An q ?_;clear q;intro b e q;subst e;refine⟨b,rfl,?_⟩
    cases b with
    |false=>exact lf S (q.2 rfl)
    |true=>exact(ha _ _ p U (q.1 rfl) S).lf fun z p U S q ρ s v Aa R rv ru=>
      PySem.wpAny_mono (q S s v Aa R rv ru) (fun Z Z h=>h.mono fun v τ l=>by
       cases l with
       |mk p U S q=>refine An q ?_;clear q;intro b e q;subst e;exact⟨b,rfl,lf S q⟩) fun Z Z e=>e) fun Z Z e=>e) hm
end
end
section
set_option backward.match.sparseCases false
noncomputable def kQ:Expr->Bool
 | .ListComp .. =>false
 | .SetComp .. =>false
 | .DictComp .. =>false
 |_=>true
theorem lF(h:kQ v=true):swapsWith v t n env=pure false:=by cases v<;>first|rfl|injection h
section
variable{c:Cx}{A:Around}{G:Gx c A}{k k' kr kl ka kb:Code}
theorem zj(h:Sound G (.E e) .ret k'):Sound G (.S (.Return (some e) pos)) k k':=fun K p U q S=>rF ((h K [] p U q S).lf fun v p U S q=>lf S q)
theorem xt(hc:kQ e=true)(h:Sound G (.E e) (.op .pop k) k'):Sound G (.S (.Expr e pos)) k k':=
 fun K p U q S=>w5 ((h K [] p U q S).lf fun v p U S q=>lf S q) (by unfold interactive;exact J G.hk rfl) (lF hc)
theorem yG:Sound G (.S (.Pass pos)) k k:=fun K p U q S=>vA (lf S q)
theorem Uu(ht:Sound G (.T t) (.br ka kb k) k')(ha:Sound G (.SS a) .done ka)(hb:Sound G (.SS b) .done kb):Sound G (.S (.If t a b pos)) k k':=
 fun K p U q S=>zU ((ht K [] p U q S).lf fun Aa p U S q=>q.elim fun i q=>by
  cases q.1
  cases Aa with
  |true=>exact ha (W G k K) p U (q.2.1 rfl) S
  |false=>exact hb (W G k K) p U (q.2.2 rfl) S)
theorem vh(ht:Sound G (.T t) .done ka)(hb:Sound G (.SS b) .done kb):Sound G (.S (.While t b [] pos)) k (.I3 ka kb k):=
 fun K p U q S=>by
  refine Fv q fun Rw n j0 h=>?_;clear q;refine sC (fun n τ=>Lf (α:=Unit) G (fun Z=>Rw n) () τ) n (lf S j0) fun n τ j=>?_
  cases j with
  |mk p U S j=>
   refine(ht _ [] p U (h n p U j) S).lf fun Aa p U S q=>q.elim fun i q=>?_
   cases q.1
   cases Aa with
   |true=>
    exact(hb _ p U (q.2.1 rfl) S).lf fun f p U S q=>by
     cases f with
     |next=>refine An q ?_;clear q;intro m hm q;exact⟨m,hm,lf S q⟩
     |ret x=>exact lf S q
   |false=>exact lf S (q.2.2 rfl)
theorem x8:Sound G (.SS []) k k:=fun K p U q S=>vm (lf S q)
theorem vl(h:Sound G (.S s) kr k')(hl:Sound G (.SS l) k kr):Sound G (.SS (s::l)) k k':=
 fun K p U q S=>ty ((h K p U q S).lf fun f p U S q=>by
  cases f with
  |next=>exact hl K p U q S
  |ret x=>exact lf S q)
theorem yB(h:Cv G.nm.vars i=some (x,j)):Sound G (.G (.Name (Ai x) pos)) k (.op (.st i) k):=fun K st y p U q S=>gV (nc h S (lf (eD S h) q))
theorem yC(h:Sound G (.E o) (.op (.D8 x) k) k'):Sound G (.G (.Attribute o x pos)) k k':=
 fun K st y p U q S=>vu ((h K _ p U q S).lf fun v p U S q=>q.elim fun a q=>⟨a,q.1,q.2 S⟩)
theorem Ym(hl:Sound G (.E o) kr k')(hr:Sound G (.E i) (.op .Bt k) kr):Sound G (.G (.Subscript o i pos)) k k':=
 fun K st y p U q S=>yV ((hl K _ p U q S).lf fun v p U S q=>(hr K _ p U q S).lf fun Aa p U S q=>q S)
def nW(G:Gx c A):List Expr->Code->Code->Prop
 |[],k,k'=>k'=k
 |e::es,k,k'=>∃x j pos i kr,e=.Name (Ai x) pos/\Cv G.nm.vars i=some (x,j)/\k'=.op (.st i) kr/\nW G es k kr
theorem sY{K:List V->Pv->u->Prop}{st:List V}:∀{es:List Expr} {xs:List V} {k':Code} {p:Pv} {U:u},nW G es k k'->xs.length=es.length->W G k' K (xs++st) p U->G.Sep p U->HO c A ((assignEach es G.env).map (·.2)) xs (fun τ=>Lf (α:=Unit) G (fun Z=>W G k K st) () τ) (G.Ay p U):=fun{es}=>by
 induction es with
 |nil=>
  intro xs k' p U h z q S;obtain rfl:k'=k:=h
  cases xs with
  |nil=>exact lf S q
  |cons x xs=>exact nomatch z
 |cons e es ih=>
  intro xs k' p U h z q S;refine VT h ?_;clear h;intro x j pos i kr Uv hi Uw h;refine J Uv ?_;subst Uw
  cases xs with
  |nil=>injection z
  |cons y xs=>exact gV (nc hi S (ih h (JQ z) q (eD S hi)))
theorem q7:∀{k':Code},nW G es k k'->(assignEach es G.env).length=es.length/\(assignEach es G.env).findIdx? (·.1)=none:=by
 induction es with
 |nil=>intro k' h;exact⟨rfl,rfl⟩
 |cons e es ih=>
  intro k' h;refine VT h ?_;clear h;intro x j pos i kr Ux hi Uy h;refine J Ux ?_;subst Uy;refine A5 (ih h) fun a b=>⟨AL (· +1) a,?_⟩
  refine J (JL) ?_
  show Option.map _ (List.findIdx? _ _)=none
  exact J b rfl
theorem Yn(h:nW G es k kr):Sound G (.G (.Tuple es j pos)) k (.op (.Ht es.length) kr):=fun K st y p U q S=>by
 refine B4 q ?_;clear q;intro xs e z q;have n:=q7 h;have a:=sY h z q S
 rcases e with e|e
 ·subst e;exact yP G.hh a (n.1.trans z.symm) n.2
 ·subst e;exact xg G.hh a (n.1.trans z.symm) n.2
theorem uO(hs:swapsWith v (some t) pos.line G.env=pure false)(hw:swappedStores [t] v G.env=pure none)(ha:(assignEach [t] G.env).map (·.2)=[assign t G.env])(hv:Sound G (.E v) kr k')(ht:Sound G (.G t) k kr):Sound G (.S (.Assign [t] v pos)) k k':=
 fun K p U q S=>rW ((hv K [] p U q S).lf fun y p U S q=>(ht K [] y p U q S).lf fun p U S q=>lf S q) hs hw ha
theorem x5(hn:aO vs=true)(hs:vs.length<=1000)(hw:swappedStores [.Tuple ns j II] (.Tuple vs j' Uz) G.env=pure (some names))(hl:names.length=vs.length)(hv:Sound G (.L vs) kr k')
  (ha:∀K (xs:List V) p U,xs.length=vs.length->W G kr K xs.reverse p U->G.Sep p U->HO c A (names.reverse.map fun n=>fun v=>bindName G.env n v) xs.reverse (Lf G (MV G (W G k K [])) .next) (G.Ay p U)):Sound G (.S (.Assign [.Tuple ns j II] (.Tuple vs j' Uz) pos)) k k':=
 fun K p U q S=>vo G.hh (mD ((CU.len (hv K [] p U q S)).mono fun xs τ l=>by
  refine A5 l ?_;clear l;intro z l
  cases l with
  |mk p U S q=>exact⟨xs,rfl,hl.trans z.symm,ha K xs p U z (by rwa [HL]at q) S⟩) hn hs) rfl hw
theorem xd(h:Jz y xs qQ p U):qQ p U/\(∀p' ex U,qQ p U->p'.ob=p.ob++ex->qQ p' U)/\∃B:u->Prop,(∀(G:Gx c A) p U,G.Sep p U->qQ p U->B (G.Ay p U))/\∀(G:Gx c A) tg,G.Sep p U->rX c A tg y xs B (G.Ay p U):=by
 cases h with
 |lst=>exact⟨Al,fun Z Z Z Z Z=>trivial,_,fun Z Z Z Z Z=>trivial,fun G tg S=>sA G.hh⟩
 |tup=>exact⟨Al,fun Z Z Z Z Z=>trivial,_,fun Z Z Z Z Z=>trivial,fun G tg S=>uI G.hh⟩
 |str h=>exact⟨Al,fun Z Z Z Z Z=>trivial,_,fun Z Z Z Z Z=>trivial,fun G tg S=>tV G.hh h⟩
 |obj h=>exact⟨h,fun p' ex U r e=>by
   cases r with
   |AN r=>exact .AN r
   |own i r=>exact .own i (e▸dM r),_,fun G p U S r=>r.at S,fun G tg S=>qx G.hh (h.at S)⟩
theorem ti{t:Expr}{body:List Stmt}{xs:List V}{qQ:Pv->u->Prop}{B:u->Prop}{K:List V->Pv->u->Prop}{p:Pv}{U:u}(hB:∀p U,G.Sep p U->qQ p U->B (G.Ay p U))(ht:Sound G (.G t) kr kb)(hb:Sound G (.SS body) .done kr)(S:G.Sep p U)
  (q:∃Rw:Nat->Pv->u->Prop,Rw 0 p U/\(∀j x p U,xs[j]? =some x->Rw j p U->W G kb (fun Z p U=>qQ p U/\Rw (j+1) p U) [x] p U)/\∀p U,Rw xs.length p U->W G k K [] p U):
  ∃Rw:Nat->u->Prop,Rw 0 (G.Ay p U)/\(∀j x Ac,xs[j]? =some x->Rw j Ac->AU c A (fun v=>assign t G.env v) x (Ib c A body G.env (fun f Ap=>match f with| .next=>B Ap/\Rw (j+1) Ap| .ret z=>Lf G (MV G (W G k K [])) (.ret z) Ap)) Ac)/\∀Ac,Rw xs.length Ac->Lf G (MV G (W G k K [])) .next Ac:=by
 refine B4 q ?_;clear q;intro Rw j0 h q;refine⟨fun n τ=>Lf (α:=Unit) G (fun Z=>Rw n) () τ,lf S j0,fun j x τ hx l=>?_,fun τ l=>?_⟩
 ·cases l with
  |mk p U S l=>
   exact(ht _ [] x p U (h j x p U hx l) S).lf fun p U S q=>(hb _ p U q S).lf fun f p U S q=>by
    cases f with
    |next=>exact⟨hB p U S q.1,lf S q.2⟩
    |ret z=>exact lf S q
 ·cases l with
  |mk p U S l=>exact lf S (q p U l)
theorem iO(h:∀l n q,e≠ .Set l n q)(x:Value):foldedSetIterable e env x=pure x:=by cases e<;>first|rfl|exact Ba rfl (h _ _ _)
end
end
section
theorem cW{env:Env}{x:Str}{k:NameKind}:∀{names:List (Str×NameKind)},names.lookup x=some k->
  (names.map fun(n,k)=>if(k==H9 &&env.scope.kind==.function &&env.kindOf n==some .cell)then(n,SQ)else(n,k)).lookup x=some (if(k==H9 &&env.scope.kind==.function &&env.kindOf x==some .cell)then SQ else k):=fun{names}=>by
 induction names with
 |nil=>intro h;exact nomatch h
 |cons Aa r ih=>
  intro h
  cases Aa with
  |mk n k'=>
   rw[H7]at h
   show List.lookup x ((if(k'==H9 &&env.scope.kind==.function &&env.kindOf n==some .cell)=true then(n,SQ)else(n,k'))::_)=_
   cases hx:x==n with
   |true=>
    rw[hx]at h;refine J (BC h) ?_;obtain rfl:=E9 hx
    cases q:(k==H9 &&env.scope.kind==.function &&env.kindOf x==some .cell)with
    |true=>exact J (AS rfl) (J (AS rfl) (J H7 (J hx rfl)))
    |false=>exact J (AK Ed) (J (AK Ed) (J H7 (J hx rfl)))
   |false=>
    rw[hx]at h
    cases(k'==H9 &&env.scope.kind==.function &&env.kindOf n==some .cell)with
    |true=>exact J (AS rfl) (J H7 (J hx (ih h)))
    |false=>exact J (AK Ed) (J H7 (J hx (ih h)))
theorem oR:∀{names:List (Str×NameKind)} {acc:List (Str×Addr)},(∀e∈names,e.2=.free->∃a,env.cells.lookup e.1=some a)->(∀s a,acc.lookup s=some a->env.cells.lookup s=some a)->
  ∃l,(forIn names acc (fun(e:Str×NameKind) (cs:List (Str×Addr))=>(if e.2==.free then do let a <- cellOf env e.1;pure (S7 ((e.1,a)::cs))else pure (S7 cs):Sem (ForInStep (List (Str×Addr))))))=pure l/\
   (∀s a,l.lookup s=some a->env.cells.lookup s=some a)/\(∀s,acc.lookup s≠none->l.lookup s≠none)/\∀s,(s,H9)∈names->l.lookup s≠none:=fun{names}=>by
 induction names with
 |nil=>intro acc _ h;exact⟨acc,rfl,h,fun Z h=>h,fun Z h=>nomatch h⟩
 |cons e r ih=>
  intro acc h ha
  cases q:(e.2==H9)with
  |false=>
   refine Hg (ih (acc:=acc) (fun e m=>h e (DX _ m)) ha) fun l e1 e2 e3 e4=>⟨l,?_,e2,e3,fun s m=>?_⟩
   ·rewrite[Q0];exact J q e1
   ·refine Or.elim (BP.mp m) (fun m=>?_) fun m=>?_
    ·subst m;injection q
    ·exact e4 s m
  |true=>
   refine Ax (h e EU (E9 q)) fun a hc=>?_;obtain⟨l,e1,e2,e3,e4⟩:=ih (acc:=(e.1,a)::acc) (fun e m=>h e (DX _ m)) (fun s b hs=>by
    rw[H7]at hs
    cases z:s==e.1 with
    |true=>have hs:=z▸hs;exact Rv hs (J (E9 z) hc)
    |false=>have hs:=z▸hs;exact ha s b hs)
   refine⟨l,?_,e2,fun s hs=>e3 s ?_,fun s m=>?_⟩
   ·rewrite[List.forIn_cons];refine J q ?_;unfold cellOf;exact J hc e1
   ·refine J H7 ?_;cases s==e.1 with
    |true=>exact fun h=>nomatch h
    |false=>exact hs
   ·refine Or.elim (BP.mp m) (fun m=>?_) fun m=>?_
    ·subst m;exact e3 s (by exact J H7 (J (beq_self_eq_true _) (fun h=>nomatch h)))
    ·exact e4 s m
theorem im(h:∀e∈scope.names,e.2=.free->∃a,env.cells.lookup e.1=some a):∃l,closureFor scope env=pure l/\∀s a,(s,H9)∈scope.names->env.cells.lookup s=some a->l.lookup s=some a:=by
 refine Hg (oR (acc:=[]) h (fun Z Z h=>nomatch h)) fun l e1 e2 Z e4=>⟨l,?_,fun s a m hs=>?_⟩
 ·unfold closureFor
  exact(AL (· >>=fun r=>pure r) e1).trans rfl
 ·cases q:l.lookup s with
  |none=>exact Ba q (e4 s m)
  |some b=>rw[e2 s b q]at hs;exact hs
noncomputable def BL(P:String->Bool):List (String×Option Nat)->List Nat
 |[]=>[]
 |Aa::r=>if Aa.2.isSome &&P Aa.1 then 0::(BL P r).map (· +1)else(BL P r).map (· +1)
noncomputable def I6(C:Addr)(P:String->Bool):List (String×Option Nat)->List (Option V)->List (Addr×O)
 |[],_=>[]
 |Aa::r,vs=>match vs with
  |[]=>[]
  |v::l=>match Aa.2 with
   |some j=>if P Aa.1 then I6 C P r l else(C+j,.cell v)::I6 C P r l
   |none=>I6 C P r l
noncomputable abbrev Eh(P:String->Bool)(l:List (String×Option Nat)):List (String×Option Nat):=l.filter fun Aa=>Aa.2.isSome &&P Aa.1
theorem fN{v:Option V}{l:List (Option V)}{is:List Nat}:(is.map (· +1)).map (ib (v::l))=is.map (ib l):=by exact J List.map_map rfl
theorem uY{C:Addr}{P:String->Bool}:∀{vars:List (String×Option Nat)} {vs:List (Option V)},vs.length=vars.length->(cl C vars vs).Perm (cl C (Eh P vars) ((BL P vars).map (ib vs))++I6 C P vars vs):=fun{vars}=>by
 induction vars with
 |nil=>intro vs _;exact .refl _
 |cons Aa r ih=>
  intro vs z
  cases vs with
  |nil=>injection z
  |cons v l=>
   have ih:=ih (vs:=l) (JQ z)
   cases Aa with
   |mk s k=>
    cases k with
    |none=>
     refine J (show Eh P ((s,none)::r)=Eh P r from rfl) (J (show BL P ((s,none)::r)=(BL P r).map (· +1)from rfl) (J fN ?_));exact ih
    |some j=>
     cases q:P s with
     |true=>
      refine J (show Eh P ((s,some j)::r)=(s,some j)::Eh P r from List.filter_cons_of_pos q) (J (show BL P ((s,some j)::r)=0::(BL P r).map (· +1)from AS q) (J Ec (J fN ?_)));exact J (show I6 C P ((s,some j)::r) (v::l)=I6 C P r l from AS q) (ih.cons _)
     |false=>
      refine J (show Eh P ((s,some j)::r)=Eh P r from Sp (by rw[show((some j).isSome &&P s)=P s from rfl,q];exact Ed)) (J (show BL P ((s,some j)::r)=(BL P r).map (· +1)from AK (by rw[show((some j).isSome &&P s)=P s from rfl,q];exact Ed)) (J fN ?_));exact J (show I6 C P ((s,some j)::r) (v::l)=(C+j,.cell v)::I6 C P r l from AK (by rw[q];exact Ed)) ((ih.cons _).trans MF.symm)
theorem t7(h:l.Perm m)(nd:(l.map (·.1)).Nodup):Bx l U=Bx m U:=by
 have PB:=(h.map (·.1)).nodup_iff.mp nd
 funext a
 by_cases q:a∈l.map (·.1)
 ·exact An (bV (U:=U) q) fun o e k=>e.trans (cZ PB (h.mem_iff.mp k)).symm
 ·exact(ag q).trans (ag fun z=>q ((h.map (·.1)).mem_iff.mpr z)).symm
noncomputable def Ep(sc:Scope)(s:String):Bool:=sc.names.lookup (Ai s)==some .free
noncomputable def bw(nm:Nm)(sc:Scope)(x:String):Bool:=decide (sc.kind=.function) &&(sc.names.all fun y=>match y.2 with
 | .cell=>false
 | .local=>sc.names.lookup y.1==some .local
 | .free=>(nm.vars.any fun Aa=>Aa.2.isSome &&eqs Aa.1 y.1) &&sc.names.lookup y.1==some .free
 |_=>true) &&sc.names.lookup (Ai x)==some .local
noncomputable def yu:List String:=["len","abs","_law_pick","BASE"]
noncomputable def cD(nm:Nm)(sc:Scope)(x:String):Nm:=⟨(x,none)::Eh (Ep sc) nm.vars,yu.filter fun s=>sc.names.lookup (Ai s)==some .globalImplicit⟩
section
variable{c:Cx}{A:Around}{G:Gx c A}
theorem cc(h:bw nm sc x=true):sc.kind=.function/\(∀y∈sc.names,y.2≠ .cell)/\(∀y∈sc.names,y.2=.local->sc.names.lookup y.1=some .local)/\
  (∀y∈sc.names,y.2=.free->∃s j,(s,some j)∈nm.vars/\y.1=Ai s)/\sc.names.lookup (Ai x)=some .local:=by
 unfold bw at h;rw[Gl,Gl,H8]at h;refine⟨Fc h.1.1,fun y hy e=>?_,fun y hy e=>?_,fun y hy e=>?_,E9 h.2⟩
 ·have:=h.1.2 y hy;have this:=e▸this;injection this
 ·have:=h.1.2 y hy;rw[e]at this;exact E9 this
 ·have:=h.1.2 y hy
  rw[e]at this;refine An (Sv.mp (D3.mp this).1) fun Aa hu q=>?_
  cases Aa with
  |mk s k=>cases k with
   |none=>injection q
   |some j=>exact⟨s,j,hu,cF q⟩
theorem oD{α β:Type}[BEq α][LawfulBEq α]{x:α}{k:β}:∀{l:List (α×β)},l.lookup x=some k->(x,k)∈l:=fun{l}=>by
 induction l with
 |nil=>intro h;injection h
 |cons Aa r ih=>
  intro h;rw[H7]at h
  cases q:x==Aa.1 with
  |true=>have h:=q▸h;obtain rfl:=BC h;exact J (E9 q) EU
  |false=>have h:=q▸h;exact DX _ (ih h)
theorem zu{sc:Scope}{x:String}{l:List (Str×Addr)}(h:bw G.nm sc x=true)(hl:∀s a,(s,H9)∈sc.names->G.env.cells.lookup s=some a->l.lookup s=some a)(C:Addr):
  ∃G':Gx c A,G'.nm=cD G.nm sc x/\G'.env=compEnvC sc l C G.env/\G'.L=C/\G'.C=G.C:=by
 refine Js (cc h) fun h1 h2 h3 h4 h5=>?_;have fr:∀s,Ep sc s=true->sc.names.lookup (Ai s)=some .free:=fun s e=>E9 e;refine⟨⟨compEnvC sc l C G.env,C,G.C,cD G.nm sc x,fun Z Z Z=>False,G.ok,G.hh,G.hu,h1,rfl,G.hg,G.hb,?_,fun y hy=>?_,fun y j hy=>?_,fun s hs=>?_,G.gt,G.ft,G.mt⟩,rfl,rfl,rfl,rfl⟩
 ·refine CQ.mpr ⟨fun m=>?_,List.Sublist.nodup (List.Sublist.map _ List.filter_sublist) G.nd⟩
  refine An (BF.mp m) fun Aa hu e=>?_;have p:=(D3.mp (JO.mp hu).2).2;have:=fr _ p;have this:=(show Aa.1=x from e)▸this;have this:=h5▸this;cases this
 ·rcases BP.mp hy with e|hy
  ·injection e with zq;subst zq;exact(cW h5).trans rfl
  ·exact Ba (D3.mp (JO.mp hy).2).1 Ed
 ·rcases BP.mp hy with e|hy
  ·cases e
  ·refine A5 (JO.mp hy) fun m p=>?_
   have p:=fr _ (D3.mp p).2;have k:=G.hc y j m;refine⟨(cW p).trans ?_,hl _ _ (oD p) k.2⟩;refine J G.hk (J k.1 ?_);rfl
 ·exact A5 (JO.mp hs) fun m p=>(cW (E9 p)).trans rfl
noncomputable def EP(x:String):Option V->List (String×V)
 |none=>[]
 |some v=>[(x,v)]
theorem xW{P:String->Bool}:∀{vars:List (String×Option Nat)} {vs:List (Option V)},fm ((x,none)::Eh P vars) (Aa::vs)=EP x Aa:=fun{vars vs}=>by
 have z:∀{vars:List (String×Option Nat)} {vs:List (Option V)},(∀Aa∈vars,Aa.2.isSome=true)->fm vars vs=[]:=fun{vars}=>by
  induction vars with
  |nil=>intro vs _;rfl
  |cons w r ih=>
   intro vs h
   cases vs with
   |nil=>rfl
   |cons v l=>cases w with
    |mk s k=>cases k with
     |none=>exact Ba (h _ EU) Ed
     |some j=>exact ih fun Aa m=>h Aa (DX _ m)
 have e:=z (vars:=Eh P vars) (vs:=vs) fun Aa m=>(D3.mp (JO.mp m).2).1
 cases Aa with
 |none=>exact e
 |some v=>exact AL ((x,v):: ·) e
theorem cN{G':Gx c A}{sc:Scope}{x:String}{qQ C:Addr}{p:Pv}{U:u}{Aa:Option V}{ys:List V}(e1:G'.nm=cD G.nm sc x)(e2:G'.L=C)(e3:G'.C=G.C)(S:G.Sep p U)(hD:qQ∉(G.pl p).map (·.1))(hC:C∉(G.pl p).map (·.1))(ne:qQ≠C)(zD:U qQ=none)(zC:U C=none):
  let q:Pv:=⟨Aa::(BL (Ep sc) G.nm.vars).map (ib p.vs),p.ob++((qQ,.list ys)::(G.L,.fr (fm G.nm.vars p.vs))::I6 G.C (Ep sc) G.nm.vars p.vs)⟩
  G'.Sep q U/\G'.Ay q U=((G.Ay p U).set qQ (.list ys)).set C (.fr (EP x Aa))/\∀Ac,G'.Sep q Ac->G.Sep p Ac/\Ac qQ=none/\Ac C=none:=by
 intro q;have P:((C,O.fr (EP x Aa))::(qQ,O.list ys)::G.pl p).Perm (G'.pl q):=by
  unfold Gx.pl;refine J e1 (J e2 (J e3 ?_));refine J xW (Rv (HJ _ _ _) ?_);refine Rk _ (List.Perm.trans ?_ List.perm_append_comm);refine Rk _ (Rk _ ?_)
  show List.Perm _ (I6 G.C (Ep sc) G.nm.vars p.vs++(_++p.ob))
  exact Rv (HJ _ _ _) (((uY S.len).trans List.perm_append_comm).append_right _)
 have nd:(((C,O.fr (EP x Aa))::(qQ,O.list ys)::G.pl p).map (·.1)).Nodup:=CQ.mpr ⟨fun m=>(BP.mp m).elim (fun e=>ne e.symm) hC,CQ.mpr ⟨hD,S.nd⟩⟩;refine⟨⟨(P.map (·.1)).nodup_iff.mp nd,fun a m=>?_,?_⟩,(t7 P nd).symm,fun Ac S'=>?_⟩
 ·refine Or.elim (BP.mp ((P.map (·.1)).mem_iff.mpr m)) (fun e=>?_) fun m=>?_
  ·exact J e zC
  ·refine Or.elim (BP.mp m) (fun e=>?_) fun m=>?_
   ·exact J e zD
   ·exact S.out a m
 ·refine J e1 (J EG (J EG (J (Bl _) ?_)))
  have z:∀l:List (String×Option Nat),(BL (Ep sc) l).length=(Eh (Ep sc) l).length:=fun l=>by
   induction l with
   |nil=>rfl
   |cons Aa r ih=>
    unfold Eh;refine J List.filter_cons ?_;unfold BL
    split
    ·exact J EG (J (Bl _) (J EG (AL (· +1) ih)))
    ·exact J (Bl _) ih
  exact AL (· +1) (z _)
 ·have k:∀a,a∈((C,O.fr (EP x Aa))::(qQ,O.list ys)::G.pl p).map (·.1)->Ac a=none:=fun a m=>S'.out a ((P.map (·.1)).mem_iff.mp m)
  exact⟨⟨S.nd,fun a m=>k a (DX _ (DX _ m)),S.len⟩,k qQ (DX _ EU),k C EU⟩
end
end
section
section
variable{c:Cx}{A:Around}{G:Gx c A}
inductive Jr(G:Gx c A)(p:Pv)(x:String)(qQ C:Addr)(Rw:Nat->List V->u->Prop)(j:Nat):u->Prop
 |mk (ys:List V) (U:u) (Aa:Option V) (h:Rw j ys U) (l:ys.length<=j) (S:G.Sep p U) (zD:U qQ=none) (zC:U C=none):Jr G p x qQ C Rw j (((G.Ay p U).set qQ (.list ys)).set C (.fr (EP x Aa)))
noncomputable abbrev Hu(G:Gx c A)(sc:Scope)(p:Pv)(qQ:Addr)(ys:List V)(y:V):Pv:=Cj (BL (Ep sc) G.nm.vars) p ((qQ,.list ys)::(G.L,.fr (fm G.nm.vars p.vs))::I6 G.C (Ep sc) G.nm.vars p.vs) y
structure Cm(G:Gx c A)(sc:Scope)(x:String)(p:Pv)(DD:Pv->u->Prop)(B:u->Prop)(qQ C:Addr)(G':Gx c A):Prop where
 e1:G'.nm=cD G.nm sc x
 e2:G'.L=C
 e3:G'.C=G.C
 hD:qQ∉(G.pl p).map (·.1)
 hC:C∉(G.pl p).map (·.1)
 ne:qQ≠C
 hI:∀p' ex U,DD p U->p'.ob=p.ob++ex->DD p' U
 hB:∀(G:Gx c A) p U,G.Sep p U->DD p U->B (G.Ay p U)
theorem Cm.LW{τ:u}{Aa:Option V}{ys zs:List V}(ne:qQ≠C):(((τ.set qQ (.list ys)).set C (.fr (EP x Aa))).set qQ (.list zs))=(τ.set qQ (.list zs)).set C (.fr (EP x Aa)):=
 (cK ne.symm).trans (AL (u.set · C _) (u.set_set _ _ _ _))
theorem Cm.el(M:Cm G sc x p DD B qQ C G')(hE:Sound G' (.E elt) .done ke){j:Nat}{y:V}{ys:List V}{U:u}(lj:j<1000)(l:ys.length<=j)(S':G'.Sep (Hu G sc p qQ ys y) U)(S:G.Sep p U)
  (q:W G' ke (fun BB p' Ac=>∃v,BB=[v]/\p'=Hu G sc p qQ ys y/\DD p Ac/\Rw (j+1) (ys++[v]) Ac) [] (Hu G sc p qQ ys y) U):
  EV c A elt G'.env (fun v τ=>∃zs,τ qQ=some (.list zs)/\zs.length<=1000/\(B (τ.set qQ (.list (zs++[v])))/\Jr G p x qQ C Rw (j+1) (τ.set qQ (.list (zs++[v]))))) (G'.Ay (Hu G sc p qQ ys y) U):=
 (hE _ [] _ U q S').lf fun v p' Ac S' q=>by
  refine Hg q fun v' e Bg d h=>?_;clear q;subst Bg;injection e with zq;subst zq
  obtain⟨S1,zD,zC⟩:G.Sep p Ac/\Ac qQ=none/\Ac C=none:=(cN (Aa:=some y) (ys:=ys) (U:=fun Z=>none) M.e1 M.e2 M.e3 ⟨S.nd,fun Z Z=>rfl,S.len⟩ M.hD M.hC M.ne rfl rfl).2.2 Ac S';have E:=fun Yo=>cN (Aa:=some y) (ys:=Yo) M.e1 M.e2 M.e3 S1 M.hD M.hC M.ne zD zC;have e1:(G'.Ay (Hu G sc p qQ ys y) Ac).set qQ (.list (ys++[v]))=((G.Ay p Ac).set qQ (.list (ys++[v]))).set C (.fr (EP x (some y))):=(AL (u.set · qQ _) (E ys).2.1).trans (Cm.LW M.ne);refine⟨ys,(congrFun (E ys).2.1 qQ).trans ((u.Ad _ _ M.ne).trans (u.set_same _ _ _)),AG l (Dt lj),?_,?_⟩
  ·exact Eq.mpr (AL B (e1.trans (E (ys++[v])).2.1.symm)) (M.hB G' _ Ac (E (ys++[v])).1 (M.hI _ _ _ d rfl))
  ·exact Eq.mpr (AL (Jr G p x qQ C Rw (j+1)) e1) (.mk _ Ac (some y) h (by exact J CY (JF l)) S1 zD zC)
theorem Cm.turn(M:Cm G sc x p DD B qQ C G'){ifs:List Expr}{tp:Pos}{n:Nat}{xs:List V}(hn:xs.length<=1000)
  (h:∀j y ys U,xs[j]? =some y->Rw j ys U->ys.length<=j->j<1000->G'.Sep (Hu G sc p qQ ys y) U->G.Sep p U->CT c A ifs elt G'.env qQ (fun τ=>B τ/\Jr G p x qQ C Rw (j+1) τ) (G'.Ay (Hu G sc p qQ ys y) U)):
  ∀j y τ,xs[j]? =some y->Jr G p x qQ C Rw j τ->AU c A (fun v=>assign (.Name (Ai x) tp) G'.env v) y (CT c A ifs elt G'.env qQ (fun τ=>B τ/\Jr G p x qQ C Rw (j+1) τ)) τ:=fun j y τ hy q=>by
 cases q with
 |mk ys U Aa hj l S zD zC=>
  refine Ax (CP.mp hy) fun BZ Z=>?_;have E:=fun Aa=>cN (Aa:=Aa) (ys:=ys) M.e1 M.e2 M.e3 S M.hD M.hC M.ne zD zC;have h0:Cv G'.nm.vars 0=some (x,none):=by exact J M.e1 rfl
  have:=gV (pos:=tp) (nc (i:=0) (v:=y) (Q:=CT c A ifs elt G'.env qQ (fun τ=>B τ/\Jr G p x qQ C Rw (j+1) τ)) h0 (E Aa).1 (h j y ys U hy hj l (GZ BZ hn) (E (some y)).1 S))
  rwa [(E Aa).2.1]at this
theorem yO(M:Cm G sc x p DD B qQ C G')(hE:Sound G' (.E elt) .done ke){xs:List V}
  (h:∀ex j y ys U,xs[j]? =some y->Rw j ys U->W G' ke (fun BB p' Ac=>∃v,BB=[v]/\p'=Cj (BL (Ep sc) G.nm.vars) p ex y/\DD p Ac/\Rw (j+1) (ys++[v]) Ac) [] (Cj (BL (Ep sc) G.nm.vars) p ex y) U):
  ∀j y ys U,xs[j]? =some y->Rw j ys U->ys.length<=j->j<1000->G'.Sep (Hu G sc p qQ ys y) U->G.Sep p U->CT c A [] elt G'.env qQ (fun τ=>B τ/\Jr G p x qQ C Rw (j+1) τ) (G'.Ay (Hu G sc p qQ ys y) U):=
 fun j y ys U hy hj l lj S' S=>M.el hE lj l S' S (h _ j y ys U hy hj)
theorem yJ(M:Cm G sc x p DD B qQ C G')(hE:Sound G' (.E elt) .done ke)(hT:Sound G' (.T t) .done kt){xs:List V}
  (h:∀ex j y ys U,xs[j]? =some y->Rw j ys U->W G' kt (fun BB p' Ac=>∃Aa,BB=[.ex (.bool Aa)]/\p'=Cj (BL (Ep sc) G.nm.vars) p ex y/\
   (Aa=true->W G' ke (fun BB p' Ac=>∃v,BB=[v]/\p'=Cj (BL (Ep sc) G.nm.vars) p ex y/\DD p Ac/\Rw (j+1) (ys++[v]) Ac) [] (Cj (BL (Ep sc) G.nm.vars) p ex y) Ac)/\(Aa=false->DD p Ac/\Rw (j+1) ys Ac)) [] (Cj (BL (Ep sc) G.nm.vars) p ex y) U):
  ∀j y ys U,xs[j]? =some y->Rw j ys U->ys.length<=j->j<1000->G'.Sep (Hu G sc p qQ ys y) U->G.Sep p U->CT c A [t] elt G'.env qQ (fun τ=>B τ/\Jr G p x qQ C Rw (j+1) τ) (G'.Ay (Hu G sc p qQ ys y) U):=
 fun j y ys U hy hj l lj S' S=>(hT _ [] _ U (h _ j y ys U hy hj) S').lf fun Aa p' Ac S' q=>by
  refine Hg q fun u' e Dx q1 q2=>?_;clear q;subst Dx
  cases e
  have z1:G.Sep p Ac/\Ac qQ=none/\Ac C=none:=(cN (Aa:=some y) (ys:=ys) (U:=fun Z=>none) M.e1 M.e2 M.e3 ⟨S.nd,fun Z Z=>rfl,S.len⟩ M.hD M.hC M.ne rfl rfl).2.2 Ac S'
  cases Aa with
  |true=>exact M.el hE lj l S' z1.1 (q1 rfl)
  |false=>
   have E:=cN (Aa:=some y) (ys:=ys) M.e1 M.e2 M.e3 z1.1 M.hD M.hC M.ne z1.2.1 z1.2.2;refine⟨M.hB G' _ Ac S' (M.hI _ _ _ (q2 rfl).1 rfl),?_⟩;exact Eq.mpr (AL (Jr G p x qQ C Rw (j+1)) E.2.1) (.mk ys Ac (some y) (q2 rfl).2 (Ft l) z1.1 z1.2.1 z1.2.2)
theorem nA{ifs:List Expr}{tp:Pos}{U:u}{xs:List V}{l:List (Str×Addr)}{F:Nat->(Nat->u->Prop)->Addr->Addr->Prop}(E5:bw G.nm sc x=true)(hl:∀s a,(s,H9)∈sc.names->G.env.cells.lookup s=some a->l.lookup s=some a)(S:G.Sep p U)(d0:DD p U)(hI:∀p' ex U,DD p U->p'.ob=p.ob++ex->DD p' U)(hB:∀(G:Gx c A) p U,G.Sep p U->DD p U->B (G.Ay p U))
  (hn:xs.length<=1000) (j0:Rw 0 [] U) (ct:∀qQ C G',G'.nm=cD G.nm sc x->G'.env=compEnvC sc l C G.env->Cm G sc x p DD B qQ C G'->∀j y ys U,xs[j]? =some y->Rw j ys U->ys.length<=j->j<1000->G'.Sep (Hu G sc p qQ ys y) U->G.Sep p U->CT c A ifs elt G'.env qQ (fun τ=>B τ/\Jr G p x qQ C Rw (j+1) τ) (G'.Ay (Hu G sc p qQ ys y) U)):
  ∀qQ C,G.Ay p U qQ=none->G.Ay p U C=none->qQ≠C->∃R:Nat->u->Prop,B (((G.Ay p U).set qQ (.list [])).set C (.fr []))/\R 0 (((G.Ay p U).set qQ (.list [])).set C (.fr []))/\
   (∀j y τ,xs[j]? =some y->R j τ->AU c A (fun v=>assign (.Name (Ai x) tp) (compEnvC sc l C G.env) v) y (CT c A ifs elt (compEnvC sc l C G.env) qQ (fun τ=>B τ/\R (j+1) τ)) τ)/\
   ∀τ,R xs.length τ->∃ys Ac Aa,Rw xs.length ys Ac/\G.Sep p Ac/\qQ∉(G.pl p).map (·.1)/\C∉(G.pl p).map (·.1)/\Ac qQ=none/\Ac C=none/\τ=((G.Ay p Ac).set qQ (.list ys)).set C (.fr (EP x Aa)):=fun qQ C zD zC ne=>by
 have fD:=S.free zD;have fC:=S.free zC;refine Hg (zu E5 hl C) fun G' e1 ee e2 e3=>?_;have M:Cm G sc x p DD B qQ C G':=⟨e1,e2,e3,fD.1,fC.1,ne,hI,hB⟩
 have E:=cN (Aa:=none) (ys:=[]) e1 e2 e3 S fD.1 fC.1 ne fD.2 fC.2;refine⟨Jr G p x qQ C Rw,?_,.mk [] U none j0 (Bf _) S fD.2 fC.2,?_,fun τ q=>?_⟩
 ·exact E.2.1▸hB G' _ U E.1 (hI _ _ _ d0 rfl)
 ·have:=M.turn (tp:=tp) (n:=0) hn (ct qQ C G' e1 ee M)
  rwa [ee]at this
 ·cases q with
  |mk ys Ac Aa hj l S' zD zC=>exact⟨ys,Ac,Aa,hj,S',fD.1,fC.1,zD,zC,rfl⟩
theorem uN{Rw:List V->u->Prop}{Q:V->u->Prop}(ne:qQ≠C)(q:∀ys U,Rw ys U->G.Sep p U->Q (.lst ys) (G.Ay p U))
  (h:∃ys Ac Aa,Rw ys Ac/\G.Sep p Ac/\qQ∉(G.pl p).map (·.1)/\C∉(G.pl p).map (·.1)/\Ac qQ=none/\Ac C=none/\τ=((G.Ay p Ac).set qQ (.list ys)).set C (.fr (EP x Aa))):∃ys m Bd,τ qQ=some (.list ys)/\τ C=some (.fr m)/\Bd.le τ/\Bd qQ=none/\Bd C=none/\Q (.lst ys) Bd:=by
 refine VQ h fun ys U Aa j S hD hC zD zC UA=>?_;clear h;refine J UA ?_;have nD:G.Ay p U qQ=none:=(ag hD).trans zD;have nC:G.Ay p U C=none:=(ag hC).trans zC;exact⟨ys,_,_,(u.Ad _ _ ne).trans (u.set_same _ _ _),u.set_same _ _ _,u.le_trans (u.DY _ nD) (u.DY _ ((u.Ad _ _ ne.symm).trans nC)),nD,nC,q ys U j S⟩
theorem qy{Rw:List V->u->Prop}{Q:u->Prop}{i:Nat}(hy:Cv G.nm.vars i=some (y,k))(ne:qQ≠C)(q:∀ys U,Rw ys U->G.Sep (p.set i (.lst ys)) U->Q (G.Ay (p.set i (.lst ys)) U))
  (h:∃ys Ac Aa,Rw ys Ac/\G.Sep p Ac/\qQ∉(G.pl p).map (·.1)/\C∉(G.pl p).map (·.1)/\Ac qQ=none/\Ac C=none/\τ=((G.Ay p Ac).set qQ (.list ys)).set C (.fr (EP x Aa))):∃ys m Bd,τ qQ=some (.list ys)/\τ C=some (.fr m)/\Bd.le τ/\Bd qQ=none/\Bd C=some (.fr m)/\
   AU c A (fun v=>assign (.Name (Ai y) pos) G.env v) (.lst ys) (fun Ah=>∃m' Ap,Ah C=some (.fr m')/\Ap.le Ah/\Ap C=none/\Q Ap) Bd:=by
 refine VQ h fun ys U Aa j S hD hC zD zC UB=>?_;clear h;refine J UB ?_;have nD:G.Ay p U qQ=none:=(ag hD).trans zD;have nC:G.Ay p U C=none:=(ag hC).trans zC;refine A5 (S.new hC zC (o:=.fr (EP x Aa))) fun S2 e2=>?_;have S3:=eD (v:=.lst ys) S hy;have UC:C∉(G.pl (p.set i (.lst ys))).map (·.1):=fun m=>by
  have a:=(S2.nd)
  have s3:=(eD (v:=.lst ys) S2 hy).nd;have:G.pl ((p.new C (.fr (EP x Aa))).set i (.lst ys))=G.pl (p.set i (.lst ys))++[(C,.fr (EP x Aa))]:=AL _ (HJ _ _ _).symm;rw[this,DT,Ko]at s3;exact s3.2.2 C m C EU rfl
 refine A5 (S3.new UC zC (o:=.fr (EP x Aa))) fun S4 e4=>⟨ys,EP x Aa,(G.Ay p U).set C (.fr (EP x Aa)),(u.Ad _ _ ne).trans (u.set_same _ _ _),u.set_same _ _ _,?_,(u.Ad _ _ ne).trans nD,u.set_same _ _ _,?_⟩
 ·exact J (cK ne) (u.DY _ ((u.Ad _ _ ne).trans nD))
 ·refine J e2 (gV (nc hy S2 ⟨EP x Aa,G.Ay (p.set i (.lst ys)) U,?_,?_,(ag UC).trans zC,q ys U j S3⟩))
  ·exact(congrFun e4 C).symm.trans (u.set_same _ _ _)
  ·show u.le _ (G.Ay ((p.set i (.lst ys)).new C (.fr (EP x Aa))) U)
   exact Rv e4 (u.DY _ ((ag UC).trans zC))
end
end
section
section
variable{c:Cx}{A:Around}{G:Gx c A}{k k' kr kl ka kb ke kt:Code}
def SI(G:Gx c A)(tg it:Expr)(F:(List V->Pv->u->Prop)->Pv->u->List V->(Pv->u->Prop)->List V->Prop)(k':Code):Prop:=
 ∀K st p U,W G k' K st p U->G.Sep p U->∀Kr:List V->(u->Prop)->u->Prop,
  (∀xs qQ B p U,G.Sep p U->qQ p U->(∀p' ex U,qQ p U->p'.ob=p.ob++ex->qQ p' U)->(∀(G:Gx c A) p U,G.Sep p U->qQ p U->B (G.Ay p U))->F K p U xs qQ st->Kr xs B (G.Ay p U))->Kz c A tg it G.env Kr (G.Ay p U)
abbrev d9(G:Gx c A)(s:Src)(F:(List V->Pv->u->Prop)->Pv->u->List V->(Pv->u->Prop)->List V->Prop)(k:Code):Prop:=∀K st p U,W G k K st p U->iter s st p U (F K p U)
variable{F:(List V->Pv->u->Prop)->Pv->u->List V->(Pv->u->Prop)->List V->Prop}
theorem UD(hF:d9 G .v F k)(hi:Sound G (.E it) k k'):SI G tg it F k':=fun K st p U q S Kr h=>yj ((hi K st p U q S).lf fun y p U S q=>by refine Fv (hF _ _ _ _ q) fun xs qQ i q=>?_;obtain⟨d0,hI,B,hB,Yp⟩:=xd (c:=c) (A:=A) i;exact⟨xs,B,Yp G tg S,h xs qQ B p U S d0 hI hB q⟩)
theorem UE(hv:GV c "range" (.ex (.type "range")))(hx: "range" ∈G.nm.gl)(hn:aO [e]=true)(hF:d9 G .r1 F k)(hi:Sound G (.E e) k k'):SI G tg (.Call (.Name (Ai "range") np) [e] [] cp) F k':=
 fun K st p U q S Kr h=>oe G.ok G.hh (hv.ld G.hg G.hb G.hk (G.hx _ hx) ⟨rfl,(hi K st p U q S).lf fun y p U S q=>by refine Hg (hF _ _ _ _ q) fun n e a b q=>?_;exact⟨n,e,a,b,h _ _ _ p U S Al (fun Z Z Z Z Z=>trivial) (fun Z Z Z Z Z=>trivial) q⟩⟩) hn
theorem UG(hv:GV c "range" (.ex (.type "range")))(hx: "range" ∈G.nm.gl)(hn:aO [e,e']=true)(hF:d9 G .r2 F k)(hi:Sound G (.E e) kl k')(FW:Sound G (.E e') k kl):SI G tg (.Call (.Name (Ai "range") np) [e,e'] [] cp) F k':=
 fun K st p U q S Kr h=>pc G.ok G.hh (hv.ld G.hg G.hb G.hk (G.hx _ hx) ⟨rfl,(hi K st p U q S).lf fun y p U S q=>(FW K _ p U q S).lf fun y p U S q=>by refine VP (hF _ _ _ _ q) fun a n e e' z1 z2 z3 z4 q=>?_;exact⟨a,n,e,e',z1,z2,z3,z4,h _ _ _ p U S Al (fun Z Z Z Z Z=>trivial) (fun Z Z Z Z Z=>trivial) q⟩⟩) hn
theorem UH(hv:GV c "enumerate" (.ex (.type "enumerate")))(hx: "enumerate" ∈G.nm.gl)(hn:aO [e]=true)(hF:d9 G .en F k)(hi:Sound G (.E e) k k'):SI G (.Tuple ts j II) (.Call (.Name (Ai "enumerate") np) [e] [] cp) F k':=
 fun K st p U q S Kr h=>s0 G.ok G.hh (hv.ld G.hg G.hb G.hk (G.hx _ hx) ⟨rfl,(hi K st p U q S).lf fun y p U S q=>by refine An (hF _ _ _ _ q) fun xs e q=>?_;exact⟨xs,e,h _ _ _ p U S Al (fun Z Z Z Z Z=>trivial) (fun Z Z Z Z Z=>trivial) q⟩⟩) hn
def FF(G:Gx c A)(b k:Code)(K:List V->Pv->u->Prop)(p:Pv)(U:u)(xs:List V)(qQ:Pv->u->Prop)(st:List V):Prop:=∃Rw:Nat->Pv->u->Prop,Rw 0 p U/\(∀j x p U,xs[j]? =some x->Rw j p U->W G b (fun Z p U=>qQ p U/\Rw (j+1) p U) [x] p U)/\∀p U,Rw xs.length p U->W G k K st p U
theorem rC:d9 G s (FF G kb k) (.BK s kb k):=fun K st p U h=>h
theorem Yq(hs:∀l n q,it≠ .Set l n q)(hi:SI G t it (FF G kb k) k')(ht:Sound G (.G t) kr kb)(hb:Sound G (.SS body) .done kr):Sound G (.S (.For t it body [] pos)) k k':=
 fun K p U q S=>xw (hi K [] p U q S _ fun xs qQ B p U S Z Z hB q=>ti (hB G) ht hb S q) (iO hs)
def FE(G:Gx c A)(nm:Nm)(Bu:List Nat)(ifs:Option Code)(e:Code)(p:Pv)(xs:List V)(qQ:Pv->u->Prop)(Rw:Nat->List V->u->Prop):Prop:=∀(G':Gx c A) ex j x ys U,G'.nm=nm->xs[j]? =some x->Rw j ys U->match ifs with
 |none=>W G' e (fun BB p' Ac=>∃y,BB=[y]/\p'=Cj Bu p ex x/\qQ p Ac/\Rw (j+1) (ys++[y]) Ac) [] (Cj Bu p ex x) U
 |some t=>W G' t (fun BB p' Ac=>∃Aa,BB=[.ex (.bool Aa)]/\p'=Cj Bu p ex x/\(Aa=true->W G' e (fun BB p' Ac=>∃y,BB=[y]/\p'=Cj Bu p ex x/\qQ p Ac/\Rw (j+1) (ys++[y]) Ac) [] (Cj Bu p ex x) Ac)/\(Aa=false->qQ p Ac/\Rw (j+1) ys Ac)) [] (Cj Bu p ex x) U
def FC(G:Gx c A)(nm:Nm)(Bu:List Nat)(ifs:Option Code)(e k:Code)(K:List V->Pv->u->Prop)(p:Pv)(U:u)(xs:List V)(qQ:Pv->u->Prop)(st:List V):Prop:=xs.length<=1000/\∃Rw:Nat->List V->u->Prop,Rw 0 [] U/\FE G nm Bu ifs e p xs qQ Rw/\∀ys U,Rw xs.length ys U->W G k K (.lst ys::st) p U
theorem oy:d9 G s (FC G nm Bu none ke k) (.comp s nm Bu ke k):=fun K st p U h=>h
theorem oX:d9 G s (FC G nm Bu (some kt) ke k) (.F9 s nm Bu kt ke k):=fun K st p U h=>h
inductive Kc(G:Gx c A)(nm:Nm)(elt:Expr)(ke:Code):List Expr->Option Code->Prop
 |nil (hE:∀G':Gx c A,G'.nm=nm->Sound G' (.E elt) .done ke):Kc G nm elt ke [] none
 |one {t:Expr} {kt:Code} (hE:∀G':Gx c A,G'.nm=nm->Sound G' (.E elt) .done ke) (hT:∀G':Gx c A,G'.nm=nm->Sound G' (.T t) .done kt):Kc G nm elt ke [t] (some kt)
theorem py(h:bw G.nm sc x=true):∀e∈sc.names,e.2=.free->∃a,G.env.cells.lookup e.1=some a:=fun e m q=>by exact Fv ((cc h).2.2.2.1 e m q) fun s j Aa z=>⟨_,z▸(G.hc s j Aa).2⟩
theorem jv{qQ:Pv->u->Prop}{B:u->Prop}{Rw:Nat->List V->u->Prop}(E5:bw G.nm sc x=true)(hl:∀s a,(s,H9)∈sc.names->G.env.cells.lookup s=some a->l.lookup s=some a)(he:Kc G (cD G.nm sc x) elt ke ifs io)
  (S:G.Sep p U) (d0:qQ p U) (hI:∀p' ex U,qQ p U->p'.ob=p.ob++ex->qQ p' U) (hB:∀(G:Gx c A) p U,G.Sep p U->qQ p U->B (G.Ay p U)) (hn:xs.length<=1000) (j0:Rw 0 [] U) (turn:FE G (cD G.nm sc x) (BL (Ep sc) G.nm.vars) io ke p xs qQ Rw):
  ∀qQ C,G.Ay p U qQ=none->G.Ay p U C=none->qQ≠C->∃R:Nat->u->Prop,B (((G.Ay p U).set qQ (.list [])).set C (.fr []))/\R 0 (((G.Ay p U).set qQ (.list [])).set C (.fr []))/\
   (∀j y τ,xs[j]? =some y->R j τ->AU c A (fun v=>assign (.Name (Ai x) tp) (compEnvC sc l C G.env) v) y (CT c A ifs elt (compEnvC sc l C G.env) qQ (fun τ=>B τ/\R (j+1) τ)) τ)/\
   ∀τ,R xs.length τ->∃ys Ac Aa,Rw xs.length ys Ac/\G.Sep p Ac/\qQ∉(G.pl p).map (·.1)/\C∉(G.pl p).map (·.1)/\Ac qQ=none/\Ac C=none/\τ=((G.Ay p Ac).set qQ (.list ys)).set C (.fr (EP x Aa)):=by
 cases he with
 |nil hE=>exact nA (F:=fun Z Z Z Z=>True) E5 hl S d0 hI hB hn j0 fun qQ C G' e1 ee M=>yO M (hE G' e1) fun ex j y ys U=>turn G' ex j y ys U e1
 |one hE hT=>exact nA (F:=fun Z Z Z Z=>True) E5 hl S d0 hI hB hn j0 fun qQ C G' e1 ee M=>yJ M (hE G' e1) (hT G' e1) fun ex j y ys U=>turn G' ex j y ys U e1
theorem xa(E5:bw G.nm sc x=true)(hs:∀l n q,it≠ .Set l n q)(hi:SI G (.Name (Ai x) tp) it (FC G (cD G.nm sc x) (BL (Ep sc) G.nm.vars) io ke k) k')(he:Kc G (cD G.nm sc x) elt ke ifs io):
  Sound G (.E (.ListComp elt [⟨.Name (Ai x) tp,it,ifs,0⟩] sc pos)) k k':=fun K st p U q S=>by
 refine Js (cc E5) fun h1 h2 h3 Z Z=>An (im (py E5)) fun l Ld hl=>vW Ld h1 h2 h3 (hi K st p U q S _ fun xs qQ B p U S d0 hI hB q D' C zD zC ne=>?_) (iO hs);obtain⟨hn,Rw,j0,turn,fin⟩:=q;exact Hg (jv (tp:=tp) E5 hl he S d0 hI hB hn j0 turn D' C zD zC ne) fun R b r0 rt re=>⟨R,b,r0,rt,fun τ r=>uN ne (fun ys U j S=>lf S (fin ys U j)) (re τ r)⟩
theorem vc{i:Nat}(hy:Cv G.nm.vars i=some (y,j))(E5:bw G.nm sc x=true)(hs:∀l n q,it≠ .Set l n q)
  (Pu:swapsWith (.ListComp elt [⟨.Name (Ai x) tp,it,ifs,0⟩] sc pos) (some (.Name (Ai y) pos')) Dy.line G.env=pure true) (hi:SI G (.Name (Ai x) tp) it (FC G (cD G.nm sc x) (BL (Ep sc) G.nm.vars) io ke (.op (.st i) k)) k') (he:Kc G (cD G.nm sc x) elt ke ifs io):
  Sound G (.S (.Assign [.Name (Ai y) pos'] (.ListComp elt [⟨.Name (Ai x) tp,it,ifs,0⟩] sc pos) Dy)) k k':=fun K p U q S=>by
 refine Js (cc E5) fun h1 h2 h3 Z Z=>An (im (py E5)) fun l Ld hl=>iE Ld h1 h2 h3 (hi K [] p U q S _ fun xs qQ B p U S d0 hI hB q D' C zD zC ne=>?_) Pu (iO hs);obtain⟨hn,Rw,j0,turn,fin⟩:=q;exact Hg (jv (tp:=tp) E5 hl he S d0 hI hB hn j0 turn D' C zD zC ne) fun R b r0 rt re=>⟨R,b,r0,rt,fun τ r=>qy hy ne (fun ys U j S=>lf S (fin ys U j)) (re τ r)⟩
end
end
section
set_option backward.match.sparseCases false
theorem kU:("range",V.ex (.type "range"))∈iw:=.head _
theorem tD:("sorted",V.ex (.builtin "sorted"))∈iw:=.tail _ (.head _)
theorem xZ:("list",V.ex (.type "list"))∈iw:=.tail _ (.tail _ (.head _))
theorem zh:("set",V.ex (.type "set"))∈iw:=.tail _ (.tail _ (.tail _ (.head _)))
theorem mn:("enumerate",V.ex (.type "enumerate"))∈iw:=.tail _ (.tail _ (.tail _ (.tail _ (.head _))))
noncomputable abbrev Tr(nm:Nm)(m:Wh)(k:Code):={k':Code//∀{c:Cx} {A:Around} (G:Gx c A),G.nm=nm->Sound G m k k'}
theorem pK{c:Cx}{A:Around}{G:Gx c A}{m:Wh}{k:Code}:Sound G m k .fail:=by cases m<;>first|exact fun Z Z Z Z h=>Kt h|exact fun Z Z Z h=>Kt h|exact fun Z Z Z Z Z h=>Kt h
noncomputable def am{nm:Nm}{m:Wh}{k:Code}:Tr nm m k:=⟨.fail,fun Z Z=>pK⟩
noncomputable abbrev Rec:=∀(nm:Nm) (m:Wh) (k:Code),Tr nm m k
section
variable(rec:Rec)(nm:Nm)
noncomputable def gm(x:Str):(l:List (String×Option Nat))->Option {q:Nat×String×Option Nat//Cv l q.1=some q.2/\x=Ai q.2.1}
 |[]=>none
 |Aa::r=>if h:eqs Aa.1 x=true then some ⟨(0,Aa),rfl,cF h⟩else match gm x r with
  |some q=>some ⟨(q.1.1+1,q.1.2),q.2⟩
  |none=>none
noncomputable def qF(x:Str):(l:List String)->Option {s:String//s∈l/\x=Ai s}
 |[]=>none
 |Aa::r=>if h:eqs Aa x=true then some ⟨Aa,EU,cF h⟩else match qF x r with
  |some q=>some ⟨q.1,DX _ q.2.1,q.2.2⟩
  |none=>none
noncomputable def xJ(s:String):(l:List (String×V))->Option {v:V//(s,v)∈l}
 |[]=>none
 |Aa::r=>if h:Aa.1=s then some ⟨Aa.2,h▸EU⟩else match xJ s r with
  |some q=>some ⟨q.1,DX _ q.2⟩
  |none=>none
noncomputable def xH(x:Str):Option {q:String×V//q∈iw/\q.1∈nm.gl/\x=Ai q.1}:=match qF x nm.gl with
 |some s=>match xJ s.1 iw with
  |some v=>some ⟨(s.1,v.1),v.2,s.2⟩
  |none=>none
 |none=>none
theorem zA{c:Cx}{A:Around}{G:Gx c A}{x:Str}{pos:Pos}{k:Code}{i:Nat}{s:String}{j:Option Nat}(h:Cv G.nm.vars i=some (s,j))(hx:x=Ai s)(hd:eqs "__debug__" x=false)(hn:eqs "__classdict__" x=false):Sound G (.E (.Name x pos)) k (.op (.ld i) k):=by subst hx;exact yk h hd hn
theorem yH{c:Cx}{A:Around}{G:Gx c A}{x:Str}{pos:Pos}{k:Code}{q:String×V}(hq:q∈iw)(hg:q.1∈G.nm.gl)(hx:x=Ai q.1):Sound G (.E (.Name x pos)) k (.op (.val q.2) k):=by exact J hx (xQ ((G.gt q hq).ld G.hg G.hb G.hk (G.hx _ hg)))
noncomputable def yY(x:Str)(pos:Pos)(k:Code):Tr nm (.E (.Name x pos)) k:=match gm x nm.vars with
 |some q=>if h:eqs "__debug__" x=false/\eqs "__classdict__" x=false then⟨.op (.ld q.1.1) k,fun G e=>by subst e;exact zA q.2.1 q.2.2 h.1 h.2⟩else am
 |none=>match xH nm x with
  |some q=>⟨.op (.val q.1.2) k,fun G e=>by subst e;exact yH q.2.1 q.2.2.1 q.2.2.2⟩
  |none=>am
noncomputable def ez:Expr->Bool
 | .Name .. =>true
 | .Attribute .. =>true
 | .Subscript .. =>true
 | .Call (.Attribute ..) .. =>true
 |_=>false
theorem px(h:ez o=true)(w:Sem Value):attributeBase o x env w=w:=by
 cases o with
 |Call f _ _ _=>cases f<;>first|rfl|injection h
 |_=>first|rfl|cases h
theorem yp{c:Cx}{A:Around}{G:Gx c A}{x:Str}{np pos:Pos}{es:List Expr}{k k':Code}{s:String}{f:Value}(hn:aO es=true)(hq:(s,V.ex f)∈iw)(hg:s∈G.nm.gl)(hx:x=Ai s)(h:Sound G (.L es) (.op (.call es.length) k) k'):Sound G (.E (.Call (.Name x np) es [] pos)) k (.op (.val (.ex f)) k'):=by exact J hx (y8 hn (G.gt _ hq) hg h)
noncomputable def pu(x:Str)(np:Pos)(es:List Expr)(pos:Pos)(k:Code):Tr nm (.E (.Call (.Name x np) es [] pos)) k:=match xH nm x with
 |some ⟨(s,.ex f),hq,hg,hx⟩=>if hn:aO es=true then⟨.op (.val (.ex f)) (rec nm (.L es) (.op (.call es.length) k)).1,fun G e=>by subst e;exact yp hn hq hg hx ((rec _ (.L es) (.op (.call es.length) k)).2 G rfl)⟩else am
 |_=>am
noncomputable def v4(x:Str)(np:Pos)(y:Str)(Jy:Pos)(e:Expr)(Dy pos:Pos)(k:Code):Tr nm (.E (.Call (.Name x np) [.Call (.Name y Jy) [e] [] Dy] [] pos)) k:=
 if h:(eqs "sorted" x &&eqs "set" y &&aO [e])=true/\ "sorted" ∈nm.gl/\ "set" ∈nm.gl then⟨(rec nm (.E e) (.op .sset k)).1,fun G q=>by subst q;refine D4 h ?_;clear h;intro h a b;rw[Gl,Gl]at h;refine J (cF h.1.1) ?_;refine J (cF h.1.2) ?_;exact yr (G.gt _ tD) a (G.gt _ zh) b h.2 ((rec _ (.E e) (.op .sset k)).2 G rfl)⟩
 else if h:(eqs "list" x &&eqs "range" y &&aO [e])=true/\ "list" ∈nm.gl/\ "range" ∈nm.gl then⟨(rec nm (.E e) (.op .D2 k)).1,fun G q=>by subst q;refine D4 h ?_;clear h;intro h a b;rw[Gl,Gl]at h;refine J (cF h.1.1) ?_;refine J (cF h.1.2) ?_;exact tW (G.gt _ xZ) a (G.gt _ kU) b h.2 ((rec _ (.E e) (.op .D2 k)).2 G rfl)⟩
 else pu rec nm x np [.Call (.Name y Jy) [e] [] Dy] pos k
noncomputable def yK(f:Expr)(es:List Expr)(RH:List Keyword)(pos:Pos)(k:Code):Tr nm (.E (.Call f es RH pos)) k:=match RH with
 |[]=>(match f with
  | .Name x np=>(match es with
   |[.Call (.Name y Jy) [e] [] Dy]=>v4 rec nm x np y Jy e Dy pos k
   |es=>pu rec nm x np es pos k)
  | .Attribute o x apos=>if h:ez o=true/\aO es=true/\es.length<30/\(apos.endLine==pos.line)=true then
    ⟨(rec nm (.E o) (.op (.GN x) (rec nm (.L es) (.op (.call (es.length+1)) k)).1)).1,fun G e=>xl (px h.1) h.2.1 h.2.2.1 h.2.2.2 ((rec nm (.E o) _).2 G e) ((rec nm (.L es) _).2 G e)⟩else am
  |_=>am)
 |_=>am
noncomputable def z5(v s:Expr)(pos:Pos)(k:Code):Tr nm (.E (.Subscript v s pos)) k:=match s with
 | .Slice (some (.Constant (.int 1) _ _)) none none _=>⟨(rec nm (.E v) (.op .Co k)).1,fun G e=>uz ((rec nm (.E v) _).2 G e)⟩
 | .Slice none (some (.Constant (.int 1) _ _)) none _=>⟨(rec nm (.E v) (.op .Px k)).1,fun G e=>zV ((rec nm (.E v) _).2 G e)⟩
 | .Slice none (some (.Constant (.int (.ofNat m)) _ _)) none _=>⟨(rec nm (.E v) (.op (.I2 m) k)).1,fun G e=>zM ((rec nm (.E v) _).2 G e)⟩
 | .Slice none none (some (.UnaryOp .USub (.Constant (.int 1) _ _) _)) _=>⟨(rec nm (.E v) (.op .back k)).1,fun G e=>xU ((rec nm (.E v) _).2 G e)⟩
 |s=>if h:gN s=true then⟨(rec nm (.E v) (rec nm (.E s) (.op .sub k)).1).1,fun G e=>zR h ((rec nm (.E v) _).2 G e) ((rec nm (.E s) _).2 G e)⟩else am
noncomputable def Si(nm:Nm)(tg it:Expr)(F:Src->Code)(Fs:∀{c:Cx} {A:Around} (G:Gx c A),(List V->Pv->u->Prop)->Pv->u->List V->(Pv->u->Prop)->List V->Prop):=
 {code:Code//(∀{c:Cx} {A:Around} (G:Gx c A),G.nm=nm->SI G tg it (Fs G) code)/\∀l n q,it≠ .Set l n q}
noncomputable def Si.code{nm:Nm}{tg it:Expr}{F:Src->Code}{Fs:∀{c:Cx} {A:Around} (G:Gx c A),(List V->Pv->u->Prop)->Pv->u->List V->(Pv->u->Prop)->List V->Prop}(s:Si nm tg it F Fs):Code:=s.1
theorem Si.ok{nm:Nm}{tg it:Expr}{F:Src->Code}{Fs:∀{c:Cx} {A:Around} (G:Gx c A),(List V->Pv->u->Prop)->Pv->u->List V->(Pv->u->Prop)->List V->Prop}(s:Si nm tg it F Fs):∀{c:Cx} {A:Around} (G:Gx c A),G.nm=nm->SI G tg it (Fs G) s.code:=s.2.1
theorem Si.ns{nm:Nm}{tg it:Expr}{F:Src->Code}{Fs:∀{c:Cx} {A:Around} (G:Gx c A),(List V->Pv->u->Prop)->Pv->u->List V->(Pv->u->Prop)->List V->Prop}(s:Si nm tg it F Fs):∀l n q,it≠ .Set l n q:=s.2.2
noncomputable def xF:Expr->Bool
 | .Set .. =>true
 |_=>false
theorem wJ(h:xF e=false):∀l n q,e≠ .Set l n q:=fun l n q z=>by subst z;injection h
variable{F:Src->Code}
noncomputable def p8(hF:∀{c:Cx} {A:Around} (G:Gx c A) s,d9 G s (Fs G) (F s))(tg it:Expr):Option (Si nm tg it F Fs):=if h:xF it=false then some (MJ ((rec nm (.E it) (F .v)).1) ⟨fun G e=>UD (hF G .v) ((rec nm (.E it) _).2 G e),wJ h⟩)else none
noncomputable def y6(hF:∀{c:Cx} {A:Around} (G:Gx c A) s,d9 G s (Fs G) (F s))(tg it:Expr):Option (Si nm tg it F Fs):=match it with
 | .Call (.Name x np) [e] [] cp=>if h:(eqs "range" x &&aO [e])=true/\ "range" ∈nm.gl then some (MJ ((rec nm (.E e) (F .r1)).1) ⟨fun G q=>by subst q;refine J (cF (D3.mp h.1).1) ?_;exact UE (G.gt _ kU) h.2 (D3.mp h.1).2 (hF G .r1) ((rec _ (.E e) _).2 G rfl),fun Z Z Z z=>nomatch z⟩)
  else(match tg with
   | .Tuple ts j tp=>if h:(eqs "enumerate" x &&aO [e])=true/\ "enumerate" ∈nm.gl then some (MJ ((rec nm (.E e) (F .en)).1) ⟨fun G q=>by subst q;refine J (cF (D3.mp h.1).1) ?_;exact UH (G.gt _ mn) h.2 (D3.mp h.1).2 (hF G .en) ((rec _ (.E e) _).2 G rfl),fun Z Z Z z=>nomatch z⟩)else p8 rec nm hF (.Tuple ts j tp) (.Call (.Name x np) [e] [] cp)
   |tg=>p8 rec nm hF tg (.Call (.Name x np) [e] [] cp))
 | .Call (.Name x np) [e,e'] [] cp=>if h:(eqs "range" x &&aO [e,e'])=true/\ "range" ∈nm.gl then some (MJ ((rec nm (.E e) (rec nm (.E e') (F .r2)).1).1) ⟨fun G q=>by subst q;refine J (cF (D3.mp h.1).1) ?_;exact UG (G.gt _ kU) h.2 (D3.mp h.1).2 (hF G .r2) ((rec _ (.E e) _).2 G rfl) ((rec _ (.E e') _).2 G rfl),fun Z Z Z z=>nomatch z⟩)else p8 rec nm hF tg (.Call (.Name x np) [e,e'] [] cp)
 |it=>p8 rec nm hF tg it
end
end
section
set_option backward.match.sparseCases false
section
variable(rec:Rec)(nm:Nm)
theorem wZ(h:∀{c:Cx} {A:Around} (G:Gx c A),G.nm=RI->Sound G (.E elt) .done ke)(G:Gx c A):Kc G RI elt ke [] none:=.nil fun G' e=>h G' e
theorem vR(h:∀{c:Cx} {A:Around} (G:Gx c A),G.nm=RI->Sound G (.E elt) .done ke)(h':∀{c:Cx} {A:Around} (G:Gx c A),G.nm=RI->Sound G (.T t) .done kt)(G:Gx c A):Kc G RI elt ke [t] (some kt):=.one (fun G' e=>h G' e) fun G' e=>h' G' e
noncomputable def Cp(nm:Nm)(elt it:Expr)(ifs:List Expr)(sc:Scope)(x:String)(tp:Pos)(k:Code):=
 {q:Code×Option Code×Code//bw nm sc x=true/\(∀l n q,it≠ .Set l n q)/\(∀{c:Cx} {A:Around} (G:Gx c A),G.nm=nm->SI G (.Name (Ai x) tp) it (FC G (cD nm sc x) (BL (Ep sc) nm.vars) q.2.1 q.2.2 k) q.1)/\∀{c:Cx} {A:Around} (G:Gx c A),Kc G (cD nm sc x) elt q.2.2 ifs q.2.1}
noncomputable def Cp.code{nm:Nm}{elt it:Expr}{ifs:List Expr}{sc:Scope}{x:String}{tp:Pos}{k:Code}(p:Cp nm elt it ifs sc x tp k):Code:=p.1.1
theorem Cp.snd{c:Cx}{A:Around}{G:Gx c A}{elt it:Expr}{ifs:List Expr}{sc:Scope}{x:String}{tp:Pos}{k:Code}(p:Cp G.nm elt it ifs sc x tp k){C:Prop}(h:∀{io:Option Code} {ke:Code},bw G.nm sc x=true->(∀l n q,it≠ .Set l n q)->SI G (.Name (Ai x) tp) it (FC G (cD G.nm sc x) (BL (Ep sc) G.nm.vars) io ke k) p.code->Kc G (cD G.nm sc x) elt ke ifs io->C):C:=h p.2.1 p.2.2.1 (p.2.2.2.1 G rfl) (p.2.2.2.2 G)
noncomputable def PC(elt it:Expr)(ifs:List Expr)(sc:Scope)(x:String)(tp:Pos)(k:Code):Option (Cp nm elt it ifs sc x tp k):=
 if E5:bw nm sc x=true then
  let e:=rec (cD nm sc x) (.E elt) .done
  (match ifs with
  |[]=>(match y6 rec nm (F:=fun s=> .comp s (cD nm sc x) (BL (Ep sc) nm.vars) e.1 k) (Fs:=fun G=>FC G (cD nm sc x) (BL (Ep sc) nm.vars) none e.1 k) (fun G s=>oy) (.Name (Ai x) tp) it with
   |some s=>some (MJ (s.code,none,e.1) ⟨E5,s.ns,s.ok,wZ e.2⟩)
   |none=>none)
  |[t]=>
   let f:=rec (cD nm sc x) (.T t) .done
   (match y6 rec nm (F:=fun s=> .F9 s (cD nm sc x) (BL (Ep sc) nm.vars) f.1 e.1 k) (Fs:=fun G=>FC G (cD nm sc x) (BL (Ep sc) nm.vars) (some f.1) e.1 k) (fun G s=>oX) (.Name (Ai x) tp) it with
   |some s=>some (MJ (s.code,some f.1,e.1) ⟨E5,s.ns,s.ok,vR e.2 f.2⟩)
   |none=>none)
  |_=>none)
 else none
theorem xf{c:Cx}{A:Around}{G:Gx c A}{elt it:Expr}{ifs:List Expr}{sc:Scope}{x:String}{y:Str}{tp pos:Pos}{k:Code}(hy:y=Ai x)(p:Cp G.nm elt it ifs sc x tp k):Sound G (.E (.ListComp elt [⟨.Name y tp,it,ifs,0⟩] sc pos)) k p.code:=by exact J hy (p.snd fun a b c d=>xa a b c d)
noncomputable def sq:List String:=["sign","kid","part","n","one","node","cell","home","k"]
noncomputable def yx(elt:Expr)(y:Str)(tp:Pos)(it:Expr)(ifs:List Expr)(sc:Scope)(pos:Pos)(k:Code):Tr nm (.E (.ListComp elt [⟨.Name y tp,it,ifs,0⟩] sc pos)) k:=match qF y sq with
 |some x=>(match PC rec nm elt it ifs sc x.1 tp k with
  |some p=>⟨p.code,fun G e=>by subst e;exact xf x.2.2 p⟩
  |none=>am)
 |none=>am
theorem gW{c:Cx}{A:Around}{G:Gx c A}{k:Code}{v:Const}{j:Nat}{pos:Pos}{Aa:V}(h:∀{Q:V->u->Prop} {U:u},Q Aa U->EV c A (.Constant v j pos) G.env Q U):Sound G (.E (.Constant v j pos)) k (.op (.val Aa) k):=xQ h
noncomputable def tP:(ks:List (Option Expr))->(vs:List Expr)->Option {es:List (Expr×Expr)//ks=es.map (fun p=>some p.1)/\vs=es.map (·.2)}
 |[],[]=>some ⟨[],rfl,rfl⟩
 |some k::ks,v::vs=>(match tP ks vs with
  |some r=>some ⟨(k,v)::r.1,AL (some k:: ·) r.2.1,AL (v:: ·) r.2.2⟩
  |none=>none)
 |_,_=>none
noncomputable def Yr(e:Expr)(k:Code):Tr nm (.E e) k:=match e with
 | .Constant v j pos=>(match v with
  | .int i=>⟨.op (.val (.int i)) k,fun G Z=>gW ij⟩
  | .str s=>⟨.op (.val (.str s)) k,fun G Z=>gW xc⟩
  | .bool b=>⟨.op (.val (.ex (.bool b))) k,fun G Z=>gW vb⟩
  | .none=>⟨.op (.val (.ex .none)) k,fun G Z=>gW wR⟩
  |_=>am)
 | .Name x pos=>yY nm x pos k
 | .BinOp l o r pos=>⟨(rec nm (.E l) (rec nm (.E r) (.op (.bin o) k)).1).1,fun G e=>z8 ((rec nm (.E l) _).2 G e) ((rec nm (.E r) _).2 G e)⟩
 | .Compare l os rs pos=>(match os,rs with
  |[o],[r]=>if h:behindInMarks o r=false then⟨(rec nm (.E l) (rec nm (.E r) (.op (.cmp o) k)).1).1,fun G e=>zZ h ((rec nm (.E l) _).2 G e) ((rec nm (.E r) _).2 G e)⟩else am
  |_,_=>am)
 | .UnaryOp o x pos=>(match o with
  | .USub=>⟨(rec nm (.E x) (.op .neg k)).1,fun G e=>Yi ((rec nm (.E x) _).2 G e)⟩
  | .Not=>⟨(rec nm (.E x) (.op .not k)).1,fun G e=>Yj ((rec nm (.E x) _).2 G e)⟩
  |_=>am)
 | .BoolOp o xs pos=>(match o,xs with
  | .And,[x,y]=>⟨(rec nm (.E x) (.and (rec nm (.E y) .done).1 k)).1,fun G e=>xn ((rec nm (.E x) _).2 G e) ((rec nm (.E y) _).2 G e)⟩
  |_,_=>am)
 | .IfExp t a b pos=>⟨(rec nm (.T t) (.br (rec nm (.E a) .done).1 (rec nm (.E b) .done).1 k)).1,fun G e=>wC ((rec nm (.T t) _).2 G e) ((rec nm (.E a) _).2 G e) ((rec nm (.E b) _).2 G e)⟩
 | .Tuple es j pos=>if h:aO es=true/\es.length<=1000 then⟨(rec nm (.L es) (.op (.tup es.length) k)).1,fun G e=>vE h.1 h.2 ((rec nm (.L es) _).2 G e)⟩else am
 | .List es pos=>if h:aO es=true/\es.length<=1000 then⟨(rec nm (.L es) (.op (.lst es.length) k)).1,fun G e=>x7 h.1 h.2 ((rec nm (.L es) _).2 G e)⟩else am
 | .Dict ks vs pos=>(match ks,vs with
  |[],[]=>⟨.op .BV k,fun G e=>wF⟩
  |k1,v1=>(match tP k1 v1 with
   |some es=>if h:es.1≠[]/\es.1.length<=15 then⟨.op .BV (rec nm (.L (rd es.1)) (.op (.D7 es.1.length) k)).1,fun G e=>by
     have:=zB (pos:=pos) h.1 h.2 ((rec nm (.L (rd es.1)) (.op (.D7 es.1.length) k)).2 G e)
     rwa [<- es.2.1,<- es.2.2]at this⟩else am
   |none=>am))
 | .Attribute o x pos=>if h:ez o=true then⟨(rec nm (.E o) (.op (.attr x) k)).1,fun G e=>xX (px h) ((rec nm (.E o) _).2 G e)⟩else am
 | .Subscript v s pos=>z5 rec nm v s pos k
 | .Call f es RH pos=>yK rec nm f es RH pos k
 | .ListComp elt gens sc pos=>(match gens with
  |[⟨.Name y tp,it,ifs,0⟩]=>yx rec nm elt y tp it ifs sc pos k
  |_=>am)
 |_=>am
noncomputable def uk:Expr->Bool
 | .UnaryOp .Not _ _=>false
 | .BoolOp .. =>false
 | .IfExp .. =>false
 | .Compare .. =>false
 |_=>true
theorem y4(h:uk e=true):isTrue e env (eval e env)=(do let v <- eval e env;standAt e.pos;holding [v] (truthy v)):=by
 cases e with
 |UnaryOp o _ _=>cases o<;>first|rfl|injection h
 |_=>first|rfl|injection h
noncomputable def Ys(e:Expr)(k:Code):Tr nm (.T e) k:=match e with
 | .Compare l os rs pos=>(match os,rs with
  |[o],[r]=>if h:behindInMarks o r=false then⟨(rec nm (.E l) (rec nm (.E r) (.op (.cmp o) (.op .BA k))).1).1,fun G e=>yQ h ((rec nm (.E l) _).2 G e) ((rec nm (.E r) _).2 G e)⟩else am
  |[o,o'],[r,r']=>if h:lastMarks [o,o'] [r,r']=false then⟨(rec nm (.E l) (rec nm (.E r) (.chain o (rec nm (.E r') (.op (.cmp o') (.op .BA .done))).1 k)).1).1,fun G e=>vO h ((rec nm (.E l) _).2 G e) ((rec nm (.E r) _).2 G e) ((rec nm (.E r') _).2 G e)⟩else am
  |_,_=>am)
 | .UnaryOp .Not x pos=>⟨(rec nm (.T x) (.op .not k)).1,fun G e=>xu ((rec nm (.T x) _).2 G e)⟩
 | .BoolOp o es pos=>(match o with
  | .And=>⟨(rec nm (.A es) k).1,fun G e=>yR ((rec nm (.A es) _).2 G e)⟩
  | .Or=>⟨(rec nm (.O es) k).1,fun G e=>Yl ((rec nm (.O es) _).2 G e)⟩)
 |e=>if h:uk e=true then⟨(rec nm (.E e) (.op .BA k)).1,fun G q=>zm (y4 h) ((rec nm (.E e) _).2 G q)⟩else am
noncomputable abbrev UI(es:List Expr)(k:Code):=Option {k':Code//∀{c:Cx} {A:Around} (G:Gx c A),G.nm=nm->nW G es k k'}
noncomputable def zw(e:Expr)(es:List Expr)(k:Code)(r:UI nm es k):UI nm (e::es) k:=match e with
 | .Name x pos=>(match gm x nm.vars with
  |some q=>(match r with
   |some r=>some ⟨.op (.st q.1.1) r.1,fun G e=>by subst e;exact⟨q.1.2.1,q.1.2.2,pos,q.1.1,r.1,AL (Expr.Name · pos) q.2.2,q.2.1,rfl,r.2 G rfl⟩⟩
   |none=>none)
  |none=>none)
 |_=>none
noncomputable def qJ:(es:List Expr)->(k:Code)->UI nm es k
 |[],k=>some ⟨k,fun Z Z=>rfl⟩
 |e::es,k=>zw nm e es k (qJ es k)
theorem wf{c:Cx}{A:Around}{G:Gx c A}{x:Str}{s:String}{j:Option Nat}{pos:Pos}{i:Nat}{k:Code}(h:Cv G.nm.vars i=some (s,j))(hx:x=Ai s):Sound G (.G (.Name x pos)) k (.op (.st i) k):=by exact J hx (yB h)
noncomputable def Yt(t:Expr)(k:Code):Tr nm (.G t) k:=match t with
 | .Name x pos=>(match gm x nm.vars with
  |some q=>⟨.op (.st q.1.1) k,fun G e=>by subst e;exact wf q.2.1 q.2.2⟩
  |none=>am)
 | .Tuple es j pos=>(match qJ nm es k with
  |some r=>⟨.op (.Ht es.length) r.1,fun G e=>Yn (r.2 G e)⟩
  |none=>am)
 | .Attribute o x pos=>⟨(rec nm (.E o) (.op (.D8 x) k)).1,fun G e=>yC ((rec nm (.E o) _).2 G e)⟩
 | .Subscript o i pos=>⟨(rec nm (.E o) (rec nm (.E i) (.op .Bt k)).1).1,fun G e=>Ym ((rec nm (.E o) _).2 G e) ((rec nm (.E i) _).2 G e)⟩
 |_=>am
end
end
section
noncomputable def V.ctorIdx(x:V):Nat:=V.casesOn x (fun _=>0) (fun _=>1) (fun _=>2) (fun _=>3) (fun _=>4)
theorem vX(h:aO es=true):(es.any fun| .Starred .. =>true|_=>false)=false:=by
 induction es with
 |nil=>rfl
 |cons e es ih=>
  refine J Sz (J (ih (A8 (env:=default) h).2) (J (SH _) ?_))
  cases e<;>first|rfl|injection h
theorem vV(hk:env.scope.kind=.function)(h2:(!(ns.length==2||ns.length==3)||vs.length !=ns.length)=false)(hs:aO vs=true)
  (hn:(ns.filterMap fun| .Name id pos=>if env.kindOf id==some .local &&pos.line==(ns.head?.map (·.pos.line)).getD 0 then some id else none|_=>none)=names) (hd:(names.length !=ns.length||names.eraseDups.length !=names.length)=false) (hf:vs.all (foldedForSure 8)=false) (hc:vs.all (constantsAlone 8)=false):
  swappedStores [.Tuple ns j tp] (.Tuple vs j' vp) env=pure (some names):=by
 subst hn;have UJ:(env.blockKind !=.function)=false:=by unfold Env.blockKind;exact J hk rfl
 have no:∀{b:Bool},b=false->¬b=true:=fun e h=>Ed (e.symm.trans h);unfold swappedStores;dsimp only;refine J h2 (J UJ (J (SH _) (J (AK Ed) ?_)));refine(AK (no (vX hs))).trans ((AK (no hd)).trans ((AK (no hf)).trans ((AK (no hc)).trans rfl)))
noncomputable def gU(t v:Expr):Bool:=match t with
 | .Tuple ts _ _=>(match v with
  | .Tuple .. => !(ts.length==2||ts.length==3)
  |_=>true)
 | .List .. =>false
 |_=>true
theorem b8(h:gU t v=true):swappedStores [t] v env=pure none:=by
 cases t with
 |Tuple ts j tp=>
  cases v with
  |Tuple vs j' vp=>
   have h:(!(ts.length==2||ts.length==3))=true:=h;unfold swappedStores;dsimp only;refine J h ?_;rw[Bool.true_or,Bool.true_or,AS rfl]
  |_=>rfl
 |_=>first|rfl|cases h
theorem fV(h:env.kindOf a=some .cell):swappedStores [.Tuple (.Name a p::r) j tp] (.Tuple vs j' vp) env=pure none:=by
 have k:∀F:Expr->Option Str,F (.Name a p)=none->(List.filterMap F (.Name a p::r)).length≠(Expr.Name a p::r).length:=fun F h e=>by rw[List.filterMap_cons_none h]at e;exact Gk _ (Dj (List.length_filterMap_le F r) (QR (HF r.length) e.symm))
 have e:∀b:Bool,(env.kindOf a==some .local &&b)=false:=fun b=>by exact J h rfl
 unfold swappedStores;dsimp only
 split
 ·rfl
 ·split
  ·rfl
  ·refine AS (J (Bool.or_eq_true _ _) (.inl (bne_iff_ne.mpr (k _ (AK ?_)))))
   exact J (e _) Ed
theorem uR(h:aO [t]=true):(assignEach [t] env).map (·.2)=[assign t env]:=by cases t<;>first|rfl|injection h
noncomputable def uS:List (Str×Nat)->Code->Code
 |[],k=>k
 |q::r,k=> .op (.st q.2) (uS r k)
section
def Wo(nm:Nm)(l:List (Str×Nat)):Prop:=∀q∈l,∃s,Cv nm.vars q.2=some (s,none)/\q.1=Ai s
theorem vq{G:Gx c A}{k:Code}{K:List V->Pv->u->Prop}:∀{l:List (Str×Nat)} {ys:List V} {p:Pv} {U:u},Wo G.nm l->ys.length=l.length->W G (uS l k) K ys p U->G.Sep p U->HO c A ((l.map (·.1)).map fun n=>fun v=>bindName G.env n v) ys (Lf G (MV G (W G k K [])) .next) (G.Ay p U):=fun{l}=>by
 induction l with
 |nil=>
  intro ys p U h z q S
  cases ys with
  |nil=>exact lf S q
  |cons y ys=>injection z
 |cons e r ih=>
  intro ys p U h z q S
  cases ys with
  |nil=>injection z
  |cons y ys=>
   refine An (h e EU) fun s h1 h2=>wb ?_
   show AU c A (fun v=>storeName G.env e.1 v) y _ _
   exact J h2 (nc h1 S (ih (fun q m=>h q (DX _ m)) (JQ z) q (eD S h1)))
theorem pj(hk:env.scope.kind=.function)(h:(env.kindOf y==some .local)=b)(hp:(p'.line==pos.line && !(sc.names.any fun(m,k)=>m==y &&(k==.local||k==.cell)))=true):swapsWith (.ListComp elt gens sc pos) (some (.Name y p')) n env=pure b:=by
 have UJ:(env.blockKind==.function)=true:=by unfold Env.blockKind;exact J hk rfl
 unfold swapsWith;dsimp only;refine A5 (D3.mp hp) fun h1 h2=>J UJ (J h (J h1 ?_));refine AL pure ((AL (true &&b &&true && ·) h2).trans ?_)
 cases b<;>rfl
variable(rec:Rec)(nm:Nm)
noncomputable abbrev UK(ns:List Expr):=Option {q:List (Str×Nat)//Wo nm q/\∀{c:Cx} {A:Around} (G:Gx c A) (n:Nat),G.nm=nm->(q.length==ns.length)=true/\((ns.all fun| .Name _ p=>p.line==n|_=>false)=true->(ns.filterMap fun| .Name id pos=>if G.env.kindOf id==some .local &&pos.line==n then some id else none|_=>none)=q.map (·.1))}
noncomputable def UL(e:Expr)(es:List Expr)(r:UK nm es):UK nm (e::es):=match e with
  | .Name x pos=>(match gm x nm.vars with
   |some ⟨(i,s,none),h,hx⟩=>(match r with
    |some r=>some ⟨(x,i)::r.1,fun q m=>(BP.mp m).elim (fun e=>e▸⟨s,h,hx⟩) (r.2.1 q),fun G n e=>by
      refine A5 (r.2.2 G n e) fun r1 r2=>?_;refine⟨?_,fun ha=>?_⟩
      ·refine J EG ?_;refine J EG ?_;refine J (E9 r1) ?_;exact beq_self_eq_true _
      ·rw[List.all_cons,Gl]at ha
       have hl:G.env.kindOf x=some .local:=hx▸G.hl s (bG (e▸h));refine J Nr ?_;dsimp only;have hp:(pos.line==n)=true:=ha.1;refine J hl ?_;refine J (beq_self_eq_true _) ?_;refine J (Bool.true_and _) ?_;refine J hp ?_;refine J (AS rfl) ?_;exact AL (x:: ·) (r2 ha.2)⟩
    |none=>none)
   |_=>none)
  |_=>none
noncomputable def sR:(ns:List Expr)->UK nm ns
 |[]=>some ⟨[],(fun Z h=>(nomatch h)),fun Z Z Z=>⟨rfl,fun Z=>rfl⟩⟩
 |e::es=>UL nm e es (sR es)
end
end
section
section
variable(rec:Rec)(nm:Nm)
noncomputable def tc(ns:List Expr):Nat:=(ns.head?.map (·.pos.line)).getD 0
noncomputable def x9(ns:List Expr)(j:Nat)(tp:Pos)(vs:List Expr)(j':Nat)(vp pos:Pos)(k:Code):Tr nm (.S (.Assign [.Tuple ns j tp] (.Tuple vs j' vp) pos)) k:=match sR nm ns with
 |some q=>if h:aO vs=true/\vs.length<=1000/\(!(ns.length==2||ns.length==3)||vs.length !=ns.length)=false/\(ns.all fun| .Name _ p=>p.line==tc ns|_=>false)=true/\
    ((q.1.map (·.1)).length !=ns.length||(q.1.map (·.1)).eraseDups.length !=(q.1.map (·.1)).length)=false/\vs.all (foldedForSure 8)=false/\vs.all (constantsAlone 8)=false/\q.1.length=vs.length then
   ⟨(rec nm (.L vs) (uS q.1.reverse k)).1,fun G e=>by
    refine W8 h fun h1 h2 h3 h4 h5 h6 h7 h8=>?_;clear h;refine x5 h1 h2 (vV G.hk h3 h1 ((q.2.2 G (tc ns) e).2 h4) h5 h6 h7) ((Bl _).trans h8) ((rec nm (.L vs) _).2 G e) fun K xs p U z w S=>?_;have:=vq (l:=q.1.reverse) (ys:=xs.reverse) (fun Aa m=>e▸q.2.1 Aa (List.mem_reverse.mp m)) (by refine J Np ?_;refine J Np ?_;refine J z ?_;refine J h8 ?_;rfl) w S
    rwa [List.map_reverse]at this⟩else am
 |none=>am
noncomputable def eM(t v:Expr)(pos:Pos)(k:Code)(hs:∀{c:Cx} {A:Around} (G:Gx c A),G.nm=nm->swapsWith v (some t) pos.line G.env=pure false)(hw:∀{c:Cx} {A:Around} (G:Gx c A),G.nm=nm->swappedStores [t] v G.env=pure none)(ht:aO [t]=true):Tr nm (.S (.Assign [t] v pos)) k:=
 ⟨(rec nm (.E v) (rec nm (.G t) k).1).1,fun G e=>uO (hs G e) (hw G e) (uR ht) ((rec nm (.E v) _).2 G e) ((rec nm (.G t) _).2 G e)⟩
noncomputable def Yu(ns:List Expr)(j:Nat)(tp:Pos)(vs:List Expr)(j':Nat)(vp pos:Pos)(k:Code):Tr nm (.S (.Assign [.Tuple ns j tp] (.Tuple vs j' vp) pos)) k:=
 if h:gU (.Tuple ns j tp) (.Tuple vs j' vp)=true then eM rec nm _ _ pos k (fun Z Z=>rfl) (fun Z Z=>b8 h) rfl
 else match ns with
  | .Name a p::r=>(match gm a nm.vars with
   |some ⟨(i,s,some n),h,hx⟩=>eM rec nm _ _ pos k (fun Z Z=>rfl) (fun G e=>fV (hx▸(G.hc s n (bG (e▸h))).1)) rfl
   |_=>x9 rec nm (.Name a p::r) j tp vs j' vp pos k)
  |_=>am
theorem vP{c:Cx}{A:Around}{G:Gx c A}{elt it:Expr}{ifs:List Expr}{sc:Scope}{x s:String}{y z:Str}{i:Nat}{tp pos pos' Dy:Pos}{k:Code}(hz:z=Ai x)(hy:Cv G.nm.vars i=some (s,none))(hx:y=Ai s)
  (Pu:swapsWith (.ListComp elt [⟨.Name z tp,it,ifs,0⟩] sc pos) (some (.Name y pos')) Dy.line G.env=pure true) (p:Cp G.nm elt it ifs sc x tp (.op (.st i) k)):Sound G (.S (.Assign [.Name y pos'] (.ListComp elt [⟨.Name z tp,it,ifs,0⟩] sc pos) Dy)) k p.code:=by
 refine J hz ?_;subst hx;exact p.snd fun a b c d=>vc hy a b Pu c d
noncomputable def vI(y:Str)(p':Pos)(elt:Expr)(z:Str)(tp:Pos)(it:Expr)(ifs:List Expr)(sc:Scope)(cp pos:Pos)(k:Code):Tr nm (.S (.Assign [.Name y p'] (.ListComp elt [⟨.Name z tp,it,ifs,0⟩] sc cp) pos)) k:=
 if hp:(p'.line==cp.line && !(sc.names.any fun(m,k)=>m==y &&(k==.local||k==.cell)))=true then
  (match gm y nm.vars with
  |some ⟨(i,s,none),h,hx⟩=>(match qF z sq with
   |some x=>(match PC rec nm elt it ifs sc x.1 tp (.op (.st i) k)with
    |some p=>⟨p.code,fun G e=>by subst e;refine vP x.2.2 h hx (pj G.hk ?_ hp) p;refine J hx ?_;refine J (G.hl s (bG h)) ?_;rfl⟩
    |none=>am)
   |none=>am)
  |some ⟨(i,s,some n),h,hx⟩=>eM rec nm _ _ pos k (fun G e=>pj G.hk (by refine J hx ?_;refine J ((G.hc s n (bG (e▸h))).1) ?_;rfl) hp) (fun Z Z=>b8 rfl) rfl
  |none=>am)
 else am
noncomputable def uW(t v:Expr)(pos:Pos)(k:Code):Tr nm (.S (.Assign [t] v pos)) k:=match v with
 | .ListComp elt gens sc cp=>(match t,gens with
  | .Name y p',[⟨.Name z tp,it,ifs,0⟩]=>vI rec nm y p' elt z tp it ifs sc cp pos k
  |_,_=>am)
 | .Tuple vs j' vp=>(match t with
  | .Tuple ns j tp=>Yu rec nm ns j tp vs j' vp pos k
  |t=>if h:gU t (.Tuple vs j' vp)=true/\aO [t]=true then eM rec nm _ _ pos k (fun Z Z=>lF rfl) (fun Z Z=>b8 h.1) h.2 else am)
 |v=>if h:kQ v=true/\gU t v=true/\aO [t]=true then eM rec nm _ _ pos k (fun Z Z=>lF h.1) (fun Z Z=>b8 h.2.1) h.2.2 else am
noncomputable def zr(t it:Expr)(body:List Stmt)(pos:Pos)(k:Code):Tr nm (.S (.For t it body [] pos)) k:=
 let kr:=rec nm (.SS body) .done
 let kb:=rec nm (.G t) kr.1
 match y6 rec nm (F:=fun s=> .BK s kb.1 k) (Fs:=fun G=>FF G kb.1 k) (fun G s=>rC) t it with
 |some s=>⟨s.code,fun G e=>Yq s.ns (s.ok G e) (kb.2 G e) (kr.2 G e)⟩
 |none=>am
noncomputable def Yv(s:Stmt)(k:Code):Tr nm (.S s) k:=match s with
 | .Return v pos=>(match v with
  |some e=>⟨(rec nm (.E e) .ret).1,fun G q=>zj ((rec nm (.E e) _).2 G q)⟩
  |none=>am)
 | .Expr e pos=>if h:kQ e=true then⟨(rec nm (.E e) (.op .pop k)).1,fun G q=>xt h ((rec nm (.E e) _).2 G q)⟩else am
 | .Pass pos=>⟨k,fun Z Z=>yG⟩
 | .If t a b pos=>⟨(rec nm (.T t) (.br (rec nm (.SS a) .done).1 (rec nm (.SS b) .done).1 k)).1,fun G e=>Uu ((rec nm (.T t) _).2 G e) ((rec nm (.SS a) _).2 G e) ((rec nm (.SS b) _).2 G e)⟩
 | .While t b o pos=>(match o with
  |[]=>⟨.I3 (rec nm (.T t) .done).1 (rec nm (.SS b) .done).1 k,fun G e=>vh ((rec nm (.T t) _).2 G e) ((rec nm (.SS b) _).2 G e)⟩
  |_=>am)
 | .For t it b o pos=>(match o with
  |[]=>zr rec nm t it b pos k
  |_=>am)
 | .Assign ts v pos=>(match ts with
  |[t]=>uW rec nm t v pos k
  |_=>am)
 |_=>am
theorem UM{c:Cx}{A:Around}{G:Gx c A}{e:Expr}{k k':Code}(h:Sound G (.T e) k k'):Sound G (.A [e]) k k':=fun K st p U q S=>mf ((h K st p U q S).lf fun b p U S q=>by
 cases b with
 |true=>exact uy (lf S q)
 |false=>exact lf S q)
theorem UN{c:Cx}{A:Around}{G:Gx c A}{e:Expr}{k k':Code}(h:Sound G (.T e) k k'):Sound G (.O [e]) k k':=fun K st p U q S=>mQ ((h K st p U q S).lf fun b p U S q=>by
 cases b with
 |true=>exact lf S q
 |false=>exact wm (lf S q))
noncomputable def Yw(r:Rec):Rec:=fun nm m k=>match m with
  | .E e=>Yr r nm e k
  | .T e=>Ys r nm e k
  | .L es=>(match es with
   |[]=>⟨k,fun Z Z=>Yk⟩
   |e::es=>⟨(r nm (.E e) (r nm (.L es) k).1).1,fun G q=>yT ((r nm (.E e) _).2 G q) ((r nm (.L es) _).2 G q)⟩)
  | .A es=>(match es with
   |[]=>am
   |[e]=>⟨(r nm (.T e) k).1,fun G q=>UM ((r nm (.T e) _).2 G q)⟩
   |e::es=>⟨(r nm (.T e) (.and (r nm (.A es) .done).1 k)).1,fun G q=>w6 ((r nm (.T e) _).2 G q) ((r nm (.A es) _).2 G q)⟩)
  | .O es=>(match es with
   |[]=>am
   |[e]=>⟨(r nm (.T e) k).1,fun G q=>UN ((r nm (.T e) _).2 G q)⟩
   |e::es=>⟨(r nm (.T e) (.or (r nm (.O es) .done).1 k)).1,fun G q=>vF ((r nm (.T e) _).2 G q) ((r nm (.O es) _).2 G q)⟩)
  | .S s=>Yv r nm s k
  | .SS l=>(match l with
   |[]=>⟨k,fun Z Z=>x8⟩
   |s::l=>⟨(r nm (.S s) (r nm (.SS l) k).1).1,fun G q=>vl ((r nm (.S s) _).2 G q) ((r nm (.SS l) _).2 G q)⟩)
  | .G t=>Yt r nm t k
noncomputable def tr:Nat->Rec
 |0=>fun Z Z Z=>am
 |n+1=>Yw (tr n)
end
end
theorem D9:∀{cs:List (String×Option V)} {b:Nat} {U:u},a<b->dA (U.set a o) b cs=(dA U b cs).set a o:=fun{cs}=>by
 induction cs with
 |nil=>intro b U _;rfl
 |cons p r ih=>
  intro b U h;exact(AL (fun s=>dA s (b+1) r) (cK (Ej h))).trans (ih (EF h))
noncomputable def E6:Nat->List (String×Option V)->List (Addr×O)
 |_,[]=>[]
 |b,p::r=>(b,.cell p.2)::E6 (b+1) r
theorem ot:∀{cs:List (String×Option V)} {b:Nat} {U:u},dA U b cs=Bx (E6 b cs) U:=fun{cs}=>by
 induction cs with
 |nil=>intro b U;rfl
 |cons p r ih=>intro b U;exact(D9 (HF b)).trans (AL (u.set · b _) ih)
noncomputable def I7:Nat->List String->List (String×Option Nat)->Bool
 |_,cn,[]=>cn.isEmpty
 |j,cn,Aa::r=>match Aa.2 with
  |none=>I7 j cn r
  |some i=>match cn with
   |[]=>false
   |x::cn=>x==Aa.1 &&i==j &&I7 (j+1) cn r
theorem wD{z:String->Option V}{C:Addr}:∀{vars:List (String×Option Nat)} {j:Nat} {cn:List String},I7 j cn vars=true->E6 (C+j) (cn.map fun x=>(x,z x))=cl C vars (vars.map fun Aa=>z Aa.1)/\∀x i,(x,some i)∈vars->j<=i/\cn[i-j]? =some x:=fun{vars}=>by
 induction vars with
 |nil=>
  intro j cn h
  cases cn with
  |nil=>exact⟨rfl,fun Z Z h=>nomatch h⟩
  |cons x cn=>injection h
 |cons Aa r ih=>
  intro j cn h
  cases Aa with
  |mk y k=>
   cases k with
   |none=>
    exact A5 (ih (j:=j) (cn:=cn) h) fun a b=>⟨a,fun x i m=>b x i ((BP.mp m).resolve_left fun e=>nomatch e)⟩
   |some i=>
    cases cn with
    |nil=>injection h
    |cons x cn=>
     have h:(x==y &&i==j &&I7 (j+1) cn r)=true:=h;rw[Gl,Gl]at h;obtain rfl:=E9 h.1.1;obtain rfl:=E9 h.1.2;refine A5 (ih h.2) fun a b=>⟨AL (_:: ·) a,fun w l m=>?_⟩
     refine Or.elim (BP.mp m) (fun e=>?_) fun m=>?_
     ·cases e;exact⟨Bf _,by exact J (Nat.sub_self _) rfl⟩
     ·refine A5 (b w l m) fun p q=>⟨JE p,?_⟩
      refine Ax (Nat.exists_eq_add_of_lt p) fun d Ci=>?_;subst Ci;refine J (show i+d+1-i=d+1 by exact CW (aA D (.a Y qW) 1 1 (.a D qY) (.a (.a qY Y) qW) (c3 _ _ _) (AA (Ds (bP Y (.a (.a Y D) qW) 1 (c2 _ _) rfl))) rfl) (aA (.a D qW) Y 1 1 (.a (.a qY D) qW) (.a Y qY) (c3 _ _ _) EM rfl)) ?_;rw[show i+d+1-(i+1)=d by exact CW (aA D Y 1 1 (.a D (.a qY qW)) (.a (.a qY Y) qW) (c3 _ _ _) (AA (Ds (bP (.a Y qW) (.a (.a Y D) qW) 1 (c2 _ _) rfl))) rfl) (aA D Y 1 1 (.a (.a qY D) qW) (.a Y (.a qY qW)) (c3 _ _ _) EM rfl)]at q;exact q
theorem yX{z:String->Option V}:∀{vars:List (String×Option Nat)},look (fm vars (vars.map fun Aa=>z Aa.1)) y=if(y,none)∈vars then z y else none:=fun{vars}=>by
 induction vars with
 |nil=>rfl
 |cons Aa r ih=>
  cases Aa with
  |mk x k=>
   refine J Ec ?_
   by_cases e:x=y
   ·subst e
    cases k with
    |none=>
     refine J (AS EU) ?_
     cases q:z x with
     |some v=>exact AS rfl
     |none=>
      refine ih.trans ?_;refine J q ?_;split<;>rfl
    |some j=>
     refine ih.trans ?_
     by_cases m:(x,none)∈r
     ·exact J (AS m) (J (AS (DX _ m)) rfl)
     ·exact J (AK m) (J (AK fun h=>(BP.mp h).elim (fun e=>by cases e) m) rfl)
   ·refine(bu e).trans (ih.trans ?_)
    by_cases m:(y,none)∈r
    ·exact J (AS m) (J (AS (DX _ m)) rfl)
    ·exact J (AK m) (J (AK fun h=>(BP.mp h).elim (fun q=>e (by injection q with zq;subst zq;rfl)) m) rfl)
noncomputable def yi(fd:FuncData)(ps ln cn:List String)(nm:Nm):Bool:=I7 0 cn nm.vars &&decide (nm.vars.map (·.1)).Nodup &&(nm.vars.all fun Aa=>match Aa.2 with
  |none=>(ln.contains Aa.1|| !ps.contains Aa.1) &&fd.scope.names.lookup (Ai Aa.1)==some .local
  |some _=>fd.scope.names.lookup (Ai Aa.1)==some .cell) &&(ln.all fun x=>nm.vars.contains (x,none)) &&nm.gl.all fun s=>fd.scope.names.lookup (Ai s)==some .globalImplicit
abbrev Dn(P:Params)(a:Addr)(ps:List String)(nm:Nm)(code:Code):Prop:=
 ∃fd ln cn body,Fn (K P) a fd ps ln cn/\fd.body=.stmts body/\yi fd ps ln cn nm=true/\(tr 60 nm (.SS body) .done).1=code/\fd.globals=mainGlobals/\fd.builtins=builtinsNs
noncomputable def tv(b:FuncBody):List Stmt:=match b with
 | .stmts l=>l
 |_=>[]
noncomputable def xC(b:FuncBody):Bool:=match b with
 | .stmts _=>true
 |_=>false
noncomputable def UO(fd:FuncData)(nm:Nm):Code:=(tr 60 nm (.SS (tv fd.body)) .done).1
noncomputable def PD(fd:FuncData):Bool:=fd.closure.isEmpty &&xC fd.body &&decide (fd.scope.isCoroutine=false/\fd.scope.isGenerator=false/\fd.scope.kind=.function/\fd.globals=mainGlobals/\fd.builtins=builtinsNs)
theorem xx(h:xC b=true):b=.stmts (tv b):=by cases b<;>first|rfl|cases h
theorem zW{K:Frag}{G:Prop}(l:K.lookup a=some ⟨.type "function",none,.func fd,#[]⟩)(c:codeIn K fd.code fd.qualname=true)(en:kX fd ps ln cn)
  (b:∀vs:List Value,vs.length=ps.length->bindArgs fd ⟨vs,[]⟩=pure ((ps.map Ai).zip vs)) (h:PD fd=true) (k:Fn K a fd ps ln cn->fd.body=.stmts (tv fd.body)->fd.globals=mainGlobals->fd.builtins=builtinsNs->G):G:=
 (D3.mp h).elim fun h h'=>(D3.mp h).elim fun h1 h2=>Js (Fc h') fun f2 f3 f4 f6 f7=>k ⟨l,c,List.isEmpty_iff.mp h1,en,b,f2,f3,f4⟩ (xx h2) f6 f7
noncomputable def UP(P:Params)(fd:FuncData)(ps ln cn:List String)(nm:Nm)(n:Nat):Bool:=
 codeIn (K P) fd.code fd.qualname &&Tf fd ps ln cn &&(yi fd ps ln cn nm &&PD fd) &&decide (cn.Nodup/\ps.Nodup/\ps.length=n)
theorem dn{P:Params}{a:Addr}{ps:List String}{nm:Nm}{code:Code}{n:Nat}{fd:FuncData}(ln cn:List String)(l:(K P).lookup a=some ⟨.type "function",none,.func fd,#[]⟩)
  (e:(UP P fd ps ln cn nm n,UO fd nm)=(true,code)) (hc:∀L:Nat,cellsFrom (L+1) fd.scope.names []=fG (L+1) cn [])
  (b:∀vs:List Value,vs.length=n->bindArgs fd ⟨vs,[]⟩=pure ((ps.map Ai).zip vs)):Dn P a ps nm code:=
 (D3.mp (AL Prod.fst e)).elim fun Mb e'=>(D3.mp Mb).elim fun Mb e3=>(D3.mp Mb).elim fun e0 e1=>(D3.mp e3).elim fun e3 e4=>D4 (Fc e') fun n1 n2 n3=>
  zW l e0 (rm hc n1 n2 e1) (fun vs h=>b vs (h.trans n3)) e4 fun F h1 h2 h3=>⟨_,ln,cn,_,F,h1,e3,AL Prod.snd e,h2,h3⟩
theorem GP{fd:FuncData}{ss:List Str}(b:∀x:Value,bindArgs fd ⟨[x],[]⟩=pure (ss.zip [x]))(vs:List Value)(h:vs.length=1):bindArgs fd ⟨vs,[]⟩=pure (ss.zip vs):=Ax (NN h) fun x e=>e▸b x
theorem DO{fd:FuncData}{ss:List Str}(b:∀x y:Value,bindArgs fd ⟨[x,y],[]⟩=pure (ss.zip [x,y]))(vs:List Value)(h:vs.length=2):bindArgs fd ⟨vs,[]⟩=pure (ss.zip vs):=Ku (zP h) fun x y e=>e▸b x y
theorem JA{fd:FuncData}{ss:List Str}(b:∀x y z:Value,bindArgs fd ⟨[x,y,z],[]⟩=pure (ss.zip [x,y,z]))(vs:List Value)(h:vs.length=3):bindArgs fd ⟨vs,[]⟩=pure (ss.zip vs):=Ro (NO h) fun x y z e=>e▸b x y z
theorem MW{fd:FuncData}{ss:List Str}(b:∀x y z w:Value,bindArgs fd ⟨[x,y,z,w],[]⟩=pure (ss.zip [x,y,z,w]))(vs:List Value)(h:vs.length=4):bindArgs fd ⟨vs,[]⟩=pure (ss.zip vs):=Ro (Tg h) fun x y z e=>Ax e fun w e=>e▸b x y z w
theorem yn(O:(cz ω).Ok)(h:nsIn (K ω.w.params) mainGlobals (Ai s)=some (some (.ref a)))(hk:keepIn (K ω.w.params) (.ref a)=true)(hd:(Ai s==("__debug__" :Str))=false):GV (cz ω) s (.ex (.ref a)):=
 ⟨fun hg Z hk hx q=>oL O h q hg hk hx hd,fun f e=>by injection e with zq;subst zq;exact m5 hk⟩
theorem zE(O:(cz ω).Ok)(h:nsIn (K ω.w.params) mainGlobals (Ai s)=some (some (.int i t)))(hd:(Ai s==("__debug__" :Str))=false):GV (cz ω) s (.int i):=
 ⟨fun hg Z hk hx q=>j8 O h (fun Z Z=>aq) q hg hk hx hd,fun f e=>nomatch e⟩
theorem bJ(O:(cz ω).Ok)(h:nsIn (K ω.w.params) mainGlobals (Ai s)=some none)(hb:bootBuiltins (Ai s)=some v)(hn:Ai s≠ "__name__")(hd:(Ai s==("__debug__" :Str))=false)(hv:aw (cz ω) v):GV (cz ω) s (.ex v):=
 ⟨fun hg Yx hk hx q=>n7 O h hb q hg Yx hk hx hn hd,fun f e=>by injection e with zq;subst zq;exact hv⟩
theorem vJ{ω:WZ}{e:String×V}{r:List (String×V)}(h:GV (cz ω) e.1 e.2)(t:∀x∈r,GV (cz ω) x.1 x.2):∀x∈e::r,GV (cz ω) x.1 x.2:=LF.mpr ⟨h,t⟩
theorem Yy(O:(cz ω).Ok):∀e∈iw,GV (cz ω) e.1 e.2:=by
 iterate 28 refine vJ (by first|exact yn O rfl rfl (by decide)|exact zE O rfl (by decide)|exact bJ O rfl boot_len (by decide) (by decide) aX|exact bJ O rfl boot_range (by decide) (by decide) ac|exact bJ O rfl boot_sorted (by decide) (by decide) aX|exact bJ O rfl boot_sum (by decide) (by decide) aX|exact bJ O rfl boot_max (by decide) (by decide) aX|exact bJ O rfl boot_min (by decide) (by decide) aX|exact bJ O rfl boot_abs (by decide) (by decide) aX|exact bJ O rfl boot_int (by decide) (by decide) ac|exact bJ O rfl boot_tuple (by decide) (by decide) ac|exact bJ O rfl boot_list (by decide) (by decide) ac|exact bJ O rfl boot_set (by decide) (by decide) ac|exact bJ O rfl boot_enumerate (by decide) (by decide) ac) ?_
 exact fun Z h=>nomatch h
theorem wT(P:Params):(tM.all fun e=>e.2.all fun x=>decide (findIn (K P) (.ref e.1) (Ai x)=some none))=true:=by kernel_rfl
theorem ph:∀e∈tM.map (·.1),bY (cz ω) e:=
 LF.mpr ⟨sZ _ _ rfl,LF.mpr ⟨pN _ _ rfl,LF.mpr ⟨r6 _ _ rfl,LF.mpr ⟨om _ _ rfl,LF.mpr ⟨iX _ _ rfl,LF.mpr ⟨pJ _ _ rfl,fun Z h=>nomatch h⟩⟩⟩⟩⟩⟩
theorem x6(h:tM.any (·.1==C)=true):bY (cz ω) C:=by exact An (Sv.mp h) fun e m q=>E9 q▸ph _ (MD m)
theorem zJ(h:fld C x=true):bY (cz ω) C/\findIn (K ω.w.params) (.ref C) (Ai x)=some none:=by exact An (Sv.mp h) fun e m q=>A5 (D3.mp q) fun a b=>E9 a▸⟨ph _ (MD m),Fc (H8.mp (H8.mp (wT ω.w.params) e m) x (QX.mp b))⟩
theorem w3(P:Params):∀e∈pA,findIn (K P) (.ref e.1) (Ai e.2.1)=some (some (.ref e.2.2))/\isFn (K P) (.ref e.2.2)=true/\keepIn (K P) (.ref e.2.2)=true:=fun e m=>
 Fc (H8.mp (show(pA.all fun e=>decide (findIn (K P) (.ref e.1) (Ai e.2.1)=some (some (.ref e.2.2))/\isFn (K P) (.ref e.2.2)=true/\keepIn (K P) (.ref e.2.2)=true))=true by kernel_rfl) e m)
theorem vy:∀e∈pA,tM.any (·.1==e.1)=true:=by decide
theorem Yz:∀e∈pA,bY (cz ω) e.1/\findIn (K ω.w.params) (.ref e.1) (Ai e.2.1)=some (some (.ref e.2.2))/\isFn (K ω.w.params) (.ref e.2.2)=true/\keepIn (K ω.w.params) (.ref e.2.2)=true:=fun e m=>⟨x6 (vy e m),w3 ω.w.params e m⟩
noncomputable def Pv.YA(nm:Nm)(ps:List String)(xs:List V):Pv:=⟨nm.vars.map fun Aa=>look (dj ps xs) Aa.1,[]⟩
theorem Dn.go{code:Code}(qQ:Dn ω.w.params a ps nm code)(O:(cz ω).Ok)(hA:A7 (n+1) A)(hl:xs.length=ps.length)
  (h:∀{A':Around} (hA:A7 n A') (G:Gx (cz ω) A'),G.nm=nm->(∀v p Ac,Q v Ac->G.R v p Ac)->Wr G code (fun Z Z Ac=>Q (.ex .none) Ac) [] (.YA nm ps xs) U):aR (cz ω) A (.ref a) xs Q U:=by
 refine Xa qQ fun fd ln cn body F hb E5 YB hg YC=>?_;unfold yi at E5;rw[Gl,Gl,Gl,Gl,H8,H8,H8]at E5;refine A5 E5 fun ER k5=>?_;clear E5;refine A5 ER ?_;clear ER;intro ER k4;refine A5 ER ?_;clear ER;intro ER k3;refine A5 ER fun k1 k2=>?_;clear ER;refine F.run O hb hl hA.d fun L hL=>?_;have ho:=wD (z:=look (dj ps xs)) (C:=L+1) k1;have MX:=hA.deeper (callEnvC fd L a)
 let G:Gx (cz ω) (A.deeper (callEnvC fd L a)):={
  env:=callEnvC fd L a,L:=L,C:=L+1,nm:=nm,R:=fun v Z Ac=>Q v Ac,ok:=O,hh:=MX.handled
  hu:=Dj (Jn (Ea _ (8*n)) (by decide)) MX.units
  hk:=F.kind,hL:=rfl,hg:=hg,hb:=YC,nd:=Fc k2
  hl:=fun x m=>E9 (D3.mp (k3 _ m)).2
  hc:=fun x j m=>⟨E9 (k3 _ m),by
   show(cellsFrom (L+1) fd.scope.names []).lookup _=_
   refine J (F.en.cells _) ?_;exact cE (fun Z z=>Ba z JN) F.en.nodup (ho.2 x j m).2⟩
  hx:=fun s m=>E9 (k5 s m)
  gt:=Yy O,ft:=fun C x h=>zJ h,mt:=Yz}
 have hS:G.Sep ⟨nm.vars.map fun Aa=>look (dj ps xs) Aa.1,[]⟩ U:=by
  have hk:∀{cs:List (String×Option V)} {b:Nat} {x:Nat},x∈(E6 b cs).map (·.1)->b<=x:=fun{cs}=>by
   induction cs with
   |nil=>intro b x h;exact nomatch h
   |cons p r ih=>intro b x h;exact(BP.mp h).elim (fun e=>AA e.symm) fun h=>JE (ih h)
  have hn:∀{cs:List (String×Option V)} {b:Nat},((E6 b cs).map (·.1)).Nodup:=fun{cs}=>by
   induction cs with
   |nil=>intro b;exact FG
   |cons p r ih=>intro b;exact CQ.mpr ⟨fun m=>Gk _ (hk m),ih⟩
  have e:G.pl ⟨nm.vars.map fun Aa=>look (dj ps xs) Aa.1,[]⟩=(L,.fr (fm nm.vars (nm.vars.map fun Aa=>look (dj ps xs) Aa.1)))::E6 (L+1) (cn.map fun x=>(x,look (dj ps xs) x)):=AL (_:: ·) ((HL _).trans ho.1.symm);refine⟨?_,fun b m=>?_,Bl _⟩
  ·exact J e (CQ.mpr ⟨fun m=>Gk _ (hk m),hn⟩)
  ·rw[e]at m
   exact(BP.mp m).elim (fun q=>hL b (AA q.symm)) fun m=>hL b (JE (hk m))
 have FQ:F8 (G.Ay ⟨nm.vars.map fun Aa=>look (dj ps xs) Aa.1,[]⟩ U) (BN U L ps ln cn xs):=fun b=>by
  have e2:BN U L ps ln cn xs=(Bx (cl (L+1) nm.vars (nm.vars.map fun Aa=>look (dj ps xs) Aa.1)) U).set L (.fr (ln.filterMap fun x=>(look (dj ps xs) x).map (x,·))):=(D9 (HF L)).trans (AL (u.set · L _) (ot.trans (AL (fun l=>Bx l U) ho.1)));refine J e2 ?_
  by_cases q:b=L
  ·refine J q (.inr ⟨_,_,u.set_same _ _ _,u.set_same _ _ _,fun y=>?_⟩)
   refine J dF (yX.trans ?_)
   by_cases m:y∈ln
   ·refine J (AS m) (J (AS (QX.mp (k4 y m))) ?_);rfl
   ·refine J (AK m) ?_
    set_option tactic.hygienic true in split
    ·rename_i m2
     have:=(D3.mp (k3 _ m2)).1;rw[Bool.or_eq_true]at this
     rcases this with t|t
     ·exact Ba (QX.mp t) m
     ·refine dY fun t'=>?_
      have t:=(QX.mpr t')▸t;injection t
    ·rfl
  ·refine .inl ((u.Ad _ _ q).trans (Eq.trans ?_ (u.Ad _ _ q).symm))
   exact J (HL _) rfl
 have key:=(tr 60 nm (.SS body) .done).2 G rfl _ _ U (YB▸aM (h MX G rfl fun v p Ac q=>q)) hS;intro ρ s R;have R':Rep (cz ω) ρ (G.Ay ⟨nm.vars.map fun Aa=>look (dj ps xs) Aa.1,[]⟩ U) s:=R.same fun b=>(FQ b).elim (fun e=> .inl e.symm) fun PE=>Bc PE fun m m' e1 e2 q=> .inr ⟨m',m,e2,e1,fun x=>(q x).symm⟩;refine BE (key s R') (fun f s' q=>?_) fun Z Z e=>e;obtain⟨y,τ,Aq,Au,fr,l⟩:=q
 cases l with
 |mk p Ac S q=>
  have le:Ac.le (G.Ay p Ac):=fun b o e=>S.AN e;refine⟨y,_,Aq,⟨fun b o hb z=>Au.grow b o hb ?_,fun b o hb z=>Au.fresh b o hb ?_⟩,fr,Ac,le,?_⟩
  ·exact(FQ.none b).mp z
  ·exact(FQ.none b).mp z
  ·cases y with
   |next=>exact q
   |ret v=>exact q
section
set_option backward.match.sparseCases false
noncomputable def wg:Code:=.ld 0<|.op (.val (.str (N "")))<|.cm .NotEq<|.and (.ld 0<|.F9 .v ⟨[("sign",none)],[]⟩ [] (.ld 0<|.mt "isspace" <|.cl 1<|.BA<|.or (.ld 0<|.op (.val (.str (N "()[]{},:")))<|.cm .In<|.BA<|.done)<|.done) (.ld 0<|.done)<|.ls 0<|.cm .Eq<|.done)<|.ret
theorem wV(P:Params):Dn P 79 ["text"] ⟨[("text",none)],[]⟩ wg:=dn ["text"] [] rfl (by kernel_rfl) (fun Z=>rfl) (GP fun Z=>rfl)
noncomputable def jo:Code:=.ls 0<|.ld 0<|.sa "nodes" <|.op .BV<|.ld 0<|.sa "numbers" <|.ls 0<|.ld 0<|.sa "weights" <|.ls 0<|.ld 0<|.sa "depths" <|.done
theorem jf(P:Params):Dn P 98 ["self"] ⟨[("self",none)],[]⟩ jo:=dn ["self"] [] rfl (by kernel_rfl) (fun Z=>rfl) (GP fun Z=>rfl)
noncomputable def nX:Code:=.x (.builtin "len")<|.ld 0<|.at "nodes" <|.cl 1<|.ret
theorem nP(P:Params):Dn P 105 ["self"] ⟨[("self",none)],["len"]⟩ nX:=dn ["self"] [] rfl (by kernel_rfl) (fun Z=>rfl) (GP fun Z=>rfl)
noncomputable def mW:Code:=.ld 1<|.tp 1<|.x (.type "tuple")<|.ld 2<|.cl 1<|.bn .Add<|.st 3<|.ld 3<|.ld 0<|.at "numbers" <|.cm .In<|.BA<|.br (.ld 0<|.at "numbers" <|.ld 3<|.sub<|.ret) (.done)<|.ld 0<|.mt "require" <|.ld 1<|.cl 2<|.pop<|.ld 3<|.op .Co<|.BK .v (.st 4<|.i 0<|.ld 4<|.chain .LtE (.x (.builtin "len")<|.ld 0<|.at "nodes" <|.cl 1<|.cm .Lt<|.BA<|.done)<|.op .not<|.br (.fail) (.done)<|.done)<|.x (.builtin "len")<|.ld 0<|.at "nodes" <|.cl 1<|.ld 0<|.at "numbers" <|.ld 3<|.op .Bt<|.ld 0<|.at "nodes" <|.mt "append" <|.ld 3<|.cl 2<|.pop<|.ld 0<|.at "weights" <|.mt "append" <|.i 1<|.x (.builtin "sum")<|.ld 3<|.op .Co<|.comp .v ⟨[("kid",none),("self",some 0)],[]⟩ [0] (.ld 1<|.at "weights" <|.ld 0<|.sub<|.done)<|.cl 1<|.bn .Add<|.cl 2<|.pop<|.ld 0<|.at "depths" <|.mt "append" <|.i 1<|.x (.builtin "max")<|.ld 3<|.op .Co<|.comp .v ⟨[("kid",none),("self",some 0)],[]⟩ [0] (.ld 1<|.at "depths" <|.ld 0<|.sub<|.done)<|.i 0<|.ls 1<|.bn .Add<|.cl 1<|.bn .Add<|.cl 2<|.pop<|.x (.builtin "len")<|.ld 0<|.at "nodes" <|.cl 1<|.i 1<|.bn .Sub<|.ret
theorem nY(P:Params):Dn P 110 ["self","op","kids"] ⟨[("self",some 0),("op",none),("kids",none),("node",none),("kid",none)],["tuple","len","sum","max"]⟩ mW:=dn ["op","kids"] ["self"] rfl (by kernel_rfl) (fun Z=>rfl) (JA fun Z Z Z=>rfl)
noncomputable def gu:Code:=.x (.ref 79)<|.ld 1<|.cl 1<|.BA<|.op .not<|.or (.ld 1<|.i 0<|.sub<|.op (.val (.str (N "?")))<|.cm .Eq<|.BA<|.done)<|.br (.fail) (.done)<|.done
theorem gf(P:Params):Dn P 117 ["self","op"] ⟨[("self",none),("op",none)],["is_op"]⟩ gu:=dn ["self","op"] [] rfl (by kernel_rfl) (fun Z=>rfl) (DO fun Z Z=>rfl)
noncomputable def q9:Code:=.ld 0<|.at "nodes" <|.ld 1<|.sub<|.i 0<|.sub<|.ret
theorem qw(P:Params):Dn P 143 ["self","n"] ⟨[("self",none),("n",none)],[]⟩ q9:=dn ["self","n"] [] rfl (by kernel_rfl) (fun Z=>rfl) (DO fun Z Z=>rfl)
noncomputable def mG:Code:=.ld 0<|.at "nodes" <|.ld 1<|.sub<|.op .Co<|.ret
theorem l6(P:Params):Dn P 150 ["self","n"] ⟨[("self",none),("n",none)],[]⟩ mG:=dn ["self","n"] [] rfl (by kernel_rfl) (fun Z=>rfl) (DO fun Z Z=>rfl)
noncomputable def mY:Code:=.ld 0<|.at "nodes" <|.ld 1<|.sub<|.ret
theorem nR(P:Params):Dn P 157 ["self","n"] ⟨[("self",none),("n",none)],[]⟩ mY:=dn ["self","n"] [] rfl (by kernel_rfl) (fun Z=>rfl) (DO fun Z Z=>rfl)
noncomputable def gB:Code:=.ld 1<|.ld 0<|.sa "heap" <|.x .none<|.ld 0<|.sa "mark" <|.op .BV<|.ld 0<|.sa "known" <|.done
theorem gC(P:Params):Dn P 204 ["self","heap"] ⟨[("self",none),("heap",none)],[]⟩ gB:=dn ["self","heap"] [] rfl (by kernel_rfl) (fun Z=>rfl) (DO fun Z Z=>rfl)
noncomputable def fM:Code:=.ld 1<|.i 200<|.cm .Gt<|.BA<|.br (.fail) (.done)<|.ld 0<|.at "heap" <|.mt "size" <|.cl 1<|.x (.builtin "len")<|.ld 0<|.at "heap" <|.at "edges" <|.cl 1<|.ld 0<|.at "heap" <|.at "backs" <|.tp 3<|.st 2<|.ld 2<|.ld 0<|.at "mark" <|.cm .NotEq<|.BA<|.br (.ld 2<|.ld 0<|.sa "mark" <|.op .BV<|.ld 0<|.sa "known" <|.done) (.done)<|.done
theorem fR(P:Params):Dn P 211 ["self","size"] ⟨[("self",none),("size",none),("mark",none)],["MOST_SIZE","len"]⟩ fM:=dn ["self","size"] [] rfl (by kernel_rfl) (fun Z=>rfl) (DO fun Z Z=>rfl)
noncomputable def jq:Code:=.ld 0<|.mt "renewed" <|.ld 2<|.cl 2<|.pop<|.ld 0<|.mt "rows" <|.ld 0<|.at "heap" <|.mt "find" <|.ld 1<|.cl 2<|.tp 1<|.ld 2<|.cl 3<|.ret
theorem jp(P:Params):Dn P 218 ["self","c","size"] ⟨[("self",none),("c",none),("size",none)],[]⟩ jq:=dn ["self","c","size"] [] rfl (by kernel_rfl) (fun Z=>rfl) (JA fun Z Z Z=>rfl)
noncomputable def jD:Code:=.x (.builtin "len")<|.ld 1<|.cl 1<|.i 0<|.cm .Eq<|.BA<|.or (.ld 2<|.x (.builtin "len")<|.ld 1<|.cl 1<|.cm .Lt<|.BA<|.done)<|.br (.ld 2<|.i 0<|.cm .Eq<|.BA<|.and (.x (.builtin "len")<|.ld 1<|.cl 1<|.i 0<|.cm .Eq<|.BA<|.done)<|.br (.i 1<|.done) (.i 0<|.done)<|.ret) (.done)<|.ld 1<|.ld 2<|.tp 2<|.st 3<|.ld 3<|.ld 0<|.at "known" <|.cm .NotIn<|.BA<|.br (.x (.builtin "len")<|.ld 1<|.cl 1<|.i 1<|.cm .Eq<|.BA<|.br (.x (.builtin "sum")<|.ld 0<|.at "heap" <|.mt "nodes_of" <|.ld 1<|.i 0<|.sub<|.cl 2<|.comp .v ⟨[("node",none),("self",some 0),("size",some 1)],[]⟩ [0,2] (.ld 1<|.mt "rows" <|.ld 0<|.op .Co<|.ld 2<|.i 1<|.bn .Sub<|.cl 3<|.done)<|.cl 1<|.st 4<|.done) (.i 0<|.st 4<|.i 1<|.ld 2<|.x (.builtin "len")<|.ld 1<|.cl 1<|.bn .Sub<|.i 2<|.bn .Add<|.BK .r2 (.st 5<|.ld 0<|.mt "rows" <|.ld 1<|.op .Px<|.ld 5<|.cl 3<|.st 6<|.ld 6<|.i 0<|.cm .Gt<|.BA<|.br (.ld 4<|.ld 6<|.ld 0<|.mt "rows" <|.ld 1<|.op .Co<|.ld 2<|.ld 5<|.bn .Sub<|.cl 3<|.bn .Mult<|.bn .Add<|.st 4<|.done) (.done)<|.done)<|.done)<|.ld 4<|.ld 0<|.at "known" <|.ld 3<|.op .Bt<|.done) (.done)<|.ld 0<|.at "known" <|.ld 3<|.sub<|.ret
theorem jj(P:Params):Dn P 230 ["self","classes","size"] ⟨[("self",some 0),("classes",none),("size",some 1),("key",none),("found",none),("first",none),("here",none)],["len","sum","range"]⟩ jD:=dn ["classes"] ["self","size"] rfl (by kernel_rfl) (fun Z=>rfl) (JA fun Z Z Z=>rfl)
noncomputable def gI:Code:=.ls 0<|.ld 0<|.sa "above" <|.ls 0<|.ld 0<|.sa "lots" <|.ls 0<|.ld 0<|.sa "merged" <|.done
theorem f9(P:Params):Dn P 293 ["self"] ⟨[("self",none)],[]⟩ gI:=dn ["self"] [] rfl (by kernel_rfl) (fun Z=>rfl) (GP fun Z=>rfl)
noncomputable def jN:Code:=.ld 0<|.at "above" <|.mt "append" <|.x (.builtin "len")<|.ld 0<|.at "above" <|.cl 1<|.cl 2<|.pop<|.ld 0<|.at "lots" <|.mt "append" <|.x (.builtin "len")<|.ld 0<|.at "lots" <|.cl 1<|.ls 1<|.cl 2<|.pop<|.x (.builtin "len")<|.ld 0<|.at "above" <|.cl 1<|.i 1<|.bn .Sub<|.ret
theorem jF(P:Params):Dn P 300 ["self"] ⟨[("self",none)],["len"]⟩ jN:=dn ["self"] [] rfl (by kernel_rfl) (fun Z=>rfl) (GP fun Z=>rfl)
noncomputable def jM:Code:=.x (.builtin "len")<|.ld 0<|.at "above" <|.cl 1<|.ret
theorem jc(P:Params):Dn P 307 ["self"] ⟨[("self",none)],["len"]⟩ jM:=dn ["self"] [] rfl (by kernel_rfl) (fun Z=>rfl) (GP fun Z=>rfl)
noncomputable def jT:Code:=.I3 (.ld 0<|.at "above" <|.ld 1<|.sub<|.ld 1<|.cm .NotEq<|.BA<|.done) (.ld 0<|.at "above" <|.ld 1<|.sub<|.st 1<|.done)<|.ld 1<|.ret
theorem jQ(P:Params):Dn P 314 ["self","a"] ⟨[("self",none),("a",none)],[]⟩ jT:=dn ["self","a"] [] rfl (by kernel_rfl) (fun Z=>rfl) (DO fun Z Z=>rfl)
noncomputable def iZ:Code:=.x (.builtin "sorted")<|.ld 0<|.mt "find" <|.ld 1<|.cl 2<|.ld 0<|.mt "find" <|.ld 2<|.cl 2<|.ls 2<|.cl 1<|.op (.Ht 2)<|.st 3<|.st 4<|.ld 3<|.ld 4<|.cm .Eq<|.BA<|.br (.x .none<|.ret) (.done)<|.ld 3<|.ld 0<|.at "above" <|.ld 4<|.op .Bt<|.ld 0<|.at "lots" <|.ld 3<|.sub<|.mt "extend" <|.ld 0<|.at "lots" <|.ld 4<|.sub<|.cl 2<|.pop<|.ld 0<|.at "merged" <|.mt "append" <|.ld 3<|.ld 4<|.tp 2<|.cl 2<|.pop<|.ld 3<|.ld 4<|.tp 2<|.ret
theorem iF(P:Params):Dn P 321 ["self","a","b"] ⟨[("self",none),("a",none),("b",none),("kept",none),("gone",none)],["sorted"]⟩ iZ:=dn ["self","a","b"] [] rfl (by kernel_rfl) (fun Z=>rfl) (JA fun Z Z Z=>rfl)
noncomputable def et:Code:=.x (.builtin "sorted")<|.ld 0<|.at "lots" <|.ld 0<|.mt "find" <|.ld 1<|.cl 2<|.sub<|.cl 1<|.ret
theorem fU(P:Params):Dn P 328 ["self","a"] ⟨[("self",none),("a",none)],["sorted"]⟩ et:=dn ["self","a"] [] rfl (by kernel_rfl) (fun Z=>rfl) (DO fun Z Z=>rfl)
noncomputable def jg:Code:=.x (.ref 186)<|.cl 0<|.ld 0<|.sa "bank" <|.x (.ref 357)<|.cl 0<|.ld 0<|.sa "unions" <|.ls 0<|.ld 0<|.sa "edges" <|.ls 0<|.ld 0<|.sa "forest" <|.op .BV<|.ld 0<|.sa "known" <|.op .BV<|.ld 0<|.sa "above" <|.ls 0<|.ld 0<|.sa "waiting" <|.i 0<|.ld 0<|.sa "backs" <|.done
theorem jb(P:Params):Dn P 375 ["self"] ⟨[("self",none)],["Bank","Unions"]⟩ jg:=dn ["self"] [] rfl (by kernel_rfl) (fun Z=>rfl) (GP fun Z=>rfl)
noncomputable def nQ:Code:=.ld 0<|.at "bank" <|.mt "size" <|.cl 1<|.ret
theorem nJ(P:Params):Dn P 382 ["self"] ⟨[("self",none)],[]⟩ nQ:=dn ["self"] [] rfl (by kernel_rfl) (fun Z=>rfl) (GP fun Z=>rfl)
noncomputable def ly:Code:=.ld 0<|.at "bank" <|.mt "op" <|.ld 1<|.cl 2<|.tp 1<|.x (.type "tuple")<|.ld 0<|.at "bank" <|.mt "kids" <|.ld 1<|.cl 2<|.comp .v ⟨[("kid",none),("self",some 0)],[]⟩ [0] (.ld 1<|.mt "find" <|.ld 0<|.cl 2<|.done)<|.cl 1<|.bn .Add<|.ret
theorem mT(P:Params):Dn P 387 ["self","n"] ⟨[("self",some 0),("n",none)],["tuple"]⟩ ly:=dn ["n"] ["self"] rfl (by kernel_rfl) (fun Z=>rfl) (DO fun Z Z=>rfl)
noncomputable def oM:Code:=.ld 0<|.at "bank" <|.mt "take" <|.ld 1<|.ld 2<|.cl 3<|.st 3<|.ld 3<|.ld 0<|.at "unions" <|.mt "size" <|.cl 1<|.cm .Lt<|.BA<|.br (.ld 3<|.ret) (.done)<|.ld 0<|.at "unions" <|.mt "make" <|.cl 1<|.pop<|.ls 0<|.ld 0<|.at "above" <|.ld 3<|.op .Bt<|.ld 2<|.comp .v ⟨[("kid",none),("self",some 0)],[]⟩ [0] (.ld 1<|.mt "find" <|.ld 0<|.cl 2<|.done)<|.op .sset<|.BK .v (.st 4<|.ld 0<|.at "above" <|.ld 4<|.sub<|.mt "append" <|.ld 3<|.cl 2<|.pop<|.done)<|.ld 0<|.mt "look_at" <|.ld 3<|.cl 2<|.pop<|.ld 3<|.ret
theorem oZ(P:Params):Dn P 392 ["self","op","numbers"] ⟨[("self",some 0),("op",none),("numbers",none),("n",none),("c",none)],["sorted","set"]⟩ oM:=dn ["op","numbers"] ["self"] rfl (by kernel_rfl) (fun Z=>rfl) (JA fun Z Z Z=>rfl)
noncomputable def pf:Code:=.ld 0<|.mt "add" <|.ld 1<|.i 0<|.sub<|.x (.type "tuple")<|.ld 1<|.op .Co<|.comp .v ⟨[("part",none),("self",some 0)],[]⟩ [0] (.ld 1<|.mt "put" <|.ld 0<|.cl 2<|.done)<|.cl 1<|.cl 3<|.ret
theorem pI(P:Params):Dn P 397 ["self","term"] ⟨[("self",some 0),("term",none)],["tuple"]⟩ pf:=dn ["term"] ["self"] rfl (by kernel_rfl) (fun Z=>rfl) (DO fun Z Z=>rfl)
noncomputable def gq:Code:=.ld 0<|.at "known" <|.mt "setdefault" <|.ld 0<|.mt "node" <|.ld 1<|.cl 2<|.ld 1<|.cl 3<|.st 2<|.ld 0<|.mt "find" <|.ld 2<|.cl 2<|.ld 0<|.mt "find" <|.ld 1<|.cl 2<|.cm .NotEq<|.BA<|.br (.ld 0<|.mt "join" <|.ld 2<|.ld 1<|.op (.val (.str (N "like")))<|.tp 1<|.cl 4<|.pop<|.done) (.done)<|.done
theorem gy(P:Params):Dn P 404 ["self","n"] ⟨[("self",none),("n",none),("other",none)],[]⟩ gq:=dn ["self","n"] [] rfl (by kernel_rfl) (fun Z=>rfl) (DO fun Z Z=>rfl)
noncomputable def nH:Code:=.ld 0<|.at "unions" <|.mt "find" <|.ld 1<|.cl 2<|.ret
theorem m9(P:Params):Dn P 411 ["self","n"] ⟨[("self",none),("n",none)],[]⟩ nH:=dn ["self","n"] [] rfl (by kernel_rfl) (fun Z=>rfl) (DO fun Z Z=>rfl)
noncomputable def kj:Code:=.ld 0<|.mt "join" <|.ld 1<|.ld 2<|.ld 3<|.cl 4<|.ret
theorem lI(P:Params):Dn P 425 ["self","a","b","reason"] ⟨[("self",none),("a",none),("b",none),("reason",none)],[]⟩ kj:=dn ["self","a","b","reason"] [] rfl (by kernel_rfl) (fun Z=>rfl) (MW fun Z Z Z Z=>rfl)
noncomputable def lx:Code:=.ld 0<|.at "edges" <|.mt "append" <|.ld 1<|.ld 2<|.ld 3<|.tp 3<|.cl 2<|.pop<|.ld 0<|.at "unions" <|.mt "merge" <|.ld 1<|.ld 2<|.cl 3<|.st 4<|.ld 4<|.x .none<|.cm .Is<|.BA<|.br (.x (.bool false)<|.ret) (.done)<|.ld 4<|.op (.Ht 2)<|.st 5<|.st 6<|.ld 0<|.at "forest" <|.mt "append" <|.x (.builtin "len")<|.ld 0<|.at "edges" <|.cl 1<|.i 1<|.bn .Sub<|.cl 2<|.pop<|.ld 0<|.at "waiting" <|.mt "extend" <|.ld 0<|.at "above" <|.ld 6<|.sub<|.cl 2<|.pop<|.ld 0<|.at "above" <|.ld 5<|.sub<|.ld 0<|.at "above" <|.mt "pop" <|.ld 6<|.cl 2<|.bn .Add<|.ld 0<|.at "above" <|.ld 5<|.op .Bt<|.x (.bool true)<|.ret
theorem lw(P:Params):Dn P 432 ["self","a","b","reason"] ⟨[("self",none),("a",none),("b",none),("reason",none),("merged",none),("kept",none),("gone",none)],["len"]⟩ lx:=dn ["self","a","b","reason"] [] rfl (by kernel_rfl) (fun Z=>rfl) (MW fun Z Z Z Z=>rfl)
noncomputable def jm:Code:=.I3 (.x (.builtin "len")<|.ld 0<|.at "waiting" <|.cl 1<|.i 0<|.cm .Gt<|.BA<|.done) (.ld 0<|.mt "look_at" <|.ld 0<|.at "waiting" <|.mt "pop" <|.cl 1<|.cl 2<|.pop<|.done)<|.done
theorem jO(P:Params):Dn P 439 ["self"] ⟨[("self",none)],["len"]⟩ jm:=dn ["self"] [] rfl (by kernel_rfl) (fun Z=>rfl) (GP fun Z=>rfl)
noncomputable def iR:Code:=.ld 0<|.at "unions" <|.mt "members" <|.ld 1<|.cl 2<|.ret
theorem gd(P:Params):Dn P 460 ["self","c"] ⟨[("self",none),("c",none)],[]⟩ iR:=dn ["self","c"] [] rfl (by kernel_rfl) (fun Z=>rfl) (DO fun Z Z=>rfl)
noncomputable def fq:Code:=.ld 0<|.mt "members" <|.ld 1<|.cl 2<|.comp .v ⟨[("n",none),("self",some 0)],[]⟩ [0] (.ld 1<|.mt "node" <|.ld 0<|.cl 2<|.done)<|.op .sset<|.ret
theorem gE(P:Params):Dn P 465 ["self","c"] ⟨[("self",some 0),("c",none)],["sorted","set"]⟩ fq:=dn ["c"] ["self"] rfl (by kernel_rfl) (fun Z=>rfl) (DO fun Z Z=>rfl)
noncomputable def pH:Code:=.I3 (.ld 1<|.ld 0<|.cm .In<|.BA<|.done) (.ld 0<|.ld 1<|.sub<|.st 1<|.done)<|.ld 1<|.ret
theorem oP(P:Params):Dn P 498 ["ways","c"] ⟨[("ways",none),("c",none)],[]⟩ pH:=dn ["ways","c"] [] rfl (by kernel_rfl) (fun Z=>rfl) (DO fun Z Z=>rfl)
noncomputable def gG:Code:=.ld 1<|.ld 0<|.sa "heap" <|.op .BV<|.ld 0<|.sa "beneath" <|.op .BV<|.ld 0<|.sa "told" <|.op .BV<|.ld 0<|.sa "ways" <|.op .BV<|.ld 0<|.sa "backs" <|.i 0<|.ld 0<|.sa "many" <|.i 0<|.ld 0<|.sa "turns" <|.done
theorem fv(P:Params):Dn P 512 ["self","heap"] ⟨[("self",none),("heap",none)],[]⟩ gG:=dn ["self","heap"] [] rfl (by kernel_rfl) (fun Z=>rfl) (DO fun Z Z=>rfl)
noncomputable def jK:Code:=.ld 1<|.i (-1)<|.cm .NotEq<|.BA<|.and (.ld 1<|.ld 0<|.at "beneath" <|.cm .NotIn<|.BA<|.done)<|.br (.fail) (.done)<|.done
theorem da(P:Params):Dn P 519 ["self","layer"] ⟨[("self",none),("layer",none)],["BASE"]⟩ jK:=dn ["self","layer"] [] rfl (by kernel_rfl) (fun Z=>rfl) (DO fun Z Z=>rfl)
noncomputable def fy:Code:=.ld 0<|.mt "want" <|.ld 1<|.cl 2<|.pop<|.ld 0<|.at "many" <|.st 2<|.ld 2<|.i 1<|.bn .Add<|.ld 0<|.sa "many" <|.ld 1<|.ld 0<|.at "beneath" <|.ld 2<|.op .Bt<|.ls 0<|.ld 0<|.at "told" <|.ld 2<|.op .Bt<|.op .BV<|.ld 0<|.at "ways" <|.ld 2<|.op .Bt<|.ld 0<|.at "heap" <|.at "backs" <|.ld 0<|.at "backs" <|.ld 2<|.op .Bt<|.ld 2<|.ret
theorem fz(P:Params):Dn P 526 ["self","beneath"] ⟨[("self",none),("beneath",none),("layer",none)],[]⟩ fy:=dn ["self","beneath"] [] rfl (by kernel_rfl) (fun Z=>rfl) (DO fun Z Z=>rfl)
noncomputable def ei:Code:=.ld 0<|.mt "want" <|.ld 1<|.cl 2<|.pop<|.ls 0<|.st 2<|.I3 (.ld 1<|.i (-1)<|.cm .NotEq<|.BA<|.done) (.ld 2<|.mt "append" <|.ld 1<|.cl 2<|.pop<|.ld 0<|.at "beneath" <|.ld 1<|.sub<|.st 1<|.done)<|.ld 2<|.op .back<|.ret
theorem d6(P:Params):Dn P 533 ["self","layer"] ⟨[("self",none),("layer",none),("found",none)],["BASE"]⟩ ei:=dn ["self","layer"] [] rfl (by kernel_rfl) (fun Z=>rfl) (DO fun Z Z=>rfl)
noncomputable def jU:Code:=.x (.builtin "sorted")<|.ld 0<|.at "beneath" <|.cl 1<|.F9 .v ⟨[("one",none),("self",some 0),("layer",some 1)],["BASE"]⟩ [0,1] (.ld 2<|.i (-1)<|.cm .Eq<|.BA<|.or (.ld 2<|.ld 1<|.mt "way_down" <|.ld 0<|.cl 2<|.cm .In<|.BA<|.done)<|.done) (.ld 0<|.done)<|.ret
theorem jJ(P:Params):Dn P 538 ["self","layer"] ⟨[("self",some 0),("layer",some 1)],["sorted"]⟩ jU:=dn [] ["self","layer"] rfl (by kernel_rfl) (fun Z=>rfl) (DO fun Z Z=>rfl)
noncomputable def jX:Code:=.ld 0<|.at "heap" <|.mt "find" <|.ld 2<|.cl 2<|.st 3<|.ld 0<|.mt "way_down" <|.ld 1<|.cl 2<|.BK .v (.st 4<|.x (.ref 498)<|.ld 0<|.at "ways" <|.ld 4<|.sub<|.ld 3<|.cl 2<|.st 3<|.done)<|.ld 3<|.ret
theorem jV(P:Params):Dn P 545 ["self","layer","n"] ⟨[("self",none),("layer",none),("n",none),("c",none),("one",none)],["followed"]⟩ jX:=dn ["self","layer","n"] [] rfl (by kernel_rfl) (fun Z=>rfl) (JA fun Z Z Z=>rfl)
noncomputable def eX:Code:=.ld 0<|.mt "find" <|.ld 1<|.ld 2<|.cl 3<|.ld 0<|.mt "find" <|.ld 1<|.ld 3<|.cl 3<|.cm .Eq<|.ret
theorem eG(P:Params):Dn P 552 ["self","layer","a","b"] ⟨[("self",none),("layer",none),("a",none),("b",none)],[]⟩ eX:=dn ["self","layer","a","b"] [] rfl (by kernel_rfl) (fun Z=>rfl) (MW fun Z Z Z Z=>rfl)
noncomputable def jk:Code:=.ld 0<|.mt "find" <|.ld 1<|.ld 2<|.cl 3<|.ld 0<|.mt "find" <|.ld 1<|.ld 3<|.cl 3<|.st 3<|.st 2<|.ld 2<|.ld 3<|.cm .NotEq<|.BA<|.br (.x (.builtin "min")<|.ld 2<|.ld 3<|.cl 2<|.ld 0<|.at "ways" <|.ld 1<|.sub<|.x (.builtin "max")<|.ld 2<|.ld 3<|.cl 2<|.op .Bt<|.done) (.done)<|.ld 2<|.ld 3<|.cm .NotEq<|.ret
theorem jC(P:Params):Dn P 559 ["self","layer","a","b"] ⟨[("self",none),("layer",none),("a",none),("b",none)],["max","min"]⟩ jk:=dn ["self","layer","a","b"] [] rfl (by kernel_rfl) (fun Z=>rfl) (MW fun Z Z Z Z=>rfl)
noncomputable def dT:Code:=.op .BV<|.x (.bool false)<|.st 3<|.st 2<|.ld 0<|.at "heap" <|.mt "size" <|.cl 1<|.BK .r1 (.st 4<|.ld 0<|.at "heap" <|.at "bank" <|.mt "op" <|.ld 4<|.cl 2<|.tp 1<|.x (.type "tuple")<|.ld 0<|.at "heap" <|.at "bank" <|.mt "kids" <|.ld 4<|.cl 2<|.comp .v ⟨[("kid",none),("self",some 0),("layer",some 1)],[]⟩ [0,1] (.ld 1<|.mt "find" <|.ld 2<|.ld 0<|.cl 3<|.done)<|.cl 1<|.bn .Add<|.st 5<|.ld 0<|.mt "join" <|.ld 1<|.ld 2<|.mt "setdefault" <|.ld 5<|.ld 4<|.cl 3<|.ld 4<|.cl 4<|.BA<|.br (.x (.bool true)<|.st 3<|.done) (.done)<|.done)<|.ld 3<|.ret
theorem dW(P:Params):Dn P 564 ["self","layer"] ⟨[("self",some 0),("layer",some 1),("known",none),("is_turned",none),("n",none),("node",none)],["range","tuple"]⟩ dT:=dn [] ["self","layer"] rfl (by kernel_rfl) (fun Z=>rfl) (DO fun Z Z=>rfl)
noncomputable def cr:Code:=.op .BV<|.ld 1<|.ld 0<|.at "heap" <|.at "bank" <|.mt "node" <|.ld 1<|.cl 2<|.op (.D7 1)<|.ld 1<|.ls 1<|.st 3<|.st 2<|.I3 (.x (.builtin "len")<|.ld 3<|.cl 1<|.i 0<|.cm .Gt<|.BA<|.done) (.ld 0<|.at "heap" <|.at "bank" <|.mt "kids" <|.ld 3<|.mt "pop" <|.cl 1<|.cl 2<|.BK .v (.st 4<|.ld 4<|.ld 2<|.cm .NotIn<|.BA<|.br (.ld 0<|.at "heap" <|.at "bank" <|.mt "node" <|.ld 4<|.cl 2<|.ld 2<|.ld 4<|.op .Bt<|.ld 3<|.mt "append" <|.ld 4<|.cl 2<|.pop<|.done) (.done)<|.done)<|.done)<|.ld 2<|.ret
theorem cq(P:Params):Dn P 571 ["self","n"] ⟨[("self",none),("n",none),("found",none),("waiting",none),("kid",none)],["len"]⟩ cr:=dn ["self","n"] [] rfl (by kernel_rfl) (fun Z=>rfl) (DO fun Z Z=>rfl)
noncomputable def iy:Code:=.ld 0<|.at "turns" <|.i 1<|.bn .Add<|.ld 0<|.sa "turns" <|.op .BV<|.ld 0<|.at "ways" <|.ld 1<|.op .Bt<|.ld 0<|.at "backs" <|.ld 1<|.sub<|.ld 0<|.at "heap" <|.at "backs" <|.cm .NotEq<|.BA<|.br (.ld 0<|.at "heap" <|.at "backs" <|.ld 0<|.at "backs" <|.ld 1<|.op .Bt<|.ld 0<|.at "told" <|.ld 1<|.sub<|.st 2<|.fail) (.done)<|.ld 0<|.at "told" <|.ld 1<|.sub<|.BK .v (.st 3<|.ld 0<|.mt "join" <|.ld 1<|.ld 3<|.i 0<|.sub<|.ld 3<|.i 1<|.sub<|.cl 4<|.pop<|.done)<|.I3 (.ld 0<|.mt "close_once" <|.ld 1<|.cl 2<|.BA<|.done) (.done)<|.done
theorem iY(P:Params):Dn P 581 ["self","layer"] ⟨[("self",some 0),("layer",none),("rows",none),("row",none)],[]⟩ iy:=dn ["layer"] ["self"] rfl (by kernel_rfl) (fun Z=>rfl) (DO fun Z Z=>rfl)
noncomputable def gJ:Code:=.ld 0<|.at "heap" <|.mt "settle" <|.cl 1<|.pop<|.x (.builtin "sorted")<|.ld 0<|.at "beneath" <|.cl 1<|.BK .v (.st 1<|.ld 0<|.mt "renew" <|.ld 1<|.cl 2<|.pop<|.done)<|.done
theorem gF(P:Params):Dn P 588 ["self"] ⟨[("self",none),("layer",none)],["sorted"]⟩ gJ:=dn ["self"] [] rfl (by kernel_rfl) (fun Z=>rfl) (GP fun Z=>rfl)
noncomputable def ir:Code:=.ld 1<|.i (-1)<|.cm .Eq<|.BA<|.br (.fail) (.done)<|.ld 0<|.mt "are_like" <|.ld 1<|.ld 2<|.ld 3<|.cl 4<|.op .not<|.st 4<|.ld 0<|.at "told" <|.ld 1<|.sub<|.mt "append" <|.ld 2<|.ld 3<|.ld 0<|.mt "nodes_within" <|.ld 2<|.cl 2<|.ld 0<|.mt "nodes_within" <|.ld 3<|.cl 2<|.tp 4<|.cl 2<|.pop<|.ld 4<|.BA<|.br (.ld 0<|.mt "over" <|.ld 1<|.cl 2<|.done) (.ls 0<|.done)<|.BK .v (.st 5<|.ld 0<|.mt "renew" <|.ld 5<|.cl 2<|.pop<|.done)<|.ld 4<|.ret
theorem iK(P:Params):Dn P 595 ["self","layer","a","b"] ⟨[("self",none),("layer",none),("a",none),("b",none),("is_new",none),("one",none)],["BASE"]⟩ ir:=dn ["self","layer","a","b"] [] rfl (by kernel_rfl) (fun Z=>rfl) (MW fun Z Z Z Z=>rfl)
noncomputable def fW:Code:=.ld 0<|.mt "find" <|.ld 1<|.ld 2<|.cl 3<|.st 2<|.ld 0<|.at "heap" <|.mt "size" <|.cl 1<|.F9 .r1 ⟨[("n",none),("self",some 0),("layer",some 1),("c",some 2)],[]⟩ [0,1,2] (.ld 1<|.mt "find" <|.ld 2<|.ld 0<|.cl 3<|.ld 3<|.cm .Eq<|.BA<|.done) (.ld 0<|.done)<|.ret
theorem fE(P:Params):Dn P 612 ["self","layer","c"] ⟨[("self",some 0),("layer",some 1),("c",some 2)],["range"]⟩ fW:=dn [] ["self","layer","c"] rfl (by kernel_rfl) (fun Z=>rfl) (JA fun Z Z Z=>rfl)
noncomputable def ji:Code:=.ld 1<|.ld 0<|.sa "layers" <|.ld 2<|.ld 0<|.sa "layer" <|.ld 1<|.at "heap" <|.at "bank" <|.ld 0<|.sa "bank" <|.done
theorem jW(P:Params):Dn P 647 ["self","layers","layer"] ⟨[("self",none),("layers",none),("layer",none)],[]⟩ ji:=dn ["self","layers","layer"] [] rfl (by kernel_rfl) (fun Z=>rfl) (JA fun Z Z Z=>rfl)
noncomputable def kY:Code:=.ld 0<|.at "layers" <|.at "heap" <|.at "edges" <|.ret
theorem lX(P:Params):Dn P 654 ["self"] ⟨[("self",none)],[]⟩ kY:=dn ["self"] [] rfl (by kernel_rfl) (fun Z=>rfl) (GP fun Z=>rfl)
noncomputable def kh:Code:=.ld 0<|.at "layers" <|.at "heap" <|.at "backs" <|.ld 0<|.at "layers" <|.at "turns" <|.bn .Add<|.ret
theorem lm(P:Params):Dn P 670 ["self"] ⟨[("self",none)],[]⟩ kh:=dn ["self"] [] rfl (by kernel_rfl) (fun Z=>rfl) (GP fun Z=>rfl)
noncomputable def mH:Code:=.ld 0<|.at "layers" <|.at "heap" <|.mt "size" <|.cl 1<|.ret
theorem nT(P:Params):Dn P 678 ["self"] ⟨[("self",none)],[]⟩ mH:=dn ["self"] [] rfl (by kernel_rfl) (fun Z=>rfl) (GP fun Z=>rfl)
noncomputable def nN:Code:=.ld 0<|.at "layers" <|.mt "find" <|.ld 0<|.at "layer" <|.ld 1<|.cl 3<|.ret
theorem lz(P:Params):Dn P 685 ["self","n"] ⟨[("self",none),("n",none)],[]⟩ nN:=dn ["self","n"] [] rfl (by kernel_rfl) (fun Z=>rfl) (DO fun Z Z=>rfl)
noncomputable def jA:Code:=.ld 0<|.at "layers" <|.mt "members" <|.ld 0<|.at "layer" <|.ld 1<|.cl 3<|.ret
theorem gp(P:Params):Dn P 706 ["self","c"] ⟨[("self",none),("c",none)],[]⟩ jA:=dn ["self","c"] [] rfl (by kernel_rfl) (fun Z=>rfl) (DO fun Z Z=>rfl)
noncomputable def mM:Code:=.ld 0<|.at "bank" <|.mt "op" <|.ld 1<|.cl 2<|.tp 1<|.x (.type "tuple")<|.ld 0<|.at "bank" <|.mt "kids" <|.ld 1<|.cl 2<|.comp .v ⟨[("kid",none),("self",some 0)],[]⟩ [0] (.ld 1<|.mt "find" <|.ld 0<|.cl 2<|.done)<|.cl 1<|.bn .Add<|.ret
theorem mV(P:Params):Dn P 711 ["self","n"] ⟨[("self",some 0),("n",none)],["tuple"]⟩ mM:=dn ["n"] ["self"] rfl (by kernel_rfl) (fun Z=>rfl) (DO fun Z Z=>rfl)
noncomputable def fw:Code:=.ld 0<|.mt "members" <|.ld 1<|.cl 2<|.comp .v ⟨[("n",none),("self",some 0)],[]⟩ [0] (.ld 1<|.mt "node" <|.ld 0<|.cl 2<|.done)<|.op .sset<|.ret
theorem gH(P:Params):Dn P 716 ["self","c"] ⟨[("self",some 0),("c",none)],["sorted","set"]⟩ fw:=dn ["c"] ["self"] rfl (by kernel_rfl) (fun Z=>rfl) (DO fun Z Z=>rfl)
noncomputable def oV:Code:=.ld 0<|.op (.val (.str (N "spot")))<|.sub<|.i 1<|.bn .Add<|.ld 0<|.op (.val (.str (N "spot")))<|.op .Bt<|.ld 0<|.op (.val (.str (N "spot")))<|.sub<|.x (.builtin "len")<|.ld 0<|.op (.val (.str (N "cells")))<|.sub<|.cl 1<|.cm .LtE<|.BA<|.br (.ld 0<|.op (.val (.str (N "cells")))<|.sub<|.ld 0<|.op (.val (.str (N "spot")))<|.sub<|.i 1<|.bn .Sub<|.sub<|.ld 1<|.bn .Mod<|.ret) (.done)<|.ld 0<|.op (.val (.str (N "stir")))<|.sub<|.i 29<|.bn .Mult<|.i 13<|.bn .Add<|.i 1021<|.bn .Mod<|.ld 0<|.op (.val (.str (N "stir")))<|.op .Bt<|.ld 0<|.op (.val (.str (N "stir")))<|.sub<|.i 3<|.bn .FloorDiv<|.ld 1<|.bn .Mod<|.ret
theorem ny(P:Params):Dn P 742 ["hand","many"] ⟨[("hand",none),("many",none)],["len"]⟩ oV:=dn ["hand","many"] [] rfl (by kernel_rfl) (fun Z=>rfl) (DO fun Z Z=>rfl)
noncomputable def pQ:Code:=.ld 0<|.op (.I2 50)<|.comp .v ⟨[("cell",none)],["abs"]⟩ [] (.x (.builtin "abs")<|.ld 0<|.cl 1<|.i 1000003<|.bn .Mod<|.done)<|.st 1<|.op .BV<|.op (.val (.str (N "cells")))<|.ld 1<|.op (.val (.str (N "spot")))<|.i 0<|.op (.val (.str (N "stir")))<|.i 5<|.x (.builtin "sum")<|.ld 1<|.cl 1<|.bn .Add<|.i 1021<|.bn .Mod<|.op (.D7 3)<|.ret
theorem pT(P:Params):Dn P 747 ["script"] ⟨[("script",none),("cells",none)],["sum"]⟩ pQ:=dn ["script"] [] rfl (by kernel_rfl) (fun Z=>rfl) (GP fun Z=>rfl)
noncomputable def mX:Code:=.x (.builtin "len")<|.ld 0<|.cl 1<|.op .D2<|.x (.type "list")<|.ld 1<|.cl 1<|.tp 2<|.op (.Ht 2)<|.st 2<|.st 3<|.I3 (.ld 3<|.ls 0<|.cm .NotEq<|.BA<|.done) (.ld 3<|.BK .v (.op (.Ht 2)<|.st 4<|.st 5<|.x (.builtin "sorted")<|.ld 2<|.ld 4<|.sub<|.ld 2<|.ld 5<|.sub<|.ls 2<|.cl 1<|.op (.Ht 2)<|.st 6<|.st 7<|.ld 2<|.comp .v ⟨[("home",none),("low",some 1),("high",some 2)],[]⟩ [6,7] (.ld 0<|.ld 2<|.cm .Eq<|.BA<|.br (.ld 1<|.done) (.ld 0<|.done)<|.done)<|.st 2<|.done)<|.op .BV<|.ls 0<|.st 3<|.st 8<|.ld 0<|.BK .en (.op (.Ht 2)<|.st 9<|.st 10<|.ld 8<|.mt "setdefault" <|.ld 10<|.i 0<|.sub<|.tp 1<|.x (.type "tuple")<|.ld 10<|.op .Co<|.comp .v ⟨[("kid",none),("homes",some 0)],[]⟩ [2] (.ld 1<|.ld 0<|.sub<|.done)<|.cl 1<|.bn .Add<|.ld 9<|.cl 3<|.st 11<|.ld 2<|.ld 11<|.sub<|.ld 2<|.ld 9<|.sub<|.cm .NotEq<|.BA<|.br (.ld 3<|.mt "append" <|.ld 11<|.ld 9<|.tp 2<|.cl 2<|.pop<|.done) (.done)<|.done)<|.done)<|.ld 2<|.ret
theorem my(P:Params):Dn P 752 ["nodes","pairs"] ⟨[("nodes",none),("pairs",none),("homes",some 0),("late",none),("a",none),("b",none),("low",some 1),("high",some 2),("firsts",none),("n",none),("node",none),("first",none)],["list","range","len","sorted","enumerate","tuple"]⟩ mX:=dn ["nodes","pairs"] ["homes","low","high"] rfl (by kernel_rfl) (fun Z=>rfl) (DO fun Z Z=>rfl)
noncomputable def pY:Code:=.i 0<|.st 3<|.ld 0<|.ld 1<|.sub<|.BK .v (.st 4<|.x (.builtin "len")<|.ld 4<|.cl 1<|.i 1<|.cm .Eq<|.BA<|.br (.ld 3<|.x (.type "int")<|.ld 2<|.i 1<|.cm .Eq<|.cl 1<|.bn .Add<|.st 3<|.done) (.x (.builtin "len")<|.ld 4<|.cl 1<|.i 2<|.cm .Eq<|.BA<|.and (.ld 2<|.i 1<|.cm .Gt<|.BA<|.done)<|.br (.ld 3<|.x (.ref 759)<|.ld 0<|.ld 4<|.i 1<|.sub<|.ld 2<|.i 1<|.bn .Sub<|.cl 3<|.bn .Add<|.st 3<|.done) (.x (.builtin "len")<|.ld 4<|.cl 1<|.i 3<|.cm .Eq<|.BA<|.br (.i 1<|.ld 2<|.i 1<|.bn .Sub<|.BK .r2 (.st 5<|.ld 3<|.x (.ref 759)<|.ld 0<|.ld 4<|.i 1<|.sub<|.ld 5<|.cl 3<|.x (.ref 759)<|.ld 0<|.ld 4<|.i 2<|.sub<|.ld 2<|.i 1<|.bn .Sub<|.ld 5<|.bn .Sub<|.cl 3<|.bn .Mult<|.bn .Add<|.st 3<|.done)<|.done) (.done)<|.done)<|.done)<|.done)<|.ld 3<|.ret
theorem ni(P:Params):Dn P 759 ["lots","c","wide"] ⟨[("lots",none),("c",none),("wide",none),("found",none),("node",none),("first",none)],["len","int","_law_many","range"]⟩ pY:=dn ["lots","c","wide"] [] rfl (by kernel_rfl) (fun Z=>rfl) (JA fun Z Z Z=>rfl)
noncomputable def dX:Code:=.x (.ref 752)<|.ld 1<|.ld 2<|.cl 2<|.op .BV<|.tp 2<|.op (.Ht 2)<|.st 4<|.st 5<|.ld 1<|.BK .en (.op (.Ht 2)<|.st 6<|.st 7<|.ld 7<|.i 0<|.sub<|.tp 1<|.x (.type "tuple")<|.ld 7<|.op .Co<|.comp .v ⟨[("kid",none),("homes",some 0)],[]⟩ [4] (.ld 1<|.ld 0<|.sub<|.done)<|.cl 1<|.bn .Add<|.st 8<|.ld 5<|.mt "setdefault" <|.ld 4<|.ld 6<|.sub<|.ls 0<|.cl 3<|.mt "extend" <|.ld 8<|.ld 5<|.mt "get" <|.ld 4<|.ld 6<|.sub<|.ls 0<|.cl 3<|.cm .In<|.BA<|.br (.ls 0<|.done) (.ld 8<|.ls 1<|.done)<|.cl 2<|.pop<|.done)<|.ld 3<|.BK .v (.st 6<|.i 3<|.i 1<|.i 2<|.tp 3<|.BK .v (.st 9<|.ld 0<|.mt "many" <|.ld 6<|.ld 9<|.cl 3<|.x (.ref 759)<|.ld 5<|.ld 4<|.ld 6<|.sub<|.ld 9<|.cl 3<|.cm .NotEq<|.BA<|.br (.x (.bool false)<|.ret) (.done)<|.done)<|.done)<|.x (.bool true)<|.ret
theorem dU(P:Params):Dn P 764 ["counts","nodes","pairs","asked"] ⟨[("counts",none),("nodes",none),("pairs",none),("asked",none),("homes",some 0),("lots",none),("n",none),("node",none),("here",none),("wide",none)],["_law_homes","enumerate","tuple","_law_many"]⟩ dX:=dn ["counts","nodes","pairs","asked"] ["homes"] rfl (by kernel_rfl) (fun Z=>rfl) (MW fun Z Z Z Z=>rfl)
noncomputable def fu:Code:=.op (.val (.str (N "f")))<|.op (.val (.str (N "g")))<|.tp 2<|.x (.ref 742)<|.ld 0<|.i 2<|.cl 2<|.sub<|.st 3<|.ld 3<|.tp 1<|.x (.type "tuple")<|.ld 3<|.op (.val (.str (N "f")))<|.cm .Eq<|.BA<|.br (.i 1<|.done) (.i 2<|.done)<|.comp .r1 ⟨[("k",none),("hand",some 0),("nodes",some 1)],["len","_law_pick"]⟩ [0,2] (.x (.ref 742)<|.ld 1<|.x (.builtin "len")<|.ld 2<|.cl 1<|.cl 2<|.done)<|.cl 1<|.bn .Add<|.st 4<|.ld 1<|.mt "add" <|.ld 3<|.ld 4<|.op .Co<|.cl 3<|.pop<|.ld 4<|.ld 2<|.cm .In<|.BA<|.br (.ld 2<|.done) (.ld 2<|.ld 4<|.ls 1<|.bn .Add<|.done)<|.ret
theorem gA(P:Params):Dn P 769 ["hand","heap_now","nodes"] ⟨[("hand",some 0),("heap_now",none),("nodes",some 1),("op",none),("node",none)],["_law_pick","tuple","range"]⟩ fu:=dn ["heap_now"] ["hand","nodes"] rfl (by kernel_rfl) (fun Z=>rfl) (JA fun Z Z Z=>rfl)
noncomputable def mZ:Code:=.x (.ref 747)<|.ld 0<|.cl 1<|.x (.ref 487)<|.cl 0<|.op (.val (.str (N "a")))<|.tp 1<|.op (.val (.str (N "b")))<|.tp 1<|.ls 2<|.ls 0<|.tp 4<|.op (.Ht 4)<|.st 1<|.st 2<|.st 3<|.st 4<|.ld 3<|.BK .v (.st 5<|.ld 2<|.mt "put" <|.ld 5<|.cl 2<|.pop<|.done)<|.i 2<|.x (.ref 742)<|.ld 1<|.i 2<|.cl 2<|.bn .Add<|.BK .r1 (.st 6<|.x (.ref 769)<|.ld 1<|.ld 2<|.ld 3<|.cl 3<|.st 3<|.done)<|.x (.ref 629)<|.ld 2<|.cl 1<|.st 7<|.ld 7<|.mt "assume" <|.i (-1)<|.cl 2<|.st 8<|.ld 7<|.mt "assume" <|.ld 8<|.cl 2<|.st 9<|.op .BV<|.ld 8<|.ls 0<|.ld 9<|.ls 0<|.op (.D7 2)<|.x (.ref 275)<|.ld 2<|.cl 1<|.st 11<|.st 10<|.x (.ref 275)<|.x (.ref 731)<|.ld 7<|.ld 8<|.cl 2<|.cl 1<|.x (.ref 275)<|.x (.ref 731)<|.ld 7<|.ld 9<|.cl 2<|.cl 1<|.ls 2<|.st 12<|.i 3<|.BK .r1 (.st 6<|.ld 6<|.i 0<|.cm .Gt<|.BA<|.br (.x (.ref 742)<|.ld 1<|.i 4<|.cl 2<|.done) (.i 4<|.done)<|.st 13<|.ld 13<|.i 2<|.cm .Lt<|.BA<|.br (.ld 8<|.ld 9<|.tp 2<|.ld 13<|.sub<|.x (.ref 742)<|.ld 1<|.x (.builtin "len")<|.ld 3<|.cl 1<|.cl 2<|.x (.ref 742)<|.ld 1<|.x (.builtin "len")<|.ld 3<|.cl 1<|.cl 2<|.st 16<|.st 15<|.st 14<|.ld 7<|.mt "merge" <|.ld 14<|.ld 15<|.ld 16<|.cl 4<|.pop<|.ld 10<|.ld 14<|.sub<|.mt "append" <|.ld 15<|.ld 16<|.tp 2<|.cl 2<|.pop<|.done) (.ld 13<|.i 2<|.cm .Eq<|.BA<|.br (.x (.ref 769)<|.ld 1<|.ld 2<|.ld 3<|.cl 3<|.st 3<|.ld 7<|.mt "settle" <|.cl 1<|.pop<|.done) (.ld 13<|.i 3<|.cm .Eq<|.BA<|.br (.ld 4<|.mt "append" <|.x (.ref 742)<|.ld 1<|.x (.builtin "len")<|.ld 3<|.cl 1<|.cl 2<|.x (.ref 742)<|.ld 1<|.x (.builtin "len")<|.ld 3<|.cl 1<|.cl 2<|.tp 2<|.cl 2<|.pop<|.ld 2<|.mt "merge" <|.ld 4<|.i 1<|.op .neg<|.sub<|.i 0<|.sub<|.ld 4<|.i 1<|.op .neg<|.sub<|.i 1<|.sub<|.op (.val (.str (N "told")))<|.op (.val (.str (N "t")))<|.tp 2<|.cl 4<|.pop<|.ld 7<|.mt "settle" <|.cl 1<|.pop<|.done) (.done)<|.done)<|.done)<|.x (.builtin "len")<|.ld 3<|.cl 1<|.i 1<|.bn .Sub<|.x (.ref 742)<|.ld 1<|.x (.builtin "len")<|.ld 3<|.cl 1<|.cl 2<|.tp 2<|.st 17<|.x (.ref 764)<|.ld 12<|.i 0<|.sub<|.ld 3<|.ld 4<|.ld 10<|.ld 8<|.sub<|.bn .Add<|.ld 17<|.cl 4<|.BA<|.op .not<|.br (.x (.bool false)<|.ret) (.done)<|.x (.ref 764)<|.ld 12<|.i 1<|.sub<|.ld 3<|.ld 4<|.ld 10<|.ld 8<|.sub<|.bn .Add<|.ld 10<|.ld 9<|.sub<|.bn .Add<|.ld 17<|.cl 4<|.BA<|.op .not<|.br (.x (.bool false)<|.ret) (.done)<|.done)<|.x (.ref 764)<|.ld 11<|.ld 3<|.ld 4<|.x (.builtin "len")<|.ld 3<|.cl 1<|.i 1<|.bn .Sub<|.i 0<|.tp 2<|.cl 4<|.ret
theorem YD(P:Params):Dn P 776 ["script"] ⟨[("script",none),("hand",none),("heap_now",none),("nodes",none),("told",none),("node",none),("lap",none),("layers",none),("lower",none),("upper",none),("pairs",none),("plain",none),("kept",none),("way",none),("layer",none),("a",none),("b",none),("asked",none)],["_law_hand","Heap","range","_law_pick","_law_node_more","Layers","BASE","Counts","View","len","_law_counted_right"]⟩ mZ:=dn ["script"] [] rfl (by kernel_rfl) (fun Z=>rfl) (GP fun Z=>rfl)
end
section
inductive Obj(U:u)(a C:Addr)(m:List (String×V)):Prop
 |mk (d:Addr) (i:U a=some (.inst C d)) (n:U d=some (.ns m))
noncomputable def GB(C:Addr)(m:List (String×V))(x:String):Option V:=match fld C x with
 |true=>(match look m x with
  |some v=>(match B7 v with|true=>some v|false=>none)
  |none=>none)
 |false=>none
noncomputable def sx(C:Addr)(m:List (String×V))(x:String):Option Addr:=match look m x with
 |none=>j4 C x pA
 |some _=>none
theorem wW(h:GB C m x=some v):fld C x=true/\look m x=some v/\B7 v=true:=by
 unfold GB at h
 cases e1:fld C x with
 |false=>have h:=e1▸h;injection h
 |true=>
  have h:=e1▸h
  cases e2:look m x with
  |none=>have h:=e2▸h;injection h
  |some Aa=>
   have h:=e2▸h
   cases e3:B7 Aa with
   |false=>dsimp only at h;have h:=e3▸h;injection h
   |true=>dsimp only at h;have h:=e3▸h;obtain rfl:=Option.some.inj h;exact⟨rfl,rfl,e3⟩
theorem wH(h:sx C m x=some f):j4 C x pA=some f/\look m x=none:=by
 unfold sx at h
 set_option tactic.hygienic true in split at h
 ·rename_i a;exact⟨h,a⟩
 ·injection h
section
variable{c:Cx}{A:Around}{G:Gx c A}{K:List V->Pv->u->Prop}{st:List V}{p p':Pv}{U Ac:u}{k:Code}
theorem wr(q:Wr G k K (v::st) p U)(S:G.Sep p U):Lf G (fun v=>W G k K (v::st)) v (G.Ay p U):=lf S (aM q)
theorem aF(h:Wr G k K st p U):WW G .done (W G k K) st p U:=⟨show W G k K st p U from aM h⟩
theorem aJ(h:K st p U):WW G .done K st p U:=⟨h⟩
theorem aQ(h:G.R v p U):WW G .ret K (v::st) p U:=⟨h⟩
theorem aC(o:Obj U a C m)(hv:GB C m x=some v)(q:Wr G k K (v::st) p U):WW G (.op (.attr (Ai x)) k) K (.ex (.ref a)::st) p U:=⟨by
 refine D4 (wW hv) fun h1 h2 h3=>?_;obtain⟨d,i,n⟩:=o;exact⟨a,rfl,fun S=>get_own G.ok (G.ft C x h1).1 (S.AN i) (S.AN n) (G.ft C x h1).2 h2 h3 (wr q S)⟩⟩
theorem aI(o:Obj U a C m)(hm:sx C m x=some f)(q:Wr G k K (.ex (.ref a)::.ex (.ref f)::st) p U):WW G (.op (.GN (Ai x)) k) K (.ex (.ref a)::st) p U:=⟨by
 refine A5 (wH hm) fun hm hn=>MK (G.mt _ (rn hm)) fun a0 a1 a2 a3=>?_;obtain⟨d,i,n⟩:=o;exact⟨_,fun S=>uw G.ok a0 (S.AN i) (S.AN n) a1 a2 hn,m5 a3,aM q⟩⟩
theorem bN(h1:U a=some (.inst C d))(h2:U d=some (.ns m))(hf:(fld C x &&decide (m.length<=900))=true)(hp:put m x y=m')(q:Wr G k K st p (U.set d (.ns m'))):WW G (.op (.D8 (Ai x)) k) K (.ex (.ref a)::y::st) p U:=⟨by
 refine A5 (D3.mp hf) fun hf hl=>⟨a,rfl,fun S=>s9 G.ok (G.ft C x hf).1 (S.AN h1) (S.AN h2) (G.ft C x hf).2 (Fc hl) ?_⟩
 have n:=S.PA h2 (o':=.ns (put m x y));refine J n.2 ?_;subst hp;exact lf n.1 (aM q)⟩
theorem lM{id:String}(r:Rd p U a (.list l))(slot:Slot "list" x id)(LX:typeOf (.builtin id)=pure (.type "method_descriptor"))(q:Wr G k K (.ex (.ref a)::.ex (.builtin id)::st) p U):WW G (.op (.GN x) k) K (.ex (.ref a)::st) p U:=⟨⟨_,fun S=>xA (r.at S) slot LX,aX,aM q⟩⟩
theorem lZ{id:String}(r:Rd p U a (.dict l))(slot:Slot "dict" x id)(LX:typeOf (.builtin id)=pure (.type "method_descriptor"))(q:Wr G k K (.ex (.ref a)::.ex (.builtin id)::st) p U):WW G (.op (.GN x) k) K (.ex (.ref a)::st) p U:=⟨⟨_,fun S=>vY (r.at S) slot LX,aX,aM q⟩⟩
noncomputable abbrev aZ{a:Addr}{l:List V}(r:Rd p U a (.list l))(q:Wr G k K (.ex (.ref a)::.ex (.builtin "list.append")::st) p U):WW G (.op (.GN (Ai "append")) k) K (.ex (.ref a)::st) p U:=lM r PySem.F.slot_list_append PySem.F.type_list_append q
noncomputable abbrev er{a:Addr}{l:List V}(r:Rd p U a (.list l))(q:Wr G k K (.ex (.ref a)::.ex (.builtin "list.extend")::st) p U):WW G (.op (.GN (Ai "extend")) k) K (.ex (.ref a)::st) p U:=lM r PySem.F.slot_list_extend PySem.F.type_list_extend q
noncomputable abbrev uV{a:Addr}{l:List V}(r:Rd p U a (.list l))(q:Wr G k K (.ex (.ref a)::.ex (.builtin "list.pop")::st) p U):WW G (.op (.GN (Ai "pop")) k) K (.ex (.ref a)::st) p U:=lM r PySem.F.slot_list_pop PySem.F.type_list_pop q
noncomputable abbrev vr{a:Addr}{l:List (V×V)}(r:Rd p U a (.dict l))(q:Wr G k K (.ex (.ref a)::.ex (.builtin "dict.pop")::st) p U):WW G (.op (.GN (Ai "pop")) k) K (.ex (.ref a)::st) p U:=lZ r PySem.F.slot_dict_pop PySem.F.type_dict_pop q
noncomputable abbrev dS{a:Addr}{l:List (V×V)}(r:Rd p U a (.dict l))(q:Wr G k K (.ex (.ref a)::.ex (.builtin "dict.setdefault")::st) p U):WW G (.op (.GN (Ai "setdefault")) k) K (.ex (.ref a)::st) p U:=lZ r PySem.F.slot_dict_setdefault PySem.F.type_dict_setdefault q
noncomputable abbrev xS{a:Addr}{l:List (V×V)}(r:Rd p U a (.dict l))(q:Wr G k K (.ex (.ref a)::.ex (.builtin "dict.get")::st) p U):WW G (.op (.GN (Ai "get")) k) K (.ex (.ref a)::st) p U:=lZ r PySem.F.slot_dict_get PySem.F.type_dict_get q
theorem bf(e:cL n [] st=some (xs,.ex f::r))(h:G.Sep p U->a6 c A f xs (Lf G fun v=>W G k K (v::r)) (G.Ay p U)):WW G (.op (.call n) k) K st p U:=⟨by
 show su n st _
 unfold su;exact J e h⟩
theorem aD(e:cL n [] st=some (xs,.ex f::r))(h:aR c A f xs (fun v Ac=>Wr G k K (v::r) p Ac) U):WW G (.op (.call n) k) K st p U:=bf e fun S=>(tT S.nd S.out h.call).mono fun v τ q=>by refine B4 q ?_;clear q;intro Ac CR out q;exact J CR (lf (p:=p) (U:=Ac) ⟨S.nd,out,S.len⟩ (aM q))
theorem a9(e:cL n [] st=some (xs,.ex f::r))(h:∀{Q:V->u->Prop} {τ:u},Q v τ->a6 c A f xs Q τ)(q:Wr G k K (v::r) p U):WW G (.op (.call n) k) K st p U:=bf e fun S=>h (wr q S)
theorem gX(d:Rd p U a o)(e:cL n [] st=some (xs,.ex f::r))(h:∀{Q:V->u->Prop} {τ:u},τ a=some o->Q v τ->a6 c A f xs Q τ)(q:Wr G k K (v::r) p U):WW G (.op (.call n) k) K st p U:=bf e fun S=>h (d.at S) (wr q S)
theorem uv{X:V->Prop}(e:cL n [] st=some (xs,.ex f::r))(h:∀{Q:V->u->Prop} {τ:u},(∀v,X v->Q v τ)->a6 c A f xs Q τ)(q:∀v,X v->Wr G k K (v::r) p U):WW G (.op (.call n) k) K st p U:=bf e fun S=>h fun v x=>wr (q v x) S
theorem uE{X:V->Prop}(d:Rd p U a o)(e:cL n [] st=some (xs,.ex f::r))(h:∀{Q:V->u->Prop} {τ:u},τ a=some o->(∀v,X v->Q v τ)->a6 c A f xs Q τ)(q:∀v,X v->Wr G k K (v::r) p U):WW G (.op (.call n) k) K st p U:=bf e fun S=>h (d.at S) fun v x=>wr (q v x) S
theorem gR(Aa:Up a o o' p U p' Ac)(e:cL n [] st=some (xs,.ex f::r))(h:∀{Q:V->u->Prop} {τ:u},τ a=some o->Q v (τ.set a o')->a6 c A f xs Q τ)(q:Wr G k K (v::r) p' Ac):WW G (.op (.call n) k) K st p U:=bf e fun S=>h (Aa.at S).1 (by exact J ((Aa.at S).2.2) (wr q (Aa.at S).2.1))
theorem cI(h:∀{Q:V->u->Prop} {τ:u},Q v τ->O2 c A (binaryOp o) x y Q τ)(q:Wr G k K (v::st) p U):WW G (.op (.bin o) k) K (y::x::st) p U:=⟨fun S=>h (wr q S)⟩
theorem yq(d:Rd p U a ob)(h:∀{Q:V->u->Prop} {τ:u},τ a=some ob->Q v τ->O2 c A (binaryOp o) x y Q τ)(q:Wr G k K (v::st) p U):WW G (.op (.bin o) k) K (y::x::st) p U:=⟨fun S=>h (d.at S) (wr q S)⟩
theorem iN(h:∀{Q:V->u->Prop} {τ:u},Q v τ->O2 c A (compareOp o) x y Q τ)(q:Wr G k K (v::st) p U):WW G (.op (.cmp o) k) K (y::x::st) p U:=⟨fun S=>h (wr q S)⟩
theorem ko(d:Rd p U a ob)(h:∀{Q:V->u->Prop} {τ:u},τ a=some ob->Q v τ->O2 c A (compareOp o) x y Q τ)(q:Wr G k K (v::st) p U):WW G (.op (.cmp o) k) K (y::x::st) p U:=⟨fun S=>h (d.at S) (wr q S)⟩
theorem wE(h:∀{Q:V->u->Prop} {τ:u},Q (.ex (.bool b)) τ->O2 c A (compareOp o) x y Q τ)(h1:b=true->Wr G a (W G k K) (y::st) p U)(h2:b=false->Wr G k K (.ex (.bool false)::st) p U):WW G (.chain o a k) K (y::x::st) p U:=⟨fun S=>h (lf S ⟨b,rfl,fun e=>aM (h1 e),fun e=>aM (h2 e)⟩)⟩
theorem eE(h1:b=true->Wr G a (W G k K) st p U)(h2:b=false->Wr G a' (W G k K) st p U):WW G (.br a a' k) K (.ex (.bool b)::st) p U:=⟨⟨b,rfl,fun e=>aM (h1 e),fun e=>aM (h2 e)⟩⟩
theorem bl(e:b=true)(h:Wr G a (W G k K) st p U):WW G (.br a a' k) K (.ex (.bool b)::st) p U:=⟨by exact J e (⟨_,rfl,fun Z=>aM h,fun e=>nomatch e⟩)⟩
theorem ao(e:b=false)(h:Wr G a' (W G k K) st p U):WW G (.br a a' k) K (.ex (.bool b)::st) p U:=⟨by exact J e (⟨_,rfl,(fun e=>nomatch e),fun Z=>aM h⟩)⟩
theorem w_and(h1:b=true->Wr G a (W G k K) st p U)(h2:b=false->Wr G k K (.ex (.bool false)::st) p U):WW G (.and a k) K (.ex (.bool b)::st) p U:=⟨⟨b,rfl,fun e=>aM (h1 e),fun e=>aM (h2 e)⟩⟩
theorem w_or(h1:b=true->Wr G k K (.ex (.bool true)::st) p U)(h2:b=false->Wr G a (W G k K) st p U):WW G (.or a k) K (.ex (.bool b)::st) p U:=⟨⟨b,rfl,fun e=>aM (h1 e),fun e=>aM (h2 e)⟩⟩
theorem kL(h:gN s=true)(o i:Value):subscripted s false o i=operate [o,i] (getItem o i):=by cases s<;>first|rfl|injection h
theorem w_sub(h:∀{value slice:Expr} {Q:V->u->Prop} {τ:u},(∀o i,subscripted slice false o i=operate [o,i] (getItem o i))->Q v τ->k6 c A value slice x y Q τ)(q:Wr G k K (v::st) p U):WW G (.op .sub k) K (y::x::st) p U:=⟨fun Z Z e S=>h (kL e) (wr q S)⟩
theorem oQ(d:Rd p U a ob)(h:∀{value slice:Expr} {Q:V->u->Prop} {τ:u},(∀o i,subscripted slice false o i=operate [o,i] (getItem o i))->τ a=some ob->Q v τ->k6 c A value slice x y Q τ)(q:Wr G k K (v::st) p U):WW G (.op .sub k) K (y::x::st) p U:=⟨fun Z Z e S=>h (kL e) (d.at S) (wr q S)⟩
theorem pS(d:Rd p U a (.list l))(h0:0<=i)(hx:l[i.toNat]? =some x)(hk:i<2^63)(q:Wr G k K (x::st) p U):WW G (.op .sub k) K (.int i::.ex (.ref a)::st) p U:=oQ d (fun e h q=>r9 h h0 hx q hk fun Z Z Z=>e _ _) q
theorem jy(h0:0<=i)(hx:l[i.toNat]? =some x)(hk:i<2^63)(q:Wr G k K (x::st) p U):WW G (.op .sub k) K (.int i::.lst l::st) p U:=w_sub (fun e q=>vU h0 hx q hk fun Z Z Z=>e _ _) q
theorem j5(h0:0<=i)(hx:l[i.toNat]? =some x)(hk:i<2^63)(q:Wr G k K (x::st) p U):WW G (.op .sub k) K (.int i::.tup l::st) p U:=w_sub (fun e q=>wA h0 hx q hk fun Z Z Z=>e _ _) q
theorem DV(G:Gx c A):A.units+10<cLine:=Dj (LA (by decide) _) G.hu
theorem aN(d:Rd p U a (.dict l))(ks:KS l x)(hy:Az l x=some y)(q:Wr G k K (y::st) p U):WW G (.op .sub k) K (x::.ex (.ref a)::st) p U:=oQ d (fun e h q=>sI h ks (DV G) hy q fun Z=>e _ _) q
theorem ah(Aa:Up a (.dict l) (.dict (dput l x y)) p U p' Ac)(ks:KS l x)(hl:l.length<=1000)(q:Wr G k K st p' Ac):WW G (.op .Bt k) K (x::.ex (.ref a)::y::st) p U:=⟨fun S=>set_dict (Aa.at S).1 ks (DV G) hl (by exact J ((Aa.at S).2.2) (lf (Aa.at S).2.1 (aM q)))⟩
theorem lS{i:Int}(Aa:Up a (.list l) (.list (l.set i.toNat y)) p U p' Ac)(h0:0<=i)(hn:i<l.length)(hk:i<2^63)(q:Wr G k K st p' Ac):WW G (.op .Bt k) K (.int i::.ex (.ref a)::y::st) p U:=⟨fun S=>uJ (Aa.at S).1 h0 hn (by exact J ((Aa.at S).2.2) (lf (Aa.at S).2.1 (aM q))) hk⟩
theorem bX(h:l.length<=900)(q:Wr G k K (.tup l::st) p U):WW G (.op .Co k) K (.tup (y::l)::st) p U:=⟨⟨y,l,rfl,h,aM q⟩⟩
theorem YE(q:Wr G k K (.tup [y]::st) p U):WW G (.op .Px k) K (.tup (y::z::l)::st) p U:=⟨⟨y,z,l,rfl,aM q⟩⟩
theorem dE(e:cL n [] st=some (xs,r))(q:Wr G k K (.lst xs::r) p U):WW G (.op (.lst n) k) K st p U:=⟨⟨xs,r,e,.inl (aM q)⟩⟩
theorem mi(e:cL n [] st=some (xs,r))(q:∀a,U a=none->Wr G k K (.ex (.ref a)::r) (p.new a (.list xs)) U):WW G (.op (.lst n) k) K st p U:=⟨⟨xs,r,e,.inr (.inl fun a z=>aM (q a z))⟩⟩
theorem cg(e:cL n [] st=some (xs,r))(q:∀a,U a=none->Wr G k K (.ex (.ref a)::r) p (U.set a (.list xs))):WW G (.op (.lst n) k) K st p U:=⟨⟨xs,r,e,.inr (.inr fun a z=>aM (q a z))⟩⟩
theorem oU(q:∀a,U a=none->Wr G k K (.ex (.ref a)::st) (p.new a (.dict [])) U):WW G (.op .BV k) K st p U:=⟨.inl fun a z=>aM (q a z)⟩
theorem du(q:∀a,U a=none->Wr G k K (.ex (.ref a)::st) p (U.set a (.dict []))):WW G (.op .BV k) K st p U:=⟨.inr fun a z=>aM (q a z)⟩
theorem og(e:cL (2*n) [] st=some (xs,.ex (.ref a)::r))(sp:K4 [] (ig xs))(Aa:Up a (.dict []) (.dict (cj [] (ig xs))) p U p' Ac)(q:Wr G k K (.ex (.ref a)::r) p' Ac):WW G (.op (.D7 n) k) K st p U:=⟨⟨xs,a,r,e,sp,p',Ac,Aa,aM q⟩⟩
theorem ce(Rw:Nat->Pv->u->Prop)(n:Nat)(j:Rw n p U)(h:∀n p U,Rw n p U->Wr G t (fun BB p U=>∃Aa,BB=[.ex (.bool Aa)]/\(Aa=true->W G b (fun Z p U=>∃m,m<n/\Rw m p U) [] p U)/\(Aa=false->W G k K st p U)) [] p U):WW G (.I3 t b k) K st p U:=⟨⟨Rw,n,j,fun n p U j=>aM (h n p U j)⟩⟩
theorem dw{Rw:Pv->u->Prop}(h1:Aa=true->Wr G b (fun Z p U=>Rw p U) [] p U)(h2:Aa=false->Wr G k K r p U):∃u',[V.ex (.bool Aa)]=[.ex (.bool u')]/\(u'=true->W G b (fun Z p U=>Rw p U) [] p U)/\(u'=false->W G k K r p U):=⟨Aa,rfl,fun e=>aM (h1 e),fun e=>aM (h2 e)⟩
theorem cS(i:Jz y xs qQ p U)(Rw:Nat->Pv->u->Prop)(j0:Rw 0 p U)(h:∀j x p U,xs[j]? =some x->Rw j p U->Wr G b (fun Z p U=>qQ p U/\Rw (j+1) p U) [x] p U)(f:∀p U,Rw xs.length p U->Wr G k K st p U):WW G (.BK .v b k) K (y::st) p U:=⟨⟨xs,qQ,i,Rw,j0,fun j x p U e q=>aM (h j x p U e q),fun p U q=>aM (f p U q)⟩⟩
theorem oj{n:Int}(h1:n<=1000)(h2:-1000<=n)(Rw:Nat->Pv->u->Prop)(j0:Rw 0 p U)(h:∀j x p U,(Ee 0 n.toNat)[j]? =some x->Rw j p U->Wr G b (fun Z p U=>True/\Rw (j+1) p U) [x] p U)(f:∀p U,Rw (Ee 0 n.toNat).length p U->Wr G k K st p U):WW G (.BK .r1 b k) K (.int n::st) p U:=⟨⟨n,rfl,h1,h2,Rw,j0,fun j x p U e q=>aM (h j x p U e q),fun p U q=>aM (f p U q)⟩⟩
theorem uG{a n:Int}(h1:-1000<=a)(h2:a<=1000)(h3:n<=1000)(h4:-1000<=n)(Rw:Nat->Pv->u->Prop)(j0:Rw 0 p U)(h:∀j x p U,(Ee a (n-a).toNat)[j]? =some x->Rw j p U->Wr G b (fun Z p U=>True/\Rw (j+1) p U) [x] p U)(f:∀p U,Rw (Ee a (n-a).toNat).length p U->Wr G k K st p U):WW G (.BK .r2 b k) K (.int n::.int a::st) p U:=⟨⟨a,n,rfl,rfl,h1,h2,h3,h4,Rw,j0,fun j x p U e q=>aM (h j x p U e q),fun p U q=>aM (f p U q)⟩⟩
theorem t5(Rw:Nat->Pv->u->Prop)(j0:Rw 0 p U)(h:∀j x p U,(Jv xs)[j]? =some x->Rw j p U->Wr G b (fun Z p U=>True/\Rw (j+1) p U) [x] p U)(f:∀p U,Rw (Jv xs).length p U->Wr G k K st p U):WW G (.BK .en b k) K (.lst xs::st) p U:=⟨⟨xs,rfl,Rw,j0,fun j x p U e q=>aM (h j x p U e q),fun p U q=>aM (f p U q)⟩⟩
def Km(qQ:Pv->u->Prop)(p:Pv)(Bu:List Nat)(ex:List (Addr×O))(x:V)(ys:List V)(j:Nat)(U:u)(BB:List V)(p':Pv)(Ac:u):Prop:=∃y,BB=[y]/\p'=Cj Bu p ex x/\qQ p Ac/\(ys.take j++[y]=ys.take (j+1)/\Ac=U)
theorem km(d:qQ p U)(h:ys[j]? =some z):Km qQ p Bu ex x ys j U [z] (Cj Bu p ex x) U:=⟨z,rfl,rfl,d,by exact J LG (J h rfl),rfl⟩
theorem xi(hl:ys.length=xs.length)(hn:xs.length<=1000)(h:∀(G':Gx c A) ex j x z,G'.nm=nm->xs[j]? =some x->ys[j]? =some z->Wr G' e (Km qQ p Bu ex x ys j U) [] (Cj Bu p ex x) U)(q:Wr G k K (.lst ys::st) p U):FC G nm Bu none e k K p U xs qQ st:=
 ⟨hn,fun j l τ=>l=ys.take j/\τ=U,⟨rfl,rfl⟩,fun G' ex j x l τ e hx hj=>by
  refine A5 hj fun UQ DH=>?_;clear hj;refine J UQ (J DH ?_);refine Ax (CP.mp hx) fun BZ Z=>?_;exact aM (h G' ex j x _ e hx (Cr (J hl BZ))),fun l τ hj=>by
  refine A5 hj fun PF Cz=>?_;clear hj;refine J PF (J Cz ?_);exact Rv hl (J Kp (aM q))⟩
theorem ia(i:Jz y xs qQ p U)(ys:List V)(hl:ys.length=xs.length)(hn:xs.length<=1000)(h:∀(G':Gx c A) ex j x z,G'.nm=nm->xs[j]? =some x->ys[j]? =some z->Wr G' b (Km qQ p Bu ex x ys j U) [] (Cj Bu p ex x) U)(q:Wr G k K (.lst ys::st) p U):WW G (.comp .v nm Bu b k) K (y::st) p U:=⟨⟨xs,qQ,i,xi hl hn h q⟩⟩
def Kf(G':Gx c A)(e:Code)(qQ:Pv->u->Prop)(p:Pv)(Bu:List Nat)(ex:List (Addr×O))(x:V)(xs:List V)(f:V->Bool)(j:Nat)(U:u)(BB:List V)(p':Pv)(Ac:u):Prop:=∃Aa,BB=[.ex (.bool Aa)]/\p'=Cj Bu p ex x/\
 (Aa=true->W G' e (fun BB p' Ac=>∃y,BB=[y]/\p'=Cj Bu p ex x/\qQ p Ac/\((xs.take j).filter f++[y]=(xs.take (j+1)).filter f/\Ac=U)) [] (Cj Bu p ex x) Ac)/\(Aa=false->qQ p Ac/\((xs.take j).filter f=(xs.take (j+1)).filter f/\Ac=U))
theorem kf{G':Gx c A}{ex:List (Addr×O)}{x:V}{f:V->Bool}{j:Nat}(d:qQ p U)(h:xs[j]? =some x):Kf G' (.op (.ld 0) .done) qQ p Bu ex x xs f j U [.ex (.bool (f x))] (Cj Bu p ex x) U:=
 ⟨f x,rfl,rfl,fun e=>⟨x,rfl,x,rfl,rfl,d,by refine J LG ?_;refine J h ?_;refine J (QY _ _) ?_;exact AL _ ((List.filter_cons_of_pos e).trans rfl:List.filter f [x]=[x]).symm,rfl⟩,fun e=>⟨d,by refine J LG ?_;refine J h ?_;refine J (QY _ _) ?_;exact((AL _ (Sp (by refine J e ?_;exact Ed))).trans (HL _)).symm,rfl⟩⟩
theorem pq{f:V->Bool}(hn:xs.length<=1000)(h:∀(G':Gx c A) ex j x,G'.nm=nm->xs[j]? =some x->Wr G' t (Kf G' e qQ p Bu ex x xs f j U) [] (Cj Bu p ex x) U)(q:Wr G k K (.lst (xs.filter f)::st) p U):FC G nm Bu (some t) e k K p U xs qQ st:=
 ⟨hn,fun j l τ=>l=(xs.take j).filter f/\τ=U,⟨rfl,rfl⟩,fun G' ex j x l τ e hx hj=>by
  refine A5 hj fun PG DJ=>?_;clear hj;refine J PG (J DJ ?_);exact aM (h G' ex j x e hx),fun l τ hj=>by
  refine A5 hj fun I8 CB=>?_;clear hj;refine J I8 (J CB ?_);exact J Kp (aM q)⟩
theorem tu(i:Jz y xs qQ p U)(f:V->Bool)(hn:xs.length<=1000)(h:∀(G':Gx c A) ex j x,G'.nm=nm->xs[j]? =some x->Wr G' t (Kf G' b qQ p Bu ex x xs f j U) [] (Cj Bu p ex x) U)(q:Wr G k K (.lst (xs.filter f)::st) p U):WW G (.F9 .v nm Bu t b k) K (y::st) p U:=⟨⟨xs,qQ,i,pq hn h q⟩⟩
theorem wd{n:Int}(h1:n<=1000)(h2:-1000<=n)(f:V->Bool)(h:∀(G':Gx c A) ex j x,G'.nm=nm->(Ee 0 n.toNat)[j]? =some x->Wr G' t (Kf G' b (fun Z Z=>True) p Bu ex x (Ee 0 n.toNat) f j U) [] (Cj Bu p ex x) U)(q:Wr G k K (.lst ((Ee 0 n.toNat).filter f)::st) p U):WW G (.F9 .r1 nm Bu t b k) K (.int n::st) p U:=⟨⟨n,rfl,h1,h2,pq (by refine J (a7 _ _) ?_;lia) h q⟩⟩
theorem yy(i:Jz y xs qQ p U)(hn:xs.length<=1000)(Rw:Nat->List V->u->Prop)(j0:Rw 0 [] U)(h:∀(G':Gx c A) ex j x ys U,G'.nm=nm->xs[j]? =some x->Rw j ys U->Wr G' e (fun BB p' Ac=>∃y,BB=[y]/\p'=Cj Bu p ex x/\qQ p Ac/\Rw (j+1) (ys++[y]) Ac) [] (Cj Bu p ex x) U)(q:∀ys U,Rw xs.length ys U->Wr G k K (.lst ys::st) p U):WW G (.comp .v nm Bu e k) K (y::st) p U:=⟨⟨xs,qQ,i,hn,Rw,j0,fun G' ex j x ys U e hx hj=>aM (h G' ex j x ys U e hx hj),fun ys U hj=>aM (q ys U hj)⟩⟩
theorem v7{n:Int}(h1:n<=1000)(h2:-1000<=n)(Rw:Nat->List V->u->Prop)(j0:Rw 0 [] U)(h:∀(G':Gx c A) ex j x ys U,G'.nm=nm->(Ee 0 n.toNat)[j]? =some x->Rw j ys U->Wr G' e (fun BB p' Ac=>∃y,BB=[y]/\p'=Cj Bu p ex x/\True/\Rw (j+1) (ys++[y]) Ac) [] (Cj Bu p ex x) U)(q:∀ys U,Rw (Ee 0 n.toNat).length ys U->Wr G k K (.lst ys::st) p U):WW G (.comp .r1 nm Bu e k) K (.int n::st) p U:=⟨⟨n,rfl,h1,h2,by refine J (a7 _ _) ?_;lia,Rw,j0,fun G' ex j x ys U e hx hj=>aM (h G' ex j x ys U e hx hj),fun ys U hj=>aM (q ys U hj)⟩⟩
theorem tL(S:SK)(zs:List V)(hf:S.fit)(hi:∀x∈l,S.is x)(hz:zs.length<=4)(hc:∀x∈l,x∈zs)(q:∀ys:List V,ys.Nodup->(∀x,x∈ys↔x∈l)->Wr G k K (.lst ys::st) p U):WW G (.op .sset k) K (.lst l::st) p U:=⟨⟨S,l,zs,hf,rfl,hi,hz,hc,fun ys n m=>aM (q ys n m)⟩⟩
theorem ur(h:n<=1000)(q:Wr G k K (.lst (Ee 0 n)::st) p U):WW G (.op .D2 k) K (.int n::st) p U:=⟨⟨n,rfl,h,aM q⟩⟩
theorem yw(h:l.length<=sizeLine)(q:Wr G k K (.lst (l.take m)::st) p U):WW G (.op (.I2 m) k) K (.lst l::st) p U:=⟨⟨l,rfl,h,aM q⟩⟩
theorem zF(r:Rd p U a (.list l))(h:l.length<=2)(q:Wr G k K (.lst l.reverse::st) p U):WW G (.op .back k) K (.ex (.ref a)::st) p U:=⟨⟨a,l,rfl,r,h,aM q⟩⟩
end
theorem bv.o{X:XM}(H:bv X U ns ws ds):Obj U (X .bi) 186 (IY X):=⟨_,H.i,H.d⟩
theorem a8.o{X:XM}(H:a8 X U p ls mg):Obj U (X .ui) 357 (IZ X):=⟨_,H.i,H.d⟩
theorem Af.o{X:XM}{S:HS}(H:Af X U S):Obj U (X .hi) 487 (Fy X):=⟨_,H.i,H.d⟩
theorem Af.bo{X:XM}{S:HS}(H:Af X U S):Obj U (X .bi) 186 (IY X):=H.BS.o
theorem Af.uo{X:XM}{S:HS}(H:Af X U S):Obj U (X .ui) 357 (IZ X):=H.Bk.o
end
section
theorem RJ{k n:Nat}(h:k<n)(l:n<=1000):(k:Int)<2^63:=Int.lt_of_lt_of_le (FJ.mpr (GZ h l)) (by decide)
theorem bK{α:Type}{l:List α}{k:Nat}{x:α}(h:l[k]? =some x):k<l.length:=(CP.mp h).1
section
variable{c:Cx}{A:Around}{G:Gx c A}{K:List V->Pv->u->Prop}{st r:List V}{p p':Pv}{U Ac:u}{k:Code}{a:Addr}{l m:List V}{i:Nat}{x y:V}
theorem cC(d:Rd p U a (.list l))(hx:l[i]? =some x)(hl:l.length<=1000)(q:Wr G k K (x::st) p U):WW G (.op .sub k) K (.int (i:Nat)::.ex (.ref a)::st) p U:=pS d (Jq _) hx (RJ (bK hx) hl) q
theorem bQ(hx:l[i]? =some x)(hl:l.length<=1000)(q:Wr G k K (x::st) p U):WW G (.op .sub k) K (.int (i:Nat)::.lst l::st) p U:=jy (Jq _) hx (RJ (bK hx) hl) q
theorem dq(hx:l[i]? =some x)(hl:l.length<=1000)(q:Wr G k K (x::st) p U):WW G (.op .sub k) K (.int (i:Nat)::.tup l::st) p U:=j5 (Jq _) hx (RJ (bK hx) hl) q
theorem df(q:Wr G k K (x::st) p U):WW G (.op .sub k) K (.int 0::.tup (x::l)::st) p U:=j5 (Int.le_refl _) rfl (by decide) q
theorem y7(Aa:Up a (.list l) (.list (l.set i y)) p U p' Ac)(hn:i<l.length)(hl:l.length<=1000)(q:Wr G k K st p' Ac):WW G (.op .Bt k) K (.int (i:Nat)::.ex (.ref a)::y::st) p U:=lS Aa (Jq _) (FJ.mpr hn) (RJ hn hl) q
theorem bc(d:Rd p U a (.list l))(hl:l.length<=1000)(q:Wr G k K (.int l.length::st) p U):WW G (.op (.call 1) k) K (.ex (.ref a)::.ex (.builtin "len")::st) p U:=gX d rfl (fun h q=>len_list h hl q) q
theorem cA(hl:l.length<=1000)(q:Wr G k K (.int l.length::st) p U):WW G (.op (.call 1) k) K (.lst l::.ex (.builtin "len")::st) p U:=a9 rfl (fun q=>wK hl q) q
theorem ba(hl:l.length<=1000)(q:Wr G k K (.int l.length::st) p U):WW G (.op (.call 1) k) K (.tup l::.ex (.builtin "len")::st) p U:=a9 rfl (fun q=>vB hl q) q
theorem be(Aa:Up a (.list l) (.list (l++[x])) p U p' Ac)(hl:l.length<=1000)(q:Wr G k K (.ex .none::st) p' Ac):WW G (.op (.call 2) k) K (x::.ex (.ref a)::.ex (.builtin "list.append")::st) p U:=gR Aa rfl (fun h q=>fe h hl q) q
theorem s8(Aa:Up a (.list l) (.list (l++m)) p U p' Ac)(hl:l.length+m.length<=1000)(q:Wr G k K (.ex .none::st) p' Ac):WW G (.op (.call 2) k) K (.lst m::.ex (.ref a)::.ex (.builtin "list.extend")::st) p U:=gR Aa rfl (fun h q=>f8 h hl q) q
theorem tx(Aa:Up a (.list l) (.list (l++m)) p U p' Ac)(d:Rd p U b (.list m))(hl:l.length+m.length<=1000)(q:Wr G k K (.ex .none::st) p' Ac):WW G (.op (.call 2) k) K (.ex (.ref b)::.ex (.ref a)::.ex (.builtin "list.extend")::st) p U:=
 bf rfl fun S=>fL (Aa.at S).1 (d.at S) hl (by exact J ((Aa.at S).2.2) (wr q (Aa.at S).2.1))
theorem tX(Aa:Up a (.list l) (.list l.dropLast) p U p' Ac)(hx:l.getLast? =some x)(hl:l.length<=1000)(q:Wr G k K (x::st) p' Ac):WW G (.op (.call 1) k) K (.ex (.ref a)::.ex (.builtin "list.pop")::st) p U:=gR Aa rfl (fun h q=>uQ h hx hl q) q
theorem uU(hl:l.length<=1000)(q:Wr G k K (.tup l::st) p U):WW G (.op (.call 1) k) K (.lst l::.ex (.type "tuple")::st) p U:=a9 rfl (fun q=>ii hl q) q
theorem yL(q:Wr G k K (.tup l::st) p U):WW G (.op (.call 1) k) K (.tup l::.ex (.type "tuple")::st) p U:=a9 rfl (fun q=>call_tuple_tup q) q
theorem jt{i j:Int}(q:Wr G k K (.lst [.int (min i j),.int (max i j)]::st) p U):WW G (.op (.call 1) k) K (.lst [.int i,.int j]::.ex (.builtin "sorted")::st) p U:=a9 rfl (fun q=>lB q) q
theorem eR{d:Addr}{l:List (V×V)}(Aa:Up d (.dict l) (.dict (dput l x y)) p U p' Ac)(ks:KS l x)(hl:l.length<=1000)(q1:∀z,Az l x=some z->Wr G k K (z::st) p U)(q0:Az l x=none->Wr G k K (y::st) p' Ac):WW G (.op (.call 3) k) K (y::x::.ex (.ref d)::.ex (.builtin "dict.setdefault")::st) p U:=
 bf rfl fun S=>gD G.ok (Aa.at S).1 ks (DV G) hl (fun z h=>wr (q1 z h) S) fun h=>by exact J ((Aa.at S).2.2) (wr (q0 h) (Aa.at S).2.1)
theorem PH{d:Addr}{l:List (V×V)}(h:Rd p U d (.dict l))(ks:KS l x)(q:Wr G k K (.ex (.bool (Az l x).isSome)::st) p U):WW G (.op (.cmp .In) k) K (.ex (.ref d)::x::st) p U:=ko h (fun h q=>in_dict G.ok h ks (DV G) q) q
theorem gP{d:Addr}{l:List (V×V)}(h:Rd p U d (.dict l))(ks:KS l x)(q:Wr G k K (.ex (.bool (!(Az l x).isSome))::st) p U):WW G (.op (.cmp .NotIn) k) K (.ex (.ref d)::x::st) p U:=ko h (fun h q=>notin_dict G.ok h ks (DV G) q) q
theorem yl(d:Rd p U a (.list l))(d2:Rd p U b (.list m))(hl:l.length+m.length<=1000)(q:∀z,U z=none->Wr G k K (.ex (.ref z)::st) p (U.set z (.list (l++m)))):WW G (.op (.bin .Add) k) K (.ex (.ref b)::.ex (.ref a)::st) p U:=
 ⟨fun S=>lR (d.at S) (d2.at S) hl (iG (K:=W G k K) S (fun Z Z Z h=>h) (.inr fun z h=>aM (q z h)))⟩
theorem tY{F:u->Prop}(hF:F U)(h:∀τ,F τ->Wr G k K st p τ):Wr G k K st p U:=h U hF
variable{nm:Nm}{Bu:List Nat}{b:Code}{ns:List Nat}{f:Nat->Nat}
theorem aS{l:List Nat}:(AW l).length=l.length:=Bl _
theorem bI{l:List Nat}{j:Nat}{z:V}(h:(AW l)[j]? =some z):∃n,l[j]? =some n/\z=iV n:=by unfold AW at h;rw[Cs]at h;exact An (El.mp h) fun n e z=>⟨n,e,z.symm⟩
theorem fT(f:Nat->Nat)(hn:ns.length<=1000)(h:∀(G':Gx c A) ex j n,G'.nm=nm->ns[j]? =some n->Wr G' b (Km (fun Z Z=>True) p Bu ex (iV n) (AW (ns.map f)) j U) [] (Cj Bu p ex (iV n)) U)(q:Wr G k K (.lst (AW (ns.map f))::st) p U):WW G (.comp .v nm Bu b k) K (.tup (AW ns)::st) p U:=
 ia .tup _ (aS.trans ((Bl _).trans aS.symm)) (AG (AA aS) hn) (fun G' ex j x z e hx Z=>by refine An (bI hx) fun n hn BX=>J BX ?_;exact h G' ex j n e hn) q
theorem Mc(h:ns[j]? =some n):Km (fun Z Z=>True) p Bu ex (iV n) (AW (ns.map f)) j U [iV (f n)] (Cj Bu p ex (iV n)) U:=km Al (by unfold AW;exact J (List.getElem?_map) (J (List.getElem?_map) (J h rfl)))
theorem fS{o:Str}(hn:ns.length<=900)(q:Wr G k K (nV (o,ns)::st) p U):WW G (.op (.call 1) (.op (.bin .Add) k)) K (.lst (AW ns)::.ex (.type "tuple")::.tup [.str o]::st) p U:=
 uU (AG (AA aS) (AG hn (by decide))) (cI (fun q=>p5 (AG (LA (AG (AA aS) hn) 1) (by decide)) (Su _ _) q) q)
end
end
section
theorem bq{Q:V->u->Prop}{v v':V}{U Ac:u}(q:Q v U)(e1:v=v')(e2:U=Ac):Q v' Ac:=e1▸e2▸q
section
variable{A:Around}{U:u}{X:XM}{p:List Nat}{ls:List (List Nat)}{mg:List V}{Q:V->u->Prop}
theorem xL{x:Nat}(h:x<p.length):(AW p)[x]? =some (iV (up p x)):=qE h
theorem ak{n m:Nat}(h:p.length<=n)(k:n<=m):(AW p).length<=m:=AG (AA aS) (AG h k)
theorem iJ{a b:Nat}(h:a=b):((a:Int)==(b:Int))=true:=by subst h;exact beq_self_eq_true _
theorem gT{a b:Nat}(h:a≠b):((a:Int)==(b:Int))=false:=beq_eq_false_iff_ne.mpr fun e=>h (Nz.mp e)
theorem kq{a b:Nat}(h:((a:Int) !=(b:Int))=true):a≠b:=fun e=>by rw[bne,iJ e]at h;cases h
theorem kZ{a b:Nat}(h:((a:Int) !=(b:Int))=false):a=b:=NB fun e=>by rw[bne,gT e]at h;cases h
theorem iW{a b:Nat}(h:((a:Int)==(b:Int))=true):a=b:=Nz.mp (E9 h)
theorem v6{a b:Nat}(h:((a:Int)==(b:Int))=false):a≠b:=fun e=>by have h:=(iJ e)▸h;cases h
inductive J1(X:XM)(p:List Nat)(x n:Nat)(U:u):Pv->u->Prop
 |mk (h:find p n=find p x) (l:n<p.length):J1 X p x n U ⟨[some (.ex (.ref (X .ui))),some (iV n)],[]⟩ U
theorem b7(O:(cz ω).Ok)(hA:A7 1 A)(σ:a8 X U p ls mg)(hp:Dc p)(hz:p.length<=900){x:Nat}(hx:x<p.length)(q:Q (iV (find p x)) U):aR (cz ω) A (.ref 314) [.ex (.ref (X .ui)),iV x] Q U:=by
 refine(jQ _).go O hA rfl fun hA G hG hR=>ce (fun n=>J1 X p x n U) x (.mk rfl hx) fun n Z Z j=>?_
 induction j with
 |mk e l=>
  refine aC σ.o rfl (cC (.AN σ.par) (xL l) (ak hz (by decide)) ?_);refine aJ (dw (fun Aa=>?_) fun Aa=>?_)
  ·refine aC σ.o rfl (cC (.AN σ.par) (xL l) (ak hz (by decide)) ?_)
   exact aJ ⟨up p n,DF (hp n) (kq Aa),.mk ((cT hp n).trans e) (Dj (hp n) l)⟩
  ·have e':n=find p x:=(aT (kZ Aa)).symm.trans e
   exact aQ (hR _ _ _ (J e' q))
theorem fY(O:(cz ω).Ok)(hA:A7 1 A)(σ:a8 X U p ls mg)(hz:p.length<=900)(q:Q (iV p.length) U):aR (cz ω) A (.ref 307) [.ex (.ref (X .ui))] Q U:=by refine(jc _).go O hA rfl fun hA G hG hR=>aC σ.o rfl (bc (.AN σ.par) (ak hz (by decide)) ?_);exact aQ (hR _ _ _ (J aS q))
theorem nS(O:(cz ω).Ok)(hX:Inj X)(hA:A7 1 A)(σ:a8 X U p ls mg)(hz:p.length<=900)(he:ls.length=p.length)
  (q:∀a,U a=none->Q (iV p.length) (((U.set (X .par) (.list (AW (p++[p.length])))).set a (.list (AW [p.length]))).set (X .Ao) (.list ((List.range ls.length).map (fun i=> .ex (.ref (X (.A9 i))))++[.ex (.ref a)])))):
  aR (cz ω) A (.ref 300) [.ex (.ref (X .ui))] Q U:=by
 have n1:X .Ao≠X .par:=AH hX rfl;have n2:X .ui≠X .par:=AH hX rfl;have n3:X .ud≠X .par:=AH hX rfl;have hl:((List.range ls.length).map fun i=>V.ex (.ref (X (.A9 i)))).length=ls.length:=(Bl _).trans Ek;refine(jF _).go O hA rfl fun hA G hG hR=>aC σ.o rfl (aZ (.AN σ.par) (aC σ.o rfl (bc (.AN σ.par) (ak hz (by decide)) ?_)));refine be (.AN σ.par) (ak hz (by decide)) ?_;have o2:Obj (U.set (X .par) (.list (AW p++[.int (AW p).length]))) (X .ui) 357 (IZ X):=⟨_,aB n2 σ.i,aB n3 σ.d⟩
 refine aC o2 rfl (aZ (.AN (aB n1 σ.Ao)) ?_);refine aC o2 rfl (bc (.AN (aB n1 σ.Ao)) ?_ ?_)
 ·exact J hl (J he (AG hz (by decide)))
 refine cg rfl fun a ha=>A5 (aP ha) fun a1 ha=>?_;have na:X .Ao≠a:=fun e=>by have ha:=e.symm▸ha;have ha:=σ.Ao▸ha;cases ha
 refine be (.AN (aB na (aB n1 σ.Ao))) ?_ ?_
 ·exact J hl (J he (AG hz (by decide)))
 have nu:X .ui≠X .Ao:=AH hX rfl;have nd:X .ud≠X .Ao:=AH hX rfl;have mu:X .ui≠a:=fun e=>by have ha:=e.symm▸ha;have ha:=σ.i▸ha;cases ha
 have md:X .ud≠a:=fun e=>by have ha:=e.symm▸ha;have ha:=σ.d▸ha;cases ha
 have mp:X .par≠a:=fun e=>by have ha:=e.symm▸ha;have ha:=σ.par▸ha;cases ha
 have np:X .par≠X .Ao:=AH hX rfl;refine aC (m:=IZ X) ⟨_,aB nu (aB mu (aB n2 σ.i)),aB nd (aB md (aB n3 σ.d))⟩ rfl (bc (.AN (aB np (aB mp (u.set_same _ _ _)))) ?_ ?_)
 ·exact J CY (J aS (AG (HZ hz 1) (by decide)))
 refine aQ (hR _ _ _ (bq (q a ha) ?_ ?_))
 ·refine J CY (J aS ?_)
  exact AL V.int ((LH _ 1).symm.trans rfl)
 ·refine J hl (J aS (J he ?_));simp only[AW,List.map_append,List.map_cons,List.map_nil]
theorem nU(a b:Nat)(h:a≠b):∃k g:Nat,k<g/\((k=a/\g=b)\/(k=b/\g=a))/\min (a:Int) (b:Int)=(k:Nat)/\max (a:Int) (b:Int)=(g:Nat):=by
 rcases Nat.lt_or_gt_of_ne h with l|l
 ·exact⟨a,b,l,.inl ⟨rfl,rfl⟩,SO (Gv.mpr (Dt l)),SN (Gv.mpr (Dt l))⟩
 ·exact⟨b,a,l,.inr ⟨rfl,rfl⟩,SJ (Gv.mpr (Dt l)),SP (Gv.mpr (Dt l))⟩
theorem qK(a:Nat):min (a:Int) (a:Int)=(a:Nat)/\max (a:Int) (a:Int)=(a:Nat):=⟨Int.min_self _,Int.max_self _⟩
theorem kg{i:Nat}(h:i<ls.length):((List.range ls.length).map fun i=>V.ex (.ref (X (.A9 i))))[i]? =some (V.ex (.ref (X (.A9 i)))):=by exact J (Cs) (J (Nq h) rfl)
theorem lK(O:(cz ω).Ok)(hX:Inj X)(hA:A7 2 A)(σ:a8 X U p ls mg)(hp:Dc p)(hz:p.length<=900)(he:ls.length=p.length)(hm:mg.length<=900)(hk:∀(i:Nat) (l:List Nat),ls[i]? =some l->l.length<=400){x y:Nat}(hx:x<p.length)(hy:y<p.length)
  (q0:find p x=find p y->Q (.ex .none) U)
  (q1:∀k g,k<g->g<p.length->((k=find p x/\g=find p y)\/(k=find p y/\g=find p x))->Q (.tup [iV k,iV g]) (((U.set (X .par) (.list (AW (p.set g k)))).set (X (.A9 k)) (.list (AW (ls.getD k []++ls.getD g [])))).set (X .merged) (.list (mg++[.tup [iV k,iV g]])))):aR (cz ω) A (.ref 321) [.ex (.ref (X .ui)),iV x,iV y] Q U:=by
 refine(iF _).go O hA rfl fun hA G hG hR=>aI σ.o rfl (aD rfl (b7 O hA σ hp hz hx ?_));refine aI σ.o rfl (aD rfl (b7 O hA σ hp hz hy ?_));refine dE rfl (jt ?_)
 by_cases e:find p x=find p y
 ·refine bl ?_ (aQ (hR _ _ _ (q0 e)))
  exact J e (J ((qK _).1) (J ((qK _).2) (iJ rfl)))
 ·refine DC (nU _ _ e) fun k g BD ho e1 e2=>?_
  have PJ:g<p.length:=ho.elim (fun h=>h.2▸eV hp hy) fun h=>h.2▸eV hp hx;have FA:k<p.length:=EL BD PJ;refine J e1 (J e2 ?_);refine ao (gT (Ej BD)) (aF ?_);have lk:=Cr (l:=ls) (he▸FA);have lg:=Cr (l:=ls) (he▸PJ);have z1:=hk _ _ lk;have z2:=hk _ _ lg;have ll:((List.range ls.length).map fun i=>V.ex (.ref (X (.A9 i)))).length<=1000:=AG (AA ((Bl _).trans (Ek.trans he))) (AG hz (by decide));refine aC σ.o rfl (y7 (.AN σ.par) (aS.symm▸PJ) (ak hz (by decide)) ?_);have o2:Obj (U.set (X .par) (.list ((AW p).set g (iV k)))) (X .ui) 357 (IZ X):=⟨_,AD hX rfl σ.i,AD hX rfl σ.d⟩
  have u2:=aB (o:=.list ((AW p).set g (iV k))) (AH hX (l:=.Ao) (m:=.par) rfl) σ.Ao;refine aC o2 rfl (cC (.AN u2) (kg (he▸FA)) ll (er (.AN (AD hX rfl (σ.A9 _ _ lk))) ?_));refine aC o2 rfl (cC (.AN u2) (kg (he▸PJ)) ll ?_);refine tx (.AN (AD hX rfl (σ.A9 _ _ lk))) (.AN (AD hX rfl (σ.A9 _ _ lg))) ?_ ?_
  ·exact J aS (J aS (AG (Jn z1 z2) (by decide)))
  have u3:=aB (o:=.list (AW ls[k]++AW ls[g])) (AH hX (l:=.merged) (m:=.A9 k) rfl) (aB (o:=.list ((AW p).set g (iV k))) (AH hX (l:=.merged) (m:=.par) rfl) σ.merged);have o3:Obj ((U.set (X .par) (.list ((AW p).set g (iV k)))).set (X (.A9 k)) (.list (AW ls[k]++AW ls[g]))) (X .ui) 357 (IZ X):=⟨_,AD hX rfl (AD hX rfl σ.i),AD hX rfl (AD hX rfl σ.d)⟩
  refine aC o3 rfl (aZ (.AN u3) (be (.AN u3) (AG hm (by decide)) ?_));refine aQ (hR _ _ _ (bq (q1 k g BD PJ ho) rfl ?_));refine J (Er) (J (Er) (?_));refine J lk (J lg (J Option.getD_some (J Option.getD_some ?_)));simp only[AW,List.map_append,List.map_set]
end
end
section
section
variable{X:XM}
structure DP(x:Str):Prop where
 asc:x.cps.all (· <128)=true
 ne:(x.cps.toList !=(Ai "").cps.toList)=true
 some:∃ch,x.cps[0]? =some ch/\(⟨#[ch]⟩:Str)≠Ai "?"
 small:x.cps.toList.length<=10
 signs:∀k∈x.cps.toList,PySem.Txt.isspace ⟨#[k]⟩=false/\(Builtin.Str.occurrences (Ai "()[]{},:") ⟨#[k]⟩ 0 (Ai "()[]{},:").length 1).isEmpty=true
theorem zO:DP (Ai "a"):=⟨by decide+kernel,by decide+kernel,⟨97,by decide+kernel,by decide+kernel⟩,by decide+kernel,by decide+kernel⟩
theorem yc:DP (Ai "b"):=⟨by decide+kernel,by decide+kernel,⟨98,by decide+kernel,by decide+kernel⟩,by decide+kernel,by decide+kernel⟩
theorem zG:DP (Ai "f"):=⟨by decide+kernel,by decide+kernel,⟨102,by decide+kernel,by decide+kernel⟩,by decide+kernel,by decide+kernel⟩
theorem yd:DP (Ai "g"):=⟨by decide+kernel,by decide+kernel,⟨103,by decide+kernel,by decide+kernel⟩,by decide+kernel,by decide+kernel⟩
theorem tS(O:(cz ω).Ok)(hA:A7 1 A)(ok:DP x)(q:Q (.ex (.bool true)) U):aR (cz ω) A (.ref 79) [.str x] Q U:=by
 refine(wV _).go O hA rfl fun hA G hG hR=>iN (fun q=>tE q) (J ok.ne (w_and (fun Z=>?_) (fun e=>nomatch e)));refine tu (.str ok.asc) (fun Z=>false) ?_ (fun G' ex j z e hz=>?_) ?_
 ·exact AG (AA (Bl _)) (AG ok.small (by decide))
 ·refine An (El.mp (Cs.symm.trans hz)) fun ch TZ Bg=>?_;subst Bg
  have s:=ok.signs ch (BW TZ);refine⟨⟨_,fun Z=>oI,aX,aM ?_⟩⟩;exact a9 rfl (fun q=>lG q) (J s.1 (w_or (fun e=>nomatch e) fun Z=>iN (fun q=>sL q) (J s.2 (aF (aJ (kf Al hz))))))
 have e:(O6 x).filter (fun Z=>false)=[]:=List.filter_eq_nil_iff.mpr fun Z Z h=>nomatch h;refine J e (dE rfl (iN (fun q=>rh (Dj (Ea _ _) (DV G)) q) ?_));exact aF (aQ (hR _ _ _ q))
theorem pC(O:(cz ω).Ok)(hA:A7 2 A)(ok:DP x)(q:Q (.ex .none) U):aR (cz ω) A (.ref 117) [z,.str x] Q U:=by refine(gf _).go O hA rfl fun hA G hG hR=>aD rfl (tS O hA ok ?_);refine w_or (fun e=>nomatch e) fun Z=>An ok.some fun ch hc Cc=>w_sub (fun e q=>tN hc q fun Z Z Z=>e _ _) (aF (ao (Df Cc) (aF (aJ q))))
theorem ik{ns:List Node}{k:Nat}{nd:Node}(h:ns[k]? =some nd):(ns.map nV)[k]? =some (nV nd):=by exact J (Cs) (J h rfl)
theorem bF{α β:Type}{l:List α}{f:α->β}{n m:Nat}(h:l.length<=n)(k:n<=m):(l.map f).length<=m:=AG (AA (Bl _)) (AG h k)
theorem qt(O:(cz ω).Ok)(hA:A7 1 A)(B:bv X U ns ws ds)(hz:ns.length<=900)(q:Q (iV ns.length) U):aR (cz ω) A (.ref 105) [.ex (.ref (X .bi))] Q U:=by refine(nP _).go O hA rfl fun hA G hG hR=>aC B.o rfl (bc (.AN B.nodes) (bF hz (by decide)) ?_);exact aQ (hR _ _ _ (Bl (f:=nV) (as:=ns)▸q))
theorem lU(O:(cz ω).Ok)(hA:A7 1 A)(B:bv X U ns ws ds)(hz:ns.length<=900){k:Nat}{nd:Node}(hk:ns[k]? =some nd)(q:Q (.str nd.1) U):aR (cz ω) A (.ref 143) [.ex (.ref (X .bi)),iV k] Q U:=by refine(qw _).go O hA rfl fun hA G hG hR=>aC B.o rfl (cC (.AN B.nodes) (ik hk) (bF hz (by decide)) ?_);exact df (aQ (hR _ _ _ q))
theorem dP(O:(cz ω).Ok)(hA:A7 1 A)(B:bv X U ns ws ds)(hz:ns.length<=900){k:Nat}{nd:Node}(hk:ns[k]? =some nd)(hs:nd.2.length<=900)(q:Q (.tup (AW nd.2)) U):aR (cz ω) A (.ref 150) [.ex (.ref (X .bi)),iV k] Q U:=by refine(l6 _).go O hA rfl fun hA G hG hR=>aC B.o rfl (cC (.AN B.nodes) (ik hk) (bF hz (by decide)) ?_);exact bX (bF hs (by decide)) (aQ (hR _ _ _ q))
theorem kJ(O:(cz ω).Ok)(hA:A7 1 A)(B:bv X U ns ws ds)(hz:ns.length<=900){k:Nat}{nd:Node}(hk:ns[k]? =some nd)(q:Q (nV nd) U):aR (cz ω) A (.ref 157) [.ex (.ref (X .bi)),iV k] Q U:=by refine(nR _).go O hA rfl fun hA G hG hR=>aC B.o rfl (cC (.AN B.nodes) (ik hk) (bF hz (by decide)) ?_);exact aQ (hR _ _ _ q)
end
end
section
noncomputable def BG:Nat->(Nat->Nat)->Nat
 |0,_=>0
 |n+1,f=>BG n f+f n
theorem cP:(∀c,c<n->f c=g c)->BG n f=BG n g:=by
 induction n with
 |zero=>exact fun Z=>rfl
 |succ n ih=>intro h;show BG n f+f n=BG n g+g n;exact J (ih fun c hc=>h c (EF hc)) (J (h n (HF n)) rfl)
theorem eQ:(∀c,c<n->f c<=g c)->BG n f<=BG n g:=by
 induction n with
 |zero=>exact fun Z=>Bf _
 |succ n ih=>exact fun h=>Jn (ih fun c hc=>h c (EF hc)) (h n (HF n))
theorem eZ:BG n (fun c=>f c+g c)=BG n f+BG n g:=by
 induction n with
 |zero=>rfl
 |succ n ih=>exact(AL (· +_) ih).trans (Sg _ _ _ _)
theorem cV:∀{n:Nat},BG n (fun c=>if c=a then d else 0)=if a<n then d else 0
 |0=>rfl
 |n+1=>by
  unfold BG;refine J cV ?_;dsimp only
  by_cases h:a<n
  ·refine J (AS h) (J (AK (fun e=>Ei 0 (aH qW qV 0 1 (.a D qW) Y 1 Y D (c2 _ _) h (AA e) rfl))) (J (AS (aA (.a D qW) (.a Y qW) 1 1 (.a D qW) Y (c2 _ _) h rfl)) ?_));rfl
  ·refine J (AK h) ?_
   by_cases e:n=a
   ·exact J (AS e) (J (AS (aA (.a D qW) (.a Y qW) 1 1 D Y (c2 _ _) (AA e.symm) rfl)) (G0 _))
   ·refine J (AK e) (J (AK (by lia)) ?_);rfl
theorem ou(h:c<n):f c<=BG n f:=by have:=eQ (n:=n) (f:=fun x=>if x=c then f c else 0) (g:=f) (fun x Z=>by split<;>(try subst x)<;>lia);rw[cV,AS h]at this;exact this
theorem tA(hk:k<n)(hg:g<n)(Cc:k≠g)(h:∀c,c≠k->c≠g->f' c=f c)(h1:f' k=f k+f g)(h2:f' g=0):BG n f'=BG n f:=by
 have a:BG n (fun c=>f' c+if c=g then f g else 0)=BG n (fun c=>f c+if c=k then f g else 0):=cP fun c Z=>by
  by_cases e1:c=k
  ·refine J e1 (J (AK Cc) (J (AS rfl) (J h1 ?_)));rfl
  ·by_cases e2:c=g
   ·subst e2;exact J (AS rfl) (J (AK e1) (J h2 (CW (bP (.a qV D) (.a D qV) 1 (c1 _) rfl) (bP (.a D qV) (.a qV D) 1 (c1 _) rfl))))
   ·refine J (AK e1) (J (AK e2) (J (h c e1 e2) ?_));rfl
 rw[eZ,eZ,cV,cV,AS hk,AS hg]at a;exact CW (aA D Y 1 1 (.a D qY) (.a Y qY) (c3 _ _ _) (AA a) rfl) (aA D Y 1 1 (.a D qY) (.a Y qY) (c3 _ _ _) (AA a.symm) rfl)
theorem eK(hg:g<n)(h:∀c,c≠g->f' c=f c)(h2:f' g=0):BG n f'+f g=BG n f:=by
 have a:BG n (fun c=>f' c+if c=g then f g else 0)=BG n f:=cP fun c Z=>by
  by_cases e2:c=g
  ·exact J e2 (J (AS rfl) (J h2 (CW (bP (.a qV D) D 1 (c1 _) rfl) (bP D (.a qV D) 1 (c1 _) rfl))))
  ·exact J (AK e2) (J (h c e2) (CW (bP (.a D qV) D 1 (c1 _) rfl) (bP D (.a D qV) 1 (c1 _) rfl)))
 rw[eZ,cV,AS hg]at a;exact a
theorem w9{cs:List Nat}{n:Nat}:BG n (fun c=>if c∈cs then 1 else 0)<=cs.length:=by
 induction cs with
 |nil=>
  have:BG n (fun c=>if c∈([]:List Nat)then 1 else 0)=BG n (fun c=>if c=n then 0 else 0):=cP fun c Z=>by simp
  refine J this (J cV ?_);simp
 |cons a cs ih=>
  have h:=eQ (n:=n) (f:=fun c=>if c∈a::cs then 1 else 0) (g:=fun c=>(if c∈cs then 1 else 0)+(if c=a then 1 else 0)) (fun c Z=>by
   by_cases e:c=a
   ·refine J e ?_;simp
   ·by_cases e2:c∈cs
    ·simp[e,e2]
    ·simp[e,e2])
  rw[eZ,cV]at h;refine J EG ?_
  split at h<;>lia
open Classical in
noncomputable def HS.roots(S:HS):Nat:=BG S.par.length fun c=>if S.root c then 1 else 0
open Classical in
noncomputable def HS.uses(S:HS):Nat:=BG S.par.length fun c=>if S.root c then(S.As c).length else 0
noncomputable abbrev HS.f(S:HS):Nat->Nat:=find S.par
structure HI(E F:Nat)(R:List (Nat×Nat))(P:Nat->Prop)(S:HS):Prop where
 low:Dc S.par
 pn:S.par.length=S.nodes.length
 pz:S.nodes.length<=10
 lp:S.Ao.length=S.par.length
 wl:S.ws.length=S.nodes.length
 dl:S.ds.length=S.nodes.length
 Ao:∀c,S.root c->∃l,S.Ao[c]? =some l/\l.Perm ((List.range S.par.length).filter fun i=>decide (S.f i=c))
 A9:∀(i:Nat) (l:List Nat),S.Ao[i]? =some l->l.length<=S.par.length
 us:S.uses<=2*S.nodes.length
 mz:S.waiting.length+21*S.roots+S.known.length<=E
 ed:S.AF.length+S.roots<=F
 mg:S.merged.length+S.roots<=F
 fo:S.AQ.length+S.roots<=F
 nd:∀(n:Nat) (x:Node),S.nodes[n]? =some x->x.2.length<=2/\(∀k∈x.2,k<n)/\DP x.1
 kk:∀p∈S.known,∃(x y:Node) (m:Nat),p=(nV x,iV m)/\S.nodes[m]? =some y/\canon S.f x=canon S.f y
 ud:∀(n:Nat) (x:Node) (k:Nat),S.nodes[n]? =some x->k∈x.2->n∈S.As (S.f k)
 ul:∀c,S.root c->∀n∈S.As c,n<S.par.length
 wt:∀n∈S.waiting,n<S.par.length
 comp:∀(n:Nat) (x:Node),S.nodes[n]? =some x->P n\/n∈S.waiting\/∃m,Az S.known (nV (canon S.f x))=some (iV m)/\S.f m=S.f n
 tl:Tl R S.f
 snd:Eo S.nodes R S.f
end
section
variable{E F:Nat}{R:List (Nat×Nat)}{P:Nat->Prop}{S:HS}
theorem zN(h:Dc S.par):Pt S.f:=⟨fun n=>cY h n,fun n=>ew h n⟩
theorem eN(h:Dc S.par)(BD:k<g)(hg:g<S.par.length)(rk:up S.par k=k)(rg:up S.par g=g)(ho:(k=S.f m/\g=S.f n)\/(k=S.f n/\g=S.f m)):(S.joined k g e).f=jn S.f m n:=by
 funext a
 show find (S.par.set g k) a=_
 refine J (d7 h hg BD rg rk _) ?_;unfold jn
 rcases ho with⟨e1,e2⟩|⟨e1,e2⟩
 ·refine Rv e1 (Rv e2 (J (JH (Dt BD)) (J (JI (Dt BD)) ?_)));rfl
 ·refine Rv e1 (Rv e2 (J (JJ (Dt BD)) (J (JG (Dt BD)) ?_)));rfl
theorem cv{α:Type}(p q:α->Bool)(h:∀x,p x=true->q x=false)(l:List α):(l.filter p++l.filter q).Perm (l.filter fun x=>p x||q x):=by
 have k:=List.filter_append_perm p (l.filter fun x=>p x||q x)
 rwa [List.filter_filter,List.filter_filter,List.filter_congr fun x Z=>show(p x &&(p x||q x))=p x by cases p x<;>rfl,List.filter_congr fun x Z=>show(!p x &&(p x||q x))=q x from(by have:=h x;revert this;cases p x<;>cases q x<;>simp)]at k
theorem iz(h:∀k∈x.2,f' k=f k):canon f' x=canon f x:=by unfold canon;exact J (List.map_congr_left h) rfl
theorem tw(h:Dc S.par)(hc:c<S.par.length):S.root (S.f c):=⟨eV h hc,bR h c⟩
open Classical in
theorem HI.E7(I:HI E F R P S)(BD:k<g)(hg:g<S.par.length)(rk:up S.par k=k)(rg:up S.par g=g)(ho:(k=S.f m/\g=S.f n)\/(k=S.f n/\g=S.f m))(YF:Tl R' (S.joined k g e).f)(YG:Eo S.nodes R' (S.joined k g e).f):HI E F R' P (S.joined k g e):=by
 have hf:=eN (e:=e) I.low BD hg rk rg ho;have pl:(S.joined k g e).par.length=S.par.length:=by unfold HS.joined;simp
 have rK:S.root k:=⟨EL BD hg,rk⟩
 have rG:S.root g:=⟨hg,rg⟩
 have fk:S.f k=k:=aT rk;have fg:S.f g=g:=aT rg;have fj:∀a,(S.joined k g e).f a=if S.f a=g then k else S.f a:=fun a=>d7 I.low hg BD rg rk a;have Cw:(S.joined k g e).roots+1=S.roots:=by
  unfold HS.roots;refine J pl ?_;have:=eK (f:=fun c=>if S.root c then 1 else 0) (f':=fun c=>if(S.joined k g e).root c then 1 else 0) hg (fun c hc=>by
   have:(S.joined k g e).root c↔S.root c:=by rw[aa BD hg];exact⟨fun h=>h.2,fun h=>⟨hc,h⟩⟩
   simp only[this]) (by rw[if_neg];rw[aa BD hg];exact fun h=>h.1 rfl)
  simp only[if_pos rG]at this;exact this
 have I9:(S.joined k g e).uses=S.uses:=by
  unfold HS.uses;refine J pl (tA (k:=k) (g:=g) (EL BD hg) hg (fun e=>Ei 0 (aH qW qV 0 1 (.a D qW) Y 1 Y D (c2 _ _) BD (AA e.symm) rfl)) (fun c h1 h2=>?_) ?_ ?_)
  ·have:(S.joined k g e).root c↔S.root c:=by rw[aa BD hg];exact⟨fun h=>h.2,fun h=>⟨h2,h⟩⟩
   have e3:(S.joined k g e).As c=S.As c:=by unfold HS.joined;exact if_neg h1
   simp only[this,e3]
  ·have:(S.joined k g e).root k:=(aa BD hg).mpr ⟨by exact fun e=>Ei 0 (aH qW qV 0 1 (.a D qW) Y 1 Y D (c2 _ _) BD (AA e.symm) rfl),rK⟩
   have e3:(S.joined k g e).As k=S.As k++S.As g:=by unfold HS.joined;simp
   refine J (AS this) (J (AS rK) (J (AS rG) (J e3 (J CY ?_))));rfl
  ·rw[AK];rw[aa BD hg];exact fun h=>h.1 rfl
 have Wq:(S.As g).length<=20:=by
  have h1:=ou (f:=fun c=>if S.root c then(S.As c).length else 0) hg;simp only[if_pos rG]at h1;have h2:BG S.par.length (fun c=>if S.root c then(S.As c).length else 0)<=2*S.nodes.length:=by have:=I.us;unfold HS.uses at this;exact this
  have:=I.pz;exact az D zQ 1 1 D Y 1 Y (.m 2 qY) 2 qY qR (c3 _ _ _) h1 h2 this rfl
 have Ws:(S.joined k g e).waiting.length=S.waiting.length+(S.As g).length:=by unfold HS.joined;simp
 have PK:∀i j,S.f i=S.f j->(S.joined k g e).f i=(S.joined k g e).f j:=fun i j h=>by exact J hf (b9 h)
 refine{low:= ?_,pn:= ?_,pz:=I.pz,lp:= ?_,wl:=I.wl,dl:=I.dl,Ao:= ?_,A9:= ?_,us:= ?_,mz:= ?_,ed:= ?_,mg:= ?_,fo:= ?_,nd:=I.nd,kk:= ?_,ud:= ?_,ul:= ?_,wt:= ?_,comp:= ?_,tl:= ?_,snd:= ?_}
 ·exact lN I.low hg (Dt BD)
 ·exact J pl I.pn
 ·refine J pl (Rv I.lp ?_);unfold HS.joined;simp
 ·intro c hc
  refine A5 ((aa BD hg).mp hc) fun c1 c2=>J pl ?_
  by_cases q:c=k
  ·subst q
   refine An (I.Ao c rK) fun l1 a1 b1=>An (I.Ao g rG) fun l2 a2 b2=>⟨l1++l2,?_,?_⟩
   ·show(S.Ao.set c (S.Ao.getD c []++S.Ao.getD g []))[c]? =_
    refine J (Nt) ?_;refine J (AS rfl) (J (AS (CP.mp a1).1) ?_);refine J (Er) (J (Er) (?_));refine J a1 (J a2 ?_);rfl
   ·refine(b1.append b2).trans ((cv _ _ (fun x hx=>?_) _).trans (SX (List.filter_congr fun x hx=>?_)))
    ·simp only[decide_eq_true_eq]at hx;simp only[decide_eq_false_iff_not];lia
    ·refine J (fj _) ?_
     by_cases z:S.f x=g
     ·simp[z]
     ·simp[z]
  ·refine An (I.Ao c c2) fun l1 a1 b1=>⟨l1,?_,b1.trans (SX (List.filter_congr fun x hx=>?_))⟩
   ·show(S.Ao.set k (S.Ao.getD k []++S.Ao.getD g []))[c]? =_
    exact J (Nt) (J (AK (fun h=>q h.symm)) a1)
   ·refine J (fj _) ?_
    by_cases z:S.f x=g
    ·refine J (AS z) (J z (J (Df (fun h=>c1 h.symm)) (J (Df (fun h=>q h.symm)) ?_)));rfl
    ·exact J (AK z) rfl
 ·intro i l hl
  refine J pl ?_;replace hl:(S.Ao.set k (S.Ao.getD k []++S.Ao.getD g []))[i]? =some l:=hl;rw[Nt]at hl
  by_cases q:k=i
  ·subst q
   refine An (I.Ao k rK) fun l1 a1 b1=>An (I.Ao g rG) fun l2 a2 b2=>?_;rw[AS rfl,AS (CP.mp a1).1,Er,Er,a1,a2]at hl
   cases hl
   have:=((b1.append b2).trans (cv _ _ (fun x hx=>by simp only[decide_eq_true_eq]at hx;lia) _)).length_eq
   show(l1++l2).length<=_
   exact J this (AG (List.length_filter_le _ _) (by exact J Ek (Bf _)))
  ·rw[AK q]at hl
   exact I.A9 i l hl
 ·exact J I9 I.us
 ·have:=I.mz
  show(S.joined k g e).waiting.length+21*(S.joined k g e).roots+S.known.length<=E
  lia
 ·have:=I.ed
  have e1:(S.joined k g e).AF.length=S.AF.length+1:=by unfold HS.joined;simp
  exact az (.a D Y) qY 1 1 (.a Y qW) qX 1 (.a (.v 4) qX) qY 1 D (.a (.v 4) qW) (c5 _ _ _ _ _) (AA Cw) this (AA e1) rfl
 ·have:=I.mg
  have e1:(S.joined k g e).merged.length=S.merged.length+1:=by unfold HS.joined;simp
  exact az (.a D Y) qY 1 1 (.a Y qW) qX 1 (.a (.v 4) qX) qY 1 D (.a (.v 4) qW) (c5 _ _ _ _ _) (AA Cw) this (AA e1) rfl
 ·have:=I.fo
  have e1:(S.joined k g e).AQ.length=S.AQ.length+1:=by unfold HS.joined;simp
  exact az (.a D Y) qY 1 1 (.a Y qW) qX 1 (.a (.v 4) qX) qY 1 D (.a (.v 4) qW) (c5 _ _ _ _ _) (AA Cw) this (AA e1) rfl
 ·intro p hp
  exact HN (I.kk p hp) fun x y m' e1 e2 e3=>⟨x,y,m',e1,e2,dL PK e3⟩
 ·intro n' x k' hx Ck
  have:=I.ud n' x k' hx Ck;refine J (fj _) ?_
  by_cases z:S.f k'=g
  ·refine J (AS z) ?_
   have e3:(S.joined k g e).As k=S.As k++S.As g:=by unfold HS.joined;simp
   exact J e3 (G3 _ (Rv z this))
  ·refine J (AK z) ?_
   by_cases z2:S.f k'=k
   ·rw[z2]at this ⊢
    have e3:(S.joined k g e).As k=S.As k++S.As g:=by unfold HS.joined;simp
    exact J e3 (HG _ this)
   ·have e3:(S.joined k g e).As (S.f k')=S.As (S.f k'):=by unfold HS.joined;exact if_neg z2
    exact J e3 this
 ·intro c hc n' EZ
  refine J pl (A5 ((aa BD hg).mp hc) fun c1 c2=>?_)
  by_cases q:c=k
  ·subst q
   have e3:(S.joined c g e).As c=S.As c++S.As g:=by unfold HS.joined;simp
   rw[e3]at EZ
   rcases DA.mp EZ with h|h
   ·exact I.ul c rK n' h
   ·exact I.ul g rG n' h
  ·have e3:(S.joined k g e).As c=S.As c:=by unfold HS.joined;exact if_neg q
   rw[e3]at EZ;exact I.ul c c2 n' EZ
 ·intro n' EZ
  refine J pl ?_
  rcases DA.mp (show n'∈S.waiting++S.As g from EZ)with h|h
  ·exact I.wt n' h
  ·exact I.ul g rG n' h
 ·intro n' x hx
  rcases I.comp n' x hx with h|h|⟨m',h1,h2⟩
  ·exact .inl h
  ·exact .inr (.inl (HG _ h))
  ·by_cases z:∃k'∈x.2,S.f k'=g
   ·refine An z ?_;clear z;intro k' Ck z
    exact .inr (.inl (G3 _ (z▸I.ud n' x k' hx Ck)))
   ·refine .inr (.inr ⟨m',?_,PK _ _ h2⟩)
    exact J (iz (f:=S.f) fun k' Ck=>by rw[fj,AK (fun h=>z ⟨k',Ck,h⟩)]) h1
 ·exact YF
 ·exact YG
theorem HI.joined(I:HI E F R P S)(BD:k<g)(hg:g<S.par.length)(rk:up S.par k=k)(rg:up S.par g=g)(ho:(k=S.f m/\g=S.f n)\/(k=S.f n/\g=S.f m))(ow:Dz S.nodes R m n):HI E F R P (S.joined k g e):=by have hf:=eN (e:=e) I.low BD hg rk rg ho;exact I.E7 BD hg rk rg ho (fun p hp=>by exact J hf (b9 (I.tl p hp))) (by exact J hf (I.snd.jn (zN I.low) ow))
theorem HI.Ga(I:HI E F R P S)(BD:k<g)(hg:g<S.par.length)(rk:up S.par k=k)(rg:up S.par g=g)(ho:(k=S.f m/\g=S.f n)\/(k=S.f n/\g=S.f m)):HI E F (R++[(m,n)]) P (S.joined k g e):=by
 have hf:=eN (e:=e) I.low BD hg rk rg ho;refine I.E7 BD hg rk rg ho (fun p hp=>?_) ?_
 ·refine J hf ?_
  rcases DA.mp hp with h|h
  ·exact b9 (I.tl p h)
  ·simp at h;subst h;exact qD _ _ _
 ·exact J hf ((I.snd.more (fun Z Z h=>h) (fun p h=>List.mem_append_left _ h)).jn (zN I.low) (Dz.told (by simp)))
theorem HI.Hv(I:HI E F R P S)(h:S.f m=S.f n):HI E F (R++[(m,n)]) P S:=
 {low:=I.low,pn:=I.pn,pz:=I.pz,lp:=I.lp,wl:=I.wl,dl:=I.dl,Ao:=I.Ao,A9:=I.A9,us:=I.us,mz:=I.mz,ed:=I.ed,mg:=I.mg,fo:=I.fo,nd:=I.nd,kk:=I.kk,ud:=I.ud,ul:=I.ul,wt:=I.wt,comp:=I.comp,tl:=fun p hp=>by
   refine Or.elim (DA.mp hp) (fun h1=>?_) fun h1=>?_
   ·exact I.tl p h1
   ·simp at h1;exact J h1 h
  snd:=I.snd.more (fun Z Z h=>h) fun p h=>HG _ h}
open Classical in
theorem HI.Hw(I:HI E F R P S)(BD:k<g)(hg:g<S.par.length)(rk:up S.par k=k)(rg:up S.par g=g):(S.joined k g e).waiting.length+21*(S.joined k g e).roots+1<=S.waiting.length+21*S.roots:=by
 have pl:(S.joined k g e).par.length=S.par.length:=by unfold HS.joined;simp
 have rG:S.root g:=⟨hg,rg⟩
 have Cw:(S.joined k g e).roots+1=S.roots:=by
  unfold HS.roots;refine J pl ?_;have:=eK (f:=fun c=>if S.root c then 1 else 0) (f':=fun c=>if(S.joined k g e).root c then 1 else 0) hg (fun c hc=>by
   have:(S.joined k g e).root c↔S.root c:=by rw[aa BD hg];exact⟨fun h=>h.2,fun h=>⟨hc,h⟩⟩
   simp only[this]) (by rw[if_neg];rw[aa BD hg];exact fun h=>h.1 rfl)
  simp only[if_pos rG]at this;exact this
 have Wq:(S.As g).length<=20:=by
  have h1:=ou (f:=fun c=>if S.root c then(S.As c).length else 0) hg;simp only[if_pos rG]at h1;have h2:BG S.par.length (fun c=>if S.root c then(S.As c).length else 0)<=2*S.nodes.length:=by have:=I.us;unfold HS.uses at this;exact this
  have:=I.pz;exact az D zQ 1 1 D Y 1 Y (.m 2 qY) 2 qY qR (c3 _ _ _) h1 h2 this rfl
 have Ws:(S.joined k g e).waiting.length=S.waiting.length+(S.As g).length:=by unfold HS.joined;simp
 exact az (.a (.a D (.m 21 Y)) qW) (.a qY (.m 21 qX)) 1 21 (.a Y qW) qX 1 D (.a qY (.v 4)) 1 (.v 4) zQ (c5 _ _ _ _ _) (AA Cw) (AA Ws) Wq rfl
theorem HI.GQ(I:HI E F R P S)(e:V):HI E (F+1) R P {S with AF:=S.AF++[e]}:=
 {low:=I.low,pn:=I.pn,pz:=I.pz,lp:=I.lp,wl:=I.wl,dl:=I.dl,Ao:=I.Ao,A9:=I.A9,us:=I.us,mz:=I.mz,ed:=by have:=I.ed;show(S.AF++[e]).length+S.roots<=_;refine J List.length_append ?_;simp;exact aA (.a (.a D qW) Y) (.a qY qW) 1 1 (.a D Y) qY (c3 _ _ _) this rfl
  mg:=by have:=I.mg;show S.merged.length+S.roots<=_;exact aA (.a D Y) (.a qY qW) 1 1 (.a D Y) qY (c3 _ _ _) this rfl
  fo:=by have:=I.fo;show S.AQ.length+S.roots<=_;exact aA (.a D Y) (.a qY qW) 1 1 (.a D Y) qY (c3 _ _ _) this rfl
  nd:=I.nd,kk:=I.kk,ud:=I.ud,ul:=I.ul,wt:=I.wt,comp:=I.comp,tl:=I.tl,snd:=I.snd}
theorem HI.up(I:HI E F R P S)(h:E<=E')(k:F<=F'):HI E' F' R P S:=
 {I with mz:=AG I.mz h,ed:=AG I.ed k,mg:=AG I.mg k,fo:=AG I.fo k}
end
section
structure HB(S:HS):Prop where
 low:Dc S.par
 pz:S.par.length<=20
 nz:S.nodes.length<=20
 lp:S.Ao.length=S.par.length
 wl:S.ws.length=S.nodes.length
 dl:S.ds.length=S.nodes.length
 A9:∀(i:Nat) (l:List Nat),S.Ao[i]? =some l->l.length<=30
 mg:S.merged.length<=900
 ed:S.AF.length<=900
 fo:S.AQ.length<=900
 wa:S.waiting.length<=400
 us:∀c,S.root c->(S.As c).length<=200
 kn:S.known.length<=900
 nd:∀(n:Nat) (x:Node),S.nodes[n]? =some x->x.2.length<=2/\(∀k∈x.2,k<n)/\DP x.1
 kk:∀p∈S.known,cG.is p.1
def Look(S:HS)(n:Nat)(x:Node)(S':HS):Prop:=
 (Az S.known (nV (canon (find S.par) x))=none/\S'={S with known:=dput S.known (nV (canon (find S.par) x)) (iV n)})\/
 ∃m,Az S.known (nV (canon (find S.par) x))=some (iV m)/\((find S.par m=find S.par n/\S'=S)\/
  (find S.par m≠find S.par n/\∃k g,k<g/\g<S.par.length/\up S.par k=k/\up S.par g=g/\((k=find S.par m/\g=find S.par n)\/(k=find S.par n/\g=find S.par m))/\S'=S.joined k g (.tup [iV m,iV n,.tup [.str (Ai "like")]])))
section
variable{E F:Nat}{R:List (Nat×Nat)}{P:Nat->Prop}{S:HS}
open Classical in
theorem HI.hb(I:HI E F R P S)(hE:E<=400)(hF:F<=400):HB S where
 low:=I.low
 pz:=by have:=I.pn;have:=I.pz;lia
 nz:=by have:=I.pz;exact aA D zQ 1 1 D qR (c1 _) this rfl
 lp:=I.lp
 wl:=I.wl
 dl:=I.dl
 A9 i l h:=by have:=I.A9 i l h;have:=I.pn;have:=I.pz;lia
 mg:=by have:=I.mg;exact aH D qT 1 1 (.a D qY) Y 1 Y (.n 400) (c3 _ _ _) this hF rfl
 ed:=by have:=I.ed;exact aH D qT 1 1 (.a D qY) Y 1 Y (.n 400) (c3 _ _ _) this hF rfl
 fo:=by have:=I.fo;exact aH D qT 1 1 (.a D qY) Y 1 Y (.n 400) (c3 _ _ _) this hF rfl
 wa:=by have:=I.mz;exact aH D (.n 400) 1 1 (.a (.a D (.m 21 qY)) qX) Y 1 Y (.n 400) (c4 _ _ _ _) this hE rfl
 us c hc:=by
  have h1:=ou (f:=fun c=>if S.root c then(S.As c).length else 0) hc.1;simp only[if_pos hc]at h1;have h2:BG S.par.length (fun c=>if S.root c then(S.As c).length else 0)<=2*S.nodes.length:=by have:=I.us;unfold HS.uses at this;exact this
  have:=I.pz;exact az D (.n 200) 1 1 D Y 1 Y (.m 2 qY) 2 qY qR (c3 _ _ _) h1 h2 this rfl
 kn:=by have:=I.mz;exact aH D qT 1 1 (.a (.a qY (.m 21 qX)) D) Y 1 Y (.n 400) (c4 _ _ _ _) this hE rfl
 nd:=I.nd
 kk p hp:=by refine LN (I.kk p hp) fun x y m UR Z=>?_;exact J UR (⟨x,rfl⟩)
theorem HI.EE(I:HI E F R P S)(h:Az S.known y=some v):∃m:Nat,v=iV m/\m<S.par.length:=by
 refine An (bD h) fun i Z h=>HN (I.kk _ (BW h)) fun x z m e1 e2 Z=>?_
 cases e1
 exact⟨m,rfl,by exact J I.pn ((CP.mp e2).1)⟩
theorem HI.MY(I:HI E F R (fun Z=>False) S)(h:S.waiting=[]):Ef S.nodes R S.f where
 pt:=zN I.low
 cl i j x y hx hy e:=by
  rcases I.comp i x hx with h1|h1|⟨m,h1,h2⟩
  ·exact h1.elim
  ·have h1:=h▸h1;cases h1
  rcases I.comp j y hy with h3|h3|⟨m',h3,h4⟩
  ·exact h3.elim
  ·have h3:=h▸h3;cases h3
  rw[e,h3]at h1;injection h1 with h1
  refine Rv h2 (Rv h4 (J (av h1) ?_));rfl
 tl:=I.tl
 snd:=I.snd
theorem HI.look(I:HI E F R (fun i=>P i\/i=n) S)(hx:S.nodes[n]? =some x)(h:Look S n x S'):HI (E+1) F R P S'/\S'.waiting.length+21*S'.roots<=S.waiting.length+21*S.roots/\S'.nodes=S.nodes:=by
 rcases h with⟨h1,rfl⟩|⟨m,h1,⟨h2,rfl⟩|⟨h2,k,g,BD,hg,rk,rg,ho,rfl⟩⟩
 ·refine⟨{low:=I.low,pn:=I.pn,pz:=I.pz,lp:=I.lp,wl:=I.wl,dl:=I.dl,Ao:=I.Ao,A9:=I.A9,us:=I.us,mz:= ?_,ed:=I.ed,mg:=I.mg,fo:=I.fo,nd:=I.nd,kk:= ?_,ud:=I.ud,ul:=I.ul,wt:=I.wt,comp:= ?_,tl:=I.tl,snd:=I.snd},Bf _,rfl⟩
  ·have:=I.mz
   have e:(dput S.known (nV (canon (find S.par) x)) (iV n)).length<=S.known.length+1:=aY;exact aH (.a (.a D (.m 21 Y)) qY) (.a qX qW) 1 1 (.a (.a D (.m 21 Y)) (.v 4)) qX 1 qY (.a (.v 4) qW) (c5 _ _ _ _ _) this e rfl
  ·intro p hp
   rw[bL (bU h1)]at hp
   rcases DA.mp hp with hp|hp
   ·exact I.kk p hp
   ·rw[Eb]at hp;refine J hp ?_
    exact⟨canon S.f x,x,n,rfl,hx,canon_canon (fun n=>ew I.low n) x⟩
  ·intro n' x' CM
   show P n'\/n'∈S.waiting\/∃m,Az (dput S.known (nV (canon S.f x)) (iV n)) (nV (canon S.f x'))=some (iV m)/\S.f m=S.f n'
   refine J ay ?_
   rcases I.comp n' x' CM with(h|rfl)|h|⟨m,h3,h4⟩
   ·exact .inl h
   ·rw[hx]at CM;obtain rfl:=BC CM
    exact .inr (.inr ⟨n',by exact J (AS rfl) rfl,rfl⟩)
   ·exact .inr (.inl h)
   ·refine .inr (.inr ⟨m,?_,h4⟩)
    by_cases e:nV (canon S.f x')=nV (canon S.f x)
    ·rw[e]at h3
     exact Ba (h1.symm.trans h3) nofun
    ·exact J (AK e) h3
 ·refine⟨{I with mz:=Ft I.mz,comp:=fun n' x' CM=>?_},Bf _,rfl⟩
  rcases I.comp n' x' CM with(h|rfl)|h
  ·exact .inl h
  ·rw[hx]at CM;obtain rfl:=BC CM
   exact .inr (.inr ⟨m,h1,h2⟩)
  ·exact .inr h
 ·have ow:Dz S.nodes R m n:=by
   refine An (bD h1) fun i Z h=>HN (I.kk _ (BW h)) fun x0 y m' e1 e2 e3=>?_;injection e1 with e4 e5
   have:=av e5;refine J this ?_;have e6:=fP e4;subst e6;refine Dz.Ma I.snd e2 hx (e3.symm.trans (canon_canon (fun n=>ew I.low n) x))
  have Rw:=I.joined (e:=.tup [iV m,iV n,.tup [.str (Ai "like")]]) BD hg rk rg ho ow;have hf:=eN (e:=.tup [iV m,iV n,.tup [.str (Ai "like")]]) I.low BD hg rk rg ho;have fj:∀a,(S.joined k g (.tup [iV m,iV n,.tup [.str (Ai "like")]])).f a=if S.f a=g then k else S.f a:=fun a=>d7 I.low hg BD rg rk a;refine⟨{Rw with mz:=Ft Rw.mz,comp:=fun n' x' CM=>?_},?_,rfl⟩
  ·rcases Rw.comp n' x' CM with(h|rfl)|h
   ·exact .inl h
   ·refine .inr ?_
    replace CM:S.nodes[n']? =some x':=CM;have CM:=hx▸CM;obtain rfl:=BC CM
    by_cases z:∃k'∈x.2,S.f k'=g
    ·refine An z ?_;clear z;intro k' Ck z
     exact .inl (G3 _ (z▸I.ud n' x k' hx Ck))
    ·refine .inr ⟨m,?_,?_⟩
     ·exact J (iz (f:=S.f) fun k' Ck=>by rw[fj,AK (fun h=>z ⟨k',Ck,h⟩)]) h1
     ·exact J hf (qD _ _ _)
   ·exact .inr h
  ·have e1:=I.Hw (e:=.tup [iV m,iV n,.tup [.str (Ai "like")]]) BD hg rk rg
   exact aA (.a D (.m 21 Y)) (.a qY (.m 21 qX)) 1 1 (.a (.a D (.m 21 Y)) qW) (.a qY (.m 21 qX)) (c4 _ _ _ _) e1 rfl
theorem HI.pop(I:HI (E+1) F R P S)(h:S.waiting=ww++[n]):HI E F R (fun i=>P i\/i=n) {S with waiting:=ww}:=
 {low:=I.low,pn:=I.pn,pz:=I.pz,lp:=I.lp,wl:=I.wl,dl:=I.dl,Ao:=I.Ao,A9:=I.A9,us:=I.us
  mz:=by have:=I.mz;rw[h,List.length_append]at this;show ww.length+21*S.roots+S.known.length<=_;simp at this;exact aA (.a (.a D (.m 21 Y)) qY) qX 1 1 (.a (.a (.a D qW) (.m 21 Y)) qY) (.a qX qW) (c4 _ _ _ _) this rfl
  ed:=I.ed,mg:=I.mg,fo:=I.fo,nd:=I.nd,kk:=I.kk,ud:=I.ud,ul:=I.ul
  wt:=fun n' EZ=>I.wt n' (by exact J h (HG _ EZ))
  comp:=fun n' x' CM=>by
   rcases I.comp n' x' CM with h1|h1|h1
   ·exact .inl (.inl h1)
   ·rw[h]at h1
    refine Or.elim (DA.mp h1) (fun h1=>?_) fun h1=>?_
    ·exact .inr (.inl h1)
    ·rw[Eb]at h1;exact .inl (.inr h1)
   ·exact .inr (.inr h1)
  tl:=I.tl,snd:=I.snd}
end
end
section
variable{E F:Nat}{R:List (Nat×Nat)}{P:Nat->Prop}{S:HS}
noncomputable def HS.added(S:HS)(nd:Node)(wv dv:Int)(cs:List Nat):HS:=
 {S with nodes:=S.nodes++[nd],ws:=S.ws++[wv],ds:=S.ds++[dv],par:=S.par++[S.par.length],Ao:=S.Ao++[[S.Ao.length]],As:=fun c=>if c∈cs then(if c=S.par.length then []else S.As c)++[S.par.length]else(if c=S.par.length then []else S.As c)}
theorem gc(h:Dc p):Dc (p++[p.length]):=fun a=>by exact J (bj _) (h a)
theorem iL:find p p.length=p.length:=aT (by unfold up;exact J (List.getD_eq_getElem?_getD) (J (List.getElem?_eq_none (Nat.le_refl _)) rfl))
open Classical in
theorem HI.added(I:HI E F R (fun Z=>False) S){nd:Node}{wv dv:Int}{cs:List Nat}(J0:∀c,c∈cs↔∃k∈nd.2,S.f k=c)(MZ:cs.length<=2)(hk:∀k∈nd.2,k<S.nodes.length)(h2:nd.2.length<=2)(ok:DP nd.1)(hz:S.nodes.length<10):
  HI (E+21) (F+1) R (fun i=>i=S.nodes.length) (S.added nd wv dv cs):=by
 have hf:(S.added nd wv dv cs).f=S.f:=funext fun a=>bZ S.par a;have pl:(S.added nd wv dv cs).par.length=S.par.length+1:=by unfold HS.added;simp
 have rt:∀c,(S.added nd wv dv cs).root c↔c=S.par.length\/S.root c:=fun c=>CC (S:=S);have hN:S.par.length∉cs:=fun h=>by
  refine An ((J0 _).mp h) fun k h1 h3=>?_;have:=hk k h1;have h4:S.f k<=k:=cY I.low k;have:=I.pn
  lia
 have nr:¬S.root S.par.length:=fun h=>Gk _ h.1;have Cw:(S.added nd wv dv cs).roots=S.roots+1:=by
  unfold HS.roots;refine J pl ?_
  show BG S.par.length _+_=_
  dsimp only;refine J (AS ((rt _).mpr (.inl rfl))) ?_
  congr 1
  refine cP fun c hc=>?_;have:(S.added nd wv dv cs).root c↔S.root c:=by rw[rt];exact⟨fun h=>h.elim (fun h=>by lia) id,.inr⟩
  rw[this]
 have I9:(S.added nd wv dv cs).uses<=S.uses+2:=by
  unfold HS.uses;refine J pl ?_
  show BG S.par.length _+_<=_
  dsimp only;have e0:(S.added nd wv dv cs).As S.par.length=[]:=by unfold HS.added;simp[hN]
  refine J e0 (J (AS ((rt _).mpr (.inl rfl))) ?_);have h1:=eQ (n:=S.par.length) (f:=fun c=>if(S.added nd wv dv cs).root c then((S.added nd wv dv cs).As c).length else 0) (g:=fun c=>(if S.root c then(S.As c).length else 0)+(if c∈cs then 1 else 0)) (fun c hc=>by
   have:(S.added nd wv dv cs).root c↔S.root c:=by rw[rt];exact⟨fun h=>h.elim (fun h=>by lia) id,.inr⟩
   rw[this]
   by_cases r:S.root c
   ·refine J (AS r) (J (AS r) ?_)
    unfold HS.added
    by_cases q:c∈cs
    ·simp[q,show c≠S.par.length by exact fun e=>Nat.not_succ_le_zero 0 (aH qW qV 0 1 (.a Y qW) D 1 D Y (c2 _ _) hc (Nat.le_of_eq e.symm) rfl)]
    ·simp[q,show c≠S.par.length by exact fun e=>Nat.not_succ_le_zero 0 (aH qW qV 0 1 (.a Y qW) D 1 D Y (c2 _ _) hc (Nat.le_of_eq e.symm) rfl)]
   ·refine J (AK r) ?_;exact DS _)
  rw[eZ]at h1;have h3:=w9 (cs:=cs) (n:=S.par.length);refine AG h1 ?_;have h5:BG S.par.length (fun c=>if c∈cs then 1 else 0)<=2:=AG h3 MZ;exact aA (.a D Y) (.a D qU) 1 1 Y qU (c2 _ _) h5 rfl
 have ge:∀(n:Nat) (x:Node),(S.added nd wv dv cs).nodes[n]? =some x->(n<S.nodes.length/\S.nodes[n]? =some x)\/(n=S.nodes.length/\x=nd):=fun n x h=>by
  replace h:(S.nodes++[nd])[n]? =some x:=h
  by_cases q:n<S.nodes.length
  ·rw[Kl q]at h;exact .inl ⟨q,h⟩
  ·rw[MB (by exact aA D Y 1 1 D Y (c2 _ _) (DR q) rfl)]at h
   have:n-S.nodes.length=0:=by
    have:=(CP.mp h).1
    simp at this;assumption
   rw[this]at h;simp at h;exact .inr ⟨by exact CW (aH D Y 1 1 D (.a qY Y) 1 qY qV (c3 _ _ _) EM (AA this) rfl) (aA D Y 1 1 (.a qY D) Y (c3 _ _ _) (AA (Ds (aA D Y 1 1 D Y (c2 _ _) (DR q) rfl))) rfl),h.symm⟩
 have gr:∀(n:Nat) (x:Node),S.nodes[n]? =some x->(S.added nd wv dv cs).nodes[n]? =some x:=fun n x h=>by refine J (Kl (CP.mp h).1) ?_;exact h
 have sub:∀c n,c<S.par.length->n∈S.As c->n∈(S.added nd wv dv cs).As c:=fun c n hc h=>by
  show n∈(if c∈cs then _ else _)
  refine J (AK (show c≠S.par.length by exact fun e=>Ei 0 (aH qW qV 0 1 (.a Y qW) D 1 D Y (c2 _ _) hc (AA e.symm) rfl))) ?_
  split
  ·exact HG _ h
  ·exact h
 refine{low:=gc I.low,pn:= ?_,pz:= ?_,lp:= ?_,wl:= ?_,dl:= ?_,Ao:= ?_,A9:= ?_,us:= ?_,mz:= ?_,ed:= ?_,mg:= ?_,fo:= ?_,nd:= ?_,kk:= ?_,ud:= ?_,ul:= ?_,wt:= ?_,comp:= ?_,tl:= ?_,snd:= ?_}
 ·refine J pl ?_;show _=(S.nodes++[nd]).length;simp[I.pn]
 ·show(S.nodes++[nd]).length<=10;simp;exact aA D (.n 9) 1 1 (.a D qW) qR (c1 _) hz rfl
 ·refine J pl ?_;show(S.Ao++[[S.Ao.length]]).length=_;simp[I.lp]
 ·show(S.ws++[wv]).length=(S.nodes++[nd]).length;simp[I.wl]
 ·show(S.ds++[dv]).length=(S.nodes++[nd]).length;simp[I.dl]
 ·intro c hc
  refine J pl (J hf ?_);have Cb:(S.Ao++[[S.Ao.length]])[S.Ao.length]? =some [S.Ao.length]:=by simp
  rcases(rt c).mp hc with rfl|r
  ·refine⟨[S.par.length],by refine Rv I.lp ?_;exact Cb,?_⟩
   refine J List.range_succ ?_;rw[QY,List.filter_eq_nil_iff.mpr (fun i hi=>by have h1:=G5.mp hi;have h3:S.f i<=i:=cY I.low i;simp only[decide_eq_true_eq];exact fun e=>Nat.not_succ_le_zero 0 (az qW qV 0 1 (.a Y qW) D 1 qY Y 1 D qY (c3 _ _ _) h1 h3 (Nat.le_of_eq e.symm) rfl))]
   exact J (List.filter_cons_of_pos (by simp only[decide_eq_true_eq];exact iL)) (.refl _)
  ·refine An (I.Ao c r) fun l a b=>⟨l,?_,?_⟩
   ·show(S.Ao++[[S.Ao.length]])[c]? =some l
    refine J (Kl (CP.mp a).1) ?_;exact a
   ·refine J List.range_succ ?_;rw[QY,Sp (by simp only[decide_eq_true_eq];intro h;rw[show S.f S.par.length=S.par.length from iL]at h;have:=r.1;exact Ei 0 (aH qW qV 0 1 D Y 1 (.a Y qW) D (c2 _ _) (AA h) this rfl))]
    exact J List.filter_nil (J (HL _) b)
 ·intro i l hl
  refine J pl ?_;replace hl:(S.Ao++[[S.Ao.length]])[i]? =some l:=hl
  by_cases q:i<S.Ao.length
  ·rw[Kl q]at hl
   exact Ft (I.A9 i l hl)
  ·rw[MB (by exact aA D Y 1 1 D Y (c2 _ _) (DR q) rfl)]at hl
   have:i-S.Ao.length=0:=by
    have:=(CP.mp hl).1
    simp at this;assumption
   rw[this]at hl;simp at hl;subst hl
   simp
 ·have:=I.us
  show(S.added nd wv dv cs).uses<=2*(S.nodes++[nd]).length
  simp;exact aH D (.m 2 (.a Y qW)) 1 1 D (.a qY qU) 1 qY (.m 2 Y) (c3 _ _ _) I9 this rfl
 ·have:=I.mz
  exact aH (.a (.a D (.m 21 Y)) qY) (.a qX (.n 21)) 1 21 Y (.a (.v 4) qW) 1 (.a (.a D (.m 21 (.v 4))) qY) qX (c5 _ _ _ _ _) (AA Cw) this rfl
 ·have:=I.ed
  exact aH (.a D Y) (.a qY qW) 1 1 Y (.a qX qW) 1 (.a D qX) qY (c4 _ _ _ _) (AA Cw) this rfl
 ·have:=I.mg
  exact aH (.a D Y) (.a qY qW) 1 1 Y (.a qX qW) 1 (.a D qX) qY (c4 _ _ _ _) (AA Cw) this rfl
 ·have:=I.fo
  exact aH (.a D Y) (.a qY qW) 1 1 Y (.a qX qW) 1 (.a D qX) qY (c4 _ _ _ _) (AA Cw) this rfl
 ·intro n x hx
  rcases ge n x hx with⟨h1,h3⟩|⟨h1,rfl⟩
  ·exact I.nd n x h3
  ·exact J h1 ⟨h2,hk,ok⟩
 ·intro p hp
  exact HN (I.kk p hp) fun x y m e1 e2 e3=>⟨x,y,m,e1,gr m y e2,by refine J hf ?_;exact e3⟩
 ·intro n x k hx US
  refine J hf ?_
  rcases ge n x hx with⟨h1,h3⟩|⟨h1,rfl⟩
  ·refine sub _ _ (eV I.low ?_) (I.ud n x k h3 US)
   have:=(I.nd n x h3).2.1 k US;have:=I.pn;lia
  ·have:S.f k∈cs:=(J0 _).mpr ⟨k,US,rfl⟩
   show n∈(if S.f k∈cs then _ else _)
   refine J (AS this) (G3 _ ?_);exact J h1 (J I.pn (.head _))
 ·intro c hc n hn
  refine J pl ?_;replace hn:n∈(if c∈cs then(if c=S.par.length then []else S.As c)++[S.par.length]else(if c=S.par.length then []else S.As c)):=hn;have old:n∈(if c=S.par.length then []else S.As c)->n<S.par.length+1:=fun h=>by
   set_option tactic.hygienic true in split at h
   ·exact nomatch h
   ·rename_i q
    refine Or.elim ((rt c).mp hc) (fun h1=>?_) fun h1=>?_
    ·exact Ba h1 q
    ·exact EF (I.ul c h1 n h)
  split at hn
  ·refine Or.elim (DA.mp hn) (fun h=>?_) fun h=>?_
   ·exact old h
   ·rw[Eb]at h;exact aA (.a D qW) (.a Y qW) 1 1 D Y (c2 _ _) (AA h) rfl
  ·exact old hn
 ·intro n hn
  exact J pl (EF (I.wt n hn))
 ·intro n x hx
  refine J hf ?_
  rcases ge n x hx with⟨h1,h3⟩|⟨h1,rfl⟩
  ·rcases I.comp n x h3 with h|h|h
   ·exact h.elim
   ·exact .inr (.inl h)
   ·exact .inr (.inr h)
  ·exact .inl h1
 ·exact J hf I.tl
 ·exact J hf (I.snd.more (fun i x h=>gr i x h) fun Z h=>h)
theorem nh(I:HI E F R (fun Z=>False) S)(hN:S.par.length∉cs)(hW:S.waiting=[])(hl:Look (S.added nd wv dv cs) S.par.length nd S3):S3.waiting=[]:=by
 rcases hl with⟨h1,rfl⟩|⟨m,h1,⟨h2,rfl⟩|⟨h2,k,g,BD,hg,rk,rg,ho,rfl⟩⟩
 ·exact hW
 ·exact hW
 ·refine An (I.EE (y:=nV (canon (find (S.added nd wv dv cs).par) nd)) h1) fun m' e hm=>?_
  have:=av e;subst this;have e1:find (S.added nd wv dv cs).par m=find S.par m:=bZ S.par m;have e2:find (S.added nd wv dv cs).par S.par.length=S.par.length:=(bZ S.par _).trans iL;rw[e1,e2]at ho;have:=cY I.low m;have YH:g=S.par.length:=by
   rcases ho with⟨a,b⟩|⟨a,b⟩
   ·exact b
   ·exact CW (az D Y 1 1 (.a qY qW) Y 1 D qX 1 qX qY (c4 _ _ _ _) hm (AA b) this rfl) (aH D Y 1 1 (.a qY qW) Y 1 D qY (c3 _ _ _) BD (AA a.symm) rfl)
  show S.waiting++(S.added nd wv dv cs).As g=[]
  refine J hW (J YH ?_);unfold HS.added;simp[hN]
noncomputable def HS.none:HS:=⟨[],[],[],[],[],[],[],fun Z=>[],[],[],[]⟩
theorem HI.none:HI 0 0 [] (fun Z=>False) HS.none where
 low a:=Bf _
 pn:=rfl
 pz:=DS _
 lp:=rfl
 wl:=rfl
 dl:=rfl
 Ao c h:=Ba h.1 (Gu _)
 A9 i l h:=by injection h
 us:=Bf _
 mz:=Bf _
 ed:=Bf _
 mg:=Bf _
 fo:=Bf _
 nd n x h:=by injection h
 kk p h:=by cases h
 ud n x k h:=by injection h
 ul c h:=Ba h.1 (Gu _)
 wt n h:=by cases h
 comp n x h:=by injection h
 tl p h:=by cases h
 snd:=fun g Z Z i j e=>by have:∀i,HS.none.f i=i:=fun i=>aT rfl;rw[this,this]at e;exact J e rfl
end
structure BY(e:Lb->Prop)(X:XM)(h:Lb->Prop)(U:u)(X':XM)(h':Lb->Prop)(Ac:u):Prop where
 lb:∀m:Lb,¬e m->U (X m)≠none->X' m=X m
 out:∀a o,U a=some o->(∀m,h m->a≠X m)->Ac a=some o
 al:∀a,U a≠none->Ac a≠none
 pl:∀m,h' m->(∃m',h m'/\X' m=X m')\/U (X' m)=none
theorem BY.refl{X:XM}:BY e X h U X h U:=⟨fun Z Z Z=>rfl,fun Z Z h Z=>h,fun Z h=>h,fun m h=> .inl ⟨m,h,rfl⟩⟩
theorem BY.trans{X X' Gp:XM}{S S' Ho:Lb->Prop}(h:BY e X S U X' S' Ac)(k:BY e X' S' Ac Gp Ho Bd):BY e X S U Gp Ho Bd where
 lb m i n:=by have e:=h.lb m i n;exact Rv e (k.lb m i (by exact J e (h.al _ n)))
 out a o e n:=k.out a o (h.out a o e n) fun m hm q=>by
  rcases h.pl m hm with⟨m',h1,h2⟩|h1
  ·exact n m' h1 (q.trans h2)
  ·have h1:=q.symm▸h1;have h1:=e▸h1;exact nomatch h1
 al a n:=k.al a (h.al a n)
 pl m hm:=by
  rcases k.pl m hm with⟨m',h1,h2⟩|h1
  ·exact J h2 (h.pl m' h1)
  ·exact .inr (by cases e:U (Gp m)with
    |none=>rfl
    |some o=>exact Ba h1 (h.al _ (by exact J e nofun)))
theorem BY.keep{X X':XM}{S S':Lb->Prop}(T:BY e X S U X' S' Ac)(h:U L=some o)(n:∀m,S m->X m≠L):Ac L=some o/\∀m,S' m->X' m≠L:=
 ⟨T.out L o h fun m hm e=>n m hm e.symm,fun m hm e=>by
  rcases T.pl m hm with⟨m',h1,h2⟩|h1
  ·exact n m' h1 (h2.symm.trans e)
  ·have h1:=e▸h1;have h1:=h▸h1;cases h1⟩
theorem BY.set{X:XM}{S S':Lb->Prop}(o:O)(h:S m)(hs:∀m,S' m->S m):BY e X S U X S' (U.set (X m) o) where
 lb _ _ _:=rfl
 out a x e n:=by exact J (u.Ad _ _ (n m h)) e
 al a n:=by
  by_cases e:a=X m
  ·exact J e (J (u.set_same _ _ _) nofun)
  ·exact J (u.Ad _ _ e) n
 pl m hm:=.inl ⟨m,hs m hm,rfl⟩
theorem BY.new{X:XM}{S S':Lb->Prop}(o:O)(hv:∀m,S m->U (X m)≠none)(h:U a=none)(hl:e l)(hs:∀m,S' m->m=l\/S m):BY e X S U (X.to l a) S' (U.set a o) where
 lb m i n:=XM.Bm X (fun q=>i (J q hl)) fun e=>n (by exact J e h)
 out b x e n:=by exact J (u.Ad _ _ (fun q=>by subst q;have e:=h▸e;injection e)) e
 al b n:=by exact J (u.Ad _ _ (fun q=>by subst q;exact n h)) n
 pl m hm:=by
  by_cases e:m=l
  ·exact J e (J (XM.Bq _ _ _) (.inr h))
  ·rcases hs m hm with h1|h1
   ·exact Ba h1 e
   ·exact J (XM.Bm X e (fun q=>hv m h1 (by rw[q];exact h))) (.inl ⟨m,h1,rfl⟩)
theorem BY.mono{X X':XM}{S S' g:Lb->Prop}(T:BY e X S U X' S' Ac)(h:∀m,e m->e' m)(hg:∀m,g m->¬e m/\U (X m)≠none):BY e' X (fun m=>S m\/g m) U X' (fun m=>S' m\/g m) Ac where
 lb m i n:=T.lb m (fun q=>i (h m q)) n
 out a o q n:=T.out a o q fun m hm=>n m (.inl hm)
 al:=T.al
 pl m hm:=by
  rcases hm with hm|hm
  ·rcases T.pl m hm with⟨m',h1,h2⟩|h1
   ·exact .inl ⟨m',.inl h1,h2⟩
   ·exact .inr h1
  ·exact .inl ⟨m,.inr hm,T.lb m (hg m hm).1 (hg m hm).2⟩
theorem Bi.Ja{X X':XM}{S S':HS}(T:Bi X S U X' S' Ac):BY (fun m=>¬m.fix) X S.has U X' S'.has Ac:=⟨fun m h=>T.lb m (Classical.not_not.mp h),T.out,T.al,T.pl⟩
structure WD(d:List (V×V))(p:List Nat):Prop where
 keys:∀x∈d,∃j,x.1=.int j
 at_:∀c:Nat,Az d (iV c)=if up p c=c then none else some (iV (up p c))
 len:d.length+BG p.length (fun c=>if up p c=c then 1 else 0)<=p.length
structure LS where
 p0:List Nat
 p1:List Nat
 r0:List V
 r1:List V
 turns:Nat
def LS.has:Lb->Prop
 | .l a=>below 6 a
 | .A0 k=>k<2
 | .way k=>k<2
 |_=>False
theorem LS.hc{P:Lb->Prop}(f:∀a,a<6->P (.l a))(t:∀k,k<2->P (.A0 k))(w:∀k,k<2->P (.way k))(m:Lb)(h:LS.has m):P m:=by
 cases m with
 |l a=>exact f a (ng h)
 |A0 k=>exact t k h
 |way k=>exact w k h
 |_=>exact Kt h
def B2:Lb->Prop
 | .way _=>True
 |_=>False
noncomputable def Jb(X:XM)(t:Nat):List (String×V):=[("heap",.ex (.ref (X .hi))),("beneath",.ex (.ref (X .beneath))),("told",.ex (.ref (X .told))),("ways",.ex (.ref (X .Bz))),("backs",.ex (.ref (X .B1))),("many",.int 2),("turns",.int t)]
structure aK(X:XM)(U:u)(qZ:LS):Prop where
 i:U (X .li)=some (.inst 629 (X .ld))
 d:U (X .ld)=some (.ns (Jb X qZ.turns))
 beneath:U (X .beneath)=some (.dict [(iV 0,.int (-1)),(iV 1,iV 0)])
 told:U (X .told)=some (.dict [(iV 0,.ex (.ref (X (.A0 0)))),(iV 1,.ex (.ref (X (.A0 1))))])
 Bz:U (X .Bz)=some (.dict [(iV 0,.ex (.ref (X (.way 0)))),(iV 1,.ex (.ref (X (.way 1))))])
 B1:U (X .B1)=some (.dict [(iV 0,iV 0),(iV 1,iV 0)])
 t0:U (X (.A0 0))=some (.list qZ.r0)
 t1:U (X (.A0 1))=some (.list qZ.r1)
 w0:∃d,U (X (.way 0))=some (.dict d)/\WD d qZ.p0
 w1:∃d,U (X (.way 1))=some (.dict d)/\WD d qZ.p1
theorem aK.val{X:XM}(H:aK X U qZ):∀m,LS.has m->U (X m)≠none:=fun m hm=>An H.w0 fun d0 h0 Z=>An H.w1 fun d1 h1 Z=>
 LS.hc (P:=fun m=>U (X m)≠none) (af (af (af (af (af (af lq (aU H.i)) (aU H.d)) (aU H.beneath)) (aU H.told)) (aU H.Bz)) (aU H.B1)) (af (af lq (aU H.t0)) (aU H.t1)) (af (af lq (aU h0)) (aU h1)) m hm
theorem aK.le{X:XM}(h:aK X U qZ)(k:U.le Ac):aK X Ac qZ:=
 ⟨k _ _ h.i,k _ _ h.d,k _ _ h.beneath,k _ _ h.told,k _ _ h.Bz,k _ _ h.B1,k _ _ h.t0,k _ _ h.t1,h.w0.imp fun d PL=>A5 PL fun a b=>⟨k _ _ a,b⟩,h.w1.imp fun d PM=>A5 PM fun a b=>⟨k _ _ a,b⟩⟩
theorem aK.move{X X':XM}(h:aK X U qZ)(e:∀m,LS.has m->X' m=X m)(e0:X' .hi=X .hi)(k:∀m o,LS.has m->U (X m)=some o->Ac (X m)=some o):aK X' Ac qZ:=by
 have z0:=e (.A0 0) (show 0<2 by exact EK _ _);have z1:=e (.A0 1) (show 1<2 by exact Bf _);have z2:=e (.way 0) (show 0<2 by exact EK _ _);have z3:=e (.way 1) (show 1<2 by exact Bf _);refine An h.w0 fun d0 a0 b0=>An h.w1 fun d1 a1 b1=>⟨?_,?_,?_,?_,?_,?_,?_,?_,⟨d0,?_,b0⟩,⟨d1,?_,b1⟩⟩
 all_goals simp only[Jb,e .li Al,e .ld Al,e .beneath Al,e .told Al,e .Bz Al,e .B1 Al,z0,z1,z2,z3,e0]
 ·exact k .li _ Al h.i
 ·exact k .ld _ Al h.d
 ·exact k .beneath _ Al h.beneath
 ·exact k .told _ Al h.told
 ·exact k .Bz _ Al h.Bz
 ·exact k .B1 _ Al h.B1
 ·exact k (.A0 0) _ (show 0<2 by exact EK _ _) h.t0
 ·exact k (.A0 1) _ (show 1<2 by exact Bf _) h.t1
 ·exact k (.way 0) _ (show 0<2 by exact EK _ _) a0
 ·exact k (.way 1) _ (show 1<2 by exact Bf _) a1
theorem aK.GR{X X':XM}{S S':HS}(h:aK X U qZ)(hX:Inj X)(H:Af X U S)(T:Bi X S U X' S' Ac):aK X' Ac qZ:=by
 refine h.move (fun m hm=>T.lb m ?_ (h.val m hm)) (T.lb .hi Al (H.val .hi Al)) fun m o hm e=>T.out _ o e fun m' Fx q=>?_
 ·cases m<;>first|trivial|exact hm.elim
 ·have:=hX _ _ q
  subst this
  cases m<;>first|exact hm.elim|exact Fx.elim
theorem Af.move{X X':XM}{S:HS}(H:Af X U S)(e:∀m,S.has m->X' m=X m)(k:∀m o,S.has m->U (X m)=some o->Ac (X m)=some o):Af X' Ac S:=by
 obtain⟨h1,h2,⟨b1,b2,b3,b4,b5,b6⟩,⟨u1,u2,u3,u4,u5,u6⟩,h3,h4,h5,⟨l',h6,Eg⟩,h7,h8⟩:=H;refine⟨?_,?_,⟨?_,?_,?_,?_,?_,?_⟩,⟨?_,?_,?_,?_,fun i x q=>?_,?_⟩,?_,?_,?_,⟨l',?_,⟨Eg.1,Eg.2,fun c r=>?_⟩⟩,fun c r=>?_,?_⟩
 case refine_13=>
  refine J (e (.A9 i) (CP.mp q).1) ?_;exact k (.A9 i) _ (CP.mp q).1 (u5 i x q)
 case refine_12=>
  refine J (e .Ao Al) (J (show(List.range S.Ao.length).map (fun i=>V.ex (.ref (X' (.A9 i))))=(List.range S.Ao.length).map (fun i=>V.ex (.ref (X (.A9 i))))from HH fun i hi=>by rw[e (.A9 i) (G5.mp hi)]) ?_);exact k .Ao _ Al u4
 case refine_19=>exact J (e (.use c) r) (Eg.3 c r)
 case refine_20=>exact J (e (.use c) r) (k (.use c) _ r (h7 c r))
 all_goals simp only[Fy,IY,IZ,e .hi Al,e .hd Al,e .bi Al,e .bd Al,e .nodes Al,e .AJ Al,e .AR Al,e .Bh Al,e .ui Al,e .ud Al,e .par Al,
  e .Ao Al,e .merged Al,e .AF Al,e .AQ Al,e .known Al,e .above Al,e .waiting Al]
 ·exact k .hi _ Al h1
 ·exact k .hd _ Al h2
 ·exact k .bi _ Al b1
 ·exact k .bd _ Al b2
 ·exact k .nodes _ Al b3
 ·exact k .AJ _ Al b4
 ·exact k .AR _ Al b5
 ·exact k .Bh _ Al b6
 ·exact k .ui _ Al u1
 ·exact k .ud _ Al u2
 ·exact k .par _ Al u3
 ·exact k .merged _ Al u6
 ·exact k .AF _ Al h3
 ·exact k .AQ _ Al h4
 ·exact k .known _ Al h5
 ·exact k .above _ Al h6
 ·exact k .waiting _ Al h8
theorem Af.Ja{X X':XM}{S:HS}(H:Af X U S)(hX:Inj X)(he:∀m,S.has m->¬e m)(T:BY e X LS.has U X' h' Ac):Af X' Ac S:=by
 refine H.move (fun m hm=>T.lb m (he m hm) (H.val m hm)) fun m o hm q=>T.out _ o q fun m' Fx z=>?_;have:=hX _ _ z;subst this
 cases m<;>first|exact hm.elim|exact Fx.elim
section
noncomputable def LS.p(qZ:LS):Nat->List Nat
 |0=>qZ.p0
 |_=>qZ.p1
noncomputable def LS.G(qZ:LS)(c:Nat):Nat->Nat
 |0=>c
 |k+1=>find (qZ.p k) (qZ.G c k)
noncomputable def LS.F(qZ:LS)(S:HS)(l:Nat)(n:Nat):Nat:=qZ.G (S.f n) (l+1)
noncomputable def LS.B(qZ:LS)(S:HS)(l:Nat)(n:Nat):Nat:=qZ.G (S.f n) l
structure Cq(qZ:LS)(N:Nat):Prop where
 l0:Dc qZ.p0
 l1:Dc qZ.p1
 n0:qZ.p0.length=N
 n1:qZ.p1.length=N
theorem Cq.low{N:Nat}(h:Cq qZ N):∀k,Dc (qZ.p k)
 |0=>h.l0
 |_+1=>h.l1
theorem Cq.len{N:Nat}(h:Cq qZ N):∀k,(qZ.p k).length=N
 |0=>h.n0
 |_+1=>h.n1
theorem LS.UT{N:Nat}(h:Cq qZ N)(c:Nat)(k:Nat):qZ.G c k<=c:=by
 induction k with
 |zero=>exact Bf _
 |succ k ih=>exact AG (cY (h.low k) _) ih
noncomputable def LS.Cy(qZ:LS)(l:Nat)(p:List Nat):LS:=match l with
 |0=>{qZ with p0:=p}
 |_=>{qZ with p1:=p}
theorem LS.Me{qZ:LS}{l:Nat}{p:List Nat}:(qZ.Cy l p).p l=p:=by cases l<;>rfl
theorem LS.Mf{qZ:LS}{l:Nat}(hl:l<2){p:List Nat}{c:Nat}:∀{k:Nat},k<=l->(qZ.Cy l p).G c k=qZ.G c k
 |0,_=>rfl
 |k+1,h=>by
  have h1:k=0/\l=1:=by exact⟨CW (aH D qV 1 1 (.a D qW) Y 1 (.a Y qW) qU (c2 _ _) h hl rfl) (bP qV D 1 (c1 _) rfl),CW (aA D qW 1 1 (.a D qW) qU (c1 _) hl rfl) (aA qW D 1 1 (.a Y qW) D (c2 _ _) h rfl)⟩
  refine A5 h1 fun Fh Ct=>?_;clear h1;refine J Fh (J Ct ?_);rfl
theorem LS.Jc{qZ:LS}{S:HS}{l:Nat}(hl:l<2){p:List Nat}{n:Nat}:(qZ.Cy l p).F S l n=find p (qZ.B S l n):=by
 show find ((qZ.Cy l p).p l) ((qZ.Cy l p).G (S.f n) l)=_
 refine J LS.Me (J (LS.Mf hl (Bf _)) ?_);rfl
theorem Cq.Cy{N l:Nat}(h:Cq qZ N)(a:Dc p)(b:p.length=N):Cq (qZ.Cy l p) N:=by
 cases l with
 |zero=>exact⟨a,h.l1,b,h.n1⟩
 |succ l=>exact⟨h.l0,a,h.n0,b⟩
noncomputable def LS.join(qZ:LS)(S:HS)(l a b:Nat):LS:=if qZ.F S l a=qZ.F S l b then qZ else qZ.Cy l ((qZ.p l).set (max (qZ.F S l a) (qZ.F S l b)) (min (qZ.F S l a) (qZ.F S l b)))
section
variable{S:HS}{R:List (Nat×Nat)}
theorem LS.Fi{N:Nat}(K:Cq qZ N)(n:Nat):up (qZ.p l) (qZ.F S l n)=qZ.F S l n:=bR (K.low l) _
theorem LS.Hx{N:Nat}(h:Dc S.par)(K:Cq qZ N)(n:Nat):qZ.F S l n<=n:=AG (LS.UT K _ _) (cY h n)
theorem LS.Jd{N:Nat}(hl:l<2)(h:Dc S.par)(K:Cq qZ N)(ha:a<N)(hb:b<N):(qZ.join S l a b).F S l=jn (qZ.F S l) a b:=by
 unfold LS.join
 by_cases e:qZ.F S l a=qZ.F S l b
 ·refine J (AS e) (J (p7 e) ?_);rfl
 ·refine J (AK e) ?_
  funext n
  refine J (LS.Jc hl) ?_;have h1:=LS.Hx (l:=l) h K a;have h2:=LS.Hx (l:=l) h K b;have r1:=LS.Fi (S:=S) (l:=l) K a;have r2:=LS.Fi (S:=S) (l:=l) K b;rw[d7 (K.low l) (by exact J (K.len _) (Nk.mpr ⟨Dj h1 ha,Dj h2 hb⟩)) (by first|exact dz e|lia) (by rcases Jo (qZ.F S l a) (qZ.F S l b)with q|q;(exact J (JH q) r2);(exact J (JJ q) r1))
   (by rcases Jo (qZ.F S l a) (qZ.F S l b)with q|q;(exact J (JI q) r1);(exact J (JG q) r2))]
  rfl
theorem Cq.join{N:Nat}(h:Dc S.par)(K:Cq qZ N)(ha:a<N)(hb:b<N):Cq (qZ.join S l a b) N:=by
 unfold LS.join
 split
 ·exact K
 ·have h1:=LS.Hx (l:=l) h K a
  have h2:=LS.Hx (l:=l) h K b;exact K.Cy (lN (K.low l) (by exact J (K.len _) (Nk.mpr ⟨Dj h1 ha,Dj h2 hb⟩)) (aH D Y 1 1 D qY 1 qY Y (c3 _ _ _) (Nat.min_le_right _ _) (Nat.le_max_right _ _) rfl)) (by exact J Sw (K.len l))
theorem cJ(N c:Nat):up (List.range N) c=c:=by
 unfold up;refine J (Er) ?_
 by_cases h:c<N
 ·exact J (Nq h) rfl
 ·exact J (List.getElem?_eq_none (by simp;exact aA D Y 1 1 D Y (c2 _ _) (Nat.le_of_not_lt h) rfl)) rfl
theorem r8(N:Nat):BG N (fun Z=>1)=N:=by
 induction N with
 |zero=>rfl
 |succ N ih=>exact AL (· +1) ih
structure bH(l:Nat)(qZ Y':LS):Prop where
 p:∀k,k<2->k≠l->Y'.p k=qZ.p k
 r0:Y'.r0=qZ.r0
 r1:Y'.r1=qZ.r1
 turns:Y'.turns=qZ.turns
theorem bH.refl(l:Nat)(qZ:LS):bH l qZ qZ:=⟨fun Z Z Z=>rfl,rfl,rfl,rfl⟩
theorem bH.trans(h:bH l Y1 Y2)(k:bH l Y2 Y3):bH l Y1 Y3:=⟨fun i h1 h2=>(k.p i h1 h2).trans (h.p i h1 h2),k.r0.trans h.r0,k.r1.trans h.r1,k.turns.trans h.turns⟩
theorem bH.Cy(hl:l<2)(p:List Nat):bH l qZ (qZ.Cy l p):=by
 rcases CF hl with rfl|rfl
 ·exact⟨fun k h1 h2=>by
   have:k=1:=by exact CW (aA D qW 1 1 (.a D qW) qU (c1 _) h1 rfl) (aA qW D 1 1 (.a qV qW) D (c1 _) (DF (bP qV D 1 (c1 _) rfl) (Ne.symm h2)) rfl)
   subst this;rfl,rfl,rfl,rfl⟩
 ·exact⟨fun k h1 h2=>by
   have:k=0:=by exact CW (aA D qV 1 1 (.a D qW) qW (c1 _) (DF (aA D qW 1 1 (.a D qW) qU (c1 _) h1 rfl) h2) rfl) (bP qV D 1 (c1 _) rfl)
   subst this;rfl,rfl,rfl,rfl⟩
theorem bH.join(hl:l<2):bH l qZ (qZ.join S l a b):=by
 unfold LS.join
 split
 ·exact .refl _ _
 ·exact .Cy hl _
noncomputable def cls(N:Nat)(f:Nat->Nat):Nat:=BG N fun n=>if f n=n then 1 else 0
theorem pG{N:Nat}(h:Pt f)(ha:a<N)(hb:b<N)(e:f a≠f b):cls N (jn f a b)<cls N f:=by
 unfold cls;have h1:=h.le a;have h2:=h.le b;have hg:max (f a) (f b)<N:=Nk.mpr ⟨Dj h1 ha,Dj h2 hb⟩;have fm:f (max (f a) (f b))=max (f a) (f b):=by
  refine Or.elim (Jo (f a) (f b)) (fun q=>?_) fun q=>?_
  ·refine J (JH q) (J (h.idem _) ?_);rfl
  ·refine J (JJ q) (J (h.idem _) ?_);rfl
 have:=eK (f:=fun n=>if f n=n then 1 else 0) (f':=fun n=>if jn f a b n=n then 1 else 0) hg (fun c hc=>by
  have e3:jn f a b c=c↔f c=c:=by
   unfold jn;constructor
   ·intro q
    set_option tactic.hygienic true in split at q
    ·rename_i z
     have:=h.le c
     rcases Jo (f a) (f b)with w|w
     ·rw[JI w]at q;exact Rv q (J (h.idem _) rfl)
     ·rw[JG w]at q;exact Rv q (J (h.idem _) rfl)
    ·exact q
   ·intro q
    exact J (AK (by rw[q];exact hc)) q
  simp only[e3]) (by
  rw[AK];unfold jn;refine J (AS fm) ?_;exact dz e)
 simp only[fm,if_true]at this;exact aA (.a D qW) Y 1 1 (.a D qW) Y (c2 _ _) (AA this) rfl
end
structure Gq(rows:List V)(R:List (Nat×Nat)):Prop where
 len:rows.length=R.length
 at_:∀(i:Nat) (v:V),rows[i]? =some v->∃a b x y,R[i]? =some (a,b)/\v=.tup [iV a,iV b,x,y]
theorem Gq.snoc{R:List (Nat×Nat)}(h:Gq rows R)(a b:Nat)(x y:V):Gq (rows++[.tup [iV a,iV b,x,y]]) (R++[(a,b)]) where
 len:=by simp[h.len]
 at_ i v hv:=by
  by_cases q:i<rows.length
  ·rw[Kl q]at hv
   exact VS (h.at_ i v hv) fun a' b' x' y' h1 h2=>⟨a',b',x',y',by refine J (Kl (by rw[<- h.len];exact q)) ?_;exact h1,h2⟩
  ·rw[MB (by exact aA D Y 1 1 D Y (c2 _ _) (DR q) rfl)]at hv
   have:i-rows.length=0:=by
    have:=(CP.mp hv).1
    simp at this;assumption
   rw[this]at hv;simp at hv;refine⟨a,b,x,y,?_,hv.symm⟩;refine J (MB (by rw[<- h.len];exact aA D Y 1 1 (.a qY D) Y (c3 _ _ _) (AA (Ds (aA D Y 1 1 D Y (c2 _ _) (DR q) rfl))) rfl)) ?_;refine Rv h.len (J this ?_);rfl
structure cU(ns:List Node)(R:List (Nat×Nat))(DQ f:Nat->Nat)(kn:List (V×V))(t:Bool)(k:Nat):Prop where
 pt:Pt f
 snd:Eo ns R f
 mono:∀i j,DQ i=DQ j->f i=f j
 kk:∀p∈kn,∃(x y:Node) (m:Nat),p=(nV x,iV m)/\m<ns.length/\ns[m]? =some y/\canon f x=canon f y
 len:kn.length<=k
 quiet:t=false->f=DQ/\∀(n:Nat) (x:Node),n<k->ns[n]? =some x->∃m,Az kn (nV (canon f x))=some (iV m)/\f m=f n
 loud:t=true->cls ns.length f<cls ns.length DQ
section
variable{X:XM}
theorem aK.PN(H:aK X U qZ)(hl:l<2):∃d,U (X (.way l))=some (.dict d)/\WD d (qZ.p l):=by
 rcases CF hl with rfl|rfl
 ·exact H.w0
 ·exact H.w1
theorem aK.apart(H:aK X U qZ)(h:U L=none):∀m,LS.has m->X m≠L:=fun m hm e=>H.val m hm (J e h)
theorem aK.other(H:aK X U qZ)(h:∀m,LS.has m->X m≠b):aK X (U.set b o) qZ:=H.move (fun Z Z=>rfl) rfl fun m o hm e=>(u.Ad _ _ (h m hm)).trans e
theorem tI{X:XM}(hl:l<2):Az [(iV 0,V.ex (.ref (X (.way 0)))),(iV 1,.ex (.ref (X (.way 1))))] (iV l)=some (.ex (.ref (X (.way l)))):=by
 rcases CF hl with rfl|rfl
 ·simp[Az]
 ·simp[Az]
theorem mc{X:XM}(hl:l<2):Az [(iV 0,V.ex (.ref (X (.A0 0)))),(iV 1,.ex (.ref (X (.A0 1))))] (iV l)=some (.ex (.ref (X (.A0 l)))):=by
 rcases CF hl with rfl|rfl
 ·simp[Az]
 ·simp[Az]
theorem ax{Aa v:V}:∀p∈[(iV 0,Aa),(iV 1,v)],∃j,p.1=V.int j:=fun p hp=>by
 rcases BP.mp hp with rfl|hp
 ·exact⟨_,rfl⟩
 ·rcases BP.mp hp with rfl|hp
  ·exact⟨_,rfl⟩
  ·cases hp
theorem aK.Kd(H:aK X U qZ)(hX:Inj X){l:Nat}(hl:l<2){d:List (V×V)}{p:List Nat}(W:WD d p):aK X (U.set (X (.way l)) (.dict d)) (qZ.Cy l p):=by
 obtain⟨h1,h2,h3,h4,h5,h6,h7,h8,⟨d0,h9,W0⟩,⟨d1,Lh,W1⟩⟩:=H;have ne:∀m:Lb,m≠ .way l->X m≠X (.way l):=fun m h=>hX.ne h
 rcases CF hl with rfl|rfl
 ·exact⟨(u.Ad _ _ (ne _ (by intro e;injection e))).trans h1,(u.Ad _ _ (ne _ (by intro e;injection e))).trans h2,(u.Ad _ _ (ne _ (by intro e;injection e))).trans h3,(u.Ad _ _ (ne _ (by intro e;injection e))).trans h4,(u.Ad _ _ (ne _ (by intro e;injection e))).trans h5,(u.Ad _ _ (ne _ (by intro e;injection e))).trans h6,
   (u.Ad _ _ (ne _ (by intro e;injection e))).trans h7,(u.Ad _ _ (ne _ (by intro e;injection e))).trans h8,⟨d,u.set_same _ _ _,W⟩,⟨d1,(u.Ad _ _ (ne _ (by intro e;cases e))).trans Lh,W1⟩⟩
 ·exact⟨(u.Ad _ _ (ne _ (by intro e;injection e))).trans h1,(u.Ad _ _ (ne _ (by intro e;injection e))).trans h2,(u.Ad _ _ (ne _ (by intro e;injection e))).trans h3,(u.Ad _ _ (ne _ (by intro e;injection e))).trans h4,(u.Ad _ _ (ne _ (by intro e;injection e))).trans h5,(u.Ad _ _ (ne _ (by intro e;injection e))).trans h6,
   (u.Ad _ _ (ne _ (by intro e;injection e))).trans h7,(u.Ad _ _ (ne _ (by intro e;injection e))).trans h8,⟨d0,(u.Ad _ _ (ne _ (by intro e;cases e))).trans h9,W0⟩,⟨d,u.set_same _ _ _,W⟩⟩
theorem WD.put(W:WD d p)(hg:g<p.length)(BD:k≠g)(rg:up p g=g):WD (dput d (iV g) (iV k)) (p.set g k) where
 keys:=bB (P:=fun x=>∃j,x=V.int j) ⟨_,rfl⟩ W.keys
 at_ c:=by
  refine J ay (J (cb hg _) ?_)
  by_cases e:c=g
  ·refine J e (J (AS rfl) (J (AS rfl) (J (AK BD) ?_)));rfl
  ·exact J (AK (fun h=>e (av h))) (J (AK e) (W.at_ c))
 len:=by
  have h1:=eK (f:=fun c=>if up p c=c then 1 else 0) (f':=fun c=>if up (p.set g k) c=c then 1 else 0) hg (fun c hc=>by simp only[cb hg,if_neg hc]) (by simp only[cb hg,if_true];exact J (if_neg BD) rfl)
  simp only[rg,if_true]at h1;have h2:(dput d (iV g) (iV k)).length<=d.length+1:=aY;have h3:=W.len;exact J Sw (az (.a D Y) qY 1 1 (.a Y qW) qX 1 D (.a (.v 4) qW) 1 (.a (.v 4) qX) qY (c5 _ _ _ _ _) (AA h1) h2 h3 rfl)
theorem WD.fresh(N:Nat):WD [] (List.range N) where
 keys x h:=nomatch h
 at_ c:=by exact J (AS (cJ N c)) rfl
 len:=by refine J Ek ?_;have:=eQ (n:=N) (f:=fun c=>if up (List.range N) c=c then 1 else 0) (g:=fun c=>1) (fun c Z=>by split;exact Bf _;exact DS _);have h2:BG N (fun Z=>1)=N:=r8 N;simp only[List.length_nil,Nat.zero_add];exact aH D Y 1 1 D qY 1 qY Y (c3 _ _ _) this (AA h2) rfl
end
section
variable{R:List (Nat×Nat)}
theorem cU.start(h:Pt f)(s:Eo ns R f):cU ns R f f [] false 0:=⟨h,s,fun Z Z e=>e,(fun Z h=>nomatch h),Bf _,fun Z=>⟨rfl,fun n x h=>Ba h (Gu _)⟩,nofun⟩
theorem cU.get(P:cU ns R DQ f kn t k)(h:Az kn y=some v):∃m:Nat,v=iV m/\m<ns.length:=by
 refine An (bD h) fun i Z h=>HN (P.kk _ (BW h)) fun x z m e1 e2 Z=>?_
 cases e1;exact⟨m,rfl,e2⟩
theorem cU.UU(P:cU ns R DQ f kn t k)(hx:ns[k]? =some x)(h:Az kn (nV (canon f x))=some (iV m)):Dz ns R m k:=by
 refine An (bD h) fun i Z h=>Kv (P.kk _ (BW h)) fun x0 y m' e1 Z e2 e3=>?_;injection e1 with e4 e5
 have:=av e5;refine J this ?_;have e6:=fP e4;subst e6;exact Dz.Ma P.snd e2 hx (e3.symm.trans (canon_canon P.pt.idem x))
theorem cU.new(P:cU ns R DQ f kn t k)(hx:ns[k]? =some x)(h:Az kn (nV (canon f x))=none):cU ns R DQ f (dput kn (nV (canon f x)) (iV k)) t (k+1) where
 pt:=P.pt
 snd:=P.snd
 mono:=P.mono
 kk p hp:=by
  rw[bL (bU h)]at hp
  rcases DA.mp hp with hp|hp
  ·exact P.kk p hp
  ·rw[Eb]at hp;refine J hp ?_
   exact⟨canon f x,x,k,rfl,(CP.mp hx).1,hx,canon_canon P.pt.idem x⟩
 len:=AG aY (JF P.len)
 quiet ht:=by
  refine A5 (P.quiet ht) fun h1 h2=>⟨h1,fun n x' hn CM=>?_⟩
  refine J ay ?_
  by_cases e:n=k
  ·subst e
   have CM:=hx▸CM;obtain rfl:=BC CM;exact⟨n,by exact J (AS rfl) rfl,rfl⟩
  ·obtain⟨m,h3,h4⟩:=h2 n x' (by exact aA (.a D qW) Y 1 1 (.a D qW) Y (c2 _ _) (DF (aA D Y 1 1 (.a D qW) (.a Y qW) (c2 _ _) hn rfl) e) rfl) CM
   refine⟨m,?_,h4⟩
   by_cases q:nV (canon f x')=nV (canon f x)
   ·rw[q]at h3;exact Ba (h.symm.trans h3) nofun
   ·exact J (AK q) h3
 loud:=P.loud
theorem cU.old(P:cU ns R DQ f kn t k)(hx:ns[k]? =some x)(h:Az kn (nV (canon f x))=some (iV m))(e:f m=f k):cU ns R DQ f kn t (k+1) where
 pt:=P.pt
 snd:=P.snd
 mono:=P.mono
 kk:=P.kk
 len:=Ft P.len
 quiet ht:=by
  refine A5 (P.quiet ht) fun h1 h2=>⟨h1,fun n x' hn CM=>?_⟩
  by_cases q:n=k
  ·subst q
   have CM:=hx▸CM;obtain rfl:=BC CM;exact⟨m,h,e⟩
  ·exact h2 n x' (by exact aA (.a D qW) Y 1 1 (.a D qW) Y (c2 _ _) (DF (aA D Y 1 1 (.a D qW) (.a Y qW) (c2 _ _) hn rfl) q) rfl) CM
 loud:=P.loud
theorem cU.join(P:cU ns R DQ f kn t k)(hx:ns[k]? =some x)(hm:m<ns.length)(h:Az kn (nV (canon f x))=some (iV m))(e:f m≠f k):cU ns R DQ (jn f m k) kn true (k+1) where
 pt:=P.pt.jn _ _
 snd:=P.snd.jn P.pt (P.UU hx h)
 mono i j q:=b9 (P.mono i j q)
 kk p hp:=by exact Kv (P.kk p hp) fun x y m' e1 e2 e3 e4=>⟨x,y,m',e1,e2,e3,dL (fun i j q=>b9 q) e4⟩
 len:=Ft P.len
 quiet:=nofun
 loud _:=by
  have h1:=pG P.pt hm (CP.mp hx).1 e
  cases t with
  |false=>refine A5 (P.quiet rfl) fun h2 Z=>?_;exact Rv h2 h1
  |true=>exact EL h1 (P.loud rfl)
theorem cU.done(P:cU ns R DQ f kn false ns.length):f=DQ/\Cl ns f:=by
 refine A5 (P.quiet rfl) fun h1 h2=>⟨h1,fun i j x y hx hy e=>?_⟩
 refine An (h2 i x (CP.mp hx).1 hx) fun m a b=>?_;refine An (h2 j y (CP.mp hy).1 hy) fun m' c d=>?_;rw[e,c]at a;injection a with a
 refine Rv b (Rv d (J (av a) ?_));rfl
end
end
theorem dy(l:List Node):∃m:List Node,m.Nodup/\∀x,x∈m↔x∈l:=by
 induction l with
 |nil=>exact⟨[],FG,fun Z=>Iff.rfl⟩
 |cons a l ih=>
  refine An ih fun m h1 h2=>?_;clear ih
  by_cases e:a∈m
  ·exact⟨m,h1,fun x=>(h2 x).trans ⟨.tail _,fun h=>(BP.mp h).elim (fun q=>q▸(h2 a).mp e) id⟩⟩
  ·exact⟨a::m,CQ.mpr ⟨e,h1⟩,fun x=>by rw[BP,BP,h2]⟩
noncomputable def UW(l:List Node):List Node:=Classical.choose (dy l)
theorem j3(l:List Node):(UW l).Nodup:=(Classical.choose_spec (dy l)).1
theorem v8:x∈UW l↔x∈l:=(Classical.choose_spec (dy l)).2 x
noncomputable def Dh(ns:List Node)(F:Nat->Nat)(c:Nat):List Node:=UW ((ns.zipIdx.filter fun p=>decide (F p.2=c)).map fun p=>canon F p.1)
theorem k8{F:Nat->Nat}:y∈Dh ns F c↔∃n x,ns[n]? =some x/\F n=c/\y=canon F x:=by
 unfold Dh;rw[v8,BF];constructor
 ·intro FL
  obtain⟨⟨x,n⟩,h,rfl⟩:=FL;rw[JO]at h;exact⟨n,x,List.mem_zipIdx_iff_getElem?.mp h.1,by simpa using h.2,rfl⟩
 ·intro Hi
  obtain⟨n,x,h1,h2,rfl⟩:=Hi;exact⟨(x,n),List.mem_filter.mpr ⟨List.mem_zipIdx_iff_getElem?.mpr h1,by simpa using h2⟩,rfl⟩
theorem nO{ns:List Node}{F:Nat->Nat}{c:Nat}{ys:List Node}(h:ys.Nodup)(k:∀y,y∈ys↔∃n x,ns[n]? =some x/\F n=c/\y=canon F x):ys.Perm (Dh ns F c):=
 (List.perm_ext_iff_of_nodup h (j3 _)).mpr fun y=>by rw[k];exact k8.symm
noncomputable def R0(ks:List Nat):Nat:=if ks=[]then 1 else 0
noncomputable def R1(L:Nat->List Node):List Nat->Nat
 |[c]=>((L c).map fun nd=>R0 nd.2).sum
 |_=>0
noncomputable def R2(L:Nat->List Node):List Nat->Nat
 |[c]=>((L c).map fun nd=>R1 L nd.2).sum
 |[c,d]=>R1 L [c]*R1 L [d]
 |_=>0
noncomputable def R3(L:Nat->List Node):List Nat->Nat
 |[c]=>((L c).map fun nd=>R2 L nd.2).sum
 |_=>0
noncomputable def cw(L:Nat->List Node):Nat->List Nat->Nat
 |0=>R0
 |1=>R1 L
 |2=>R2 L
 |_=>R3 L
theorem eB{a b:List Node}(h:a.Perm b)(f:Node->Nat):(a.map f).sum=(b.map f).sum:=(h.map f).sum_nat
theorem vS(l:List Node)(f:Node->Nat):(l.map fun x=>((f x:Nat):Int)).sum=((l.map f).sum:Nat):=by
 induction l with
 |nil=>rfl
 |cons a l ih=>refine J Ec (J Ec (J Sx (J Sx (J ih (?_)))));lia
noncomputable def GS(L:Nat->List Node)(c:Nat):Nat:=((L c).map fun nd=>if nd.2.length=0 then 1 else 0).sum
noncomputable def M0(L:Nat->List Node)(c:Nat):Nat:=((L c).map fun nd=>match nd.2 with|[k]=>GS L k|_=>0).sum
noncomputable def PO(L:Nat->List Node)(c:Nat):Nat:=((L c).map fun nd=>match nd.2 with|[k]=>M0 L k|[j,k]=>GS L j*GS L k|_=>0).sum
theorem gn(L:Nat->List Node)(c:Nat):GS L c=R1 L [c]:=by
 unfold GS R1 R0
 congr 1
 refine HH fun nd Z=>?_
 cases nd.2<;>simp
theorem tR(L:Nat->List Node)(c:Nat):M0 L c=R2 L [c]:=by
 unfold M0 R2
 congr 1
 refine HH fun nd Z=>?_
 match nd.2 with
 |[]=>rfl
 |[k]=>exact gn L k
 |_::_::_=>rfl
theorem yN(L:Nat->List Node)(c:Nat)(h:∀nd∈L c,nd.2.length<=2):PO L c=R3 L [c]:=by
 unfold PO R3
 congr 1
 refine HH fun nd DW=>?_;have:=h nd DW
 match e:nd.2,this with
 |[],_=>rfl
 |[k],_=>exact tR L k
 |[j,k],_=>show GS L j*GS L k=R1 L [j]*R1 L [k];exact J (gn _ _) (J (gn _ _) rfl)
 |a::b::c::l,h=>simp at h
section
noncomputable def LS.r(qZ:LS):Nat->List V
 |0=>qZ.r0
 |_=>qZ.r1
section
variable{X:XM}
theorem aK.Fj(H:aK X U qZ)(hl:l<2):U (X (.A0 l))=some (.list (qZ.r l)):=by
 rcases CF hl with rfl|rfl
 ·exact H.t0
 ·exact H.t1
theorem aK.Hy(H:aK X U qZ)(hX:Inj X)(n:Nat):aK X (U.set (X .ld) (.ns (Jb X n))) {qZ with turns:=n}:=by
 obtain⟨h1,h2,h3,h4,h5,h6,h7,h8,⟨d0,h9,W0⟩,⟨d1,Lh,W1⟩⟩:=H;have ne:∀m:Lb,m≠ .ld->X m≠X .ld:=fun m h=>hX.ne h;exact⟨(u.Ad _ _ (AH hX rfl)).trans h1,u.set_same _ _ _,(u.Ad _ _ (AH hX rfl)).trans h3,(u.Ad _ _ (AH hX rfl)).trans h4,(u.Ad _ _ (AH hX rfl)).trans h5,(u.Ad _ _ (AH hX rfl)).trans h6,
  (u.Ad _ _ (AH hX rfl)).trans h7,(u.Ad _ _ (AH hX rfl)).trans h8,⟨d0,(u.Ad _ _ (AH hX rfl)).trans h9,W0⟩,⟨d1,(u.Ad _ _ (AH hX rfl)).trans Lh,W1⟩⟩
noncomputable def LS.tell(qZ:LS)(l:Nat)(v:V):LS:=match l with
 |0=>{qZ with r0:=qZ.r0++[v]}
 |_=>{qZ with r1:=qZ.r1++[v]}
theorem aK.Je(H:aK X U qZ)(hX:Inj X)(hl:l<2)(v:V):aK X (U.set (X (.A0 l)) (.list (qZ.r l++[v]))) (qZ.tell l v):=by
 obtain⟨h1,h2,h3,h4,h5,h6,h7,h8,⟨d0,h9,W0⟩,⟨d1,Lh,W1⟩⟩:=H;have ne:∀m:Lb,m≠ .A0 l->X m≠X (.A0 l):=fun m h=>hX.ne h
 rcases CF hl with rfl|rfl
 ·exact⟨(u.Ad _ _ (AH hX rfl)).trans h1,(u.Ad _ _ (AH hX rfl)).trans h2,(u.Ad _ _ (AH hX rfl)).trans h3,(u.Ad _ _ (AH hX rfl)).trans h4,(u.Ad _ _ (AH hX rfl)).trans h5,(u.Ad _ _ (AH hX rfl)).trans h6,
  u.set_same _ _ _,(u.Ad _ _ (ne _ (by intro e;cases e))).trans h8,⟨d0,(u.Ad _ _ (AH hX rfl)).trans h9,W0⟩,⟨d1,(u.Ad _ _ (AH hX rfl)).trans Lh,W1⟩⟩
 ·exact⟨(u.Ad _ _ (AH hX rfl)).trans h1,(u.Ad _ _ (AH hX rfl)).trans h2,(u.Ad _ _ (AH hX rfl)).trans h3,(u.Ad _ _ (AH hX rfl)).trans h4,(u.Ad _ _ (AH hX rfl)).trans h5,(u.Ad _ _ (AH hX rfl)).trans h6,
  (u.Ad _ _ (ne _ (by intro e;cases e))).trans h7,u.set_same _ _ _,⟨d0,(u.Ad _ _ (AH hX rfl)).trans h9,W0⟩,⟨d1,(u.Ad _ _ (AH hX rfl)).trans Lh,W1⟩⟩
theorem aK.Fm(H:aK X U qZ)(hX:Inj X)(hl:l<2)(hb:U b=none)(hv:U (X .hi)≠none)(N:Nat):aK (X.to (.way l) b) ((U.set b (.dict [])).set (X .Bz) (.dict (dput [(iV 0,V.ex (.ref (X (.way 0)))),(iV 1,.ex (.ref (X (.way 1))))] (iV l) (.ex (.ref b))))) (qZ.Cy l (List.range N)):=by
 have nb:∀m,LS.has m->X m≠b:=H.apart hb;have e0:(X.to (.way l) b) .hi=X .hi:=XM.Bm X (by intro e;cases e) fun e=>hv (J e hb);have ef:∀m,LS.has m->m≠ .way l->(X.to (.way l) b) m=X m:=fun m h1 h2=>XM.Bm X h2 (nb m h1);have es:(X.to (.way l) b) (.way l)=b:=XM.Bq _ _ _;obtain⟨h1,h2,h3,h4,h5,h6,h7,h8,⟨d0,h9,W0⟩,⟨d1,Lh,W1⟩⟩:=H;have ne:∀m:Lb,m≠ .Bz->X m≠X .Bz:=fun m h=>hX.ne h;have go:∀m o,LS.has m->m≠ .Bz->U (X m)=some o->((U.set b (.dict [])).set (X .Bz) (.dict (dput [(iV 0,V.ex (.ref (X (.way 0)))),(iV 1,.ex (.ref (X (.way 1))))] (iV l) (.ex (.ref b))))) (X m)=some o:=fun m o a1 a3 a4=>by exact J (u.Ad _ _ (ne m a3)) (J (u.Ad _ _ (nb m a1)) a4)
 have gw:((U.set b (.dict [])).set (X .Bz) (.dict (dput [(iV 0,V.ex (.ref (X (.way 0)))),(iV 1,.ex (.ref (X (.way 1))))] (iV l) (.ex (.ref b))))) b=some (.dict []):=by refine J (u.Ad _ _ (fun e=>nb .Bz Al e.symm)) (J (u.set_same _ _ _) ?_);rfl
 have g1:=go .li _ Al (by intro e;cases e) h1;have g2:=go .ld _ Al (by intro e;cases e) h2;have g3:=go .beneath _ Al (by intro e;cases e) h3;have g4:=go .told _ Al (by intro e;cases e) h4;have g6:=go .B1 _ Al (by intro e;cases e) h6;have g7:=go (.A0 0) _ (show 0<2 by exact EK _ _) (by intro e;cases e) h7;have g8:=go (.A0 1) _ (show 1<2 by exact Bf _) (by intro e;cases e) h8;have e1:=ef .li Al (by intro e;cases e);have e2:=ef .ld Al (by intro e;cases e);have e3:=ef .beneath Al (by intro e;cases e);have e4:=ef .told Al (by intro e;cases e);have e5:=ef .Bz Al (by intro e;cases e);have e6:=ef .B1 Al (by intro e;cases e);have e7:=ef (.A0 0) (show 0<2 by exact EK _ _) (by intro e;cases e);have e8:=ef (.A0 1) (show 1<2 by exact Bf _) (by intro e;cases e)
 rcases CF hl with rfl|rfl
 ·have w1:=ef (.way 1) (show 1<2 by exact Bf _) (by intro e;cases e)
  refine⟨by refine J e1 ?_;refine J e2 ?_;exact g1,by refine J e2 ?_;unfold Jb;refine J e0 ?_;refine J e3 ?_;refine J e4 ?_;refine J e5 ?_;refine J e6 ?_;exact g2,by refine J e3 ?_;exact g3,by refine J e4 ?_;refine J e7 ?_;refine J e8 ?_;exact g4,?_,by refine J e6 ?_;exact g6,by refine J e7 ?_;exact g7,by refine J e8 ?_;exact g8,⟨[],by refine J es ?_;exact gw,WD.fresh N⟩,⟨d1,?_,W1⟩⟩
  ·refine J e5 (J w1 (J es (J (u.set_same _ _ _) ?_)));simp[dput,V.int.injEq]
  ·exact J w1 (go (.way 1) _ (show 1<2 by exact Bf _) (by intro e;cases e) Lh)
 ·have w0:=ef (.way 0) (show 0<2 by exact EK _ _) (by intro e;cases e)
  refine⟨by refine J e1 ?_;refine J e2 ?_;exact g1,by refine J e2 ?_;unfold Jb;refine J e0 ?_;refine J e3 ?_;refine J e4 ?_;refine J e5 ?_;refine J e6 ?_;exact g2,by refine J e3 ?_;exact g3,by refine J e4 ?_;refine J e7 ?_;refine J e8 ?_;exact g4,?_,by refine J e6 ?_;exact g6,by refine J e7 ?_;exact g7,by refine J e8 ?_;exact g8,⟨d0,?_,W0⟩,⟨[],by refine J es ?_;exact gw,WD.fresh N⟩⟩
  ·refine J e5 (J w0 (J es (J (u.set_same _ _ _) ?_)));simp[dput,V.int.injEq]
  ·exact J w0 (go (.way 0) _ (show 0<2 by exact EK _ _) (by intro e;cases e) h9)
theorem BY.Fm(H:aK X U qZ)(hl:l<2)(hb:U b=none)(o1 o2:O):BY B2 X LS.has U (X.to (.way l) b) LS.has ((U.set b o1).set (X .Bz) o2):=by have T1:BY B2 X LS.has U (X.to (.way l) b) LS.has (U.set b o1):=BY.new o1 H.val hb Al fun m hm=> .inr hm;have e:(X.to (.way l) b) .Bz=X .Bz:=T1.lb .Bz id (H.val .Bz Al);have T2:=T1.trans (BY.set (e:=B2) (X:=X.to (.way l) b) (S':=LS.has) (m:=.Bz) o2 Al fun Z h=>h);rw[e]at T2;exact T2
end
end
section
noncomputable def pV(p:Nat×Nat):V:=.tup [iV p.1,iV p.2]
theorem sB(R:List (Nat×Nat)):∀(f:Nat->Nat) (p:Nat×Nat),Fz f (R++[p])=jn (Fz f R) p.1 p.2:=by
 induction R with
 |nil=>exact fun Z Z=>rfl
 |cons q R ih=>exact fun f p=>ih (jn f q.1 q.2) p
theorem wp{R l:List (Nat×Nat)}:∀{f:Nat->Nat},Eo ns R f->Pt f->(∀p∈l,Dz ns R p.1 p.2)->Eo ns R (Fz f l):=by
 induction l with
 |nil=>exact fun h Z Z=>h
 |cons p l ih=>exact fun h k o=>ih (h.jn k (o p (.head _))) (k.jn _ _) fun q hq=>o q (.tail _ hq)
theorem rB{N a b:Nat}(h:Pt f)(ha:a<N)(hb:b<N):cls N (jn f a b)<=cls N f:=by
 by_cases e:f a=f b
 ·exact J (p7 e) (Bf _)
 ·exact Dt (pG h ha hb e)
theorem iQ{N:Nat}:∀{f:Nat->Nat},Pt f->(∀p∈l,p.1<N/\p.2<N)->cls N (Fz f l)<=cls N f:=by
 induction l with
 |nil=>exact fun Z Z=>Bf _
 |cons p l ih=>exact fun h k=>AG (ih (h.jn _ _) fun q hq=>k q (.tail _ hq)) (rB h (k p (.head _)).1 (k p (.head _)).2)
theorem ox{N:Nat}(h:Pt f)(k:∀p∈l,p.1<N/\p.2<N)(hl:l≠[])(hd:∀p∈l,f p.1≠f p.2):cls N (Fz f l)<cls N f:=by
 cases l with
 |nil=>exact Ba rfl hl
 |cons p l=>exact Dj (iQ (l:=l) (h.jn _ _) fun q hq=>k q (.tail _ hq)) (pG h (k p (.head _)).1 (k p (.head _)).2 (hd p (.head _)))
theorem xy(ha:a<h.length)(hb:b<h.length)(hp:Pt (up h)):up (h.map fun x=>if x=max (up h a) (up h b)then min (up h a) (up h b)else x)=jn (up h) a b:=by
 funext n
 unfold jn;have ug:∀(l:List Nat) (i:Nat) (hi:i<l.length),up l i=l[i]:=fun l i hi=>by
  show l.getD i i=l[i]
  exact J (Er) (J (Cr hi) rfl)
 have uo:∀(l:List Nat) (i:Nat),¬i<l.length->up l i=i:=fun l i hi=>by
  show l.getD i i=i
  exact J (Er) (J (H6 (aA D Y 1 1 D Y (c2 _ _) (DR hi) rfl)) rfl)
 by_cases hn:n<h.length
 ·refine J (ug _ n (by rw[Bl];exact hn)) (J (ug h n hn) (J (List.getElem_map _) ?_));rfl
 ·have e1:=uo h n hn
  have e2:=uo (h.map fun x=>if x=max (up h a) (up h b)then min (up h a) (up h b)else x) n (by exact J (Bl _) hn);have h1:=hp.le a;have h2:=hp.le b;refine J e1 (J e2 (J (AK fun e=>hn (Dj (AA e) (Nk.mpr ⟨Dj h1 ha,Dj h2 hb⟩))) ?_));rfl
structure Hm(ns:List Node)(R:List (Nat×Nat))(f:Nat->Nat)(kn:List (V×V))(pend:List (Nat×Nat))(k:Nat):Prop where
 kk:∀p∈kn,∃(y:Node) (m:Nat),p=(nV (canon f y),iV m)/\m<ns.length/\ns[m]? =some y
 len:kn.length<=k
 all:∀(n:Nat) (x:Node),n<k->ns[n]? =some x->∃m,Az kn (nV (canon f x))=some (iV m)/\(f m=f n\/(m,n)∈pend)
 pe:∀p∈pend,f p.1≠f p.2/\Dz ns R p.1 p.2/\p.1<ns.length/\p.2<ns.length
 pl:pend.length<=k
section
variable{R:List (Nat×Nat)}
theorem Hm.start:Hm ns R f [] [] 0:=⟨(fun Z h=>nomatch h),Bf _,fun n x h=>Ba h (Gu _),(fun Z h=>nomatch h),Bf _⟩
theorem Hm.ks(H:Hm ns R f kn pend k)(x:Node):KS kn (nV x):=.mk cG _ ⟨x,rfl⟩ fun p hp=>by refine Fv (H.kk p hp) fun y m Bg Z=>?_;exact J Bg (⟨_,rfl⟩)
theorem Hm.get(H:Hm ns R f kn pend k)(h:Az kn (nV (canon f x))=some v):∃(m:Nat) (y:Node),v=iV m/\m<ns.length/\ns[m]? =some y/\canon f y=canon f x:=by
 refine An (bD h) fun i Z h=>Bc (H.kk _ (BW h)) fun y m e1 e2 e3=>?_;injection e1 with e4 e5
 exact⟨m,y,e5,e2,e3,(fP e4).symm⟩
theorem Hm.new(H:Hm ns R f kn pend k)(hx:ns[k]? =some x)(h:Az kn (nV (canon f x))=none):Hm ns R f (dput kn (nV (canon f x)) (iV k)) pend (k+1) where
 kk p hp:=by
  rw[bL (bU h)]at hp
  rcases DA.mp hp with hp|hp
  ·exact H.kk p hp
  ·rw[Eb]at hp;refine J hp ?_
   exact⟨x,k,rfl,(CP.mp hx).1,hx⟩
 len:=AG aY (JF H.len)
 all n y hn hy:=by
  refine J ay ?_
  by_cases e:n=k
  ·subst e
   have hy:=hx▸hy;obtain rfl:=BC hy;exact⟨n,by exact J (AS rfl) rfl,.inl rfl⟩
  ·obtain⟨m,h1,h2⟩:=H.all n y (by exact aA (.a D qW) Y 1 1 (.a D qW) Y (c2 _ _) (DF (aA D Y 1 1 (.a D qW) (.a Y qW) (c2 _ _) hn rfl) e) rfl) hy
   refine⟨m,?_,h2⟩
   by_cases q:nV (canon f y)=nV (canon f x)
   ·rw[q]at h1;exact Ba (h.symm.trans h1) nofun
   ·exact J (AK q) h1
 pe:=H.pe
 pl:=Ft H.pl
theorem Hm.old(H:Hm ns R f kn pend k)(hx:ns[k]? =some x)(h:Az kn (nV (canon f x))=some (iV m))(e:f m=f k):Hm ns R f kn pend (k+1) where
 kk:=H.kk
 len:=Ft H.len
 all n y hn hy:=by
  by_cases q:n=k
  ·subst q
   have hy:=hx▸hy;obtain rfl:=BC hy;exact⟨m,h,.inl e⟩
  ·exact H.all n y (by exact aA (.a D qW) Y 1 1 (.a D qW) Y (c2 _ _) (DF (aA D Y 1 1 (.a D qW) (.a Y qW) (c2 _ _) hn rfl) q) rfl) hy
 pe:=H.pe
 pl:=Ft H.pl
theorem Hm.UX(H:Hm ns R f kn pend k)(hs:Eo ns R f)(hx:ns[k]? =some x)(h:Az kn (nV (canon f x))=some (iV m))(hm:m<ns.length)(hy:ns[m]? =some y)(hc:canon f y=canon f x)(e:f m≠f k):Hm ns R f kn (pend++[(m,k)]) (k+1) where
 kk:=H.kk
 len:=Ft H.len
 all n z hn hz:=by
  by_cases q:n=k
  ·subst q
   have hz:=hx▸hz;obtain rfl:=BC hz;exact⟨m,h,.inr (G3 _ (.head _))⟩
  ·obtain⟨m',h1,h2⟩:=H.all n z (by exact aA (.a D qW) Y 1 1 (.a D qW) Y (c2 _ _) (DF (aA D Y 1 1 (.a D qW) (.a Y qW) (c2 _ _) hn rfl) q) rfl) hz
   exact⟨m',h1,h2.imp id (HG _)⟩
 pe p hp:=by
  rcases DA.mp hp with hp|hp
  ·exact H.pe p hp
  ·rw[Eb]at hp;refine J hp ?_
   exact⟨e,Dz.Ma hs hy hx hc,hm,(CP.mp hx).1⟩
 pl:=by refine J List.length_append ?_;have:=H.pl;simp;assumption
theorem Hm.cl(H:Hm ns R f kn [] ns.length):Cl ns f:=fun i j x y hx hy e=>by
 refine An (H.all i x (CP.mp hx).1 hx) fun m h1 h2=>?_;refine An (H.all j y (CP.mp hy).1 hy) fun m' h3 h4=>?_;rw[e,h3]at h1;injection h1 with h1
 have:=av h1;subst this;have a:=h2.resolve_right (by simp);have b:=h4.resolve_right (by simp);refine Rv a (Rv b ?_);rfl
theorem Hm.YI(H:Hm ns R f kn pend ns.length)(e:pend=[]):Cl ns f:=by subst e;exact H.cl
end
end
section
section
variable{X:XM}
variable{ns:List Node}{ws ds:List Int}
theorem sW:∀p∈Cu ns,cG.is p.1:=fun p hp=>by refine An (BF.mp hp) fun Fh Z Bg=>?_;obtain⟨n,k⟩:=Fh;exact Rv Bg ⟨n,rfl⟩
theorem vH(h:(Cu ns)[i]? =some (x,y)):∃nd,ns[i]? =some nd/\x=nV nd/\y=iV i:=by unfold Cu at h;rw[Cs]at h;refine An (El.mp h) fun IP h1 h2=>?_;obtain⟨n,k⟩:=IP;rw[List.getElem?_zipIdx]at h1;refine An (El.mp h1) fun m h3 h4=>?_;simp only[Prod.mk.injEq,Nat.zero_add]at h4 h2;refine A5 h4 fun UY Ci=>?_;clear h4;subst UY;subst Ci;exact⟨_,h3,h2.1.symm,h2.2.symm⟩
theorem nZ(h:Az (Cu ns) (nV nd)=some y):∃k:Nat,ns[k]? =some nd/\y=iV k:=by exact An (bD h) fun i Z h=>B4 (vH h) fun n h1 h2 h3=>⟨i,by exact J h1 (J (fP h2) rfl),h3⟩
theorem ro(h:Az (Cu ns) (nV nd)=none):nd∉ns:=fun hm=>by refine Ax (H5.mp hm) fun i hi=>?_;have hk:=k7 (bU h);refine hk (BF.mpr ⟨(nV nd,iV i),?_,rfl⟩);unfold Cu;refine BF.mpr ⟨(nd,i),?_,rfl⟩;exact List.mem_zipIdx_iff_getElem?.mpr hi
theorem m6(h:Az (Cu ns) (nV nd)=none):dput (Cu ns) (nV nd) (iV ns.length)=Cu (ns++[nd]):=by
 refine J (bL (bU h)) ?_;unfold Cu;refine J List.zipIdx_append (J DT ?_)
 simp
theorem mI(ns:List Node):(Cu ns).length=ns.length:=by simp[Cu]
theorem xG(h:k<ws.length):(ws.map V.int)[k]? =some (.int (ws.getD k 0)):=by exact J (Cs) (J (Cr h) (J (Er) (J (Cr h) rfl)))
theorem ta{ws:List Int}{l:List Nat}{j k:Nat}(h:l[j]? =some k):((l.map fun k=>ws.getD k 0).map V.int)[j]? =some (.int (ws.getD k 0)):=by exact J (Cs) (J (Cs) (J h rfl))
inductive J3(X:XM)(nd:Node)(U:u):Pv->u->Prop
 |mk (Aa:Option V):J3 X nd U ⟨[some (.ex (.ref (X .bi))),some (.str nd.1),some (.tup (AW nd.2)),some (nV nd),Aa],[]⟩ U
theorem q6(O:(cz ω).Ok)(hX:Inj X)(hA:A7 3 A)(B:bv X U ns ws ds)(hz:ns.length<=400)(hw:ws.length=ns.length)(hd:ds.length=ns.length){nd:Node}(ok:DP nd.1)(hk:∀k∈nd.2,k<ns.length)(hs:nd.2.length<=10)
  (q0:∀k:Nat,Az (Cu ns) (nV nd)=some (iV k)->Q (iV k) U)
  (q1:Az (Cu ns) (nV nd)=none->∀wv dv,Q (iV ns.length) ((((U.set (X .AJ) (.dict (dput (Cu ns) (nV nd) (iV ns.length)))).set (X .nodes) (.list (ns.map nV++[nV nd]))).set (X .AR) (.list (ws.map .int++[.int wv]))).set (X .Bh) (.list (ds.map .int++[.int dv])))):
  aR (cz ω) A (.ref 110) [.ex (.ref (X .bi)),.str nd.1,.tup (AW nd.2)] Q U:=by
 refine(nY _).go O hA rfl fun hA G hG hR=>?_;have ks:KS (Cu ns) (nV nd):=.mk cG _ ⟨nd,rfl⟩ sW;have nl:=mI ns;refine yL (cI (fun q=>p5 (AG (LA (ak hs (by decide)) 1) (by decide:1+10<=1000)) (Su _ _) q) ?_);refine aC B.o rfl (PH (x:=nV nd) (.AN B.AJ) ks ?_)
 cases hg:Az (Cu ns) (nV nd)with
 |some y=>
  refine An (nZ hg) fun k Ke CJ=>?_;subst CJ;refine bl rfl (aC B.o rfl (aN (x:=nV nd) (.AN B.AJ) ks hg ?_));exact aQ (hR _ _ _ (q0 k hg))
 |none=>
  refine ao rfl (aF ?_);refine aI B.o rfl (aD rfl (pC O hA ok ?_));refine bX (ak hs (by decide)) (cS .tup (fun Z=>J3 X nd U) (.mk none) (fun j x p Ac hx q=>?_) fun p Ac q=>?_)
  ·induction q with
   |mk Aa=>
    refine An (bI hx) fun kk GU C4=>J C4 ?_;have BZ:=hk kk (BW GU);refine wE (fun q=>zT q) (fun Z=>?_) fun e=>?_
    ·refine aC B.o rfl (bc (.AN B.nodes) (bF hz (by decide)) ?_)
     refine aF (ao ?_ (aF (aJ ⟨Al,.mk _⟩)));exact J (DU (FJ.mpr (Bl (f:=nV) (as:=ns)▸BZ))) rfl
    ·have e:=(DU (Jq _))▸e;cases e
  ·induction q with
   |mk Aa=>
    have n1:X .nodes≠X .AJ:=AH hX rfl;have nw:X .AR≠X .nodes:=AH hX rfl;have PB:X .Bh≠X .AR:=AH hX rfl;refine aC B.o rfl (bc (.AN B.nodes) (bF hz (by decide)) ?_);refine aC B.o rfl (ah (x:=nV nd) (.AN B.AJ) ks (nl▸AG hz (by decide)) ?_);have o1 {o:Mine.Internal.O}:Obj (U.set (X .AJ) o) (X .bi) 186 (IY X):=⟨_,AD hX rfl B.i,AD hX rfl B.d⟩
    refine aC o1 rfl (aZ (.AN (aB n1 B.nodes)) (be (.AN (aB n1 B.nodes)) (bF hz (by decide)) ?_));have o2 {o p:Mine.Internal.O}:Obj ((U.set (X .AJ) o).set (X .nodes) p) (X .bi) 186 (IY X):=⟨_,AD hX rfl (AD hX rfl B.i),AD hX rfl (AD hX rfl B.d)⟩
    have w2 {o p:Mine.Internal.O}:((U.set (X .AJ) o).set (X .nodes) p) (X .AR)=some (.list (ws.map .int)):=aB nw (AD hX rfl B.AR);have d2 {o p q:Mine.Internal.O}:(((U.set (X .AJ) o).set (X .nodes) p).set (X .AR) q) (X .Bh)=some (.list (ds.map .int)):=aB PB (AD hX rfl (AD hX rfl B.Bh));have o3 {o p q:Mine.Internal.O}:Obj (((U.set (X .AJ) o).set (X .nodes) p).set (X .AR) q) (X .bi) 186 (IY X):=⟨_,AD hX rfl (AD hX rfl (AD hX rfl B.i)),AD hX rfl (AD hX rfl (AD hX rfl B.d))⟩
    refine aC o2 rfl (aZ (.AN w2) (bX (ak hs (by decide)) ?_));refine ia .tup ((nd.2.map fun k=>ws.getD k 0).map .int) (by exact J (Bl _) (J (Bl _) aS.symm)) (ak hs (by decide)) (fun G' ex j x z e hx DL=>?_) ?_
    ·refine An (bI hx) fun kk GU C7=>?_;subst C7
     have BZ:kk<ws.length:=hw▸hk kk (BW GU);exact aC o2 rfl (cC (.AN w2) (xG BZ) (bF (J hw hz) (by decide)) (aJ (km Al (ta GU))))
    refine a9 rfl (fun q=>il G.hh q) (be (.AN w2) (bF (J hw hz) (by decide)) (aC o3 rfl (aZ (.AN d2) (bX (ak hs (by decide)) ?_))));refine ia .tup ((nd.2.map fun k=>ds.getD k 0).map .int) (by exact J (Bl _) (J (Bl _) aS.symm)) (ak hs (by decide)) (fun G' ex j x z e hx DL=>?_) ?_
    ·refine An (bI hx) fun kk GU DM=>?_;subst DM
     have BZ:kk<ds.length:=hd▸hk kk (BW GU);exact aC o3 rfl (cC (.AN d2) (xG BZ) (bF (J hd hz) (by decide)) (aJ (km Al (ta GU))))
    refine dE rfl (cI (fun q=>fZ (by exact J (Bl _) (J (Bl _) (AG (HZ hs 1) (by decide)))) q) ?_);have e0:(List.map V.int (nd.2.map fun k=>ds.getD k 0)++[V.int 0])=((nd.2.map fun k=>ds.getD k 0)++[0]).map V.int:=by exact J DT rfl
    refine uv (X:=fun v=>∃M,v=.int M) rfl (fun q=>e0▸k9 (ns:=(nd.2.map fun k=>ds.getD k 0)++[0]) G.hh (List.append_ne_nil_of_right_ne_nil _ (Su _ _)) fun M Z=>q _ ⟨M,rfl⟩) fun v hv=>Ax hv fun M CB=>?_;clear hv;refine J CB (be (.AN d2) (bF (J hd hz) (by decide)) ?_);have n3 {o p q r:Mine.Internal.O}:((((U.set (X .AJ) o).set (X .nodes) p).set (X .AR) q).set (X .Bh) r) (X .nodes)=some p:=AD hX rfl (AD hX rfl (u.set_same _ _ _));refine aC (m:=IY X) ⟨_,AD hX rfl (AD hX rfl (AD hX rfl (AD hX rfl B.i))),AD hX rfl (AD hX rfl (AD hX rfl (AD hX rfl B.d)))⟩ rfl ?_;have e1:(List.map nV ns).length=ns.length:=Bl _;refine bc (.AN n3) (by exact J CY (J e1 (AG (HZ hz 1) (by decide)))) ?_;refine aQ (hR _ _ _ ?_);have e2:((List.map nV ns++[nV nd]).length:Int)-1=(ns.length:Nat):=by exact J CY (J e1 (LH (ns.length:Int) 1))
    refine J e1 (J e2 ?_);exact q1 hg _ _
end
end
section
theorem dN{τ:u}{a d:Addr}{o n n':O}(h:d≠a):((τ.set d n).set a o).set d n'=(τ.set d n').set a o:=(cK h.symm).trans (AL (u.set · a o) (u.set_set _ _ _ _))
section
variable{X:XM}
theorem rA(O:(cz ω).Ok)(hA:A7 1 A){x d:Addr}(hx:U x=some (.inst 186 d))(hd:U d=some (.ns []))
  (q:∀a1 a2 a3 a4,U a1=none->U a2=none->U a3=none->U a4=none->a2≠a1->a3≠a1->a3≠a2->a4≠a1->a4≠a2->a4≠a3->Q (.ex .none) (((((U.set a1 (.list [])).set d (.ns [("nodes",.ex (.ref a1)),("numbers",.ex (.ref a2)),("weights",.ex (.ref a3)),("depths",.ex (.ref a4))])).set a2 (.dict [])).set a3 (.list [])).set a4 (.list []))):
  aR (cz ω) A (.ref 98) [.ex (.ref x)] Q U:=by
 have nd:=Cf hx hd;refine(jf _).go O hA rfl fun hA G hG hR=>cg rfl fun a1 z1=>bN (aB (aE hx z1) hx) (aB (aE hd z1) hd) rfl rfl (du fun a2 z2=>?_);have Mg:=aP z2;have GW:=aP Mg.2;have e2:=aE hx GW.2;refine bN (aB e2 (aB nd (aB (aE hx z1) hx))) (aB Mg.1.symm (u.set_same _ _ _)) rfl rfl (cg rfl fun a3 z3=>?_);have Mh:=aP z3;have PQ:=aP Mh.2;have Mi:=aP (aP PQ.2).2;have e3:=aE hx Mi.2;refine bN (aB e3 (aB nd (aB e2 (aB nd (aB (aE hx z1) hx))))) (aB Mh.1.symm (u.set_same _ _ _)) rfl rfl (cg rfl fun a4 z4=>?_);have UZ:=aP z4;have Wt:=aP UZ.2;have Wu:=aP (aP Wt.2).2;have U0:=aP (aP Wu.2).2;have e4:=aE hx U0.2;refine bN (aB e4 (aB nd (aB e3 (aB nd (aB e2 (aB nd (aB (aE hx z1) hx))))))) (aB UZ.1.symm (u.set_same _ _ _)) rfl rfl (aJ (bq (q a1 a2 a3 a4 z1 GW.2 Mi.2 U0.2 GW.1 Mi.1 PQ.1 U0.1 Wu.1 Wt.1) rfl ?_));refine J (dN UZ.1.symm) (J (dN Mh.1.symm) (J (dN Mg.1.symm) ?_));rfl
theorem lr(O:(cz ω).Ok)(hA:A7 1 A){x d:Addr}(hx:U x=some (.inst 357 d))(hd:U d=some (.ns []))
  (q:∀a1 a2 a3,U a1=none->U a2=none->U a3=none->a2≠a1->a3≠a1->a3≠a2->Q (.ex .none) ((((U.set a1 (.list [])).set d (.ns [("above",.ex (.ref a1)),("lots",.ex (.ref a2)),("merged",.ex (.ref a3))])).set a2 (.list [])).set a3 (.list []))):
  aR (cz ω) A (.ref 293) [.ex (.ref x)] Q U:=by
 have nd:=Cf hx hd;refine(f9 _).go O hA rfl fun hA G hG hR=>cg rfl fun a1 z1=>bN (aB (aE hx z1) hx) (aB (aE hd z1) hd) rfl rfl (cg rfl fun a2 z2=>?_);have Mg:=aP z2;have GW:=aP Mg.2;have e2:=aE hx GW.2;refine bN (aB e2 (aB nd (aB (aE hx z1) hx))) (aB Mg.1.symm (u.set_same _ _ _)) rfl rfl (cg rfl fun a3 z3=>?_);have Mh:=aP z3;have PQ:=aP Mh.2;have Mi:=aP (aP PQ.2).2;have e3:=aE hx Mi.2;refine bN (aB e3 (aB nd (aB e2 (aB nd (aB (aE hx z1) hx))))) (aB Mh.1.symm (u.set_same _ _ _)) rfl rfl (aJ (bq (q a1 a2 a3 z1 GW.2 Mi.2 GW.1 Mi.1 PQ.1) rfl ?_));refine J (dN Mh.1.symm) (J (dN Mg.1.symm) ?_);rfl
theorem sM(l:List Nat):AW l=(l.map fun k:Nat=>(k:Int)).map V.int:=by unfold AW;exact J List.map_map rfl
theorem ie(O:(cz ω).Ok)(hA:A7 2 A)(σ:a8 X U p ls mg)(hp:Dc p)(hz:p.length<=900)(he:ls.length=p.length)(hx:x<p.length)(hl:ls[find p x]? =some l)(M4:l.length<64)
  (q:∀Ce:List Int,Ce.Perm (l.map fun k:Nat=>(k:Int))->Q (.lst (Ce.map .int)) U):aR (cz ω) A (.ref 328) [.ex (.ref (X .ui)),iV x] Q U:=by
 refine(fU _).go O hA rfl fun hA G hG hR=>aC σ.o rfl (aI σ.o rfl (aD rfl (b7 O hA σ hp hz hx ?_)));refine cC (.AN σ.Ao) (kg (he.symm▸eV hp hx)) (AG (AA ((Bl _).trans (Ek.trans he))) (AG hz (by decide))) (uE (X:=fun v=>∃Ce:List Int,Ce.Perm (l.map fun k:Nat=>(k:Int))/\v=.lst (Ce.map .int)) (.AN (σ.A9 _ _ hl)) rfl (fun h q=>fF (sM l▸h) (Dj (AA (Bl _)) M4) fun Ce En Z=>q _ ⟨Ce,En,rfl⟩) fun v hv=>An hv fun Ce En Bg=>?_);clear hv;exact J Bg (aQ (hR _ _ _ (q Ce En)))
end
end
section
section
variable{X:XM}{S:HS}
theorem dQ(O:(cz ω).Ok)(hA:A7 2 A)(H:Af X U S)(hz:S.nodes.length<=900)(q:Q (iV S.nodes.length) U):aR (cz ω) A (.ref 382) [.ex (.ref (X .hi))] Q U:=by refine(nJ _).go O hA rfl fun hA G hG hR=>aC H.o rfl (aI H.bo rfl (aD rfl (qt O hA H.BS hz ?_)));exact aQ (hR _ _ _ q)
theorem bM(O:(cz ω).Ok)(hA:A7 2 A)(H:Af X U S)(hp:Dc S.par)(hz:S.par.length<=900)(hx:x<S.par.length)(q:Q (iV (find S.par x)) U):aR (cz ω) A (.ref 411) [.ex (.ref (X .hi)),iV x] Q U:=by refine(m9 _).go O hA rfl fun hA G hG hR=>aC H.o rfl (aI H.uo rfl (aD rfl (b7 O hA H.Bk hp hz hx ?_)));exact aQ (hR _ _ _ q)
theorem j6(O:(cz ω).Ok)(hA:A7 4 A)(H:Af X U S)(hp:Dc S.par)(hz:S.par.length<=900)(RK:S.nodes.length<=900)(hk:S.nodes[n]? =some nd)(hs:nd.2.length<=10)(hl:∀k∈nd.2,k<S.par.length)
  (q:Q (nV (canon (find S.par) nd)) U):aR (cz ω) A (.ref 387) [.ex (.ref (X .hi)),iV n] Q U:=by
 refine(mT _).go O hA rfl fun hA G hG hR=>aC H.o rfl (aI H.bo rfl (aD rfl (lU O (hA.lb rfl) H.BS RK hk ?_)));refine aC H.o rfl (aI H.bo rfl (aD rfl (dP O (hA.lb rfl) H.BS RK hk (AG hs (by decide)) ?_)));refine fT (find S.par) (AG hs (by decide)) (fun G' ex j n e h=>?_) ?_
 ·exact aI H.o rfl (aD rfl (bM O (hA.lb rfl) H hp hz (hl _ (BW h)) (aJ (Mc h))))
 exact fS (o:=nd.1) (bF hs (by decide)) (aQ (hR _ _ _ q))
theorem ki(O:(cz ω).Ok)(hA:A7 3 A)(H:Af X U S)(hp:Dc S.par)(hz:S.par.length<=900)(he:S.Ao.length=S.par.length)(hx:x<S.par.length)(hl:S.Ao[find S.par x]? =some l)(M4:l.length<64)
  (q:∀Ce:List Int,Ce.Perm (l.map fun k:Nat=>(k:Int))->Q (.lst (Ce.map .int)) U):aR (cz ω) A (.ref 460) [.ex (.ref (X .hi)),iV x] Q U:=by
 refine(gd _).go O hA rfl fun hA G hG hR=>aC H.o rfl (aI H.uo rfl (aD rfl (ie O hA H.Bk hp hz he hx hl M4 fun Ce En=>?_)));exact aQ (hR _ _ _ (q Ce En))
end
end
section
theorem an(a b:List Nat):AW (a++b)=AW a++AW b:=DT ..
theorem qA(h:a.length<=n)(k:b.length<=m)(l:n+m<=1000):(AW a).length+(AW b).length<=1000:=by exact J aS (J aS (AG (Jn h k) l))
section
variable{X:XM}{S:HS}
theorem kK(O:(cz ω).Ok)(hX:Inj X)(hA:A7 4 A)(H:Af X U S)(B:HB S)(ha:a<S.par.length)(hb:b<S.par.length)
  (q0:find S.par a=find S.par b->∀Ac,Af X Ac {S with AF:=S.AF++[.tup [iV a,iV b,r]]}->Bi X S U X {S with AF:=S.AF++[.tup [iV a,iV b,r]]} Ac->Q (.ex (.bool false)) Ac)
  (q1:∀k g,k<g->g<S.par.length->up S.par k=k->up S.par g=g->((k=find S.par a/\g=find S.par b)\/(k=find S.par b/\g=find S.par a))->∀X' Ac,Inj X'->Af X' Ac (S.joined k g (.tup [iV a,iV b,r]))->Bi X S U X' (S.joined k g (.tup [iV a,iV b,r])) Ac->Q (.ex (.bool true)) Ac):
  aR (cz ω) A (.ref 432) [.ex (.ref (X .hi)),iV a,iV b,r] Q U:=by
 refine(lw _).go O hA rfl fun hA G hG hR=>?_;have pz:=B.pz;have lp:=B.lp;have HE:=H.Hr hX (S.AF++[.tup [iV a,iV b,r]]);refine aC H.o rfl (aZ (.AN H.AF) (be (.AN H.AF) (AG B.ed (by decide)) ?_));refine aC HE.o rfl (aI HE.uo rfl (aD rfl (lK O hX (hA.lb rfl) HE.Bk B.low (by show S.par.length<=900;exact aA D qT 1 1 D zQ (c1 _) pz rfl) B.lp B.mg (fun i l e=>AG (B.A9 i l e) (by decide)) ha hb (fun e=>?_) fun k g BD hg ho=>?_)))
 ·exact bl rfl (aQ (hR _ _ _ (q0 e _ HE (.set (m:=.AF) _ Al fun Z h=>h))))
 have hu:up S.par k=k/\up S.par g=g:=ho.elim (fun h=>⟨h.1▸bR B.low _,h.2▸bR B.low _⟩) fun h=>⟨h.1▸bR B.low _,h.2▸bR B.low _⟩
 have rk:S.root k:=⟨EL BD hg,hu.1⟩
 have rg:S.root g:=⟨hg,hu.2⟩
 refine An H.above fun l h8 HR=>?_;have gk:=HR.at_ k rk;have gg:=HR.at_ g rg;have h1:=H.i;have h2:=H.d;have h3:=H.AQ;have h4:=H.waiting;have h5:=H.use k rk;have h6:=H.use g rg;have Cc:X (.use k)≠X (.use g):=fun e=>Ej BD (by have:=hX _ _ e;injection this);refine An (bD gg) fun i hi Z=>?_;have Wv:Az (l.eraseIdx i) (iV k)=some (.ex (.ref (X (.use k)))):=(cX (fun h=>Ej BD (av h)) hi).trans gk;have kl:∀{l':List (V×V)} {n:Nat},(∀p∈l',p∈l)->KS l' (iV n):=fun h=> .int _ fun p hp=>HR.keys p (h p hp);have ll:l.length<=1000:=AG HR.len (aA D (.n 1000) 1 1 D zQ (c1 _) pz rfl);refine ao rfl (aF ?_);refine aC (m:=Fy X) (C:=487) ⟨_,AD hX rfl (AD hX rfl (AD hX rfl (AD hX rfl h1))),AD hX rfl (AD hX rfl (AD hX rfl (AD hX rfl h2)))⟩ rfl (aZ (l:=S.AQ) (.AN (AD hX rfl (AD hX rfl (AD hX rfl (AD hX rfl h3))))) ?_);refine aC (m:=Fy X) (C:=487) ⟨_,AD hX rfl (AD hX rfl (AD hX rfl (AD hX rfl h1))),AD hX rfl (AD hX rfl (AD hX rfl (AD hX rfl h2)))⟩ rfl (bc (l:=S.AF++[.tup [iV a,iV b,r]]) (.AN (AD hX rfl (AD hX rfl (AD hX rfl (u.set_same _ _ _))))) (by exact J CY (AG (HZ B.ed 1) (by decide))) ?_);refine be (l:=S.AQ) (.AN (AD hX rfl (AD hX rfl (AD hX rfl (AD hX rfl h3))))) (AG B.fo (by decide)) (aC (m:=Fy X) (C:=487) ⟨_,AD hX rfl (AD hX rfl (AD hX rfl (AD hX rfl (AD hX rfl h1)))),AD hX rfl (AD hX rfl (AD hX rfl (AD hX rfl (AD hX rfl h2))))⟩ rfl (er (l:=AW S.waiting) (.AN (AD hX rfl (AD hX rfl (AD hX rfl (AD hX rfl (AD hX rfl h4)))))) ?_));refine aC (m:=Fy X) (C:=487) ⟨_,AD hX rfl (AD hX rfl (AD hX rfl (AD hX rfl (AD hX rfl h1)))),AD hX rfl (AD hX rfl (AD hX rfl (AD hX rfl (AD hX rfl h2))))⟩ rfl (aN (l:=l) (.AN (AD hX rfl (AD hX rfl (AD hX rfl (AD hX rfl (AD hX rfl h8)))))) (kl fun Z h=>h) gg ?_);refine tx (l:=AW S.waiting) (m:=AW (S.As g)) (.AN (AD hX rfl (AD hX rfl (AD hX rfl (AD hX rfl (AD hX rfl h4)))))) (.AN (AD hX rfl (AD hX rfl (AD hX rfl (AD hX rfl (AD hX rfl h6)))))) (qA B.wa (B.us g rg) (by decide)) (aC (m:=Fy X) (C:=487) ⟨_,AD hX rfl (AD hX rfl (AD hX rfl (AD hX rfl (AD hX rfl (AD hX rfl h1))))),AD hX rfl (AD hX rfl (AD hX rfl (AD hX rfl (AD hX rfl (AD hX rfl h2)))))⟩ rfl (aN (l:=l) (.AN (AD hX rfl (AD hX rfl (AD hX rfl (AD hX rfl (AD hX rfl (AD hX rfl h8))))))) (kl fun Z h=>h) gk ?_));refine aC (m:=Fy X) (C:=487) ⟨_,AD hX rfl (AD hX rfl (AD hX rfl (AD hX rfl (AD hX rfl (AD hX rfl h1))))),AD hX rfl (AD hX rfl (AD hX rfl (AD hX rfl (AD hX rfl (AD hX rfl h2)))))⟩ rfl (vr (l:=l) (.AN (AD hX rfl (AD hX rfl (AD hX rfl (AD hX rfl (AD hX rfl (AD hX rfl h8))))))) ?_);refine gR (o':=.dict (l.eraseIdx i)) (.AN (o:=.dict l) (AD hX rfl (AD hX rfl (AD hX rfl (AD hX rfl (AD hX rfl (AD hX rfl h8))))))) rfl (fun h q=>rO G.ok h (kl fun Z h=>h) (DV G) ll hi gg q) (yl (l:=AW (S.As k)) (m:=AW (S.As g)) (.AN (AD hX rfl (AD hX rfl (AD hX rfl (AD hX rfl (AD hX rfl (AD hX rfl (AD hX rfl h5)))))))) (.AN (AD hX rfl (AD hX rfl (AD hX rfl (AD hX rfl (AD hX rfl (AD hX rfl (AD hX rfl h6)))))))) (qA (B.us k rk) (B.us g rg) (by decide)) fun z hz=>?_);have z1:=aP hz;have z2:=aP (aP (aP (aP (aP (aP z1.2).2).2).2).2).2;have DL:U z=none:=z2.2;have n1:=z1.1;refine aC (m:=Fy X) (C:=487) ⟨_,aB (aE h1 DL) (AD hX rfl (AD hX rfl (AD hX rfl (AD hX rfl (AD hX rfl (AD hX rfl (AD hX rfl h1))))))),aB (aE h2 DL) (AD hX rfl (AD hX rfl (AD hX rfl (AD hX rfl (AD hX rfl (AD hX rfl (AD hX rfl h2)))))))⟩ rfl (ah (l:=l.eraseIdx i) (.AN (by repeat first|assumption|exact u.set_same _ _ _|refine AD hX rfl ?_|refine aB (aE (by assumption) DL) ?_)) (kl fun p hp=>List.mem_of_mem_eraseIdx hp) (AG (List.length_eraseIdx_le ..) ll) ?_);refine aQ (hR _ _ _ (bq (q1 k g BD hg hu.1 hu.2 ho _ _ (XM.D1 hX _ _) (Af.joined H hX BD hg hu.1 hu.2 HR hi DL _) (Bi.joined H BD hg hu.1 DL _ (J lp rk.1))) rfl ?_));have e1:((S.AF++[V.tup [iV a,iV b,r]]).length:Int)-1=(S.AF.length:Nat):=by exact J CY (LH (S.AF.length:Int) 1)
 refine J (dN n1.symm) (J e1 (Rv (an _ _) (Rv (an _ _) ?_)));rfl
theorem pF(O:(cz ω).Ok)(hX:Inj X)(hA:A7 5 A)(H:Af X U S)(B:HB S)(ha:a<S.par.length)(hb:b<S.par.length)
  (q0:find S.par a=find S.par b->∀Ac,Af X Ac {S with AF:=S.AF++[.tup [iV a,iV b,r]]}->Bi X S U X {S with AF:=S.AF++[.tup [iV a,iV b,r]]} Ac->Q (.ex (.bool false)) Ac)
  (q1:∀k g,k<g->g<S.par.length->up S.par k=k->up S.par g=g->((k=find S.par a/\g=find S.par b)\/(k=find S.par b/\g=find S.par a))->∀X' Ac,Inj X'->Af X' Ac (S.joined k g (.tup [iV a,iV b,r]))->Bi X S U X' (S.joined k g (.tup [iV a,iV b,r])) Ac->Q (.ex (.bool true)) Ac):
  aR (cz ω) A (.ref 425) [.ex (.ref (X .hi)),iV a,iV b,r] Q U:=by
 refine(lI _).go O hA rfl fun hA G hG hR=>aI H.o rfl (aD rfl (kK O hX hA H B ha hb ?_ ?_))
 ·exact fun e Ac H' T'=>aQ (hR _ _ _ (q0 e _ H' T'))
 ·exact fun k g h3 h4 h5 h6 h7 X' Ac CX H' T'=>aQ (hR _ _ _ (q1 k g h3 h4 h5 h6 h7 _ _ CX H' T'))
theorem j1(O:(cz ω).Ok)(hX:Inj X)(hA:A7 5 A)(H:Af X U S)(B:HB S)(hx:S.nodes[n]? =some x)(PR:n<S.par.length)(hm:∀y v,Az S.known y=some v->∃m:Nat,v=iV m/\m<S.par.length)
  (q:∀S' X' Ac,Look S n x S'->Inj X'->Af X' Ac S'->Bi X S U X' S' Ac->Q (.ex .none) Ac):aR (cz ω) A (.ref 404) [.ex (.ref (X .hi)),iV n] Q U:=by
 refine D4 (B.nd n x hx) fun z1 z2 z3=>?_;have zp:S.par.length<=900:=by have:=B.pz;exact aA D qT 1 1 D zQ (c1 _) this rfl
 have ks:KS S.known (nV (canon (find S.par) x)):=.mk cG _ ⟨_,rfl⟩ B.kk;refine(gy _).go O hA rfl fun hA G hG hR=>aC H.o rfl (dS (.AN H.known) (aI H.o rfl (aD rfl (j6 O hA H B.low zp (by have:=B.nz;exact aA D qT 1 1 D zQ (c1 _) this rfl) hx (AG z1 (by decide)) (fun k hk=>EL (z2 k hk) PR) ?_))));refine eR (.AN H.known) ks (AG B.kn (by decide)) (fun v hv=>?_) fun hv=>?_
 ·refine An (hm _ _ hv) fun m Ci Ww=>?_;subst Ci
  refine aI H.o rfl (aD rfl (bM O (hA.lb rfl) H B.low zp Ww ?_));refine aI H.o rfl (aD rfl (bM O (hA.lb rfl) H B.low zp PR ?_));refine eE (fun Aa=>?_) fun Aa=>?_
  ·refine aI H.o rfl (aD rfl (kK O hX hA H B Ww PR (fun e2=>Ba e2 (kq Aa)) fun k g h3 h4 h5 h6 h7 X' Ac CX H' T'=>?_))
   exact aF (aJ (q _ _ _ (.inr ⟨m,hv,.inr ⟨kq Aa,k,g,h3,h4,h5,h6,h7,rfl⟩⟩) CX H' T'))
  ·exact aF (aJ (q S X _ (.inr ⟨m,hv,.inl ⟨kZ Aa,rfl⟩⟩) hX H .refl))
 ·have HK:=H.Hs hX (dput S.known (nV (canon (find S.par) x)) (iV n))
  refine aI HK.o rfl (aD rfl (bM O (hA.lb rfl) HK B.low zp PR ?_));refine aI HK.o rfl (aD rfl (bM O (hA.lb rfl) HK B.low zp PR ?_));refine ao (by rewrite[bne];exact J (iJ rfl) rfl) ?_;exact aF (aJ (q _ X _ (.inl ⟨hv,rfl⟩) hX HK (.set (m:=.known) _ Al fun Z h=>h)))
end
end
section
variable{ω:WZ}
theorem w7(h:AW a=AW b):a=b:=by
 induction a generalizing b with
 |nil=>cases b with
  |nil=>rfl
  |cons _ _=>cases h
 |cons x a ih=>cases b with
  |nil=>cases h
  |cons y b=>
   unfold AW at h;rw[Ec,Ec]at h;injection h with h1 h2
   refine J (av h1) (J (ih h2) ?_);rfl
theorem cO{α:Type}[BEq α][LawfulBEq α]:∀{cs l:List α},cs.Nodup->(∀x∈cs,x∈l)->cs.length<=l.length
 |[],_,_,_=>DS _
 |a::cs,l,h,k=>by have h:=CQ.mp h;have ha:=k a (.head _);have:=cO (l:=l.erase a) h.2 fun x hx=>(List.mem_erase_of_ne (fun e=>h.1 (by exact Rv e hx))).mpr (k x (.tail _ hx));rw[List.length_erase_of_mem ha]at this;have:=List.length_pos_of_mem ha;refine J EG ?_;lia
theorem uB:(∀y∈ys,∃n:Nat,y=iV n)->∃cs,ys=AW cs:=by
 induction ys with
 |nil=>exact fun Z=>⟨[],rfl⟩
 |cons y ys ih=>exact fun h=>(h y (.head _)).elim fun n e=>(ih fun y hy=>h y (.tail _ hy)).elim fun cs q=>⟨n::cs,e▸AL (_:: ·) q⟩
theorem dR:iV n∈AW l↔n∈l:=by unfold AW;rw[BF];exact⟨fun I0=>An I0 fun a h e=>av e▸h,fun h=>⟨n,h,rfl⟩⟩
theorem qa(h:(AW l).Nodup):l.Nodup:=by
 induction l with
 |nil=>exact FG
 |cons a l ih=>
  have h:=CQ.mp h;exact CQ.mpr ⟨fun q=>h.1 (dR.mpr q),ih h.2⟩
theorem jE{cs:List Nat}{k c:Nat}(h:cs[k]? =some c)(d:Nat):d∈cs.take (k+1)↔d∈cs.take k\/d=c:=by refine J List.take_add_one (J h ?_);simp
theorem kM{S:HS}:S.added nd wv dv []=HS.made {S with nodes:=S.nodes++[nd],ws:=S.ws++[wv],ds:=S.ds++[dv]}:=by unfold HS.added HS.made;rfl
theorem mU{S:HS}(h:c∉cs)(k:S.root c):(S.added nd wv dv cs).As c=S.As c:=by have:=k.1;unfold HS.added;simp only[if_neg h,if_neg (show c≠S.par.length by exact fun e=>Nat.not_succ_le_zero 0 (aH qW qV 0 1 (.a D qW) Y 1 Y D (c2 _ _) this (Nat.le_of_eq e.symm) rfl))]
theorem pM{S:HS}{nd:Node}{wv dv:Int}{cs:List Nat}{k c:Nat}(hc:cs[k]? =some c)(r:S.root c)(hn:c∉cs.take k):
  {S.added nd wv dv (cs.take k)with As:=fun d=>if d=c then S.As c++[S.par.length]else(S.added nd wv dv (cs.take k)).As d}=S.added nd wv dv (cs.take (k+1)):=by
 have:=r.1;have hu:(fun d=>if d=c then S.As c++[S.par.length]else(S.added nd wv dv (cs.take k)).As d)=(S.added nd wv dv (cs.take (k+1))).As:=by
  funext d
  unfold HS.added;simp only[jE hc]
  by_cases e:d=c
  ·subst e;simp[hn,show d≠S.par.length by exact fun e=>Nat.not_succ_le_zero 0 (aH qW qV 0 1 (.a D qW) Y 1 Y D (c2 _ _) this (Nat.le_of_eq e.symm) rfl)]
  ·simp[e]
 exact J hu rfl
theorem pg{cs:List Nat}{k c:Nat}(h:cs.Nodup)(hc:cs[k]? =some c):c∉cs.take k:=fun hm=>by
 refine Ax (CP.mp hc) fun h1 h2=>?_;have e:cs.take k++c::cs.drop (k+1)=cs:=by exact Rv h2 (J (List.getElem_cons_drop _) (J (Nn _ _) rfl))
 rw[<- e]at h;exact(Ko.mp h).2.2 c hm c (.head _) rfl
inductive J7(X:XM)(U:u)(S:HS)(E F:Nat)(R:List (Nat×Nat))(e:Nat):Pv->u->Prop
 |mk (S':HS) (X':XM) (Ac:u) (i0:HI E F R (fun Z=>False) S') (i1:S'.nodes=S.nodes) (i2:Inj X') (i3:Af X' Ac S') (i4:Bi X S U X' S' Ac) (i7:e=S'.waiting.length+21*S'.roots):J7 X U S E F R e ⟨[some (.ex (.ref (X' .hi)))],[]⟩ Ac
inductive U2(X:XM)(U:u)(S:HS)(nd:Node)(wv dv:Int)(X':XM)(cs:List Nat)(k:Nat):Pv->u->Prop
 |mk (Ac:u) (Aa:Option V) (H:Af X' Ac (S.added nd wv dv (cs.take k))) (T:Bi X S U X' (S.added nd wv dv (cs.take k)) Ac):U2 X U S nd wv dv X' cs k ⟨[some (.ex (.ref (X' .hi))),some (.str nd.1),some (.tup (AW nd.2)),some (iV S.nodes.length),Aa],[]⟩ Ac
noncomputable def HS.grow(S:HS)(nd:Node)(wv dv:Int):HS:={S with nodes:=S.nodes++[nd],ws:=S.ws++[wv],ds:=S.ds++[dv]}
section
variable{X:XM}{S:HS}{E F:Nat}{R:List (Nat×Nat)}
theorem mA(O:(cz ω).Ok)(hX:Inj X)(hA:A7 6 A)(H:Af X U S)(I:HI E F R (fun Z=>False) S)(hE:E<=350)(hF:F<=350)
  (q:∀S' X' Ac,HI E F R (fun Z=>False) S'->S'.waiting=[]->S'.nodes=S.nodes->Inj X'->Af X' Ac S'->Bi X S U X' S' Ac->Q (.ex .none) Ac):aR (cz ω) A (.ref 439) [.ex (.ref (X .hi))] Q U:=by
 refine(jO _).go O hA rfl fun hA G hG hR=>ce (fun e=>J7 X U S E F R e) _ (.mk S X U I rfl hX H .refl rfl) fun e Z Z j=>?_
 induction j with
 |mk S' X' Ac I' hN CX H' T' he=>
  have B:=I'.hb (aA D (.n 400) 1 1 D (.n 350) (c1 _) hE rfl) (aA D (.n 400) 1 1 D (.n 350) (c1 _) hF rfl);have hw:=B.wa;refine aC H'.o rfl (bc (.AN H'.waiting) (ak hw (by decide)) ?_);refine aJ (dw (fun Aa=>?_) fun Aa=>?_)
  ·rcases List.eq_nil_or_concat S'.waiting with e0|⟨ww,n,e0⟩
   ·have Aa:=e0▸Aa;cases Aa
   have Wx:n<S'.par.length:=I'.wt n (by refine J e0 ?_;refine J MC ?_;exact G3 _ EU);obtain⟨x,hx⟩:∃x,S'.nodes[n]? =some x:=⟨_,Cr (Rv I'.pn Wx)⟩
   have e1:(AW S'.waiting).dropLast=AW ww:=by refine J e0 ?_;refine J MC ?_;refine J (an _ _) ?_;exact List.dropLast_concat
   refine aI H'.o rfl (aC H'.o rfl (uV (.AN H'.waiting) (tX (x:=iV n) (.AN H'.waiting) ?_ (ak hw (by decide)) ?_)))
   ·exact J e0 (J MC (J (an _ _) Sr))
   refine J e1 ?_;have HW:=H'.F7 CX ww
   cases E with
   |zero=>have:=I'.mz;rw[e0]at this;simp at this
   |succ E0=>
    have Rw:=I'.pop (by refine J e0 ?_;refine J MC ?_;rfl);refine aD rfl (j1 O CX hA HW (Rw.hb (aA D (.n 400) 1 1 (.a D qW) (.n 350) (c1 _) hE rfl) (aA D (.n 400) 1 1 D (.n 350) (c1 _) hF rfl)) hx Wx (fun y v hv=>Rw.EE hv) fun S2 X2 Hz hl YJ H2 T2=>?_);refine D4 (Rw.look hx hl) fun J2 MO YK=>?_;have Li:X2 .hi=X' .hi:=T2.lb .hi Al (HW.val .hi Al);have e3:S2.waiting.length+21*S2.roots<=ww.length+21*S'.roots:=MO;have e2:S'.waiting.length=ww.length+1:=by refine J e0 ?_;refine J MC ?_;refine J CY ?_;rfl
    exact aJ ⟨_,by refine J he ?_;refine J e2 ?_;exact aA (.a (.a D (.m 21 Y)) qW) (.a (.a qY qW) (.m 21 qX)) 1 1 (.a D (.m 21 Y)) (.a qY (.m 21 qX)) (c4 _ _ _ _) e3 rfl,Li▸J7.mk S2 X2 Hz J2 (YK.trans hN) YJ H2 (T'.trans ((Bi.set (S:=S') (m:=.waiting) (S':={S' with waiting:=ww}) _ Al fun Z h=>h).trans T2)) rfl⟩
  ·have e0:S'.waiting=[]:=by
    cases q:S'.waiting with
    |nil=>rfl
    |cons a l=>rw[q]at Aa;exact absurd Aa (by refine J aS ?_;simp)
   exact aJ (q S' X' _ I' e0 hN CX H' T')
theorem mr(O:(cz ω).Ok)(hX:Inj X)(hA:A7 6 A)(H:Af X U S)(I:HI E F R (fun Z=>False) S)(hW:S.waiting=[])(hE:E<=350)(hF:F<=350){nd:Node}(ok:DP nd.1)(hk:∀k∈nd.2,k<S.nodes.length)(h2:nd.2.length<=2)(hz:S.nodes.length<10)
  (q0:∀k:Nat,S.nodes[k]? =some nd->∀Ac,Af X Ac S->Bi X S U X S Ac->Q (iV k) Ac)
  (q1:nd∉S.nodes->∀S' X' Ac,HI (E+22) (F+1) R (fun Z=>False) S'->S'.nodes=S.nodes++[nd]->S'.waiting=[]->Inj X'->Af X' Ac S'->Bi X S U X' S' Ac->Q (iV S.nodes.length) Ac):
  aR (cz ω) A (.ref 392) [.ex (.ref (X .hi)),.str nd.1,.tup (AW nd.2)] Q U:=by
 have B:=I.hb (aA D (.n 400) 1 1 D (.n 350) (c1 _) hE rfl) (aA D (.n 400) 1 1 D (.n 350) (c1 _) hF rfl);have CD:=I.pn;have Lj:=I.pz;have zp:S.par.length<=900:=by exact aH D qT 1 1 D Y 1 Y qR (c2 _ _) (AA CD) Lj rfl
 refine(oZ _).go O hA rfl fun hA G hG hR=>aC H.o rfl (aI H.bo rfl (aD rfl (q6 O hX (hA.lb rfl) H.BS (aA D (.n 400) 1 1 D qR (c1 _) Lj rfl) I.wl I.dl ok hk (AG h2 (by decide)) (fun k Ke=>?_) fun Ke wv dv=>?_)))
 ·refine An (nZ Ke) fun k' EJ e=>?_
  have:=av e;subst this;refine aC H.o rfl (aI H.uo rfl (aD rfl (fY O (hA.lb rfl) H.Bk zp ?_)));exact bl (DU (FJ.mpr (CD▸bK EJ))) (aQ (hR _ _ _ (q0 k EJ _ H .refl)))
 have e1:dput (Cu S.nodes) (nV nd) (iV S.nodes.length)=Cu (S.nodes++[nd]):=m6 Ke;have Wy:Af X _ (S.grow nd wv dv):=H.I1 hX (S.nodes++[nd]) (S.ws++[wv]) (S.ds++[dv]);rw[<- e1,DT,DT,DT]at Wy;refine tY (F:=fun τ=>Af X τ (S.grow nd wv dv)/\Bi X S U X (S.grow nd wv dv) τ) ⟨Wy,(Bi.set (S:=S) (S':=S) (m:=.AJ) _ Al fun Z h=>h).trans ((Bi.set (S:=S) (S':=S) (m:=.nodes) _ Al fun Z h=>h).trans ((Bi.set (S:=S) (S':=S) (m:=.AR) _ Al fun Z h=>h).trans (Bi.set (S:=S) (m:=.Bh) _ Al fun Z h=>h)))⟩ fun τ PS=>?_;have HT:=PS.1;refine aC HT.o rfl (aI HT.uo rfl (aD rfl (fY O (hA.lb rfl) HT.Bk zp ?_)));refine ao (Df fun h=>Gk _ (CD▸FJ.mp h)) (aF ?_);refine aC HT.o rfl (aI HT.uo rfl (aD rfl (nS O hX (hA.lb rfl) HT.Bk zp I.lp fun a ha=>?_)));refine An HT.above fun l h5 HR=>?_;have h1:=HT.i;have h3:=HT.d;refine cg rfl fun b hb=>?_;have b1:=aP hb;have b2:=aP b1.2;have Jf:τ b=none:=(aP b2.2).2;refine aC (m:=Fy X) (C:=487) ⟨_,aB (aE h1 Jf) (AD hX rfl (aB (aE h1 ha) (AD hX rfl h1))),aB (aE h3 Jf) (AD hX rfl (aB (aE h3 ha) (AD hX rfl h3)))⟩ rfl (ah (l:=l) (.AN (aB (aE h5 Jf) (AD hX rfl (aB (aE h5 ha) (AD hX rfl h5))))) (.int _ fun p hp=>HR.keys p hp) (AG HR.len (AG zp (by decide))) ?_);have TM:=Bi.made (S:=S.grow nd wv dv) HT ha (b:=b) Jf b2.1 (o1:=.list (AW (S.par++[S.par.length]))) (o2:=.list (AW [S.par.length])) (o3:=.list ((List.range S.Ao.length).map (fun i=> .ex (.ref (X (.A9 i))))++[.ex (.ref a)])) (o4:=.list []) (o5:=.dict (dput l (iV S.par.length) (.ex (.ref b)))) I.lp;refine tY (F:=fun Bw=>∃X',Inj X'/\X' .hi=X .hi/\Af X' Bw (HS.made (S.grow nd wv dv))/\Bi X S U X' (HS.made (S.grow nd wv dv)) Bw) ⟨_,XM.D1 (XM.D1 hX _ _) _ _,TM.lb .hi Al (HT.val .hi Al),CD▸Af.made (S:=S.grow nd wv dv) HT hX I.lp HR ha Jf b2.1,CD▸PS.2.trans TM⟩ fun Bw h=>Hg h fun X' CX U4 Mj PT=>?_;clear h;have fl:∀k∈nd.2,find (S.par++[S.par.length]) k=S.f k:=fun k Z=>bZ S.par k;have YL:(S.par++[S.par.length]).length<=900:=by exact J CY (AG (HZ (AG (AA CD) (Dt hz)) 1) (by decide))
 have o0:Obj Bw (X .hi) 487 (Fy X'):=U4▸Mj.o;refine fT S.f (AG h2 (by decide)) (fun G' ex j n e h=>?_) ?_
 ·refine aI o0 rfl (aD rfl (U4▸bM O (hA.lb rfl) Mj (gc I.low) YL (x:=n) ?_ ?_))
  ·show n<(S.par++[S.par.length]).length
   exact J CY (EF (CD▸hk n (BW h)))
  ·exact J (show find (HS.made (S.grow nd wv dv)).par n=S.f n from bZ S.par n) (aJ (Mc h))
 refine tL .num (AW (nd.2.map S.f)) Al (fun x hx=>by refine An (BF.mp hx) fun y Z C9=>?_;exact Rv C9 (⟨_,rfl⟩)) (by exact J aS (J (Bl _) (AG h2 (by decide)))) (fun Z h=>h) fun ys DW Gb=>?_;obtain⟨cs,rfl⟩:=uB (ys:=ys) (fun y hy=>by refine An (BF.mp ((Gb y).mp hy)) fun k Ck CL=>?_;subst CL;exact⟨k,rfl⟩);have Wz:=qa DW;have U5:∀c,c∈cs↔∃k∈nd.2,S.f k=c:=fun c=>by rw[<- dR,Gb,dR,BF]
 have MZ:cs.length<=2:=AG (cO Wz (l:=nd.2.map S.f) fun x hx=>BF.mpr ((U5 x).mp hx)) (by exact J (Bl _) h2);have WA:∀c∈cs,S.root c:=fun c hc=>by refine An ((U5 c).mp hc) fun k h1 CJ=>Rv CJ ?_;exact tw I.low (CD▸hk k h1)
 refine cS .lst (U2 X U S nd wv dv X' cs) (U4▸U2.mk Bw none (by exact J List.take_zero (J kM Mj)) (by exact J List.take_zero (J kM PT))) (fun j x p Hz hx q=>?_) fun p Hz q=>?_
 ·induction q with
  |mk _ Aa HU TU=>
   refine An (bI hx) fun c hc C4=>?_;subst C4;have Kg:=WA c (BW hc);have Uh:=pg Wz hc;have U6:(S.added nd wv dv (cs.take j)).root c:=CC.mpr (.inr Kg);refine An HU.above fun l i3 HR=>?_;have i4:=HU.use c U6;rw[mU Uh Kg]at i4;refine aC HU.o rfl (aN (.AN i3) (.int _ fun p hp=>HR.keys p hp) (HR.at_ c U6) (aZ (.AN i4) (be (.AN i4) (ak (B.us c Kg) (by decide)) ?_)));refine aJ ⟨Al,.mk _ _ ?_ (TU.trans (Bi.set (S:=S.added nd wv dv (cs.take j)) (m:=.use c) _ U6 fun Z h=>h))⟩;refine Rv (pM hc Kg Uh) (J (show AW (S.As c)++[iV S.nodes.length]=AW (S.As c++[S.par.length]) by rw[an,CD];rfl) ?_);exact HU.Ka CX _
 ·rw[aS]at q
  induction q with
  |mk _ Aa HU TU=>
   rw[Kp]at HU TU;have Rw:=I.added (wv:=wv) (dv:=dv) U5 MZ hk h2 ok hz;have WB:(S.added nd wv dv cs).nodes[S.nodes.length]? =some nd:=List.getElem?_concat_length;refine aI HU.o rfl (aD rfl (j1 O CX hA HU (Rw.hb (aA (.a D (.n 21)) (.n 400) 1 1 D (.n 350) (c1 _) hE rfl) (aA (.a D qW) (.n 400) 1 1 D (.n 350) (c1 _) hF rfl)) WB (by show S.nodes.length<(S.par++[S.par.length]).length;exact J CY (J CD (HF _))) (fun y v hv=>Rw.EE hv) fun S3 X3 Fo hl PU H3 T3=>?_));have J':HI (E+21) (F+1) R (fun i=>False\/i=S.nodes.length) (S.added nd wv dv cs):={Rw with comp:=fun n x hx=>(Rw.comp n x hx).imp (fun h=> .inr h) id}
   refine D4 (J'.look WB hl) fun J3 Z YM=>?_;have hN:S.par.length∉cs:=fun h=>Ba (WA _ h).1 (Gk _);exact aQ (hR _ _ _ (q1 (ro Ke) S3 X3 Fo J3 YM (nh I hN hW (J CD hl)) PU H3 (TU.trans T3)))
end
end
section
theorem YN:(∀y∈ys,∃n:Node,y=nV n)->∃cs:List Node,ys=cs.map nV:=by
 induction ys with
 |nil=>exact fun Z=>⟨[],rfl⟩
 |cons y ys ih=>exact fun h=>(h y (.head _)).elim fun n e=>(ih fun y hy=>h y (.tail _ hy)).elim fun cs q=>⟨n::cs,e▸AL (_:: ·) q⟩
theorem iI{n:Node}{l:List Node}:nV n∈l.map nV↔n∈l:=by rw[BF];exact⟨fun ER=>An ER fun a h e=>fP e▸h,fun h=>⟨n,h,rfl⟩⟩
theorem uM{l:List Node}(h:(l.map nV).Nodup):l.Nodup:=by
 induction l with
 |nil=>exact FG
 |cons a l ih=>
  have h:=CQ.mp h;exact CQ.mpr ⟨fun q=>h.1 (iI.mpr q),ih h.2⟩
section
variable{X:XM}{S:HS}{E F:Nat}{R:List (Nat×Nat)}
theorem sO(O:(cz ω).Ok)(hX:Inj X)(hA:A7 7 A)(H:Af X U S)(I:HI E F R (fun Z=>False) S)(hW:S.waiting=[])(hE:E<=350)(hF:F<=350)(ok:DP x)(hz:S.nodes.length<10)(Cb:(x,[])∉S.nodes)
  (q1:∀S' X' Ac,HI (E+22) (F+1) R (fun Z=>False) S'->S'.nodes=S.nodes++[(x,[])]->S'.waiting=[]->Inj X'->Af X' Ac S'->Bi X S U X' S' Ac->Q (iV S.nodes.length) Ac):
  aR (cz ω) A (.ref 397) [.ex (.ref (X .hi)),.tup [.str x]] Q U:=by
 refine(pI _).go O hA rfl fun hA G hG hr=>aI H.o rfl (df (bX (DS _) (ia .tup [] rfl (DS _) (fun Z Z Z Z Z Z Z h=>nomatch h) (uU (DS _) ?_))));refine aD rfl (mr (nd:=(x,[])) O hX hA H I hW hE hF ok (fun Z hk=>nomatch hk) (DS _) hz (fun k hk=>Ba (BW hk) Cb) fun Z S' X' Ac I' hN M5 CX H' T'=>?_);exact aQ (hr _ _ _ (q1 S' X' Ac I' hN M5 CX H' T'))
theorem getD_at{ns:List Node}{n:Nat}(h:n<ns.length):ns[n]? =some (ns.getD n ("",[])):=by exact J (Er) (J (Cr h) rfl)
theorem uf{c:Cx}{A:Around}{G:Gx c A}{K:List V->Pv->u->Prop}{st:List V}{p:Pv}{U:u}{k b:Code}{nm:Nm}{Bu:List Nat}{ns:List Node}{R:List (Nat×Nat)}{f:Nat->Nat}{ms:List Nat}{i:Nat}(hC:Ef ns R f)(hR:R.length<=2)(Gb:∀n,n∈ms↔n<ns.length/\f n=f i)(hl:ms.length<=1000)
  (h:∀(G':Gx c A) ex n x (K':List V->Pv->u->Prop),G'.nm=nm->ns[n]? =some x->K' [nV (canon f x)] (Cj Bu p ex (iV n)) U->Wr G' b K' [] (Cj Bu p ex (iV n)) U)
  (q:∀ys:List Node,ys.Nodup->(∀y,y∈ys↔∃n x,ns[n]? =some x/\f n=f i/\y=canon f x)->Wr G k K (.lst (ys.map nV)::st) p U):WW G (.comp .v nm Bu b (.op .sset k)) K (.lst (AW ms)::st) p U:=by
 refine An (hC.EI (f i)) fun zs U7 RK=>?_;have hg:∀{n},n∈ms->f n=f i/\ns[n]? =some (ns.getD n ("",[])):=fun hn=>⟨((Gb _).mp hn).2,getD_at ((Gb _).mp hn).1⟩
 refine ia .lst (ms.map fun n=>nV (canon f (ns.getD n ("",[])))) ((Bl _).trans aS.symm) (AG (AA aS) hl) (fun G' ex j x z e hx hz=>?_) ?_
 ·refine An (bI hx) fun n hi BX=>J BX ?_
  have DL:=hz;have DL:=(Cs)▸DL;have DL:=hi▸DL
  cases DL
  exact h G' ex n _ _ e (hg (BW hi)).2 (km Al hz)
 refine tL (.mk cG) (zs.map nV) oz (fun x hx=>?_) ?_ (fun x hx=>?_) fun ys DW hm=>?_
 ·refine An (BF.mp hx) fun i Z Dx=>Rv Dx ?_
  exact⟨_,rfl⟩
 ·exact J (Bl _) (AG U7 (QQ (by decide) hR))
 ·refine An (BF.mp hx) fun n hn CS=>Rv CS ?_
  exact iI.mpr (RK n _ (hg hn).2 (hg hn).1)
 ·obtain⟨cs,rfl⟩:=YN (ys:=ys) (fun y hy=>by refine An (BF.mp ((hm y).mp hy)) fun i Z Dw=>?_;exact Rv Dw (⟨_,rfl⟩))
  refine q cs (uM DW) fun y=>?_;rw[<- iI,hm,BF];refine⟨fun PV=>An PV fun n hn e=>⟨n,_,(hg hn).2,(hg hn).1,(fP e).symm⟩,fun PW=>Bc PW fun n x hx hf e=>⟨n,(Gb _).mpr ⟨bK hx,hf⟩,?_⟩⟩;refine J e (J (Er) ?_);exact J hx rfl
theorem jZ(O:(cz ω).Ok)(hA:A7 6 A)(H:Af X U S)(I:HI E F R (fun Z=>False) S)(hW:S.waiting=[])(hR:R.length<=2){c:Nat}(hc:c<S.par.length)
  (q:∀ys:List Node,ys.Nodup->(∀y,y∈ys↔∃n x,S.nodes[n]? =some x/\S.f n=S.f c/\y=canon S.f x)->Q (.lst (ys.map nV)) U):aR (cz ω) A (.ref 465) [.ex (.ref (X .hi)),iV c] Q U:=by
 have CD:=I.pn;have Lj:=I.pz;refine An (I.Ao (S.f c) (tw I.low hc)) fun l hl HQ=>?_;have M4:=I.A9 _ _ hl;refine(gE _).go O hA rfl fun hA G hG hr=>aI H.o rfl (aD rfl (ki O (hA.lb rfl) H I.low (aH D qT 1 1 D Y 1 Y qR (c2 _ _) (AA CD) Lj rfl) I.lp hc hl (az (.a D qW) (.n 64) 1 1 D Y 1 Y qY 1 qY qR (c3 _ _ _) M4 (AA CD) Lj rfl) fun Ce En=>?_));obtain⟨ms,U8⟩:=uB (ys:=Ce.map .int) fun y hy=>by refine An (BF.mp hy) fun i hi CL=>Rv CL ?_;refine An (BF.mp (En.mem_iff.mp hi)) fun n Z CJ=>Rv CJ ?_;exact⟨n,rfl⟩
 refine J U8 ?_;have Gb:∀n,n∈ms↔n<S.nodes.length/\S.f n=S.f c:=fun n=>by
  rewrite[<- dR];refine Rv U8 ?_;rewrite[BF];refine⟨fun PX=>An PX fun i hi e=>?_,fun h=>⟨(n:Int),En.mem_iff.mpr (BF.mpr ⟨n,HQ.mem_iff.mpr ?_,rfl⟩),rfl⟩⟩
  ·refine An (BF.mp (En.mem_iff.mp hi)) fun m hm C4=>?_;subst C4
   have:=HQ.mem_iff.mp hm;rw[av e,JO,G5,decide_eq_true_eq]at this;exact⟨CD▸this.1,this.2⟩
  ·rewrite[JO,G5];exact J decide_eq_true_eq (⟨CD.symm▸h.1,h.2⟩)
 have hlen:ms.length<=1000:=by have:=AL List.length U8;rw[Bl,En.length_eq,Bl,aS]at this;exact t4 D (.n 1000) 1 1 D qX 1 qX Y 1 Y qY 1 qY qR (c4 _ _ _ _) (AA this.symm) M4 (AA CD) Lj rfl
 refine uf (I.MY hW) hR Gb hlen (fun G' ex n x K' e hx k=>?_) fun ys h1 h2=>aQ (hr _ _ _ (q ys h1 h2));exact D4 (I.nd n _ hx) fun z1 z2 z3=>aI H.o rfl (aD rfl (j6 O (hA.lb rfl) H I.low (aH D qT 1 1 D Y 1 Y qR (c2 _ _) (AA CD) Lj rfl) (aA D qT 1 1 D qR (c1 _) Lj rfl) hx (AG z1 (by decide)) (fun k hk=>EL (z2 k hk) (CD.symm▸bK hx)) (aJ k)))
end
end
section
noncomputable def enc:Lb->Nat
 | .h i=>0+13*i| .l i=>1+13*i| .o i=>2+13*i| .A9 i=>3+13*i| .use i=>4+13*i| .A0 i=>5+13*i| .way i=>6+13*i| .vi i=>7+13*i| .vd i=>8+13*i| .ci i=>9+13*i| .cd i=>10+13*i| .cm i=>11+13*i| .F6 i=>12+13*i
noncomputable def dec(n:Nat):Lb:=[Lb.h,.l,.o,.A9,.use,.A0,.way,.vi,.vd,.ci,.cd,.cm,.F6].getD (n % 13) .h (n/13)
theorem cM(i j:Nat)(h:j<13):dec (j+13*i)=[Lb.h,.l,.o,.A9,.use,.A0,.way,.vi,.vd,.ci,.cd,.cm,.F6].getD j .h i:=by unfold dec;exact J ((Sb j 13 i).trans (Nat.mod_eq_of_lt h)) (AL _ ((Nat.add_mul_div_left j i (by decide)).trans ((AL (· +i) (Sk h)).trans (G0 i))))
theorem qL(l:Lb):dec (enc l)=l:=by
 cases l with
 |h i=>exact cM i 0 (by decide)
 |l i=>exact cM i 1 (by decide)
 |o i=>exact cM i 2 (by decide)
 |A9 i=>exact cM i 3 (by decide)
 |use i=>exact cM i 4 (by decide)
 |A0 i=>exact cM i 5 (by decide)
 |way i=>exact cM i 6 (by decide)
 |vi i=>exact cM i 7 (by decide)
 |vd i=>exact cM i 8 (by decide)
 |ci i=>exact cM i 9 (by decide)
 |cd i=>exact cM i 10 (by decide)
 |cm i=>exact cM i 11 (by decide)
 |F6 i=>exact cM i 12 (by decide)
theorem sF(l m:Lb)(h:enc l=enc m):l=m:=by exact Rv (qL l) (Rv (qL m) (J h rfl))
theorem vG:Inj enc:=sF
theorem XM.assign:∀(l:List (Lb×Addr)),(l.map (·.1)).Nodup->(l.map (·.2)).Nodup->∃X:XM,Inj X/\∀p∈l,X p.1=p.2
 |[],_,_=>⟨enc,vG,fun Z h=>nomatch h⟩
 |p::l,h,k=>by
  have h:=CQ.mp h;have k:=CQ.mp k;refine An (XM.assign l h.2 k.2) fun X hX hp=>⟨X.to p.1 p.2,XM.D1 hX _ _,fun q hq=>?_⟩
  rcases BP.mp hq with rfl|hq
  ·exact XM.Bq _ _ _
  ·refine J (XM.Bm X (fun e=>h.1 (BF.mpr ⟨q,hq,e⟩)) (fun e=>k.1 (BF.mpr ⟨q,hq,by refine Rv (hp q hq) ?_;refine J e ?_;rfl⟩))) ?_
   exact hp q hq
structure Nw(U:u)(L:List (Addr×O)):Prop where
 nd:(L.map (·.1)).Nodup
 out:∀a∈L.map (·.1),U a=none
theorem Nw.add(o:O)(h:Nw U L)(z:Bx L U a=none):Nw U (L++[(a,o)])/\(Bx L U).set a o=Bx (L++[(a,o)]) U:=by
 have n:a∉L.map (·.1):=fun m=>by refine An (bV (U:=U) m) fun o e Z=>?_;have z:=e▸z;cases z
 have e:(L++[(a,o)]).map (·.1)=L.map (·.1)++[a]:=DT ..;refine⟨⟨?_,fun b m=>?_⟩,(gM n).trans (hJ (m:=[(a,o)])).symm⟩
 ·refine J e ?_;rewrite[Ko]
  exact⟨h.nd,CQ.mpr ⟨JN,FG⟩,fun x hx y hy q=>n (by rw[Eb.mp hy]at q;exact q▸hx)⟩
 ·rw[e]at m
  rcases DA.mp m with m|m
  ·exact h.out b m
  ·exact J (Eb.mp m) ((ag n).symm.trans z)
theorem Nw.put(o':O)(h:Nw U L)(e:BU L i=some (a,o)):Nw U (A4 L i o')/\(Bx L U).set a o'=Bx (A4 L i o') U:=
 ⟨⟨dK.symm▸h.nd,dK.symm▸h.out⟩,lC h.nd e⟩
theorem Nw.at(i:Nat)(h:Nw U L)(e:BU L i=some (a,o)):Bx L U a=some o:=cZ h.nd (cy e)
theorem Nw.le(h:Nw U L):U.le (Bx L U):=fun a o e=>(ag fun m=>by have e:=(h.out a m)▸e;cases e).trans e
section
variable{c:Cx}{A:Around}{G:Gx c A}{K:List V->Pv->u->Prop}{st r xs:List V}{p:Pv}{U:u}{k:Code}{L:List (Addr×O)}{n:Nat}
theorem qC(h:Nw U L)(e:cL n [] st=some (xs,r))(q:∀a,Nw U (L++[(a,.list xs)])->Wr G k K (.ex (.ref a)::r) p (Bx (L++[(a,.list xs)]) U)):WW G (.op (.lst n) k) K st p (Bx L U):=cg e fun a z=>by have:=h.add (.list xs) z;exact J this.2 (q a this.1)
theorem cu(h:Nw U L)(q:∀a,Nw U (L++[(a,.dict [])])->Wr G k K (.ex (.ref a)::st) p (Bx (L++[(a,.dict [])]) U)):WW G (.op .BV k) K st p (Bx L U):=du fun a z=>by have:=h.add (.dict []) z;exact J this.2 (q a this.1)
theorem ae(h:Nw U L)(i j:Nat)(e1:BU L i=some (a,.inst C d))(e2:BU L j=some (d,.ns m))(hf:(fld C x &&decide (m.length<=900))=true)(hp:put m x y=m')(q:Nw U (A4 L j (.ns m'))->Wr G k K st p (Bx (A4 L j (.ns m')) U)):WW G (.op (.D8 (Ai x)) k) K (.ex (.ref a)::y::st) p (Bx L U):=
 bN (h.at i e1) (h.at j e2) hf hp (by have:=h.put (.ns m') e2;exact J this.2 (q this.1))
theorem fK{Q:V->u->Prop}{k:Nat}(O:c.Ok)(hA:A7 (k+2) A)(hm:makesIn c.K C=true)(hi:findIn c.K (.ref C) "__init__" =some (some (.ref fI)))(hf:typeIn c.K (.ref fI)=some (.type "function"))(h:Nw U L)
  (q:∀a d A',A7 (k+1) A'->Nw U (L++[(d,.ns [])]++[(a,.inst C d)])->aR c A' (.ref fI) (.ex (.ref a)::xs) (fun v Ac=>v=.ex .none/\Q (.ex (.ref a)) Ac) (Bx (L++[(d,.ns [])]++[(a,.inst C d)]) U)):aR c A (.ref C) xs Q (Bx L U):=
 rV O hm hi hf fun a d za zd ne A' a1 a2 a3=>by have h1:=h.add (.ns []) zd;have h2:=h1.1.add (a:=a) (.inst C d) (h1.2▸aB ne za);refine J h1.2 (J h2.2 ?_);exact q a d A' ⟨a1.trans hA.handled,by refine J a2 ?_;have:=hA.depth;exact aA (.a (.a (.a D qW) (.a Y qW)) qW) qY 1 1 (.a (.a D (.a Y qU)) qW) qY (c3 _ _ _) this rfl,by refine J a3 ?_;have:=hA.units;exact aA (.a (.a (.a (.a D qW) (.m 8 (.a Y qW))) (.n 40)) qW) qY 1 1 (.a (.a (.a D (.m 8 (.a Y qU))) (.n 40)) qW) qY (c3 _ _ _) this rfl⟩ h2.1
end
section
theorem sK(O:(cz ω).Ok)(hA:A7 1 A)(N:Nw U L)(i j:Nat)(e1:BU L i=some (x,.inst 186 d))(e2:BU L j=some (d,.ns []))
  (q:∀a1 a2 a3 a4,Nw U (A4 (L++[(a1,.list [])]) j (.ns [("nodes",.ex (.ref a1)),("numbers",.ex (.ref a2)),("weights",.ex (.ref a3)),("depths",.ex (.ref a4))])++[(a2,.dict [])]++[(a3,.list [])]++[(a4,.list [])])->
   Q (.ex .none) (Bx (A4 (L++[(a1,.list [])]) j (.ns [("nodes",.ex (.ref a1)),("numbers",.ex (.ref a2)),("weights",.ex (.ref a3)),("depths",.ex (.ref a4))])++[(a2,.dict [])]++[(a3,.list [])]++[(a4,.list [])]) U)):aR (cz ω) A (.ref 98) [.ex (.ref x)] Q (Bx L U):=
 rA O hA (N.at i e1) (N.at j e2) fun a1 a2 a3 a4 z1 z2 z3 z4 n1 n2 n3 n4 n5 n6=>by
  have k1:=N.add (.list []) z1;have k2:=k1.1.put (.ns [("nodes",.ex (.ref a1)),("numbers",.ex (.ref a2)),("weights",.ex (.ref a3)),("depths",.ex (.ref a4))]) (dM e2);refine J k1.2 (J k2.2 ?_);have s:∀{a:Addr},a≠a1->Bx L U a=none->Bx (A4 (L++[(a1,.list [])]) j (.ns [("nodes",.ex (.ref a1)),("numbers",.ex (.ref a2)),("weights",.ex (.ref a3)),("depths",.ex (.ref a4))])) U a=none:=fun n z=>by exact Rv k2.2 (Rv k1.2 (aB (aE (N.at j e2) z).symm (aB n z)))
  have k3:=k2.1.add (.dict []) (s n1 z2);refine J k3.2 ?_;have k4:=k3.1.add (a:=a3) (.list []) (k3.2▸aB n3 (s n2 z3));refine J k4.2 ?_;have k5:=k4.1.add (a:=a4) (.list []) (k4.2▸aB n6 (k3.2▸aB n5 (s n4 z4)));exact J k5.2 (q a1 a2 a3 a4 k5.1)
theorem oK(O:(cz ω).Ok)(hA:A7 1 A)(N:Nw U L)(i j:Nat)(e1:BU L i=some (x,.inst 357 d))(e2:BU L j=some (d,.ns []))
  (q:∀a1 a2 a3,Nw U (A4 (L++[(a1,.list [])]) j (.ns [("above",.ex (.ref a1)),("lots",.ex (.ref a2)),("merged",.ex (.ref a3))])++[(a2,.list [])]++[(a3,.list [])])->
   Q (.ex .none) (Bx (A4 (L++[(a1,.list [])]) j (.ns [("above",.ex (.ref a1)),("lots",.ex (.ref a2)),("merged",.ex (.ref a3))])++[(a2,.list [])]++[(a3,.list [])]) U)):aR (cz ω) A (.ref 293) [.ex (.ref x)] Q (Bx L U):=
 lr O hA (N.at i e1) (N.at j e2) fun a1 a2 a3 z1 z2 z3 n1 n2 n3=>by
  have k1:=N.add (.list []) z1;have k2:=k1.1.put (.ns [("above",.ex (.ref a1)),("lots",.ex (.ref a2)),("merged",.ex (.ref a3))]) (dM e2);refine J k1.2 (J k2.2 ?_);have s:∀{a:Addr},a≠a1->Bx L U a=none->Bx (A4 (L++[(a1,.list [])]) j (.ns [("above",.ex (.ref a1)),("lots",.ex (.ref a2)),("merged",.ex (.ref a3))])) U a=none:=fun n z=>by exact Rv k2.2 (Rv k1.2 (aB (aE (N.at j e2) z).symm (aB n z)))
  have k3:=k2.1.add (.list []) (s n1 z2);refine J k3.2 ?_;have k4:=k3.1.add (a:=a3) (.list []) (k3.2▸aB n3 (s n2 z3));exact J k4.2 (q a1 a2 a3 k4.1)
theorem se(O:(cz ω).Ok)(hA:A7 4 A)(q:∀X Ac,Inj X->Af X Ac HS.none->U.le Ac->(∀m,HS.none.has m->U (X m)=none)->Q (.ex (.ref (X .hi))) Ac):aR (cz ω) A (.ref 487) [] Q U:=by
 refine fK (L:=[]) (fI:=375) O hA rfl rfl rfl ⟨FG,fun Z h=>nomatch h⟩ fun x d A' hA N=>(jb _).go O hA rfl fun hA G hG hr=>aD rfl (fK (k:=0) (fI:=98) O hA rfl rfl rfl N fun bx bd A2 YO N=>?_);refine sK O YO N 3 2 rfl rfl fun c1 c2 c3 c4 N=>⟨rfl,?_⟩
 dsimp only[A4,List.cons_append,List.nil_append]at N ⊢;refine ae (m':=[("bank",.ex (.ref bx))]) N 1 0 rfl rfl rfl rfl fun N=>?_;dsimp only[A4,List.cons_append,List.nil_append]at N ⊢;refine aD rfl (fK (k:=0) (fI:=293) O hA rfl rfl rfl N fun ux ud A3 YP N=>?_);dsimp only[A4,List.cons_append,List.nil_append]at N ⊢;refine oK O YP N 9 8 rfl rfl fun c5 c6 c7 N=>⟨rfl,?_⟩
 dsimp only[A4,List.cons_append,List.nil_append]at N ⊢;refine ae (m':=[("bank",.ex (.ref bx)),("unions",.ex (.ref ux))]) N 1 0 rfl rfl rfl rfl fun N=>?_;dsimp only[A4,List.cons_append,List.nil_append]at N ⊢;refine qC N rfl fun c8 N=>?_;dsimp only[A4,List.cons_append,List.nil_append]at N ⊢;refine ae (m':=[("bank",.ex (.ref bx)),("unions",.ex (.ref ux)),("edges",.ex (.ref c8))]) N 1 0 rfl rfl rfl rfl fun N=>?_;dsimp only[A4,List.cons_append,List.nil_append]at N ⊢;refine qC N rfl fun c9 N=>?_;dsimp only[A4,List.cons_append,List.nil_append]at N ⊢;refine ae (m':=[("bank",.ex (.ref bx)),("unions",.ex (.ref ux)),("edges",.ex (.ref c8)),("forest",.ex (.ref c9))]) N 1 0 rfl rfl rfl rfl fun N=>?_;dsimp only[A4,List.cons_append,List.nil_append]at N ⊢;refine cu N fun Ml N=>?_;dsimp only[A4,List.cons_append,List.nil_append]at N ⊢;refine ae (m':=[("bank",.ex (.ref bx)),("unions",.ex (.ref ux)),("edges",.ex (.ref c8)),("forest",.ex (.ref c9)),("known",.ex (.ref Ml))]) N 1 0 rfl rfl rfl rfl fun N=>?_;dsimp only[A4,List.cons_append,List.nil_append]at N ⊢;refine cu N fun M6 N=>?_;dsimp only[A4,List.cons_append,List.nil_append]at N ⊢;refine ae (m':=[("bank",.ex (.ref bx)),("unions",.ex (.ref ux)),("edges",.ex (.ref c8)),("forest",.ex (.ref c9)),("known",.ex (.ref Ml)),("above",.ex (.ref M6))]) N 1 0 rfl rfl rfl rfl fun N=>?_;dsimp only[A4,List.cons_append,List.nil_append]at N ⊢;refine qC N rfl fun PY N=>?_;dsimp only[A4,List.cons_append,List.nil_append]at N ⊢;refine ae (m':=[("bank",.ex (.ref bx)),("unions",.ex (.ref ux)),("edges",.ex (.ref c8)),("forest",.ex (.ref c9)),("known",.ex (.ref Ml)),("above",.ex (.ref M6)),("waiting",.ex (.ref PY))]) N 1 0 rfl rfl rfl rfl fun N=>?_;dsimp only[A4,List.cons_append,List.nil_append]at N ⊢;refine ae (m':=[("bank",.ex (.ref bx)),("unions",.ex (.ref ux)),("edges",.ex (.ref c8)),("forest",.ex (.ref c9)),("known",.ex (.ref Ml)),("above",.ex (.ref M6)),("waiting",.ex (.ref PY)),("backs",.int 0)]) N 1 0 rfl rfl rfl rfl fun N=>?_;dsimp only[A4,List.cons_append,List.nil_append]at N ⊢;obtain⟨X,hX,hp⟩:=XM.assign [(.hd,d),(.hi,x),(.bd,bd),(.bi,bx),(.nodes,c1),(.AJ,c2),(.AR,c3),(.Bh,c4),(.ud,ud),(.ui,ux),(.par,c5),(.Ao,c6),(.merged,c7),(.AF,c8),(.AQ,c9),(.known,Ml),(.above,M6),(.waiting,PY)] (SV (S:=(·≠ ·)) Lb.num (fun a b h e=>h (AL _ e)) (show(List.map Lb.num [.hd,.hi,.bd,.bi,.nodes,.AJ,.AR,.Bh,.ud,.ui,.par,.Ao,.merged,.AF,.AQ,.known,.above,.waiting]).Pairwise (·≠ ·) by decide)) N.nd;have P:∀(i:Nat) {q:Lb×Addr},([(.hd,d),(.hi,x),(.bd,bd),(.bi,bx),(.nodes,c1),(.AJ,c2),(.AR,c3),(.Bh,c4),(.ud,ud),(.ui,ux),(.par,c5),(.Ao,c6),(.merged,c7),(.AF,c8),(.AQ,c9),(.known,Ml),(.above,M6),(.waiting,PY)]:List (Lb×Addr))[i]? =some q->X q.1=q.2:=fun i q h=>hp q (BW h);refine aJ ⟨rfl,bq (q X _ hX ?_ N.le fun m hm=>?_) (AL (fun a=>V.ex (.ref a)) (P 1 rfl)) rfl⟩
 ·have at_:∀{lb:Lb} {a:Addr} {o o':Mine.Internal.O} (i:Nat),X lb=a->BU _ i=some (a,o)->o=o'->Bx _ U (X lb)=some o':=fun i e h e2=>(AL _ e).trans ((N.at i h).trans (AL some e2))
  refine⟨at_ 1 (P 1 rfl) rfl (AL _ (P 0 rfl).symm),at_ 0 (P 0 rfl) rfl ?_,⟨at_ 3 (P 3 rfl) rfl (AL _ (P 2 rfl).symm),at_ 2 (P 2 rfl) rfl ?_,at_ 4 (P 4 rfl) rfl rfl,at_ 5 (P 5 rfl) rfl rfl,at_ 6 (P 6 rfl) rfl rfl,at_ 7 (P 7 rfl) rfl rfl⟩,
   ⟨at_ 9 (P 9 rfl) rfl (AL _ (P 8 rfl).symm),at_ 8 (P 8 rfl) rfl ?_,at_ 10 (P 10 rfl) rfl rfl,at_ 11 (P 11 rfl) rfl rfl,(fun i l h=>nomatch h),at_ 12 (P 12 rfl) rfl rfl⟩,at_ 13 (P 13 rfl) rfl rfl,at_ 14 (P 14 rfl) rfl rfl,at_ 15 (P 15 rfl) rfl rfl,
   ⟨[],at_ 16 (P 16 rfl) rfl rfl,⟨(fun p h=>nomatch h),Bf _,(fun c h=>Ba h.1 (Gu _))⟩⟩,(fun c h=>Ba h.1 (Gu _)),at_ 17 (P 17 rfl) rfl rfl⟩
  ·unfold Fy;exact J (P 3 rfl) (J (P 9 rfl) (J (P 13 rfl) (J (P 14 rfl) (J (P 15 rfl) (J (P 16 rfl) (J (P 17 rfl) rfl))))))
  ·unfold IY;exact J (P 4 rfl) (J (P 5 rfl) (J (P 6 rfl) (J (P 7 rfl) rfl)))
  ·unfold IZ;exact J (P 10 rfl) (J (P 11 rfl) (J (P 12 rfl) rfl))
 ·have K:∀(i:Nat) {q:Lb×Addr},([(.hd,d),(.hi,x),(.bd,bd),(.bi,bx),(.nodes,c1),(.AJ,c2),(.AR,c3),(.Bh,c4),(.ud,ud),(.ui,ux),(.par,c5),(.Ao,c6),(.merged,c7),(.AF,c8),(.AQ,c9),(.known,Ml),(.above,M6),(.waiting,PY)]:List (Lb×Addr))[i]? =some q->U (X q.1)=none:=fun i q h=>N.out _ (by exact J (hp q (BW h)) (MD (f:=fun q:Lb×Addr=>q.2) (BW h)))
  exact HS.hc (P:=fun m=>U (X m)=none) (af (af (af (af (af (af (af (af (af (af (af (af (af (af (af (af (af (af lq (K 1 rfl)) (K 0 rfl)) (K 3 rfl)) (K 2 rfl)) (K 4 rfl)) (K 5 rfl)) (K 6 rfl)) (K 7 rfl)) (K 9 rfl)) (K 8 rfl)) (K 10 rfl)) (K 11 rfl)) (K 12 rfl)) (K 13 rfl)) (K 14 rfl)) (K 15 rfl)) (K 16 rfl)) (K 17 rfl)) (fun i h=>Ba h (Gu _)) (fun c h=>Ba h.1 (Gu _)) m hm
end
end
section
theorem aK.o{X:XM}(H:aK X U qZ):Obj U (X .li) 629 (Jb X qZ.turns):=⟨_,H.i,H.d⟩
inductive WC(a:Addr)(p:List Nat)(x n:Nat)(U:u):Pv->u->Prop
 |mk (h:find p n=find p x):WC a p x n U ⟨[some (.ex (.ref a)),some (iV n)],[]⟩ U
inductive y3(X:XM)(a:Addr)(l n:Nat)(U:u):Pv->u->Prop
 |mk (v:Int) (h:v=(n:Int)-1) (hn:n<=l+1) (m:List Nat) (hm:m=((List.range (l+1)).drop n).reverse):y3 X a l n U ⟨[some (.ex (.ref (X .li))),some (.int v),some (.ex (.ref a))],[(a,.list (AW m))]⟩ U
inductive zy(X:XM)(S:HS)(qZ:LS)(l x k:Nat)(U:u):Pv->u->Prop
 |mk (Aa:Option V):zy X S qZ l x k U ⟨[some (.ex (.ref (X .li))),some (iV l),some (iV x),some (iV (qZ.G (S.f x) k)),Aa],[]⟩ U
theorem sh(h:l<2):Az [(iV 0,x),(iV 1,y)] (iV l)=some (if l=0 then x else y):=by
 rcases CF h with rfl|rfl
 ·simp[Az]
 ·simp[Az]
section
variable{X:XM}{S:HS}{E F:Nat}{R:List (Nat×Nat)}
theorem nM(O:(cz ω).Ok)(hA:A7 1 A)(ha:U a=some (.dict d))(W:WD d p)(hp:Dc p)(q:Q (iV (find p x)) U):aR (cz ω) A (.ref 498) [.ex (.ref a),iV x] Q U:=by
 have ks:∀{n:Nat},KS d (iV n):=.int _ fun p hp=>W.keys p hp;refine(oP _).go O hA rfl fun hA G hG hR=>ce (fun n=>WC a p x n U) x (.mk rfl) fun n Z Z j=>?_
 induction j with
 |mk e=>
  have hy:=W.at_ n;refine PH (.AN ha) ks (aJ (dw (fun Aa=>?_) fun Aa=>?_))
  ·by_cases k:up p n=n
   ·rw[hy,AS k]at Aa;cases Aa
   ·rw[AK k]at hy
    exact aN (.AN ha) ks hy (aJ ⟨up p n,DF (hp n) k,.mk ((cT hp n).trans e)⟩)
  ·by_cases k:up p n=n
   ·have e':n=find p x:=(aT k).symm.trans e
    exact aQ (hR _ _ _ (J e' q))
   ·rw[hy,AK k]at Aa;cases Aa
theorem ua(h:l<2):Az [(iV 0,V.int (-1)),(iV 1,iV 0)] (iV l)=some (.int ((l:Int)-1)):=by
 refine J (sh h) ?_
 rcases CF h with rfl|rfl<;>rfl
theorem wO(O:(cz ω).Ok)(hA:A7 1 A)(H:aK X U qZ)(hl:l<2)(q:Q (.ex .none) U):aR (cz ω) A (.ref 519) [.ex (.ref (X .li)),iV l] Q U:=by refine(da _).go O hA rfl fun hA G hG hR=>w_and (fun Z=>?_) fun Z=>ao rfl (aF (aJ q));refine aC H.o rfl (gP (.AN H.beneath) (.int _ ax) (aF (ao ?_ (aF (aJ q)))));exact J (ua hl) rfl
theorem fX(O:(cz ω).Ok)(hA:A7 2 A)(H:aK X U qZ)(hl:l<2)(q:Q (.lst (AW (List.range (l+1)))) U):aR (cz ω) A (.ref 533) [.ex (.ref (X .li)),iV l] Q U:=by
 refine(d6 _).go O hA rfl fun hA G hG hR=>aI H.o rfl (aD rfl (wO O hA H hl (mi rfl fun a Z=>?_)));refine ce (fun n=>y3 X a l n U) (l+1) (.mk (l:Nat) (LH (l:Int) 1).symm (Bf _) [] (by exact J (List.drop_of_length_le (AA Ek)) rfl)) fun n Z Z j=>?_
 induction j with
 |mk v hv hn m hm=>
  refine aJ (dw (fun Aa=>?_) fun Aa=>?_)
  ·cases n with
   |zero=>subst hv;cases Aa
   |succ n=>
    obtain rfl:v=(n:Nat):=hv.trans (LH (n:Int) 1);have ml:m.length<=2:=by exact J hm (J Np (J List.length_drop (J Ek (aH D qU 1 1 (.a D (.a qY qW)) (.a Y qW) 1 (.a Y qW) qU (c3 _ _ _) (AA (Ds (aA (.a Y qW) (.a D qW) 1 1 (.a Y qW) (.a D qW) (c2 _ _) hn rfl))) hl rfl))))
    refine aZ (.own 0 rfl) (be (.own 0 rfl) (ak ml (by decide)) ?_);refine aC H.o rfl (aN (.AN H.beneath) (.int _ ax) (ua (l:=n) (aH (.a D qW) qU 1 1 (.a D qW) (.a Y qW) 1 (.a Y qW) qU (c2 _ _) hn hl rfl)) ?_);refine aJ ⟨n,HF n,?_⟩;have e2:(List.range (l+1)).drop n=n::(List.range (l+1)).drop (n+1):=by refine J (List.drop_eq_getElem_cons (by rw[Ek];exact hn)) (J (List.getElem_range _) ?_);rfl
    have:=y3.mk (X:=X) (a:=a) (U:=U) ((n:Int)-1) rfl (JE hn) (m++[n]) (by exact J e2 (J ME (J hm rfl)))
    rwa [an]at this
  ·have n0:n=0:=by
    cases n with
    |zero=>rfl
    |succ n=>obtain rfl:v=(n:Nat):=hv.trans (LH (n:Int) 1);cases Aa
   subst n0;refine zF (.own 0 rfl) (by refine J aS (J hm (J Np (J List.length_drop (J Ek (?_)))));assumption) (aQ (hR _ _ _ ?_));refine J hm (J List.drop_zero ?_);unfold AW;refine J List.map_reverse (J (List.reverse_reverse _) ?_);exact q
theorem au(O:(cz ω).Ok)(hA:A7 3 A)(H:Af X U S)(hp:Dc S.par)(hz:S.par.length<=900)(M:aK X U qZ)(K:Cq qZ S.par.length)(hl:l<2)(hx:x<S.par.length)(q:Q (iV (qZ.F S l x)) U):
  aR (cz ω) A (.ref 545) [.ex (.ref (X .li)),iV l,iV x] Q U:=by
 refine(jV _).go O hA rfl fun hA G hG hR=>aC M.o rfl (aI H.o rfl (aD rfl (bM O hA H hp hz hx ?_)));refine aI M.o rfl (aD rfl (fX O hA M hl ?_));refine cS .lst (fun k=>zy X S qZ l x k U) (.mk none) (fun k y Z Z hy j=>?_) fun Z Z j=>?_
 ·induction j with
  |mk Aa=>
   refine An (bI hy) fun k' hk Bg=>J Bg ?_;have EJ:=bK hk;have EJ:=Ek▸EJ;have hk:=(Nq EJ)▸hk
   cases hk
   have PZ:k<2:=GZ EJ hl;refine aC M.o rfl (aN (.AN M.Bz) (.int _ ax) (sh PZ) ?_);obtain⟨d,g2,g3⟩:∃d,U (X (.way k))=some (.dict d)/\WD d (qZ.p k):=by
    rcases CF PZ with rfl|rfl
    ·exact M.w0
    ·exact M.w1
   have e:(if k=0 then V.ex (.ref (X (.way 0)))else .ex (.ref (X (.way 1))))=.ex (.ref (X (.way k))):=by rcases CF PZ with rfl|rfl<;>rfl
   exact J e (aD rfl (nM O (hA.lb rfl) g2 g3 (K.low k) (aJ ⟨Al,.mk _⟩)))
 ·rw[aS,Ek]at j
  induction j with
  |mk Aa=>exact aQ (hR _ _ _ q)
theorem gS{a b:Nat}:decide (a=b)=((a:Int)==(b:Int)):=by
 by_cases e:a=b
 ·refine J (DU e) (J (iJ e) ?_);rfl
 ·refine J (Df e) (J (gT e) ?_);rfl
theorem fh(O:(cz ω).Ok)(hA:A7 4 A)(H:Af X U S)(hp:Dc S.par)(hz:S.par.length<=900)(M:aK X U qZ)(K:Cq qZ S.par.length){l:Nat}(hl:l<2){x y:Nat}(hx:x<S.par.length)(hy:y<S.par.length)(q:Q (.ex (.bool (decide (qZ.F S l x=qZ.F S l y)))) U):
  aR (cz ω) A (.ref 552) [.ex (.ref (X .li)),iV l,iV x,iV y] Q U:=by
 refine(eG _).go O hA rfl fun hA G hG hR=>aI M.o rfl (aD rfl (au O hA H hp hz M K hl hx ?_));refine aI M.o rfl (aD rfl (au O hA H hp hz M K hl hy ?_));exact aQ (hR _ _ _ (Rv gS q))
end
end
section
section
variable{X:XM}{S:HS}{E F:Nat}{R:List (Nat×Nat)}
theorem dB(O:(cz ω).Ok)(hX:Inj X)(hA:A7 4 A)(H:Af X U S)(hp:Dc S.par)(hz:S.par.length<=20)(M:aK X U qZ)(K:Cq qZ S.par.length)(hl:l<2)(hx:x<S.par.length)(hy:y<S.par.length)
  (q:∀Ac,Af X Ac S->aK X Ac (qZ.join S l x y)->BY B2 X LS.has U X LS.has Ac->Q (.ex (.bool (decide (qZ.F S l x≠qZ.F S l y)))) Ac):aR (cz ω) A (.ref 559) [.ex (.ref (X .li)),iV l,iV x,iV y] Q U:=by
 refine An (M.PN hl) fun d h4 W=>?_;have z9:S.par.length<=900:=AG hz (by decide);refine(jC _).go O hA rfl fun hA G hG hR=>aI M.o rfl (aD rfl (au O hA H hp z9 M K hl hx ?_));refine aI M.o rfl (aD rfl (au O hA H hp z9 M K hl hy ?_));have e0:∀{b:Bool},decide (qZ.F S l x≠qZ.F S l y)=b->(((qZ.F S l x:Nat):Int) !=(qZ.F S l y:Nat))=b:=fun{b} h=>by refine Rv h ?_;rewrite[bne];exact Rv gS ((decide_not ..).symm)
 by_cases e:qZ.F S l x=qZ.F S l y
 ·refine ao (e0 (decide_eq_false fun h=>h e)) (aF (aQ (hR _ _ _ (bq (q _ H (by unfold LS.join;exact J (if_pos e) M) .refl) (congrArg _ (congrArg _ (e0 rfl).symm)) rfl))))
 ·refine bl (e0 (DU e)) ?_
  have r1:=LS.Fi (S:=S) (l:=l) K x;have r2:=LS.Fi (S:=S) (l:=l) K y;refine DC (nU _ _ e) fun k g BD ho e1 e2=>?_;have m1:(if((qZ.F S l y:Nat):Int)<(qZ.F S l x:Nat)then((qZ.F S l y:Nat):Int)else(qZ.F S l x:Nat))=(min (qZ.F S l x) (qZ.F S l y):Nat):=vg _ _;have m2:(if((qZ.F S l y:Nat):Int)>(qZ.F S l x:Nat)then((qZ.F S l y:Nat):Int)else(qZ.F S l x:Nat))=(max (qZ.F S l x) (qZ.F S l y):Nat):=wU _ _;have YQ:=LS.Hx (l:=l) hp K x;have YR:=LS.Hx (l:=l) hp K y;have hW:=W.len;rw[K.len]at hW;have hg:max (qZ.F S l x) (qZ.F S l y)<(qZ.p l).length:=by exact J (K.len _) (Nk.mpr ⟨Dj YQ hx,Dj YR hy⟩)
  have rg:up (qZ.p l) (max (qZ.F S l x) (qZ.F S l y))=max (qZ.F S l x) (qZ.F S l y):=by
   rcases Jo (qZ.F S l x) (qZ.F S l y)with q|q
   ·exact J (JH q) r2
   ·exact J (JJ q) r1
  refine a9 rfl (fun q=>sf G.hh (Rv m1.symm q)) (aC M.o rfl (aN (.AN M.Bz) (.int _ ax) (tI hl) ?_));refine a9 rfl (fun q=>sv G.hh (Rv m2.symm q)) (ah (.AN h4) (.int _ fun p hp=>W.keys p hp) (AG (Nat.le_of_add_right_le hW) (AG hz (by decide))) (aF (aQ (hR _ _ _ (bq (q _ ?_ ?_ ?_) (AL _ (AL _ (e0 rfl).symm)) rfl)))))
  ·exact H.other fun m hm=>hX.ne fun e=>by subst e;exact hm.elim
  ·unfold LS.join;exact J (if_neg e) (M.Kd hX hl (W.put hg (dz e) rg))
  ·exact BY.set (m:=.way l) _ hl fun Z h=>h
end
end
section
inductive WE(X:XM)(U:u)(S:HS)(qZ:LS)(R:List (Nat×Nat))(l:Nat)(a:Addr)(k:Nat):Pv->u->Prop
 |mk (Y':LS) (kn:List (V×V)) (t:Bool) (u1 u2:Option V) (Ac:u) (H:Af X Ac S) (M:aK X Ac Y') (T:BY B2 X LS.has U X LS.has Ac) (SM:bH l qZ Y') (K:Cq Y' S.par.length) (P:cU S.nodes R (qZ.F S l) (Y'.F S l) kn t k):
  WE X U S qZ R l a k ⟨[some (.ex (.ref (X .li))),some (iV l),some (.ex (.ref a)),some (.ex (.bool t)),u1,u2],[(a,.dict kn)]⟩ Ac
section
variable{X:XM}{S:HS}{E F:Nat}{R:List (Nat×Nat)}
theorem jH(O:(cz ω).Ok)(hX:Inj X)(hA:A7 5 A)(H:Af X U S)(B:HB S)(CD:S.par.length=S.nodes.length)(M:aK X U qZ)(K:Cq qZ S.par.length)(hl:l<2)(YS:Pt (qZ.F S l))(U9:Eo S.nodes R (qZ.F S l))
  (q:∀Y' Ac t,Af X Ac S->aK X Ac Y'->BY B2 X LS.has U X LS.has Ac->Cq Y' S.par.length->bH l qZ Y'->Pt (Y'.F S l)->Eo S.nodes R (Y'.F S l)->(∀i j,qZ.F S l i=qZ.F S l j->Y'.F S l i=Y'.F S l j)->
   (t=false->Y'.F S l=qZ.F S l/\Cl S.nodes (Y'.F S l))->(t=true->cls S.nodes.length (Y'.F S l)<cls S.nodes.length (qZ.F S l))->Q (.ex (.bool t)) Ac):aR (cz ω) A (.ref 564) [.ex (.ref (X .li)),iV l] Q U:=by
 have hp:=B.low;have pz:=B.pz;have p9:S.par.length<=900:=AG pz (by decide);refine(dW _).go O hA rfl fun hA G hG hR=>oU fun a ha=>aC M.o rfl (aI H.o rfl (aD rfl (dQ O (hA.lb rfl) H (Rv CD p9) ?_)));refine oj (Gv.mpr (AG (Rv CD pz) (by decide:20<=1000))) (Ra (by decide) (Jq _)) (fun k=>WE X U S qZ R l a k) (.mk qZ [] false none none U H M .refl (.refl _ _) K (.start YS U9)) (fun k x p Ac hx j=>?_) fun p Ac j=>?_
 ·refine A5 (bz hx) fun hk Ct=>J Ct ?_
  rw[JP]at hk;refine J (NA _) ?_;have JB:S.nodes[k]? =some S.nodes[k]:=Cr hk;have hk:=QR hk CD.symm;refine D4 (B.nd k _ JB) fun z1 z2 z3=>?_
  induction j with
  |mk Y' kn t u1 u2 Ac H' M' T' SM K' P=>
   refine aC M'.o rfl (aC H'.o rfl (aI H'.bo rfl (aD rfl (lU O (hA.lb rfl) H'.BS (aH D qT 1 1 D Y 1 Y qT (c2 _ _) (AA CD.symm) p9 rfl) JB ?_))));refine aC M'.o rfl (aC H'.o rfl (aI H'.bo rfl (aD rfl (dP O (hA.lb rfl) H'.BS (aH D qT 1 1 D Y 1 Y qT (c2 _ _) (AA CD.symm) p9 rfl) JB (aA D qT 1 1 D qU (c1 _) z1 rfl) ?_))));refine fT (Y'.F S l) (aA D (.n 1000) 1 1 D qU (c1 _) z1 rfl) (fun G' ex j n e hn=>?_) ?_
   ·exact aI M'.o rfl (aD rfl (au O (hA.lb rfl) H' hp p9 M' K' hl (EL (z2 n (BW hn)) hk) (aJ (Mc hn))))
   refine fS (by exact J (Bl _) (aA D qT 1 1 D qU (c1 _) z1 rfl)) ?_;have YT:=P.len;have ks:KS kn (nV (canon (Y'.F S l) S.nodes[k])):=.mk cG _ ⟨_,rfl⟩ fun p hp=>by refine LN (P.kk p hp) fun x y m Va Z=>?_;exact J Va (⟨x,rfl⟩)
   refine aI M'.o rfl (dS (.own 0 rfl) (eR (.own 0 rfl) ks (az D (.n 1000) 1 1 D qY 1 (.a qY qW) Y 1 Y qT (c3 _ _ _) YT hk p9 rfl) (fun z hz=>?_) fun hz=>?_))
   ·refine An (P.get hz) fun m Ci Fx=>?_;subst Ci
    have hm:=QR Fx CD.symm;refine aD rfl (dB O hX hA H' hp pz M' K' hl hm hk fun Fo H3 M3 T3=>?_);have hF:=LS.Jd (S:=S) (qZ:=Y') (a:=m) (b:=k) hl hp K' hm hk;have K3:=Cq.join (l:=l) (S:=S) hp K' (a:=m) (b:=k) hm hk;have M7:=SM.trans (bH.join (S:=S) (qZ:=Y') (a:=m) (b:=k) hl);have TT:=T'.trans T3
    by_cases e:Y'.F S l m=Y'.F S l k
    ·have eY:Y'.join S l m k=Y':=by unfold LS.join;exact J (if_pos e) rfl
     rw[eY]at M3 K3 M7;exact ao (Df fun h=>h e) (aF (aJ ⟨Al,.mk Y' kn t _ _ Fo H3 M3 TT M7 K3 (P.old JB hz e)⟩))
    ·have P3:=P.join JB Fx hz e
     rw[<- hF]at P3;exact bl (DU e) (aF (aJ ⟨Al,.mk _ kn true _ _ Fo H3 M3 TT M7 K3 P3⟩))
   ·refine aD rfl (dB O hX hA H' hp pz M' K' hl hk hk fun Fo H3 M3 T3=>?_)
    have eY:Y'.join S l k k=Y':=by unfold LS.join;exact J (if_pos rfl) rfl
    rw[eY]at M3;exact ao (Df fun h=>h rfl) (aF (aJ ⟨Al,.mk Y' _ t _ _ Fo H3 M3 (T'.trans T3) SM K' (P.new JB hz)⟩))
 ·rw[a7]at j
  induction j with
  |mk Y' kn t u1 u2 Ac H' M' T' SM K' P=>
   refine aQ (hR _ _ _ (q Y' Ac t H' M' T' K' SM P.pt P.snd P.mono ?_ P.loud));intro ht;subst ht;exact cU.done (by rwa [JP]at P)
end
end
section
structure Fp(l:Nat)(qZ Y':LS):Prop where
 p:∀k,k<2->k≠l->Y'.p k=qZ.p k
 r0:Y'.r0=qZ.r0
 r1:Y'.r1=qZ.r1
 turns:Y'.turns=qZ.turns+1
theorem Fp.r(h:Fp l qZ Y'):Y'.r k=qZ.r k:=by
 cases k
 ·exact h.r0
 ·exact h.r1
theorem bH.r(h:bH l qZ Y'):Y'.r k=qZ.r k:=by
 cases k
 ·exact h.r0
 ·exact h.r1
theorem Fp.same(h:Fp l qZ Y1)(k:bH l Y1 Y'):Fp l qZ Y':=⟨fun i a b=>(k.p i a b).trans (h.p i a b),k.r0.trans h.r0,k.r1.trans h.r1,k.turns.trans h.turns⟩
theorem pX(N n:Nat):find (List.range N) n=n:=aT (cJ N n)
theorem qk(N:Nat):Dc (List.range N):=fun a=>by exact J (cJ _ _) (Bf _)
theorem p3{S:HS}:∀m,S.has m->¬B2 m:=fun m h=>by cases m<;>first|exact id|exact h.elim
inductive zg(X X':XM)(U:u)(S:HS)(qZ Y1:LS)(Rb Rl:List (Nat×Nat))(l:Nat)(k:Nat):Pv->u->Prop
 |mk (Y':LS) (u1 u2:Option V) (Ac:u) (i3:Af X' Ac S) (i4:aK X' Ac Y') (i5:BY B2 X LS.has U X' LS.has Ac) (i6:bH l Y1 Y') (i7:Cq Y' S.par.length) (i8:Pt (Y'.F S l)) (i9:Eo S.nodes (Rb++Rl) (Y'.F S l)) (YU:(∀i j,qZ.B S l i=qZ.B S l j->Y'.F S l i=Y'.F S l j)) (YV:Tl (Rl.take k) (Y'.F S l)):
  zg X X' U S qZ Y1 Rb Rl l k ⟨[some (.ex (.ref (X' .li))),some (iV l),u1,u2],[]⟩ Ac
inductive P0(X X':XM)(U:u)(S:HS)(Y1:LS)(Rb Rl:List (Nat×Nat))(l:Nat)(n:Nat):Pv->u->Prop
 |mk (Y2:LS) (u1 u2:Option V) (Ac:u) (i3:Af X' Ac S) (i4:aK X' Ac Y2) (i5:BY B2 X LS.has U X' LS.has Ac) (i6:bH l Y1 Y2) (i7:Cq Y2 S.par.length) (i8:Pt (Y2.F S l)) (i9:Eo S.nodes (Rb++Rl) (Y2.F S l)) (YU:Tl (Rb++Rl) (Y2.F S l)) (YV:n=cls S.nodes.length (Y2.F S l)):
  P0 X X' U S Y1 Rb Rl l n ⟨[some (.ex (.ref (X' .li))),some (iV l),u1,u2],[]⟩ Ac
section
variable{X:XM}{S:HS}{E F:Nat}{R:List (Nat×Nat)}
theorem nF(O:(cz ω).Ok)(hX:Inj X)(hA:A7 6 A)(H:Af X U S)(B:HB S)(CD:S.par.length=S.nodes.length)(M:aK X U qZ)(K:Cq qZ S.par.length)(hl:l<2)
  (Jf:Ef S.nodes Rb (qZ.B S l)) (hr:Gq (qZ.r l) Rl) (P5:∀p∈Rl,p.1<S.par.length/\p.2<S.par.length) (RL:Rl.length<=100)
  (q:∀Y' X' Ac,Inj X'->Af X' Ac S->aK X' Ac Y'->BY B2 X LS.has U X' LS.has Ac->Cq Y' S.par.length->Fp l qZ Y'->Ef S.nodes (Rb++Rl) (Y'.F S l)->Q (.ex .none) Ac):aR (cz ω) A (.ref 581) [.ex (.ref (X .li)),iV l] Q U:=by
 have pz:=B.pz;have hp:=B.low;refine(iY _).go O hA rfl fun hA G hG hR=>aC M.o rfl (bN (m':=Jb X (qZ.turns+1)) M.i M.d rfl rfl ?_);have M1:=M.Hy hX (qZ.turns+1);have H1:=H.other (b:=X .ld) (o:=.ns (Jb X (qZ.turns+1))) fun m hm=>hX.ne fun e=>by subst e;exact hm.elim
 have T1:BY B2 X LS.has U X LS.has (U.set (X .ld) (.ns (Jb X (qZ.turns+1)))):=BY.set (m:=.ld) _ Al fun Z h=>h;refine du fun b hb=>?_;have T3:=BY.Fm M1 hl hb (.dict []) (.dict (dput [(iV 0,V.ex (.ref (X (.way 0)))),(iV 1,.ex (.ref (X (.way 1))))] (iV l) (.ex (.ref b))));have M2:=M1.Fm hX hl hb (H1.val .hi Al) S.par.length;have Vb:=T3.lb .li id (M1.val .li Al);have H2:=H1.Ja hX p3 T3;have CX:=XM.D1 hX (.way l) b;have nb:=M1.apart hb;refine aC ⟨_,(u.Ad _ _ (nb .li Al)).trans M1.i,(u.Ad _ _ (nb .ld Al)).trans M1.d⟩ rfl (ah (.AN ((u.Ad _ _ (nb .Bz Al)).trans M1.Bz)) (.int _ ax) (Dr rfl) ?_);generalize ((U.set (X .ld) (.ns (Jb X (qZ.turns+1)))).set b (.dict [])).set (X .Bz) (.dict (dput [(iV 0,V.ex (.ref (X (.way 0)))),(iV 1,.ex (.ref (X (.way 1))))] (iV l) (.ex (.ref b))))=τ at*;have TT:=T1.trans T3;have YW:∀n,(LS.Cy {qZ with turns:=qZ.turns+1} l (List.range S.par.length)).F S l n=qZ.B S l n:=fun n=>by
  refine J (LS.Jc hl) (J (pX _ _) ?_)
  rcases CF hl with rfl|rfl
  ·rfl
  ·rfl
 have Vc:(LS.Cy {qZ with turns:=qZ.turns+1} l (List.range S.par.length)).F S l=qZ.B S l:=funext YW;have Cb:Fp l qZ (LS.Cy {qZ with turns:=qZ.turns+1} l (List.range S.par.length)):=by have h:=bH.Cy (qZ:={qZ with turns:=qZ.turns+1}) hl (List.range S.par.length);exact⟨fun k h1 h2=>(h.p k h1 h2).trans (by cases k<;>rfl),h.r0,h.r1,h.turns⟩
 have YX:Cq (LS.Cy {qZ with turns:=qZ.turns+1} l (List.range S.par.length)) S.par.length:=Cq.Cy (qZ:={qZ with turns:=qZ.turns+1}) ⟨K.l0,K.l1,K.n0,K.n1⟩ (qk _) (Ek ..);generalize LS.Cy {qZ with turns:=qZ.turns+1} l (List.range S.par.length)=Y1 at*;have i5:=Cb.r (k:=l);refine Rv Vb ?_;generalize X.to (.way l) b=X' at*;refine aC M2.o rfl (aN (.AN M2.B1) (.int _ ax) (sh hl) ?_);refine J (ite_self _) (aC M2.o rfl (aC H2.o rfl (ao rfl (aF ?_))));refine aC M2.o rfl (aN (.AN M2.told) (.int _ ax) (mc hl) ?_);refine cS (.obj (.AN (M2.Fj hl))) (fun k=>zg X X' U S qZ Y1 Rb Rl l k) (.mk Y1 none none τ H2 M2 TT (.refl _ _) YX (by exact J Vc Jf.pt) (by exact J Vc (Jf.snd.more (fun Z Z h=>h) fun p hp=>HG _ hp)) (by exact J Vc (fun Z Z h=>h)) (fun p hp=>nomatch (show p∈[]from hp))) (fun k x p Ac hx j=>?_) fun p Ac j=>?_
 ·have hx:=i5▸hx
  refine VS (hr.at_ k x hx) fun a c v1 v2 Vd Ve=>J Ve ?_;refine A5 (P5 _ (BW Vd)) fun la lc=>?_
  induction j with
  |mk Y' u1 u2 Ac H' M' T' SM K' P1 P2 P3 P4=>
   refine aI M'.o rfl (df (dq (i:=1) rfl (by simp) ?_));refine aD rfl (dB O CX (hA.lb rfl) H' hp pz M' K' hl la lc fun Fo H3 M3 T3=>?_);have hF:=LS.Jd (S:=S) (qZ:=Y') (a:=a) (b:=c) hl hp K' la lc;have e:=(SM.trans (bH.join (S:=S) (a:=a) (b:=c) hl)).r (k:=l);refine aJ ⟨.AN ((M3.Fj hl).trans (by exact J e rfl)),.mk _ _ _ Fo H3 M3 (T'.trans T3) (SM.trans (bH.join hl)) (Cq.join hp K' la lc) (by exact J hF (P1.jn _ _)) ?_ ?_ ?_⟩
   ·exact J hF (P2.jn P1 (.told (G3 _ (BW Vd))))
   ·exact J hF fun i j h=>b9 (P3 i j h)
   ·refine J hF ?_
    intro p En;rw[LG,Vd]at En
    rcases DA.mp En with h|h
    ·exact b9 (P4 p h)
    ·simp at h;exact J h (qD _ _ _)
 ·rw[i5,hr.len]at j
  induction j with
  |mk Y' u1 u2 Ac H' M' T' SM K' P1 P2 P3 P4=>
   have P4:=Kp▸P4;refine ce (fun n=>P0 X X' U S Y1 Rb Rl l n) _ (.mk Y' u1 u2 Ac H' M' T' SM K' P1 P2 (fun p hp=>by
    rcases DA.mp hp with h|h
    ·exact P3 _ _ (Jf.tl p h)
    ·exact P4 p h) rfl) fun n p Ac j=>?_
   induction j with
   |mk Y2 u1 u2 Ac H2 M2 T2 WG K2 O1 O2 O3 hn=>
    refine aI M2.o rfl (aD rfl (jH O CX hA H2 B CD M2 K2 hl O1 O2 fun Y3 Fo t H3 M3 T3 K3 M7 Q1 Q2 Q3 Q4 Q5=>?_));have WH:Tl (Rb++Rl) (Y3.F S l):=fun p hp=>Q3 _ _ (O3 p hp);exact aJ (dw (fun Aa=>aJ ⟨_,hn▸Q5 Aa,.mk Y3 u1 u2 Fo H3 M3 (T2.trans T3) (WG.trans M7) K3 Q1 Q2 WH rfl⟩) fun Aa=>aJ (q Y3 X' Fo CX H3 M3 (T2.trans T3) K3 (Cb.same (WG.trans M7)) ⟨Q1,(Q4 Aa).2,WH,Q2⟩))
end
end
section
inductive wM(X:XM)(S:HS)(U:u)(n:Nat)(a b:Addr)(e:Nat):Pv->u->Prop
 |mk (fd:List (V×V)) (wt ks:List Nat) (Aa:Option V) (i4:fd.map (·.1)=AW ks) (i5:ks.Nodup) (i6:∀k∈ks,k<S.nodes.length) (i7:∀k∈wt,k<S.nodes.length) (i8:wt.length<=ks.length) (i9:2*(S.nodes.length-ks.length)+wt.length=e):
  wM X S U n a b e ⟨[some (.ex (.ref (X .li))),some (iV n),some (.ex (.ref a)),some (.ex (.ref b)),Aa],[(a,.dict fd),(b,.list (AW wt))]⟩ U
section
variable{X:XM}{S:HS}{E F:Nat}{R:List (Nat×Nat)}
theorem ck(O:(cz ω).Ok)(hA:A7 4 A)(H:Af X U S)(B:HB S)(M:aK X U qZ)(Vf:n<S.nodes.length)
  (q:∀a Ac,U.le Ac->Q (.ex (.ref a)) Ac):aR (cz ω) A (.ref 571) [.ex (.ref (X .li)),iV n] Q U:=by
 have pz:=B.pz;have nz:=B.nz;obtain⟨YY,YZ⟩:∃x,S.nodes[n]? =some x:=⟨_,Cr Vf⟩
 have kb:∀ks:List Nat,ks.Nodup->(∀k∈ks,k<S.nodes.length)->ks.length<=S.nodes.length:=fun ks h1 h2=>by
  have:=cO h1 (l:=List.range S.nodes.length) fun x hx=>G5.mpr (h2 x hx)
  rwa [Ek]at this
 refine(cq _).go O hA rfl fun hA G hG hR=>oU fun a ha=>aC M.o rfl (aC H.o rfl (aI H.bo rfl (aD rfl (kJ O (hA.lb rfl) H.BS (aA D qT 1 1 D zQ (c1 _) nz rfl) YZ ?_))));refine og rfl ⟨.int _ (fun p hp=>nomatch hp),Al⟩ (.own 0 rfl) (mi rfl fun b hb=>?_);refine ce (fun e=>wM X S U n a b e) _ (.mk [(iV n,nV YY)] [n] [n] none rfl (by simp) (by simpa using Vf) (by simpa using Vf) (Nat.le_refl _) rfl) fun e p τ j=>?_
 induction j with
 |mk fd wt ks Aa f1 f2 f3 f4 f5 he=>
  have FA:=kb ks f2 f3;refine bc (.own 1 rfl) (ak (n:=20) (by exact az D zQ 1 1 D qY 1 (.a qX qY) Y 1 Y zQ (c4 _ _ _ _) f5 (AA (Ds (aA Y D 1 1 Y D (c2 _ _) FA rfl))) nz rfl) (by decide)) (aJ (dw (fun Aa=>?_) fun Aa=>aQ (hR _ _ _ (q a U (u.le_refl _)))))
  rcases List.eq_nil_or_concat wt with e0|⟨ww,k,e0⟩
  ·subst e0;cases Aa
  rw[MC]at e0;subst e0;have JB:k<S.nodes.length:=f4 k (G3 _ EU);obtain⟨nd,hk⟩:∃x,S.nodes[k]? =some x:=⟨_,Cr JB⟩
  refine D4 (B.nd k nd hk) fun z1 z2 z3=>?_;rw[CY,JK]at f5 he;refine aC M.o rfl (aC H.o rfl (aI H.bo rfl (uV (.own 1 rfl) (tX (x:=iV k) (.own 1 rfl) (by exact J (an _ _) (Sr)) (ak (n:=20) (by exact J CY (J JK (az (.a D qW) zQ 1 1 (.a D qW) qY 1 (.a qX qY) Y 1 Y zQ (c4 _ _ _ _) f5 (AA (Ds (aA Y D 1 1 Y D (c2 _ _) FA rfl))) nz rfl))) (by decide)) ?_))));have e1:(AW (ww++[k])).dropLast=AW ww:=by exact J (an _ _) List.dropLast_concat
  refine J e1 (aD rfl (dP O (hA.lb rfl) H.BS (aA D qT 1 1 D zQ (c1 _) nz rfl) hk (aA D qT 1 1 D qU (c1 _) z1 rfl) ?_));refine cS .tup (fun i p τ=>∃m,m<e/\wM X S U n a b m p τ) ⟨_,by exact aA (.a (.a (.m 2 D) Y) qW) qY 1 1 (.a (.m 2 D) (.a Y qW)) qY (c3 _ _ _) (AA he) rfl,.mk fd ww ks _ f1 f2 f3 (fun k hk=>f4 k (HG _ hk)) (aA D Y 1 1 (.a D qW) Y (c2 _ _) f5 rfl) rfl⟩ (fun i x p τ hx j=>?_) fun p τ j=>aJ j;refine An (bI hx) fun kk GU BX=>J BX ?_;have P6:=z2 kk (BW GU);refine An j ?_;clear j;intro m hm j
  induction j with
  |mk P7 WI M8 u' g1 g2 g3 g4 g5 g6=>
   have Vg:=kb M8 g2 g3;obtain⟨Y4,Vh⟩:∃x,S.nodes[kk]? =some x:=⟨_,Cr (EL P6 JB)⟩
   have fk:∀p∈P7,∃j,p.1=V.int j:=fun p hp=>by
    have:p.1∈AW M8:=by exact Rv g1 (BF.mpr ⟨p,hp,rfl⟩)
    exact An (BF.mp this) fun j Z e=>⟨_,e.symm⟩
   have fl:P7.length<=20:=by have:=AL List.length g1;rw[Bl,nj]at this;exact az D zQ 1 1 D qY 1 qY Y 1 Y zQ (c3 _ _ _) (AA this) Vg nz rfl
   refine gP (.own 0 rfl) (.int _ fk) ?_
   cases hg:Az P7 (iV kk)with
   |some z=>exact ao rfl (aF (aJ ⟨Al,m,hm,.mk P7 WI M8 _ g1 g2 g3 g4 g5 g6⟩))
   |none=>
    have Y5:kk∉M8:=fun h=>k7 (bU hg) (by exact J g1 (dR.mpr h));have DW:(M8++[kk]).Nodup:=List.nodup_append.mpr ⟨g2,by simp,fun a ha b hb=>by cases List.mem_singleton.mp hb;exact fun e=>Y5 (Rv e ha)⟩;have BZ:∀{l:List Nat},(∀k∈l,k<S.nodes.length)->∀k∈l++[kk],k<S.nodes.length:=fun h x hx=>(DA.mp hx).elim (h x) fun hx=>by cases Eb.mp hx;exact EL P6 JB
    have Mm:=kb _ DW (BZ g3);rw[CY,JK]at Mm;refine bl rfl (aC M.o rfl (aC H.o rfl (aI H.bo rfl (aD rfl (kJ O (hA.lb rfl) H.BS (aA D qT 1 1 D zQ (c1 _) nz rfl) Vh ?_)))));refine ah (.own 0 rfl) (.int _ fk) (aA D (.n 1000) 1 1 D zQ (c1 _) fl rfl) ?_;have j2:=wM.mk (X:=X) (S:=S) (U:=U) (n:=n) (a:=a) (b:=b) (dput P7 (iV kk) (nV Y4)) (WI++[kk]) (M8++[kk]) (some (iV kk)) (by exact J (bL (bU hg)) (J DT (J g1 (J (an _ _) rfl)))) DW (BZ g3) (BZ g4) (by exact J CY (J CY (HZ g5 1))) rfl;rw[an,CY,CY,JK]at j2;exact aZ (.own 1 rfl) (be (.own 1 rfl) (ak (n:=20) (az D zQ 1 1 D qY 1 (.a qY qW) Y 1 Y zQ (c3 _ _ _) g5 Mm nz rfl) (by decide)) (aF (aJ ⟨Al,_,Xb Mm g6 hm,j2⟩)))
theorem wn(O:(cz ω).Ok)(hA:A7 3 A)(M:aK X U qZ)(hl:l<2)(q:Q (.lst (AW ((List.range 2).filter fun i=>decide (l<=i)))) U):aR (cz ω) A (.ref 538) [.ex (.ref (X .li)),iV l] Q U:=by
 refine(jJ _).go O hA rfl fun hA G hG hR=>aC M.o rfl (gX (v:=.lst [iV 0,iV 1]) (.AN M.beneath) rfl (fun h q=>cR G.ok (ns:=[0,1]) h rfl (Dr rfl) G.hh fun Ce hp hs=>?_) ?_)
 ·have JY:Ce=[0,1]:=hp.eq_of_pairwise (fun x y Z Z h1 h2=>Int.le_antisymm h1 h2) hs (by simp)
  exact J JY q
 refine tu .lst (fun v=>match v with| .int i=>decide ((l:Int)<=i)|_=>false) (by decide) (fun G' ex j x e hx=>?_) (aQ (hR _ _ _ ?_))
 ·obtain⟨i,hi,rfl⟩:∃i:Nat,i<2/\x=iV i:=by
   match j,hx with
   |0,hx=>cases hx;exact⟨0,by decide,rfl⟩
   |1,hx=>cases hx;exact⟨1,by decide,rfl⟩
  refine w_or (fun h=>by rcases CF hl with rfl|rfl<;>cases h) fun Z=>aI M.o rfl (aD rfl (fX O hA M hi ?_));refine iN (fun q=>uA Al (fun y hy=>?_) (fun y hy=>?_) (DV G') q) (aF (aJ ?_))
  ·refine An (BF.mp hy) fun j Z Dw=>?_;subst Dw;trivial
  ·refine An (BF.mp hy) fun j Z C9=>?_;subst C9;trivial
  ·exact J (show decide (iV l∈AW (List.range (i+1)))=decide ((l:Int)<=(i:Nat))from decide_eq_decide.mpr (dR.trans (G5.trans ⟨fun h=>Gv.mpr (QU h),fun h=>QT (Gv.mp h)⟩))) (kf (f:=fun v=>match v with| .int i=>decide ((l:Int)<=i)|_=>false) Al hx)
 ·refine bq q ?_ rfl
  rcases CF hl with rfl|rfl<;>rfl
end
end
section
theorem yg(hx:[iV 0,iV 1][k]? =some x):k<2/\x=iV k:=by
 match k,hx with
 |0,hx=>obtain rfl:=BC hx;exact⟨Nat.two_pos,rfl⟩
 |1,hx=>obtain rfl:=BC hx;exact⟨Sl,rfl⟩
theorem BY.P8{X:XM}(k:U.le Ac):BY e X h U X h Ac:=⟨fun Z Z Z=>rfl,fun a o q Z=>k a o q,fun a n=>by
 cases q:U a with
 |none=>exact Ba q n
 |some o=>refine J (k a o q) ?_;exact nofun,fun m h=> .inl ⟨m,h,rfl⟩⟩
structure LI(Rb R0 R1:List (Nat×Nat))(S:HS)(qZ:LS):Prop where
 ok:Cq qZ S.par.length
 w0:Gq qZ.r0 R0
 w1:Gq qZ.r1 R1
 n0:∀p∈R0,p.1<S.par.length/\p.2<S.par.length
 n1:∀p∈R1,p.1<S.par.length/\p.2<S.par.length
 z0:R0.length<=50
 z1:R1.length<=50
 c0:Ef S.nodes (Rb++R0) (qZ.F S 0)
 c1:Ef S.nodes (Rb++R0++R1) (qZ.F S 1)
theorem BY.Vi{X X':XM}(T:BY e X h U X' h' Ac)(a:∀m,h m↔g m)(b:∀m,h' m↔g' m):BY e X g U X' g' Ac:=⟨T.lb,fun x o q n=>T.out x o q fun m hm=>n m ((a m).mp hm),T.al,fun m hm=>(T.pl m ((b m).mpr hm)).imp (fun P9=>An P9 fun m' h1 h2=>⟨m',(a m').mp h1,h2⟩) id⟩
noncomputable def pad:Nat->List Nat->List Nat
 |0,p=>p
 |n+1,p=>pad n (p++[p.length])
theorem sz(n:Nat):∀(p:List Nat) (c:Nat),up (pad n p) c=up p c:=by
 induction n with
 |zero=>exact fun Z Z=>rfl
 |succ n ih=>exact fun p c=>(ih _ c).trans (bj c)
theorem p4(n:Nat):∀(p:List Nat),(pad n p).length=p.length+n:=by
 induction n with
 |zero=>exact fun Z=>rfl
 |succ n ih=>exact fun p=>(ih _).trans ((AL (· +n) CY).trans (Lz p.length n))
theorem WD.Vj(W:WD d p):WD d (p++[p.length]) where
 keys:=W.keys
 at_ c:=by exact J (bj _) (W.at_ c)
 len:=by
  have:=W.len;refine J CY ?_
  show d.length+(BG p.length _+(if up (p++[p.length]) p.length=p.length then 1 else 0))<=_
  have h1:BG p.length (fun c=>if up (p++[p.length]) c=c then 1 else 0)=BG p.length (fun c=>if up p c=c then 1 else 0):=cP fun c Z=>by exact J (bj _) rfl
  refine J h1 ?_;simp only[List.length_singleton]
  split<;>lia
theorem WD.pad:∀{p:List Nat},WD d p->WD d (pad n p):=by
 induction n with
 |zero=>exact fun W=>W
 |succ n ih=>exact fun W=>ih W.Vj
noncomputable def LS.pad(qZ:LS)(n:Nat):LS:={qZ with p0:=Mine.Internal.pad n qZ.p0,p1:=Mine.Internal.pad n qZ.p1}
theorem aK.pad{X:XM}(M:aK X U qZ)(n:Nat):aK X U (qZ.pad n):=⟨M.i,M.d,M.beneath,M.told,M.Bz,M.B1,M.t0,M.t1,M.w0.imp fun d P'=>A5 P' fun a b=>⟨a,b.pad⟩,M.w1.imp fun d Dm=>A5 Dm fun a b=>⟨a,b.pad⟩⟩
theorem Cq.pad{N:Nat}(K:Cq qZ N)(n:Nat):Cq (qZ.pad n) (N+n):=⟨fun a=>by refine J (show up (qZ.pad n).p0 a=up qZ.p0 a from sz _ _ _) ?_;exact K.l0 a,fun a=>by refine J (show up (qZ.pad n).p1 a=up qZ.p1 a from sz _ _ _) ?_;exact K.l1 a,(p4 _ _).trans (by refine J K.n0 ?_;rfl),(p4 _ _).trans (by refine J K.n1 ?_;rfl)⟩
abbrev mv(m:Lb):Prop:=¬m.fix\/B2 m
abbrev hh(S:HS)(m:Lb):Prop:=S.has m\/LS.has m
theorem Bi.both{X X':XM}{S S':HS}(T:Bi X S U X' S' Ac)(M:aK X U qZ):BY mv X (hh S) U X' (hh S') Ac:=
 T.Ja.mono (fun m h=> .inl h) fun m hm=>⟨fun h=>h (by cases m<;>first|trivial|exact hm.elim),M.val m hm⟩
theorem BY.both{X X':XM}{S:HS}(T:BY B2 X LS.has U X' LS.has Ac)(H:Af X U S):BY mv X (hh S) U X' (hh S) Ac:=
 (T.mono (e':=mv) (g:=S.has) (fun m h=> .inr h) fun m hm=>⟨p3 m hm,H.val m hm⟩).Vi (fun m=>or_comm) (fun m=>or_comm)
theorem Fp.F0{S:HS}(h:Fp 1 qZ Y'):Y'.F S 0=qZ.F S 0:=by
 funext n
 show find (Y'.p 0) (S.f n)=find (qZ.p 0) (S.f n)
 exact J (h.p 0 (EK _ _) (by decide)) rfl
inductive WJ(X:XM)(U:u)(S S':HS)(qZ:LS)(R R0 R1:List (Nat×Nat))(k:Nat):Pv->u->Prop
 |mk (Y':LS) (Gp:XM) (Aa:Option V) (Ac:u) (hX:Inj Gp) (H:Af Gp Ac S') (M:aK Gp Ac Y') (T:BY mv X (hh S) U Gp (hh S') Ac) (K:Cq Y' S'.par.length)
  (g1:Y'.r0=qZ.r0) (g2:Y'.r1=qZ.r1) (g3:Y'.turns=qZ.turns+k) (g4:1<=k->Ef S'.nodes (R++R0) (Y'.F S' 0)) (g5:2<=k->Ef S'.nodes (R++R0++R1) (Y'.F S' 1)):WJ X U S S' qZ R R0 R1 k ⟨[some (.ex (.ref (Gp .li))),Aa],[]⟩ Ac
section
variable{X:XM}{S:HS}{E F:Nat}{R:List (Nat×Nat)}
theorem jd(O:(cz ω).Ok)(hX:Inj X)(hA:A7 7 A)(H:Af X U S)(I:HI E F R (fun Z=>False) S)(hE:E<=350)(hF:F<=350)(M:aK X U qZ){R0 R1:List (Nat×Nat)}(w0:Gq qZ.r0 R0)(w1:Gq qZ.r1 R1)
  (n0:∀p∈R0,p.1<S.nodes.length/\p.2<S.nodes.length) (n1:∀p∈R1,p.1<S.nodes.length/\p.2<S.nodes.length) (z0:R0.length<=50) (z1:R1.length<=50) (K:Cq qZ N0) (Y6:N0<=S.nodes.length)
  (q:∀Y' S' X' Ac,HI E F R (fun Z=>False) S'->S'.waiting=[]->S'.nodes=S.nodes->Inj X'->Af X' Ac S'->aK X' Ac Y'->BY mv X (hh S) U X' (hh S') Ac->LI R R0 R1 S' Y'->Y'.turns>qZ.turns->Q (.ex .none) Ac):
  aR (cz ω) A (.ref 588) [.ex (.ref (X .li))] Q U:=by
 refine(gF _).go O hA rfl fun hA G hG hR=>aC M.o rfl (aI H.o rfl (aD rfl (mA O hX hA H I hE hF fun S' X' Jg I' hW hN CX H' T'=>?_)));have M':=M.GR hX H T';have Vb:=T'.lb .li Al (M.val .li Al);refine Rv Vb (aC M'.o rfl (gX (v:=.lst [iV 0,iV 1]) (.AN M'.beneath) rfl (fun h q=>cR G.ok (ns:=[0,1]) h rfl (Dr rfl) G.hh fun Ce hp hs=>?_) ?_))
 ·have JY:Ce=[0,1]:=hp.eq_of_pairwise (fun x y Z Z h1 h2=>Int.le_antisymm h1 h2) hs (by decide)
  exact J JY q
 have B':=I'.hb (aA D (.n 400) 1 1 D (.n 350) (c1 _) hE rfl) (aA D (.n 400) 1 1 D (.n 350) (c1 _) hF rfl);have M2:=M'.pad (S.nodes.length-N0);have pn:=I'.pn.trans (AL List.length hN);have K2:Cq (qZ.pad (S.nodes.length-N0)) S'.par.length:=by
  have:=K.pad (S.nodes.length-N0);refine J pn ?_
  rwa [Nat.add_sub_cancel' Y6]at this
 have hC:=I'.MY hW;rw[<- pn]at n0 n1;refine cS .lst (fun k=>WJ X U S S' qZ R R0 R1 k) (.mk (qZ.pad (S.nodes.length-N0)) X' none Jg CX H' M2 (T'.both M) K2 rfl rfl rfl (fun h=>nomatch h) (fun h=>nomatch h)) (fun k x p τ hx j=>?_) fun p τ j=>?_
 ·induction j with
  |mk Y' Gp Aa Ac Mn HT MT TT K' g1 g2 g3 g4 g5=>
  refine A5 (yg hx) fun hl ex=>?_;subst ex;obtain⟨Rb,Rl,hb,Vk,P5,RL,he⟩:∃Rb Rl,Ef S'.nodes Rb (Y'.B S' k)/\Gq (Y'.r k) Rl/\(∀p∈Rl,p.1<S'.par.length/\p.2<S'.par.length)/\Rl.length<=100/\Rb++Rl=(if k=0 then R++R0 else R++R0++R1):=by
   rcases CF hl with rfl|rfl
   ·exact⟨R,R0,hC,(show Gq Y'.r0 R0 from g1.symm▸w0),n0,AG z0 (by decide),rfl⟩
   ·exact⟨R++R0,R1,g4 (Bf _),(show Gq Y'.r1 R1 from g2.symm▸w1),n1,AG z1 (by decide),rfl⟩
  refine aI MT.o rfl (aD rfl (nF O Mn hA HT B' I'.pn MT K' hl hb Vk P5 RL fun Y3 X3 Fo PU H3 M3 T3 K3 N3 C3=>?_));rw[he]at C3;refine Rv (T3.lb .li id (MT.val .li Al)) (aJ ⟨Al,.mk Y3 X3 _ Fo PU H3 M3 (TT.trans (T3.both HT)) K3 (N3.r0.trans g1) (N3.r1.trans g2) (N3.turns.trans (AL (· +1) g3)) (fun Z=>?_) fun h=>?_⟩)
  ·rcases CF hl with rfl|rfl
   ·exact C3
   ·exact J N3.F0 (g4 (Bf _))
  ·rcases CF hl with rfl|rfl
   ·exact Ba h (by decide)
   ·exact C3
 ·induction j with
  |mk Y' Gp Aa Ac Mn HT MT TT K' g1 g2 g3 g4 g5=>
  exact aJ (q Y' S' Gp _ I' hW hN Mn HT MT TT ⟨K',g1.symm▸w0,g2.symm▸w1,n0,n1,z0,z1,g4 (by decide),g5 (by decide)⟩ (by exact J g3 (Sd (by decide))))
end
end
section
theorem Y7(hl:l<2)(hx:(AW ((List.range 2).filter fun i=>decide (l<=i)))[k]? =some x):∃j:Nat,j<2/\j=l+k/\x=iV j:=by
 refine An (bI hx) fun y hy e=>J e ?_
 match l,hl,k,hy with
 |0,_,0,hy=>cases hy;exact⟨0,Nat.two_pos,rfl,rfl⟩
 |0,_,1,hy=>cases hy;exact⟨1,Sl,rfl,rfl⟩
 |1,_,0,hy=>cases hy;exact⟨1,Sl,rfl,rfl⟩
theorem yD{qZ:LS}{l:Nat}{v:V}(hl:l<2):(qZ.tell l v).r0=(if l=0 then qZ.r0++[v]else qZ.r0)/\(qZ.tell l v).r1=(if l=0 then qZ.r1 else qZ.r1++[v]):=by
 rcases CF hl with rfl|rfl
 ·exact⟨rfl,rfl⟩
 ·exact⟨rfl,rfl⟩
theorem oC{qZ:LS}{l:Nat}{v:V}(k:Nat):(qZ.tell l v).p k=qZ.p k:=by cases l<;>cases k<;>rfl
theorem yS{qZ:LS}{S:HS}{l:Nat}{v:V}(k:Nat)(hk:k<2):(qZ.tell l v).F S k=qZ.F S k:=by
 rcases CF hk with rfl|rfl
 ·funext n;show find ((qZ.tell l v).p 0) (S.f n)=find (qZ.p 0) (S.f n);exact J (oC _) rfl
 ·funext n;show find ((qZ.tell l v).p 1) (find ((qZ.tell l v).p 0) (S.f n))=find (qZ.p 1) (find (qZ.p 0) (S.f n));exact J (oC _) (J (oC _) rfl)
theorem vM{N l:Nat}(K:Cq qZ N):Cq (qZ.tell l v) N:=by cases l<;>exact⟨K.l0,K.l1,K.n0,K.n1⟩
theorem nn{qZ:LS}{l:Nat}{v:V}:(qZ.tell l v).turns=qZ.turns:=by cases l<;>rfl
theorem r4{qZ:LS}{S:HS}{a b:Nat}(h:qZ.F S 0 a=qZ.F S 0 b):qZ.F S 1 a=qZ.F S 1 b:=by
 show find (qZ.p 1) (qZ.F S 0 a)=find (qZ.p 1) (qZ.F S 0 b)
 exact J h rfl
inductive WK(X:XM)(U:u)(S:HS)(qZ Y1:LS)(Rb JC Mo:List (Nat×Nat))(l a b:Nat)(k:Nat):Pv->u->Prop
 |mk (Y':LS) (X':XM) (Aa:Option V) (Ac:u) (hX:Inj X') (H:Af X' Ac S) (M:aK X' Ac Y') (T:BY B2 X LS.has U X' LS.has Ac) (K:Cq Y' S.par.length)
  (g1:Y'.r0=Y1.r0) (g2:Y'.r1=Y1.r1) (g3:Y'.turns=qZ.turns+k) (g4:1<=l+k->Ef S.nodes (Rb++JC) (Y'.F S 0)) (g5:2<=l+k->Ef S.nodes (Rb++JC++Mo) (Y'.F S 1)):
  WK X U S qZ Y1 Rb JC Mo l a b k ⟨[some (.ex (.ref (X' .li))),some (iV l),some (iV a),some (iV b),some (.ex (.bool true)),Aa],[]⟩ Ac
section
variable{X:XM}{S:HS}{E F:Nat}{R:List (Nat×Nat)}
theorem lQ(O:(cz ω).Ok)(hX:Inj X)(hA:A7 7 A)(H:Af X U S)(B:HB S)(CD:S.par.length=S.nodes.length)(M:aK X U qZ){Rb R0 R1:List (Nat×Nat)}(hC:Ef S.nodes Rb S.f)(I:LI Rb R0 R1 S qZ)(Vl:R0.length<50)(U7:R1.length<50)
  {l a b:Nat} (hl:l<2) (ha:a<S.par.length) (hb:b<S.par.length)
  (q:∀Y' X' Ac v,Inj X'->Af X' Ac S->aK X' Ac Y'->BY B2 X LS.has U X' LS.has Ac->LI Rb (if l=0 then R0++[(a,b)]else R0) (if l=0 then R1 else R1++[(a,b)]) S Y'->
   (Y'.turns>qZ.turns\/(Y'.turns=qZ.turns/\∀k<2,Y'.F S k=qZ.F S k))->Q v Ac):aR (cz ω) A (.ref 595) [.ex (.ref (X .li)),iV l,iV a,iV b] Q U:=by
 have pz:=B.pz;have hp:=B.low;refine(iK _).go O hA rfl fun hA G hG hR=>ao (by rcases CF hl with rfl|rfl<;>rfl) (aF ?_);refine aI M.o rfl (aD rfl (fh O (hA.lb rfl) H hp (aA D qT 1 1 D zQ (c1 _) pz rfl) M I.ok hl ha hb ?_));refine aC M.o rfl (aN (.AN M.told) (.int _ ax) (mc hl) ?_);refine aZ (.AN (M.Fj hl)) (aI M.o rfl (aD rfl (ck O (hA.lb rfl) H B M (Rv CD ha) fun d1 Jg Qa=>?_)));have H1:=H.le Qa;have M1:=M.le Qa;refine aI M1.o rfl (aD rfl (ck O (hA.lb rfl) H1 B M1 (Rv CD hb) fun d2 Hz HV=>?_));have H2:=H1.le HV;have M2:=M1.le HV;have Y8:=I.w0.len;have Y9:=I.w1.len;have Za:(qZ.r l).length<=50:=by
  rcases CF hl with rfl|rfl
  ·exact AG (AA Y8) (Dt Vl)
  ·exact AG (AA Y9) (Dt U7)
 refine be (.AN (M2.Fj hl)) (AG Za (by decide)) ?_;have M3:=M2.Je hX hl (.tup [iV a,iV b,.ex (.ref d1),.ex (.ref d2)]);have H3:=H2.other (b:=X (.A0 l)) (o:=.list (qZ.r l++[.tup [iV a,iV b,.ex (.ref d1),.ex (.ref d2)]])) fun m hm=>hX.ne fun e=>by subst e;exact hm.elim
 have T3:BY B2 X LS.has U X LS.has (Hz.set (X (.A0 l)) (.list (qZ.r l++[.tup [iV a,iV b,.ex (.ref d1),.ex (.ref d2)]]))):=
  ((BY.P8 Qa).trans (BY.P8 HV)).trans (BY.set (m:=.A0 l) _ hl fun Z h=>h)
 refine A5 (yD (qZ:=qZ) (v:=.tup [iV a,iV b,.ex (.ref d1),.ex (.ref d2)]) hl) fun Zb Zc=>?_;have tF:=fun k hk=>yS (qZ:=qZ) (S:=S) (l:=l) (v:=.tup [iV a,iV b,.ex (.ref d1),.ex (.ref d2)]) k hk;have tK:=vM (l:=l) (v:=.tup [iV a,iV b,.ex (.ref d1),.ex (.ref d2)]) I.ok;have tt:=nn (qZ:=qZ) (l:=l) (v:=.tup [iV a,iV b,.ex (.ref d1),.ex (.ref d2)]);generalize Hz.set (X (.A0 l)) (.list (qZ.r l++[.tup [iV a,iV b,.ex (.ref d1),.ex (.ref d2)]]))=τ at*;generalize qZ.tell l (.tup [iV a,iV b,.ex (.ref d1),.ex (.ref d2)])=Y1 at*;have W0:Gq Y1.r0 (if l=0 then R0++[(a,b)]else R0):=by
  refine J Zb ?_;split
  ·exact I.w0.snoc _ _ _ _
  ·exact I.w0
 have W1:Gq Y1.r1 (if l=0 then R1 else R1++[(a,b)]):=by
  refine J Zc ?_;split
  ·exact I.w1
  ·exact I.w1.snoc _ _ _ _
 have N0:∀p∈(if l=0 then R0++[(a,b)]else R0),p.1<S.par.length/\p.2<S.par.length:=by
  intro p hp;split at hp
  ·rcases DA.mp hp with h|h
   ·exact I.n0 p h
   ·simp at h;exact J h (⟨ha,hb⟩)
  ·exact I.n0 p hp
 have N1:∀p∈(if l=0 then R1 else R1++[(a,b)]),p.1<S.par.length/\p.2<S.par.length:=by
  intro p hp;split at hp
  ·exact I.n1 p hp
  ·rcases DA.mp hp with h|h
   ·exact I.n1 p h
   ·simp at h;exact J h (⟨ha,hb⟩)
 have Z0:(if l=0 then R0++[(a,b)]else R0).length<=50:=by split<;>(try refine J CY (J JK (?_)))<;>lia
 have Z1:(if l=0 then R1 else R1++[(a,b)]).length<=50:=by split<;>(try refine J CY (J JK (?_)))<;>lia
 have C0:1<=l->Ef S.nodes (Rb++(if l=0 then R0++[(a,b)]else R0)) (Y1.F S 0):=fun h=>by exact J (AK (by lia)) (J (tF 0 (EK _ _)) I.c0)
 generalize WL:(if l=0 then R0++[(a,b)]else R0)=JC at*;generalize Zd:(if l=0 then R1 else R1++[(a,b)])=Mo at*
 by_cases e:qZ.F S l a=qZ.F S l b
 ·refine ao (by exact J (DU e) rfl) (mi rfl fun z hz=>aF ?_)
  refine cS (.obj (.own 0 rfl)) (fun k p Bw=>p=_/\Bw=τ) ⟨rfl,rfl⟩ (fun k x p Bw hx=>nomatch hx) fun p Bw j=>A5 j fun IP C6=>?_;clear j;subst IP;refine J C6 (aQ (hR _ _ _ (q Y1 X _ _ hX H3 M3 T3 ⟨tK,W0,W1,N0,N1,Z0,Z1,?_,?_⟩ (.inr ⟨tt,fun k hk=>tF k hk⟩))))
  ·refine J (tF 0 (EK _ _)) (Rv WL ?_)
   set_option tactic.hygienic true in split
   ·rename_i h0
    subst h0;refine I.c0.told (fun p hp=>?_) fun p hp=>?_
    ·rw[<- HJ]at hp
     rcases DA.mp hp with h|h
     ·exact I.c0.tl p h
     ·simp at h;exact J h e
    ·exact Rv (HJ _ _ _) (HG _ hp)
   ·exact I.c0
  ·refine J (tF 1 (Bf _)) (Rv WL (Rv Zd ?_))
   refine I.c1.told (fun p hp=>?_) fun p hp=>?_
   ·have Gn:p∈Rb++R0++R1\/p=(a,b):=by
     split at hp
     ·simp only[List.mem_append,List.mem_singleton]at hp ⊢
      rcases hp with(h|h|h)|h
      ·exact .inl (.inl (.inl h))
      ·exact .inl (.inl (.inr h))
      ·exact .inr h
      ·exact .inl (.inr h)
     ·simp only[List.mem_append,List.mem_singleton]at hp ⊢
      rcases hp with(h|h)|h|h
      ·exact .inl (.inl (.inl h))
      ·exact .inl (.inl (.inr h))
      ·exact .inl (.inr h)
      ·exact .inr h
    rcases Gn with h|h
    ·exact I.c1.tl p h
    ·refine J h ?_
     rcases CF hl with rfl|rfl
     ·exact r4 e
     ·exact e
   ·split
    ·simp only[List.mem_append,List.mem_singleton]at hp ⊢
     rcases hp with(h|h)|h
     ·exact .inl (.inl h)
     ·exact .inl (.inr (.inl h))
     ·exact .inr h
    ·simp only[List.mem_append,List.mem_singleton]at hp ⊢
     rcases hp with(h|h)|h
     ·exact .inl (.inl h)
     ·exact .inl (.inr h)
     ·exact .inr (.inl h)
 ·refine bl (by exact J (Df e) rfl) (aI M3.o rfl (aD rfl (wn O (hA.lb rfl) M3 hl (aF ?_))))
  refine J (Df e) (cS .lst (fun k=>WK X U S qZ Y1 Rb JC Mo l a b k) (.mk Y1 X none τ hX H3 M3 T3 tK rfl rfl tt C0 (fun h=>Ba hl (H0.mpr h))) (fun k x p τ hx j=>?_) fun p τ j=>?_)
  ·induction j with
   |mk Y' X' Aa Ac CX Mj Qb PT K' g1 g2 g3 g4 g5=>
   refine B4 (Y7 hl hx) fun j hj WM ex=>J ex ?_;obtain⟨Vm,Rl,Jf,Vk,P5,RL,he⟩:∃Vm Rl,Ef S.nodes Vm (Y'.B S j)/\Gq (Y'.r j) Rl/\(∀p∈Rl,p.1<S.par.length/\p.2<S.par.length)/\Rl.length<=100/\Vm++Rl=(if j=0 then Rb++JC else Rb++JC++Mo):=by
    rcases CF hj with rfl|rfl
    ·exact⟨Rb,JC,hC,(show Gq Y'.r0 JC from g1.symm▸W0),N0,AG Z0 (by decide),rfl⟩
    ·exact⟨Rb++JC,Mo,g4 (AA WM),(show Gq Y'.r1 Mo from g2.symm▸W1),N1,AG Z1 (by decide),rfl⟩
   refine aI Qb.o rfl (aD rfl (nF O CX hA Mj B CD Qb K' hj Jf Vk P5 RL fun Y3 X3 Fo PU H3 M3 T3 K3 N3 C3=>?_));rw[he]at C3;refine Rv (T3.lb .li id (Qb.val .li Al)) (aJ ⟨Al,.mk Y3 X3 _ Fo PU H3 M3 (PT.trans T3) K3 (N3.r0.trans g1) (N3.r1.trans g2) (N3.turns.trans (AL (· +1) g3)) (fun Z=>?_) fun h=>?_⟩)
   ·rcases CF hj with rfl|rfl
    ·exact C3
    ·exact J N3.F0 (g4 (AA WM))
   ·rcases CF hj with rfl|rfl
    ·exact Ba h (by lia)
    ·exact C3
  ·have hlen:l+(AW ((List.range 2).filter fun i=>decide (l<=i))).length=2:=by rcases CF hl with rfl|rfl<;>rfl
   induction j with
   |mk Y' X' Aa Ac CX Mj Qb PT K' g1 g2 g3 g4 g5=>
   exact aQ (hR _ _ _ (q Y' X' _ _ CX Mj Qb PT ⟨K',g1.symm▸W0,g2.symm▸W1,N0,N1,Z0,Z1,g4 (aA qW (.a D Y) 1 1 qU (.a D Y) (c2 _ _) (AA hlen.symm) rfl),g5 (aA qU (.a D Y) 1 1 qU (.a D Y) (c2 _ _) (AA hlen.symm) rfl)⟩ (.inl (by exact J g3 (aH (.a D qW) (.a D Y) 1 1 qU (.a qY Y) 1 (.a qY qW) qU (c3 _ _ _) (AA hlen.symm) hl rfl)))))
end
end
section
structure VW(X:XM)(U:u)(l:Nat)(v dv:Addr):Prop where
 i:U v=some (.inst 731 dv)
 d:U dv=some (.ns [("layers",.ex (.ref (X .li))),("layer",iV l),("bank",.ex (.ref (X .bi)))])
theorem qO(N:Nat):Ee 0 N=AW (List.range N):=by unfold Ee AW;refine HH fun i Z=>J (NA _) ?_;rfl
theorem oN(h:∀n:Nat,p (iV n)=g n)(l:List Nat):(AW l).filter p=AW (l.filter g):=by
 show(l.map iV).filter p=(l.filter g).map iV
 refine J List.filter_map (J (show p ∘ iV=g from funext h) ?_);rfl
theorem VW.o{X:XM}(h:VW X U l v dv):Obj U v 731 [("layers",.ex (.ref (X .li))),("layer",iV l),("bank",.ex (.ref (X .bi)))]:=⟨_,h.i,h.d⟩
section
variable{X:XM}{S:HS}{E F:Nat}{R:List (Nat×Nat)}
theorem iv(O:(cz ω).Ok)(hA:A7 4 A)(H:Af X U S)(B:HB S)(CD:S.par.length=S.nodes.length)(M:aK X U qZ)(K:Cq qZ S.par.length)(hl:l<2)(hx:x<S.par.length)
  (q:Q (.lst (AW ((List.range S.nodes.length).filter fun n=>decide (qZ.F S l n=qZ.F S l x)))) U):aR (cz ω) A (.ref 612) [.ex (.ref (X .li)),iV l,iV x] Q U:=by
 have pz:=B.pz;have hp:=B.low;refine(fE _).go O hA rfl fun hA G hG hR=>aI M.o rfl (aD rfl (au O (hA.lb rfl) H hp (aA D qT 1 1 D zQ (c1 _) pz rfl) M K hl hx ?_));refine aC M.o rfl (aI H.o rfl (aD rfl (dQ O (hA.lb rfl) H (aH D qT 1 1 D Y 1 Y zQ (c2 _ _) (AA CD.symm) pz rfl) ?_)));refine wd (Gv.mpr (aH D (.n 1000) 1 1 D Y 1 Y zQ (c2 _ _) (AA CD.symm) pz rfl)) (Ra (by decide) (Jq _)) (fun v=>match v with| .int i=>decide (qZ.F S l i.toNat=qZ.F S l x)|_=>false) (fun G' ex k z e hz=>?_) (aQ (hR _ _ _ ?_))
 ·have DL:=hz
  refine A5 (bz hz) fun hk Ct=>?_;subst Ct;rw[JP]at hk;rw[NA]at DL ⊢;refine aI M.o rfl (aD rfl (au O (hA.lb rfl) H hp (aA D qT 1 1 D zQ (c1 _) pz rfl) M K hl (x:=k) (aH (.a D qW) Y 1 1 qY Y 1 (.a D qW) qY (c3 _ _ _) (AA CD.symm) hk rfl) (aJ ?_)));exact Rv gS (kf (f:=fun v=>match v with| .int i=>decide (qZ.F S l i.toNat=qZ.F S l x)|_=>false) Al DL)
 ·refine J (JP _) (J (qO _) ?_);rewrite[oN (g:=fun n=>decide (qZ.F S l n=qZ.F S l x)) fun Z=>rfl]
  exact q
theorem q4(O:(cz ω).Ok)(hA:A7 3 A)(H:Af X U S)(hz:S.nodes.length<=900)(M:aK X U qZ)(W:VW X U l v dv)(q:Q (iV S.nodes.length) U):aR (cz ω) A (.ref 678) [.ex (.ref v)] Q U:=by exact(nT _).go O hA rfl fun hA G hG hR=>aC W.o rfl (aC M.o rfl (aI H.o rfl (aD rfl (dQ O hA H hz (aQ (hR _ _ _ q))))))
theorem jw(O:(cz ω).Ok)(hA:A7 4 A)(H:Af X U S)(B:HB S)(M:aK X U qZ)(K:Cq qZ S.par.length)(hl:l<2)(W:VW X U l v dv)(hx:x<S.par.length)(q:Q (iV (qZ.F S l x)) U):aR (cz ω) A (.ref 685) [.ex (.ref v),iV x] Q U:=by exact(lz _).go O hA rfl fun hA G hG hR=>aC W.o rfl (aI M.o rfl (aC W.o rfl (aD rfl (au O hA H B.low (AG B.pz (by decide)) M K hl hx (aQ (hR _ _ _ q))))))
theorem lJ(O:(cz ω).Ok)(hA:A7 5 A)(H:Af X U S)(B:HB S)(CD:S.par.length=S.nodes.length)(M:aK X U qZ)(K:Cq qZ S.par.length)(hl:l<2)(W:VW X U l v dv)(hx:x<S.par.length)
  (q:Q (.lst (AW ((List.range S.nodes.length).filter fun n=>decide (qZ.F S l n=qZ.F S l x)))) U):aR (cz ω) A (.ref 706) [.ex (.ref v),iV x] Q U:=by
 exact(gp _).go O hA rfl fun hA G hG hR=>aC W.o rfl (aI M.o rfl (aC W.o rfl (aD rfl (iv O hA H B CD M K hl hx (aQ (hR _ _ _ q))))))
theorem rJ(O:(cz ω).Ok)(hA:A7 5 A)(H:Af X U S)(B:HB S)(M:aK X U qZ)(K:Cq qZ S.par.length)(hl:l<2)(W:VW X U l v dv)(hk:S.nodes[n]? =some nd)(Ze:∀k∈nd.2,k<S.par.length)
  (q:Q (nV (canon (qZ.F S l) nd)) U):aR (cz ω) A (.ref 711) [.ex (.ref v),iV n] Q U:=by
 have nz:=B.nz;have hs:=(B.nd n nd hk).1;refine(mV _).go O hA rfl fun hA G hG hR=>aC W.o rfl (aI H.bo rfl (aD rfl (lU O (hA.lb rfl) H.BS (aA D qT 1 1 D zQ (c1 _) nz rfl) hk ?_)));refine aC W.o rfl (aI H.bo rfl (aD rfl (dP O (hA.lb rfl) H.BS (aA D qT 1 1 D zQ (c1 _) nz rfl) hk (aA D qT 1 1 D qU (c1 _) hs rfl) ?_)));refine fT (qZ.F S l) (aA D (.n 1000) 1 1 D qU (c1 _) hs rfl) (fun G' ex j n e hn=>?_) (fS (by exact J (Bl _) (aA D qT 1 1 D qU (c1 _) hs rfl)) (aQ (hR _ _ _ q)));exact aI W.o rfl (aD rfl (jw O hA H B M K hl W (Ze _ (BW hn)) (aJ (Mc hn))))
theorem jI(O:(cz ω).Ok)(hA:A7 7 A)(H:Af X U S)(B:HB S)(CD:S.par.length=S.nodes.length)(M:aK X U qZ)(K:Cq qZ S.par.length)(hl:l<2)(W:VW X U l v dv)(hC:Ef S.nodes R (qZ.F S l))(hR:R.length<=2)(hc:c<S.par.length)
  (q:∀ys:List Node,ys.Nodup->(∀y,y∈ys↔∃n x,S.nodes[n]? =some x/\qZ.F S l n=qZ.F S l c/\y=canon (qZ.F S l) x)->Q (.lst (ys.map nV)) U):aR (cz ω) A (.ref 716) [.ex (.ref v),iV c] Q U:=by
 have nz:=B.nz;refine(gH _).go O hA rfl fun hA G hG hr=>aI W.o rfl (aD rfl (lJ O (hA.lb rfl) H B CD M K hl W hc ?_));refine uf hC hR (i:=c) (fun n=>by rewrite[JO,G5];refine J decide_eq_true_eq ?_;rfl) (AG (List.length_filter_le ..) (by refine J Ek ?_;exact aA D (.n 1000) 1 1 D zQ (c1 _) nz rfl)) (fun G' ex n x K' e hx k=>?_) fun ys h1 h2=>aQ (hr _ _ _ (q ys h1 h2));exact D4 (B.nd n _ hx) fun z1 z2 z3=>aI W.o rfl (aD rfl (rJ O (hA.lb rfl) H B M K hl W hx (fun k hk=>EL (z2 k hk) (CD.symm▸bK hx)) (aJ k)))
end
end
section
inductive Di where
 |heap
 |view (l:Nat) (v dv:Addr)
noncomputable def Di.ctorIdx(x:Di):Nat:=Di.casesOn x 0 fun _ _ _=>1
noncomputable def Di.ref(X:XM):Di->Addr
 | .heap=>X .hi
 | .view _ v _=>v
noncomputable def Di.f(S:HS)(qZ:LS):Di->Nat->Nat
 | .heap=>S.f
 | .view l _ _=>qZ.F S l
def Di.at_(X:XM)(U:u):Di->Prop
 | .heap=>True
 | .view l v dv=>l<2/\VW X U l v dv
noncomputable def Di.marks(qZ:LS):Di->Nat
 | .heap=>0
 | .view _ _ _=>qZ.turns
structure HA(S:HS)(qZ:LS)(AI:Di)(R:List (Nat×Nat))(E F:Nat)(R₀:List (Nat×Nat)):Prop where
 I:HI E F R₀ (fun Z=>False) S
 W:S.waiting=[]
 hE:E<=350
 hF:F<=350
 K:Cq qZ S.par.length
 C:Ef S.nodes R (AI.f S qZ)
 z:R.length<=2
 z0:R₀.length<=2
theorem HA.B{S:HS}{R R₀:List (Nat×Nat)}{E F:Nat}(f:HA S qZ AI R E F R₀):HB S:=f.I.hb (by have:=f.hE;exact aA D (.n 400) 1 1 D (.n 350) (c1 _) this rfl) (by have:=f.hF;exact aA D (.n 400) 1 1 D (.n 350) (c1 _) this rfl)
noncomputable def Di.fn(h v:Addr):Di->Addr
 | .heap=>h
 | .view _ _ _=>v
section
variable{c:Cx}{A:Around}{G:Gx c A}{K:List V->Pv->u->Prop}{st:List V}{p:Pv}{U:u}{k:Code}{X:XM}{S:HS}{AI:Di}
theorem oW(nd:(l.map (·.1)).Nodup)(out:∀a∈l.map (·.1),U a=none)(h:aR c A f xs Q U)(m:∀v Ac,(∀a∈l.map (·.1),Ac a=none)->Q v Ac->Q' v (Bx l Ac)):aR c A f xs Q' (Bx l U):=fun ρ s vs R r=>
 Mz (h s vs (fJ R out) (r.mono (bC fun Z=>dJ))) fun r s' z=>by
  cases r with
  |error e=>exact z
  |ok v=>cases v with
   |ret v=>
    obtain⟨x,Ac,R',S',d,q⟩:=z;exact A5 (mO nd out R R' S') fun B S=>⟨x,Bx l Ac,B,S,d.mono (bC fun Z=>dJ.symm),m _ _ (fun a n=>(R'.res a (.inr n)).1) q⟩
   |_=>exact z
theorem tU(KC:bY c C)(i:U a=some (.inst C d))(n:U d=some (.ns m))(ha:findIn c.K (.ref C) (Ai x)=some (some (.ref pp)))(hn:specialIn c.K (.ref pp) "__get__" =some (some (.builtin "property.__get__")))(ht:takesIn c.K (.ref pp)=some true)(hp:recIn c.K pp "property" =some (.ref fg::rest))
  (h:aR c A.in1 (.ref fg) [.ex (.ref a)] (fun v Ac=>B7 v=true/\Wr G k K (v::st) p Ac) U):WW G (.op (.attr (Ai x)) k) K (.ex (.ref a)::st) p U:=
 ⟨⟨a,rfl,fun S=>kW G.ok KC (S.AN i) (S.AN n) ha hn ht hp (oW S.nd S.out h fun v Ac out q=>⟨q.1,lf (p:=p) (U:=Ac) ⟨S.nd,out,S.len⟩ (aM q.2)⟩)⟩⟩
theorem oB(H:Af X U S)(W:AI.at_ X U)(e1:sx 487 (Fy X) x=some h)(e2:∀l,sx 731 [("layers",.ex (.ref (X .li))),("layer",iV l),("bank",.ex (.ref (X .bi)))] x=some v)(q:Wr G k K (.ex (.ref (AI.ref X))::.ex (.ref (AI.fn h v))::st) p U):WW G (.op (.GN (Ai x)) k) K (.ex (.ref (AI.ref X))::st) p U:=by
 cases AI with
 |heap=>exact aI H.o e1 q
 |view l _ _=>exact aI W.2.o (e2 l) q
end
section
variable{A:Around}{U:u}{X:XM}{Q:V->u->Prop}{S:HS}{qZ:LS}{E F:Nat}{R R₀:List (Nat×Nat)}{AI:Di}
theorem lA(O:(cz ω).Ok)(f:HA S qZ AI R E F R₀)(H:Af X U S)(M:aK X U qZ)(W:AI.at_ X U)(hA:A7 7 A)(hc:c<S.par.length)(q:∀ys:List Node,ys.Perm (Dh S.nodes (AI.f S qZ) (AI.f S qZ c))->ys.length<=4->Q (.lst (ys.map nV)) U):aR (cz ω) A (.ref (AI.fn 465 716)) [.ex (.ref (AI.ref X)),iV c] Q U:=by
 have EI:∀(ys:List Node),ys.Nodup->(∀y,y∈ys↔∃n x,S.nodes[n]? =some x/\AI.f S qZ n=AI.f S qZ c/\y=canon (AI.f S qZ) x)->Q (.lst (ys.map nV)) U:=fun ys h1 h2=>q ys (nO h1 h2) (by refine An (f.C.EI (AI.f S qZ c)) fun zs a b=>AG (cO h1 (l:=zs) fun y hy=>?_) (AG a (QQ (by decide) f.z));refine Bc ((h2 y).mp hy) fun n x h3 h4 Vn=>J Vn ?_;exact b n x h3 h4)
 cases AI with
 |heap=>exact jZ O (hA.lb rfl) H f.I f.W f.z0 hc EI
 |view l v dv=>exact jI O hA H f.B f.I.pn M f.K W.1 W.2 f.C f.z hc EI
theorem sP(O:(cz ω).Ok)(f:HA S qZ AI R E F R₀)(H:Af X U S)(M:aK X U qZ)(W:AI.at_ X U)(hA:A7 4 A)(hc:c<S.par.length)(q:Q (iV (AI.f S qZ c)) U):aR (cz ω) A (.ref (AI.fn 411 685)) [.ex (.ref (AI.ref X)),iV c] Q U:=by
 cases AI with
 |heap=>exact bM O (hA.lb rfl) H f.I.low (AG f.B.pz (by decide)) hc q
 |view l v dv=>exact jw O hA H f.B M f.K W.1 W.2 hc q
theorem th(O:(cz ω).Ok)(f:HA S qZ AI R E F R₀)(H:Af X U S)(M:aK X U qZ)(W:AI.at_ X U)(hA:A7 4 A)(q:Q (iV S.nodes.length) U):aR (cz ω) A (.ref (AI.fn 382 678)) [.ex (.ref (AI.ref X))] Q U:=by
 have nz:=AG f.B.nz (by decide:20<=900)
 cases AI with
 |heap=>exact dQ O (hA.lb rfl) H nz q
 |view l v dv=>exact q4 O (hA.lb rfl) H nz M W.2 q
theorem oY(O:(cz ω).Ok)(hA:A7 1 A)(H:Af X U S)(M:aK X U qZ)(W:VW X U l v dv)(q:Q (.ex (.ref (X .AF))) U):aR (cz ω) A (.ref 654) [.ex (.ref v)] Q U:=by exact(lX _).go O hA rfl fun hA G hG hR=>aC W.o rfl (aC M.o rfl (aC H.o rfl (aQ (hR _ _ _ q))))
theorem pb(O:(cz ω).Ok)(hA:A7 1 A)(H:Af X U S)(M:aK X U qZ)(W:VW X U l v dv)(q:Q (iV qZ.turns) U):aR (cz ω) A (.ref 670) [.ex (.ref v)] Q U:=by exact(lm _).go O hA rfl fun hA G hG hR=>aC W.o rfl (aC M.o rfl (aC H.o rfl (aC W.o rfl (aC M.o rfl (aQ (hR _ _ _ (bq q (AL V.int (NA _).symm) rfl)))))))
section
variable{G:Gx (cz ω) A}{K:List V->Pv->u->Prop}{st:List V}{p:Pv}{k:Code}
theorem wc(O:(cz ω).Ok)(hA:A7 3 A)(H:Af X U S)(M:aK X U qZ)(W:AI.at_ X U)(q:Wr G k K (.ex (.ref (X .AF))::st) p U):WW G (.op (.attr (Ai "edges")) k) K (.ex (.ref (AI.ref X))::st) p U:=by
 cases AI with
 |heap=>exact aC H.o rfl q
 |view l v dv=>exact tU (iX _ _ rfl) W.2.i W.2.d rfl rfl rfl rfl (oY O (hA.le (n:=2) (by decide)).in1 H M W.2 ⟨rfl,q⟩)
theorem wj(O:(cz ω).Ok)(hA:A7 3 A)(H:Af X U S)(M:aK X U qZ)(W:AI.at_ X U)(q:Wr G k K (iV (AI.marks qZ)::st) p U):WW G (.op (.attr (Ai "backs")) k) K (.ex (.ref (AI.ref X))::st) p U:=by
 cases AI with
 |heap=>exact aC H.o rfl q
 |view l v dv=>exact tU (iX _ _ rfl) W.2.i W.2.d rfl rfl rfl rfl (pb O (hA.le (n:=2) (by decide)).in1 H M W.2 ⟨rfl,q⟩)
end
end
end
section
def Upd(kd:Addr)(U Ac:u):Prop:=∀a o,a≠kd->U a=some o->Ac a=some o
theorem Upd.refl:Upd kd U U:=fun Z Z Z h=>h
theorem Upd.trans(h:Upd kd U Ac)(k:Upd kd Ac Bd):Upd kd U Bd:=fun a o n e=>k a o n (h a o n e)
theorem Upd.set:Upd kd U (U.set kd o):=fun a x n e=>by exact J (u.Ad _ _ n) e
structure CA(X:XM)(U:u)(S:HS)(qZ:LS)(AI:Di)(ci cd kd:Addr)(mk:V)(kn:List (V×V)):Prop where
 H:Af X U S
 M:aK X U qZ
 W:AI.at_ X U
 i:U ci=some (.inst 275 cd)
 d:U cd=some (.ns [("heap",.ex (.ref (AI.ref X))),("mark",mk),("known",.ex (.ref kd))])
 k:U kd=some (.dict kn)
theorem Di.Mp{X:XM}{U Ac:u}{kd:Addr}{kn:List (V×V)}{AI:Di}(h:AI.at_ X U)(k:U kd=some (.dict kn))(T:Upd kd U Ac):AI.at_ X Ac:=by
 cases AI with
 |heap=>trivial
 |view l v dv=>exact⟨h.1,T _ _ (fun e=>by have k:=e.symm▸k;have k:=h.2.i▸k;cases k) h.2.i,T _ _ (fun e=>by have k:=e.symm▸k;have k:=h.2.d▸k;cases k) h.2.d⟩
theorem CA.upd{X:XM}{U Ac:u}{S:HS}{qZ:LS}{AI:Di}{ci cd kd:Addr}{mk:V}{kn B8:List (V×V)}(h:CA X U S qZ AI ci cd kd mk kn)(T:Upd kd U Ac)(k:Ac kd=some (.dict B8))(a:∀m,S.has m->X m≠kd)(b:∀m,LS.has m->X m≠kd):CA X Ac S qZ AI ci cd kd mk B8 where
 H:=h.H.move (fun Z Z=>rfl) fun m o hm e=>T _ _ (a m hm) e
 M:=h.M.move (fun Z Z=>rfl) rfl fun m o hm e=>T _ _ (b m hm) e
 W:=Di.Mp h.W h.k T
 i:=T _ _ (fun e=>by have:=h.i;have this:=e▸this;have this:=h.k▸this;cases this) h.i
 d:=T _ _ (fun e=>by have:=h.d;have this:=e▸this;have this:=h.k▸this;cases this) h.d
 k:=k
noncomputable def CN(cs:List Nat)(s:Nat):V:=.tup [.tup (AW cs),iV s]
theorem t6(h:CN a s=CN b t):a=b/\s=t:=by
 unfold CN at h;injection h with h
 injection h with h1 h2
 injection h2 with h2 _
 injection h1 with h1
 exact⟨w7 h1,av h2⟩
noncomputable def Zf:Mk where
 is:=fun x=>∃cs s,x=CN cs s
 deep:=fun x ⟨cs,s,e⟩=>by
  subst e;intro y hy
  rcases BP.mp hy with rfl|hy
  ·intro z hz
   refine An (BF.mp hz) fun k Z Bg=>?_;subst Bg;exact Al
  ·rcases BP.mp hy with rfl|hy
   ·exact Al
   ·cases hy
 tup:=fun x ⟨cs,s,e⟩=>⟨_,e⟩
 sm:=fun x y ⟨a,s,e⟩ ⟨b,t,e'⟩=>by
  subst e e'
  show Sm (V.tup (AW a)) (V.tup (AW b))/\_
  refine⟨l8 a b,?_⟩
  show Sm (V.int s) (V.int t)/\_
  exact⟨Al,Al⟩
def dI(L:Nat->List Node)(kn:List (V×V)):Prop:=∀p∈kn,∃cs s,p=(CN cs s,iV (cw L s cs))
theorem dI.ks(h:dI L kn)(cs:List Nat)(s:Nat):KS kn (CN cs s):=.mk Zf _ ⟨cs,s,rfl⟩ fun p hp=>by refine Ku (h p hp) fun c t BX=>?_;exact J BX (⟨c,t,rfl⟩)
theorem dI.get(h:dI L kn)(k:Az kn (CN cs s)=some v):v=iV (cw L s cs):=by
 refine An (bD k) fun i Z k=>Ku (h _ (BW k)) fun c t e=>?_;injection e with e1 e2
 refine A5 (t6 e1) fun JZ Dv=>J JZ (J Dv ?_);exact e2
theorem Ji:∀{p:V×V},p∈dput l x v->p∈l\/p=(x,v):=by
 induction l with
 |nil=>exact fun h=> .inr (Eb.mp h)
 |cons q l ih=>
  intro p h;unfold dput at h
  set_option tactic.hygienic true in split at h
  ·rename_i e
   exact(BP.mp h).elim (fun z=> .inr (Rv e z)) fun h=> .inl (.tail _ h)
  ·exact(BP.mp h).elim (fun z=> .inl (z▸ .head _)) fun h=>(ih h).imp (.tail _) id
theorem dI.Mq(h:dI L kn)(cs:List Nat)(s:Nat):dI L (dput kn (CN cs s) (iV (cw L s cs))):=fun p hp=>by
 rcases Ji hp with hp|hp
 ·exact h p hp
 ·exact⟨cs,s,hp⟩
theorem ic{n:Nat}(h:n<=4):Builtin.Int.intBits (n:Int)<=64:=by
 have:n=0\/n=1\/n=2\/n=3\/n=4:=by lia
 rcases this with rfl|rfl|rfl|rfl|rfl<;>decide
theorem xD:R1 L [c]<=(L c).length:=by
 show((L c).map fun nd=>R0 nd.2).sum<=_
 induction L c with
 |nil=>exact Bf _
 |cons a l ih=>
  refine J Ec (J Sx (J EG ?_));have:R0 a.2<=1:=by unfold R0;split<;>lia
  exact aH (.a D Y) (.a qY qW) 1 1 Y qY 1 D qW (c3 _ _ _) ih this rfl
theorem HA.EI{S:HS}{R R₀:List (Nat×Nat)}{E F:Nat}(f:HA S qZ AI R E F R₀)(c:Nat):(Dh S.nodes (AI.f S qZ) c).length<=4:=by
 refine An (f.C.EI c) fun zs a b=>AG (cO (j3 _) (l:=zs) fun y hy=>?_) (AG a ?_)
 ·refine Bc (k8.mp hy) fun n x h3 h4 Vo=>J Vo ?_
  exact b n x h3 h4
 ·have:(2:Nat)^R.length<=2^2:=QQ (EK _ _) f.z
  assumption
noncomputable def cost:Nat->Nat
 |0=>0
 |s+1=>1+4*cost s
theorem yt(h:s<3):cw L (s+1) [c]=((L c).map fun nd=>cw L s nd.2).sum:=by
 rcases Jt h with rfl|rfl|rfl
 ·rfl
 ·rfl
 ·rfl
theorem wQ(h:cs.length=0\/s<cs.length)(hz:cs.length<=2):cw L s cs=if s=0/\cs.length=0 then 1 else 0:=by
 match cs,hz with
 |[],_=>
  match s with
  |0=>rfl
  |1=>rfl
  |2=>rfl
  |s+3=>simp[cw,R3]
 |[c],_=>
  have:s=0:=by simp at h;assumption
  exact J this rfl
 |[c,d],_=>
  rcases CF (show s<2 by simpa using h)with rfl|rfl
  ·rfl
  ·rfl
 |a::b::c::l,h=>simp at h
def uq(ω:WZ)(X:XM)(S:HS)(qZ:LS)(AI:Di)(ci cd kd:Addr)(mk:V)(s:Nat):Prop:=
 ∀{A:Around} {U:u} {kn:List (V×V)} {cs:List Nat} {Q:V->u->Prop},A7 (9+s) A->CA X U S qZ AI ci cd kd mk kn->dI (Dh S.nodes (AI.f S qZ)) kn->kn.length+cost s<=900->(∀c∈cs,c<S.par.length/\AI.f S qZ c=c)->cs.length<=2->(s=3->cs.length<=1)->
  (∀B8 Ac,dI (Dh S.nodes (AI.f S qZ)) B8->B8.length<=kn.length+cost s->Ac kd=some (.dict B8)->Upd kd U Ac->Q (iV (cw (Dh S.nodes (AI.f S qZ)) s cs)) Ac)->aR (cz ω) A (.ref 230) [.ex (.ref ci),.tup (AW cs),iV s] Q U
theorem CA.o{X:XM}{U:u}{S:HS}{qZ:LS}{AI:Di}{ci cd kd:Addr}{mk:V}{kn:List (V×V)}(h:CA X U S qZ AI ci cd kd mk kn):Obj U ci 275 [("heap",.ex (.ref (AI.ref X))),("mark",mk),("known",.ex (.ref kd))]:=⟨_,h.i,h.d⟩
section
variable{X:XM}{S:HS}{E F:Nat}{R R₀:List (Nat×Nat)}
inductive yU(X:XM)(U:u)(S:HS)(qZ:LS)(AI:Di)(ci cd kd:Addr)(mk:V)(s n:Nat)(ns:List Node)(k:Nat):List V->u->Prop
 |mk (kn:List (V×V)) (Ac:u) (C:CA X Ac S qZ AI ci cd kd mk kn) (hk:dI (Dh S.nodes (AI.f S qZ)) kn) (hl:kn.length<=n+k*cost s) (T:Upd kd U Ac):yU X U S qZ AI ci cd kd mk s n ns k ((ns.take k).map fun nd=>iV (cw (Dh S.nodes (AI.f S qZ)) s nd.2)) Ac
inductive wN(X:XM)(U:u)(S:HS)(qZ:LS)(AI:Di)(ci cd kd:Addr)(mk:V)(n c d:Nat)(k:Nat):Pv->u->Prop
 |mk (kn:List (V×V)) (u1 u2:Option V) (Ac:u) (C:CA X Ac S qZ AI ci cd kd mk kn) (hk:dI (Dh S.nodes (AI.f S qZ)) kn) (hl:kn.length<=n+2*k) (T:Upd kd U Ac):
  wN X U S qZ AI ci cd kd mk n c d k ⟨[some (.ex (.ref ci)),some (.tup (AW [c,d])),some (iV 2),some (CN [c,d] 2),some (iV (if k=0 then 0 else cw (Dh S.nodes (AI.f S qZ)) 2 [c,d])),u1,u2],[]⟩ Ac
section
variable{c:Cx}{G:Gx c A}{K:List V->Pv->u->Prop}{L:Nat->List Node}{kn:List (V×V)}{cs:List Nat}{s:Nat}{u1 u2 u4 u5 u6:Option V}{v:V}
theorem mx(C:CA X U S qZ AI ci cd kd mk kn)(hk:dI L kn)(hg:Az kn (CN cs s)=some v)(q:G.R v ⟨[some (.ex (.ref ci)),u1,u2,some (CN cs s),u4,u5,u6],[]⟩ U):
  Wr G (.op (.ld 0)<|.op (.attr (N "known"))<|.op (.ld 3)<|.op .sub<|.ret) K [] ⟨[some (.ex (.ref ci)),u1,u2,some (CN cs s),u4,u5,u6],[]⟩ U:=
 aC C.o rfl (aN (.AN C.k) (hk.ks _ _) hg (aQ q))
theorem mP(C:CA X U S qZ AI ci cd kd mk kn)(ap:∀m,S.has m->X m≠kd)(lp:∀m,LS.has m->X m≠kd)(hk:dI L kn)(hl:kn.length<=1000)(q:G.R (iV (cw L s cs)) ⟨[some (.ex (.ref ci)),u1,u2,some (CN cs s),some (iV (cw L s cs)),u5,u6],[]⟩ (U.set kd (.dict (dput kn (CN cs s) (iV (cw L s cs)))))):
  Wr G (.op (.ld 4)<|.op (.ld 0)<|.op (.attr (N "known"))<|.op (.ld 3)<|.op .Bt<|.done) (W G (.op (.ld 0)<|.op (.attr (N "known"))<|.op (.ld 3)<|.op .sub<|.ret) K) [] ⟨[some (.ex (.ref ci)),u1,u2,some (CN cs s),some (iV (cw L s cs)),u5,u6],[]⟩ U:=
 aC C.o rfl (ah (.AN C.k) (hk.ks _ _) hl (aF (mx (C.upd Upd.set (u.set_same _ _ _) ap lp) (hk.Mq cs s) (by exact J ay (J (AS rfl) rfl)) q)))
end
section
variable{c:Cx}{G:Gx c A}{K:List V->Pv->u->Prop}{st:List V}{p:Pv}{k a:Code}{b:Bool}
theorem zv(P:Bool->Prop)(h1:b=true->P true)(h2:b=false->(∀Aa,P Aa->Wr G k K (.ex (.bool Aa)::st) p U)->Wr G a (W G k K) st p U)(hk:∀Aa,P Aa->Wr G k K (.ex (.bool Aa)::st) p U):WW G (.or a k) K (.ex (.bool b)::st) p U:=w_or (fun e=>hk _ (h1 e)) fun e=>h2 e hk
theorem yE(P:Bool->Prop)(h1:b=true->(∀Aa,P Aa->Wr G k K (.ex (.bool Aa)::st) p U)->Wr G a (W G k K) st p U)(h2:b=false->P false)(hk:∀Aa,P Aa->Wr G k K (.ex (.bool Aa)::st) p U):WW G (.and a k) K (.ex (.bool b)::st) p U:=w_and (fun e=>h1 e hk) fun e=>hk _ (h2 e)
end
theorem qc(O:(cz ω).Ok)(f:HA S qZ AI R E F R₀)(ap:∀m,S.has m->X m≠kd)(lp:∀m,LS.has m->X m≠kd)(hs:s<=3)(ih:∀t,t<s->uq ω X S qZ AI ci cd kd mk t):uq ω X S qZ AI ci cd kd mk s:=by
 intro A U kn cs Q hA C hk hz hc J0 h3 q;have MX:A7 (8+s+1) A:=hA.le (bP (.a (.a (.n 8) D) qW) (.a (.n 9) D) 1 (c1 _) rfl);have l9:(AW cs).length<=1000:=ak J0 (by decide);refine(jj _).go O MX rfl fun hA G hG hR=>?_;have eL:((AW cs).length:Int)=(cs.length:Nat):=AL _ aS;refine ba l9 (zv (fun b=>b=decide (cs.length=0\/s<cs.length)) (fun e=>?_) (fun e kk=>ba l9 (aF (kk _ ?_))) fun b hb=>eE (fun e=>?_) fun e=>aF ?_)
 ·rw[eL]at e
  exact(DU (.inl (iW (b:=0) e))).symm
 ·rw[eL]at e ⊢
  have e1:cs.length≠0:=fun h=>by have e:=h▸e;cases e
  exact decide_eq_decide.mpr ⟨fun h=> .inr (FJ.mp h),fun h=>h.elim (fun h=>Ba h e1) FJ.mpr⟩
 ·have h0:=Fc (hb.symm.trans e)
  have cz:=wQ (L:=Dh S.nodes (AI.f S qZ)) h0 J0;refine yE (fun b=>b=decide (s=0/\cs.length=0)) (fun e kk=>ba l9 (aF (kk _ ?_))) (fun e=>?_) fun b hb=>eE (fun e=>aF (aQ (hR _ _ _ ?_))) fun e=>aF (aQ (hR _ _ _ ?_))
  ·have:=iW (b:=0) e
   exact J eL ((gS (b:=0)).symm.trans (decide_eq_decide.mpr ⟨fun h=>⟨this,h⟩,fun h=>h.2⟩))
  ·exact(Df fun h=>by have e:=h.1▸e;cases e).symm
  ·have:=q kn U hk (Ea _ _) C.k .refl
   rwa [cz,AS (Fc (hb.symm.trans e))]at this
  ·have:=q kn U hk (Ea _ _) C.k .refl
   rwa [cz,AK (of_decide_eq_false (hb.symm.trans e))]at this
 have h0:=of_decide_eq_false (hb.symm.trans e);refine aC C.o rfl (gP (x:=CN cs s) (.AN C.k) (hk.ks _ _) ?_)
 cases hg:Az kn (CN cs s)with
 |some y=>
  cases hk.get hg
  exact ao rfl (aF (mx C hk hg (hR _ _ _ (q kn _ hk (Ea _ _) C.k .refl))))
 |none=>
 refine bl rfl (ba l9 ?_);clear eL hb e MX
 cases cs with
 |nil=>exact Ba (.inl rfl) h0
 |cons c cs=>
 cases cs with
 |nil=>
  refine A5 (hc c (.head _)) fun Zg Zh=>?_
  cases s with
  |zero=>exact Ba (.inr Nat.one_pos) h0
  |succ s=>
  have DL:kn.length+(1+4*cost s)<=900:=hz;refine bl rfl (aC C.o rfl (oB C.H C.W rfl (fun Z=>rfl) (df (aD rfl (lA O f C.H C.M C.W (hA.le (bP (.n 7) (.a (.n 8) (.a D qW)) 1 (c1 _) rfl)) Zg fun ys hp Vp=>?_)))));have hp:=Zh▸hp;refine yy .lst (bF Vp (by decide)) (fun k l τ=>yU X U S qZ AI ci cd kd mk s kn.length ys k l τ) (.mk kn U C hk (Ea _ _) .refl) (fun G' ex k y l τ e hy j=>?_) fun l τ j=>?_
  ·rw[Cs]at hy
   refine An (El.mp hy) fun nd DW C4=>Rv C4 ?_;refine Bc (k8.mp (hp.mem_iff.mp (BW DW))) fun n x hx ZS WN=>D4 (f.B.nd n x hx) fun z1 z2 z3=>?_;have Qc:∀j∈nd.2,j<S.par.length/\AI.f S qZ j=j:=fun j hj=>by rw[WN]at hj;refine An (BF.mp hj) fun i hi Et=>Rv Et ?_;exact⟨Dj (f.C.pt.le i) (EL (z2 i hi) (f.I.pn▸bK hx)),f.C.pt.idem i⟩
   have Qd:nd.2.length<=2:=by refine J WN ?_;unfold canon;rwa [List.length_map]
   have hmul:(k+1)*cost s<=4*cost s:=Sf _ (AG (bK DW) Vp);rw[Nat.succ_mul]at hmul
   induction j with
   |mk B8 τ C' Ck BO T'=>
   refine aI C'.o rfl (bX (ak Qd (by decide)) (aD rfl ?_));refine J (show(((s+1:Nat)):Int)-1=(s:Nat)from LH (s:Int) 1) (ih s (HF s) (hA.le (bP (.a (.n 9) D) (.a (.n 8) (.a D qW)) 1 (c1 _) rfl)) C' Ck (by exact az (.a D Y) qT 4 4 (.a qY (.a qW (.m 4 Y))) qT 4 (.a qX Y) (.m 4 Y) 4 D (.a qY qX) (c4 _ _ _ _) DL hmul BO rfl) Qc Qd (fun h=>by lia) fun Ll Fo EJ Mr k3 T3=>aJ ⟨_,rfl,rfl,Al,?_⟩);have j2:=yU.mk (s:=s) (n:=kn.length) (ns:=ys) (k:=k+1) Ll Fo (C'.upd T3 k3 ap lp) EJ (by exact J (Nat.succ_mul _ _) (aH D (.a Y (.a qX qY)) 1 1 (.v 4) (.a Y qX) 1 D (.a (.v 4) qY) (c5 _ _ _ _ _) BO Mr rfl)) (T'.trans T3)
   rwa [LG,DW,DT]at j2
  ·rw[Bl]at j
   have hmul:ys.length*cost s<=4*cost s:=Sf _ Vp;generalize Zi:ys.length=n at j hmul
   induction j with
   |mk B8 τ C' Ck BO T'=>
   refine Rv Zi (J Kp ?_);have Vq:ys.map (fun nd=>iV (cw (Dh S.nodes (AI.f S qZ)) s nd.2))=(ys.map fun nd=>((cw (Dh S.nodes (AI.f S qZ)) s nd.2:Nat):Int)).map V.int:=by exact J List.map_map rfl
   refine J Vq (a9 rfl (fun q=>il G.hh q) (J (vS _ _) (J (eB hp _) (Rv (yt (MA hs)) ?_))));refine aF (mP C' ap lp Ck (by exact az D (.n 1000) 1 1 D (.a Y qX) 1 (.a Y (.a qW (.m 4 qY))) qT 1 qX (.m 4 qY) (c4 _ _ _ _) BO DL hmul rfl) (hR _ _ _ (q _ _ (Ck.Mq [c] (s+1)) ?_ (u.set_same _ _ _) (T'.trans Upd.set))));have:=aY (x:=CN [c] (s+1)) (v:=iV (cw (Dh S.nodes (AI.f S qZ)) (s+1) [c])) (l:=B8);exact az D (.a Y (.a qW (.m 4 qY))) 1 1 qX (.m 4 qY) 1 (.v 4) (.a Y qX) 1 D (.a (.v 4) qW) (c5 _ _ _ _ _) hmul BO this rfl
 |cons d cs=>
  cases cs with
  |cons _ cs=>exact Ba J0 (Nat.not_le_of_gt (EK 3 cs.length))
  |nil=>
  have Vr:s=2:=by
   have:¬s<2:=fun h=>h0 (.inr h);have:s≠3:=fun h=>Ba (h3 h) (by decide:¬2<=1)
   lia
  subst Vr;have Zj:=hc c (.head _);have Vs:=hc d (.tail _ (.head _));have MZ:cost 2=5:=rfl;have RM:cost 1=1:=rfl;have hz:=MZ▸hz;refine ao rfl (ba l9 (uG (a:=1) (n:=2) (by decide) (by decide) (by decide) (by decide) (fun k=>wN X U S qZ AI ci cd kd mk kn.length c d k) (.mk kn none none U C hk (Bf _) .refl) (fun k x p τ hx j=>?_) fun p τ j=>?_))
  ·refine A5 (bz hx) fun Ke B0=>J B0 ?_
   obtain rfl:k=0:=Nat.lt_one_iff.mp Ke
   induction j with
   |mk B8 u1 u2 τ C' Ck BO T'=>
   refine aI C'.o rfl (YE (aD rfl (ih 1 (by decide) (cs:=[c]) (hA.le (Bf _)) C' Ck (az (.a D Y) qT 1 1 Y qW 1 D (.a qY (.m 2 qV)) 1 (.a qY (.n 5)) qT (c3 _ _ _) (AA RM) BO hz rfl) (fun j hj=>by cases Eb.mp hj;exact Zj) (G2 1) (fun h=>nomatch h) fun Ll Hz EJ Mr k2 T2=>?_)));have C2:=C'.upd T2 k2 ap lp;have WO:cw (Dh S.nodes (AI.f S qZ)) 2 [c,d]=cw (Dh S.nodes (AI.f S qZ)) 1 [c]*cw (Dh S.nodes (AI.f S qZ)) 1 [d]:=rfl;refine eE (fun e5=>?_) fun e5=>?_
   ·refine aI C2.o rfl (bX (Dr rfl) (aD rfl (ih 1 (by decide) (cs:=[d]) (hA.le (Bf _)) C2 EJ (t4 (.a D Y) qT 1 2 Y qW 1 D (.a qX Y) 1 qX (.a qY (.m 2 qV)) 1 (.a qY (.n 5)) qT (c4 _ _ _ _) (AA RM) Mr BO hz rfl) (fun j hj=>by cases Eb.mp hj;exact Vs) (G2 1) (fun h=>nomatch h) fun Zk Fo PZ Zl k3 T3=>?_)))
    refine cI (fun q=>sG q (IntMulOk.of_left (ic (AG xD (f.EI c))))) ?_;have j2:=wN.mk (c:=c) (d:=d) (k:=1) (n:=kn.length) Zk (some (iV 1)) (some (iV (cw (Dh S.nodes (AI.f S qZ)) 1 [c]))) Fo (C2.upd T3 k3 ap lp) PZ (t4 D (.a Y (.m 2 qW)) 1 1 qX (.a Y (.m 2 qV)) 1 D (.a (.v 4) qY) 2 qY qW 1 (.v 4) (.a qX qY) (c5 _ _ _ _ _) BO Zl (AA RM) Mr rfl) ((T'.trans T2).trans T3);rw[AK (by decide),WO,show iV (cw (Dh S.nodes (AI.f S qZ)) 1 [c]*cw (Dh S.nodes (AI.f S qZ)) 1 [d])=V.int (((0:Nat):Int)+((cw (Dh S.nodes (AI.f S qZ)) 1 [c]:Nat):Int)*((cw (Dh S.nodes (AI.f S qZ)) 1 [d]:Nat):Int)) by exact Rv (Int.natCast_mul _ _) (AL V.int (NA _).symm)]at j2;exact aF (aJ ⟨Al,j2⟩)
   ·have e6:cw (Dh S.nodes (AI.f S qZ)) 1 [c]=0:=by have:=of_decide_eq_false e5;lia
    have j2:=wN.mk (c:=c) (d:=d) (k:=1) (n:=kn.length) Ll (some (iV 1)) (some (iV (cw (Dh S.nodes (AI.f S qZ)) 1 [c]))) Hz C2 EJ (az D (.a Y (.m 2 qW)) 1 1 qX (.a Y (.m 2 qV)) 1 D (.a qX qY) 1 qY qW (c4 _ _ _ _) BO Mr (AA RM) rfl) (T'.trans T2);rw[AK (by decide),WO.trans (by exact J e6 (J (Nat.zero_mul _) rfl))]at j2;exact aF (aJ ⟨Al,j2⟩)
  ·have e8:(Ee 1 (2-1:Int).toNat).length=1:=rfl
   rw[e8]at j
   induction j with
   |mk B8 u1 u2 τ C' Ck BO T'=>
   refine aF (mP C' ap lp Ck (aH D (.n 1000) 1 1 D (.a Y (.m 2 qW)) 1 (.a Y (.n 5)) qT (c2 _ _) BO hz rfl) (hR _ _ _ (q _ _ (Ck.Mq [c,d] 2) ?_ (u.set_same _ _ _) (T'.trans Upd.set))));have:=aY (x:=CN [c,d] 2) (v:=iV (cw (Dh S.nodes (AI.f S qZ)) 2 [c,d])) (l:=B8);exact J MZ (aH D (.a Y (.n 5)) 1 1 qY (.a Y (.m 2 qW)) 1 D (.a qY qW) (c3 _ _ _) BO this rfl)
theorem w4(O:(cz ω).Ok)(f:HA S qZ AI R E F R₀)(ap:∀m,S.has m->X m≠kd)(lp:∀m,LS.has m->X m≠kd):∀s,s<=3->uq ω X S qZ AI ci cd kd mk s:=fun s=>by
 induction s using Kk with
 |ind s ih=>exact fun hs=>qc O f ap lp hs fun t ht=>ih t ht (aH D qS 1 1 (.a D qW) Y 1 Y qS (c2 _ _) ht hs rfl)
end
end
section
theorem mN(r:AX T h [.int a,.int b,.int c] vs.toList):∃t1 t2 t3,vs= #[.int a t1,.int b t2,.int c t3]:=by obtain⟨v1,l1,e1,r1,r⟩:=Ae r;obtain⟨v2,l2,rfl,r2,r⟩:=Ae r;obtain⟨v3,l3,rfl,r3,r⟩:=Ae r;rw[Aj r]at e1;obtain⟨t1,rfl⟩:=Ag r1;obtain⟨t2,rfl⟩:=Ag r2;obtain⟨t3,rfl⟩:=Ag r3;exact⟨t1,t2,t3,by rw[<- Array.toArray_toList (xs:=vs),e1]⟩
theorem pD(hu:A.units<cLine)(q:Q (.ex (.bool (decide ((a,b,d)≠(a',b',d'))))) U):O2 c A (compareOp .NotEq) (.tup [.int a,.int b,.int d]) (.tup [.int a',.int b',.int d']) Q U:=fun ρ s Aa v R ru rv=>by
 refine Bc (aL ru) fun x xs CL hx rx=>J CL ?_;refine Bc (aL rv) fun y ys CJ hy ry=>J CJ ?_;refine Ro (mN rx) fun t1 t2 t3 J9=>?_;subst J9;refine Ro (mN ry) fun u1 u2 u3 Qe=>?_;subst Qe;refine SeqAt.RcNeAt.tuples (A:=A) (e:=fun j=>match j with|0=>a==a'|1=>b==b'|_=>d==d') hx.B5 hy.B5 hu (fun j h1 h2=>?_) _ _ _ _ ?_
 ·rcases Jt h1 with rfl|rfl|rfl
  ·exact S6 _ _ _ _
  ·exact S6 _ _ _ _
  ·exact S6 _ _ _ _
 ·refine R.Dk aW (bq q ?_ rfl)
  refine AL V.ex (AL Value.bool ?_);have e:(List.range (min (#[MI a t1,.int b t2,.int d t3]:Array Value).size (#[MI a' u1,.int b' u2,.int d' u3]:Array Value).size))=[0,1,2]:=by rfl
  refine J e ?_
  by_cases h1:a=a'<;>by_cases h2:b=b'<;>by_cases h3:d=d'<;>simp[h1,h2,h3]
noncomputable def markV(S:HS)(qZ:LS)(AI:Di):V:=.tup [iV S.nodes.length,iV S.AF.length,iV (AI.marks qZ)]
def Mem(S:HS)(qZ:LS)(AI:Di)(mk:V)(kn:List (V×V)):Prop:=mk=.ex .none\/∃n e t:Nat,mk=.tup [iV n,iV e,iV t]/\(t<AI.marks qZ\/(n=S.nodes.length/\e=S.AF.length/\t=AI.marks qZ/\dI (Dh S.nodes (AI.f S qZ)) kn))
def GX(cd kd:Addr)(U Ac:u):Prop:=∀a o,a≠cd->a≠kd->U a=some o->Ac a=some o
structure Apart(X:XM)(S:HS)(AI:Di)(cd kd:Addr):Prop where
 k:∀m,S.has m->X m≠kd
 lk:∀m,LS.has m->X m≠kd
 d:∀m,S.has m->X m≠cd
 ld:∀m,LS.has m->X m≠cd
 w:∀l v dv,AI=.view l v dv->v≠cd/\dv≠cd
theorem CA.anew{X:XM}{U Ac:u}{S:HS}{qZ:LS}{AI:Di}{ci cd kd k:Addr}{mk mk':V}{kn B8:List (V×V)}(C:CA X U S qZ AI ci cd kd mk kn)(P:Apart X S AI cd kd)(h1:Ac cd=some (.ns [("heap",.ex (.ref (AI.ref X))),("mark",mk'),("known",.ex (.ref k))]))(h2:Ac k=some (.dict B8))(T:Upd cd U Ac):CA X Ac S qZ AI ci cd k mk' B8 where
 H:=C.H.move (fun Z Z=>rfl) fun m o hm e=>T _ _ (P.d m hm) e
 M:=C.M.move (fun Z Z=>rfl) rfl fun m o hm e=>T _ _ (P.ld m hm) e
 W:=by
  have W:=C.W;have w:=P.w
  cases AI with
  |heap=>trivial
  |view l v dv=>exact⟨W.1,T _ _ (w l v dv rfl).1 W.2.i,T _ _ (w l v dv rfl).2 W.2.d⟩
 i:=T _ _ (fun e=>by have:=C.i;have this:=e▸this;have this:=C.d▸this;cases this) C.i
 d:=h1
 k:=h2
theorem Upd.fresh(zk:U k=none):Upd cd U (((U.set cd o1).set k o2).set cd o3):=fun a o n e=>aB n (aB (aE e zk) (aB n e))
theorem A7.u0(h:A7 n A):A.units<cLine:=Dj (Ea _ 10) h.DV
section
variable{A:Around}{U:u}{X:XM}{Q:V->u->Prop}{S:HS}{qZ:LS}{E F:Nat}{R R₀:List (Nat×Nat)}{AI:Di}{ci cd kd:Addr}{mk:V}{kn:List (V×V)}
theorem Apart.next(P:Apart X S AI cd kd)(C:CA X U S qZ AI ci cd kd mk kn)(a:CE=kd\/U CE=none):Apart X S AI cd CE:=⟨a.elim (fun e=>e▸P.k) C.H.apart,a.elim (fun e=>e▸P.lk) C.M.apart,P.d,P.ld,P.w⟩
def M9(X:XM)(U:u)(S:HS)(qZ:LS)(AI:Di)(ci cd kd:Addr)(kn:List (V×V))(z:Nat)(CE:Addr)(B8:List (V×V))(Ac:u):Prop:=CA X Ac S qZ AI ci cd CE (markV S qZ AI) B8/\dI (Dh S.nodes (AI.f S qZ)) B8/\B8.length<=kn.length+z/\(CE=kd\/U CE=none)/\GX cd kd U Ac
theorem pE(O:(cz ω).Ok)(f:HA S qZ AI R E F R₀)(hA:A7 6 A)(C:CA X U S qZ AI ci cd kd mk kn)(M:Mem S qZ AI mk kn)(P:Apart X S AI cd kd)(hs:s<=3)
  (q:∀CE B8 Ac,M9 X U S qZ AI ci cd kd kn 0 CE B8 Ac->Q (.ex .none) Ac):aR (cz ω) A (.ref 211) [.ex (.ref ci),iV s] Q U:=by
 have hm:B7 mk=true:=by rcases M with rfl|⟨n,e,t,rfl,_⟩<;>rfl
 refine(fR _).go O hA rfl fun hA G hG hR=>ao (Df (by lia)) (aF ?_);refine aC C.o rfl (oB C.H C.W rfl (fun Z=>rfl) (aD rfl (th O f C.H C.M C.W (hA.lb rfl) ?_)));refine aC C.o rfl (wc O (hA.lb rfl) C.H C.M C.W (bc (.AN C.H.AF) (AG f.B.ed (by decide)) ?_));refine aC C.o rfl (wj O (hA.lb rfl) C.H C.M C.W (aC (v:=mk) C.o (show(match B7 mk with|true=>some mk|false=>none)=some mk by exact J hm rfl) ?_));have new:Wr G (.op (.ld 2)<|.op (.ld 0)<|.op (.D8 (N "mark"))<|.op .BV<|.op (.ld 0)<|.op (.D8 (N "known"))<|.done) (W G .done fun Z Z Ac=>Q (.ex .none) Ac) [] ⟨[some (.ex (.ref ci)),some (iV s),some (markV S qZ AI)],[]⟩ U:=by refine bN C.i C.d rfl rfl (du fun k hk=>?_);refine A5 (eH.mp hk) fun nk zk=>bN (aB (aE C.i zk) (aB (Cf C.i C.d) C.i)) (aB nk.symm (u.set_same _ _ _)) rfl rfl (aF (aJ (q k [] _ ⟨C.anew P (u.set_same _ _ _) (aB nk (u.set_same _ _ _)) (Upd.fresh zk),(fun Z h=>nomatch h),DS _,.inr zk,fun a o n Z e=>Upd.fresh zk a o n e⟩)))
 rcases M with rfl|⟨n,e,t,rfl,hM⟩
 ·exact iN (fun q=>jl (A7.u0 hA) q) (bl rfl new)
 ·refine iN (fun q=>pD (A7.u0 hA) q) (eE (fun Z=>new) fun e=>aF (aJ ?_))
  have e:=Decidable.not_not.mp (of_decide_eq_false e);injection e with e1 e
  injection e with e2 e3
  obtain rfl:=Nz.mp e1;obtain rfl:=Nz.mp e2;obtain rfl:=Nz.mp e3;exact q kd kn _ ⟨C,hM.elim (fun h=>Ba h (Gk _)) fun h=>h.2.2.2,Bf _,.inl rfl,fun Z Z Z Z e=>e⟩
theorem wL(O:(cz ω).Ok)(f:HA S qZ AI R E F R₀)(hA:A7 14 A)(C:CA X U S qZ AI ci cd kd mk kn)(M:Mem S qZ AI mk kn)(hz:kn.length+21<=900)(P:Apart X S AI cd kd)
  (hs:s<=3) (hc:c<S.par.length)
  (q:∀CE B8 Ac,M9 X U S qZ AI ci cd kd kn 21 CE B8 Ac->Q (iV (cw (Dh S.nodes (AI.f S qZ)) s [AI.f S qZ c])) Ac):
  aR (cz ω) A (.ref 218) [.ex (.ref ci),iV c,iV s] Q U:=by
 have Lm:cost s<=21:=by rcases(show s=0\/s=1\/s=2\/s=3 by lia)with rfl|rfl|rfl|rfl<;>decide
 refine(jp _).go O hA rfl fun hA G hG hR=>aI C.o rfl (aD rfl (pE O f (hA.lb rfl) C M P hs fun Zm ZT Jg h=>?_));refine Js h fun C1 K1 l1 a1 U1=>?_;clear h;obtain⟨ap,lp,_⟩:=P.next C a1;refine aI C1.o rfl (aC C1.o rfl (oB C1.H C1.W rfl (fun Z=>rfl) (aD rfl (sP O f C1.H C1.M C1.W (hA.lb rfl) hc ?_))));refine aD rfl (w4 O f ap lp s hs (cs:=[AI.f S qZ c]) (hA.le (aA (.a (.n 9) D) (.n 13) 1 1 D qS (c1 _) hs rfl)) C1 K1 (AG (Jn l1 Lm) hz) (fun j hj=>?_) (G2 1) (fun Z=>Bf _) fun Ll Hz EJ Mr k2 T2=>?_)
 ·obtain rfl:=Eb.mp hj
  exact⟨Dj (f.C.pt.le c) hc,f.C.pt.idem c⟩
 ·exact aQ (hR _ _ _ (q Zm Ll Hz ⟨C1.upd T2 k2 ap lp,EJ,AG Mr (Jn l1 Lm),a1,fun a o h1 h2 e=>T2 a o (a1.elim (fun e=>e▸h2) fun z=>aE e z) (U1 a o h1 h2 e)⟩))
end
end
section
theorem q5{α:Type}{l:List α}:∀{i j:Nat} {x:α},l.Nodup->l[i]? =some x->l[j]? =some x->i=j:=by
 induction l with
 |nil=>exact fun Z h=>nomatch h
 |cons a l ih=>
  intro i j x hn h k;have hn:=CQ.mp hn
  cases i with
  |zero=>
   cases j with
   |zero=>rfl
   |succ j=>obtain rfl:=BC h;exact Ba (BW (l:=l) k) hn.1
  |succ i=>
   cases j with
   |zero=>obtain rfl:=BC k;exact Ba (BW (l:=l) h) hn.1
   |succ j=>exact AL (· +1) (ih hn.2 h k)
def LV(v:V)(l:List V)(U:u):Prop:=v=.lst l\/∃t,v=.ex (.ref t)/\U t=some (.list l)
section
variable{c:Cx}{A:Around}{G:Gx c A}{K:List V->Pv->u->Prop}{st:List V}{p:Pv}{U:u}{k:Code}
theorem ye(h:LV v l U)(hl:l.length<=1000)(q:∀a,U a=none->Wr G k K (.ex (.ref a)::st) p (U.set a (.list l))):WW G (.op (.call 1) k) K (v::.ex (.type "list")::st) p U:=bf rfl fun S=>by
 rcases h with rfl|⟨t,rfl,ht⟩
 ·exact jL hl (iG (K:=W G k K) S (fun Z Z Z h=>h) (.inr fun a z=>aM (q a z)))
 ·exact jB (S.AN ht) hl (iG (K:=W G k K) S (fun Z Z Z h=>h) (.inr fun a z=>aM (q a z)))
end
theorem u.B9{U τ:u}{a:Addr}{o:O}(h:U.le τ)(z:U a=none):U.le (τ.set a o):=fun b x e=>aB (aE e z) (h b x e)
theorem xP{U:u}{a b:Addr}{l:List V}{m:List (V×V)}(h:U a=some (.list l))(k:U b=some (.dict m)):b≠a:=fun e=>by have k:=e▸k;have k:=h▸k;cases k
inductive z7(U:u)(ns:List Node)(R:List (Nat×Nat))(pv:V)(e:Nat):Pv->u->Prop
 |mk (h:List Nat) (pend:List (Nat×Nat)) (tl:Addr) (fresh:Bool) (u4 u5 u6 u7 u8 u9 DV Hf:Option V) (τ:u) (i6:τ tl=some (.list (pend.map pV))) (i7:U tl=none) (le:U.le τ) (hl:h.length=ns.length) (pt:Pt (up h)) (sd:Eo ns R (up h)) (pe:∀p∈pend,Dz ns R p.1 p.2/\p.1<ns.length/\p.2<ns.length) (pl:pend.length<=50) (rp:∀p∈R,up h p.1=up h p.2\/p∈pend)
  (fr:fresh=false->(∀p∈pend,up h p.1≠up h p.2)/\(pend=[]->Cl ns (up h))) (fi:fresh=true->up h=id) (he:e=cls ns.length (up h)+(if fresh then 1 else 0)):z7 U ns R pv e ⟨[some (.lst (ns.map nV)),some pv,some (.lst (AW h)),some (.ex (.ref tl)),u4,u5,u6,u7,u8,u9,DV,Hf],[]⟩ τ
inductive zc(ns:List Node)(pv:V)(tl:Addr)(pend:List (Nat×Nat))(h:List Nat)(u8 u9 DV Hf:Option V)(τ:u)(k:Nat):Pv->u->Prop
 |mk (h':List Nat) (u4 u5 u6 u7:Option V) (hl:h'.length=ns.length) (hu:up h'=Fz (up h) (pend.take k)):zc ns pv tl pend h u8 u9 DV Hf τ k ⟨[some (.lst (ns.map nV)),some pv,some (.lst (AW h')),some (.ex (.ref tl)),u4,u5,u6,u7,u8,u9,DV,Hf],[]⟩ τ
inductive Qf(U:u)(ns:List Node)(R:List (Nat×Nat))(pv:V)(tl fd:Addr)(h:List Nat)(u4 u5 u6 u7:Option V)(k:Nat):Pv->u->Prop
 |mk (kn:List (V×V)) (pd:List (Nat×Nat)) (u9 DV Hf:Option V) (τ:u) (i7:τ tl=some (.list (pd.map pV))) (i8:τ fd=some (.dict kn)) (le:U.le τ) (H:Hm ns R (up h) kn pd k):Qf U ns R pv tl fd h u4 u5 u6 u7 k ⟨[some (.lst (ns.map nV)),some pv,some (.lst (AW h)),some (.ex (.ref tl)),u4,u5,u6,u7,some (.ex (.ref fd)),u9,DV,Hf],[]⟩ τ
theorem gK(ha:a<h.length):(AW h)[a]? =some (iV (up h a)):=qE ha
theorem zt{a b:Nat}:V.int (min (a:Int) (b:Int))=iV (min a b):=AL V.int (w8 a b)
theorem Zn{a b:Nat}:V.int (max (a:Int) (b:Int))=iV (max a b):=AL V.int (wu a b)
section
variable{c:Cx}{A:Around}{G:Gx c A}{K:List V->Pv->u->Prop}{st:List V}{p:Pv}{U:u}{k b:Code}{nm:Nm}{Bu:List Nat}{ns:List Nat}{f:Nat->Nat}
theorem v5(f:Nat->Nat)(hn:ns.length<=1000)(h:∀(G':Gx c A) ex j n,G'.nm=nm->ns[j]? =some n->Wr G' b (Km (fun Z Z=>True) p Bu ex (iV n) (AW (ns.map f)) j U) [] (Cj Bu p ex (iV n)) U)(q:Wr G k K (.lst (AW (ns.map f))::st) p U):WW G (.comp .v nm Bu b k) K (.lst (AW ns)::st) p U:=
 ia .lst _ (aS.trans ((Bl _).trans aS.symm)) (AG (AA aS) hn) (fun G' ex j x z e hx Z=>by refine An (bI hx) fun n hn Bg=>J Bg ?_;exact h G' ex j n e hn) q
theorem WQ(h:ns[j]? =some n)(e:iV (f n)=v):Km (fun Z Z=>True) p Bu ex (iV n) (AW (ns.map f)) j U [v] (Cj Bu p ex (iV n)) U:=e▸Mc h
end
section
variable{R:List (Nat×Nat)}
theorem uP(O:(cz ω).Ok)(hA:A7 3 A)(hN:ns.length<=20)(DW:ns.Nodup)(hk:∀(n:Nat) (x:Node),ns[n]? =some x->x.2.length<=2/\(∀k∈x.2,k<n))(hR:∀p∈R,p.1<ns.length/\p.2<ns.length)(WR:R.length<=50){pv:V}(Vt:LV pv (R.map pV) U)
  (q:∀(h:List Nat) Ac,h.length=ns.length->Ef ns R (up h)->U.le Ac->Q (.lst (AW h)) Ac):aR (cz ω) A (.ref 752) [.lst (ns.map nV),pv] Q U:=by
 refine(my _).go O hA rfl fun hA G hG Vu=>?_;have nl:(ns.map nV).length=ns.length:=Bl _;have n9:ns.length<=1000:=AG hN (by decide);refine cA (AG (AA nl) n9) (J nl (ur n9 (J (qO _) (ye Vt (AG (AA (Bl _)) (AG WR (by decide))) fun tl WS=>?_))));have h0:up (List.range ns.length)=id:=funext fun n=>cJ ns.length n;refine ce (z7 U ns R pv) _ (.mk (List.range ns.length) R tl true none none none none none none none none _ (u.set_same _ _ _) WS (u.DY _ WS) Ek (by exact J h0 Pt.id) (by exact J h0 (Eo.id _ _)) (fun p hp=>⟨.told hp,hR p hp⟩) WR (fun p hp=> .inr hp) nofun (fun Z=>h0) rfl) fun e p τ j=>?_
 induction j with
 |mk h pend tl fresh u4 u5 u6 u7 u8 u9 DV Hf τ i6 i7 le hl pt sd pe pl rp fr fi he=>
 have Vv:(pend.map pV).length=pend.length:=Bl _;refine dE rfl (ko (.AN i6) (fun h q=>n8 h hA.u0 q) (aJ (dw (fun e0=>?_) fun e0=>?_)))
 rotate_left
 ·rw[Vv]at e0
  have e0:pend=[]:=List.eq_nil_of_length_eq_zero (Fc ((by rw[Bool.not_eq_false']at e0;exact e0)));refine aQ (Vu _ _ _ (q h τ hl ⟨pt,?_,fun p hp=>?_,sd⟩ le))
  ·cases fresh with
   |false=>exact(fr rfl).2 e0
   |true=>
    refine J (fi rfl) ?_;intro i j x y hx hy e;have ci:∀z:Node,canon id z=z:=fun z=>by unfold canon;exact J (List.map_id _) rfl
    rw[ci,ci]at e;subst e;exact q5 DW hx hy
  ·refine(rp p hp).resolve_right fun h=>?_
   have h:=e0▸h;cases h
 rw[Vv]at e0;have e0:pend≠[]:=fun h=>by subst h;injection e0
 refine cS (.obj (.AN i6)) (zc ns pv tl pend h u8 u9 DV Hf τ) (.mk h u4 u5 u6 u7 hl rfl) (fun k x p Bw hx j=>?_) fun p Bw j=>?_
 ·induction j with
  |mk h' u4 u5 u6 u7 BO hu=>
  rw[Cs]at hx;refine An (El.mp hx) fun ab Lg BX=>Rv BX ?_;refine D4 (pe _ (BW Lg)) fun Z ha hb=>?_;have Ms:Pt (up h'):=by exact J hu (t8 pt)
  have hz:h'.length<=1000:=BO▸n9;have h9:(AW h').length<=1000:=AG (AA aS) hz;refine bQ (gK (J BO ha)) h9 (bQ (gK (J BO hb)) h9 (dE rfl (jt ?_)));refine J zt (J Zn ?_);refine v5 (fun x=>if x=max (up h' ab.1) (up h' ab.2)then min (up h' ab.1) (up h' ab.2)else x) hz (fun G' ex j x e hx=>eE (fun e=>aF (aJ (WQ hx (AL iV (AS (iW e)))))) fun e=>aF (aJ (WQ hx (AL iV (AK (v6 e)))))) (aJ ⟨.AN i6,.mk _ _ _ _ _ ((Bl _).trans BO) ?_⟩);refine J (xy (J BO ha) (J BO hb) Ms) (J hu (J LG (J Lg ?_)));exact(sB _ _ _).symm
 ·induction j with
  |mk h' u4 u5 u6 u7 BO hu=>
  have hu:=Vv▸hu;have hu:=Kp▸hu;have Ms:Pt (up h'):=by exact J hu (t8 pt)
  have Qg:Eo ns R (up h'):=by exact J hu (wp sd pt fun p hp=>(pe p hp).1)
  have Vw:∀p∈R,up h' p.1=up h' p.2:=fun p hp=>by exact J hu ((rp p hp).elim iC (tH p))
  have Vx:cls ns.length (up h')<e:=by
   refine J hu (J he ?_)
   cases fresh with
   |true=>exact QT (iQ pt fun p hp=>(pe p hp).2)
   |false=>exact ox pt (fun p hp=>(pe p hp).2) e0 (fr rfl).1
  have hz:h'.length<=1000:=BO▸n9;have h9:(AW h').length<=1000:=AG (AA aS) hz;have CV:∀a,a<ns.length->(AW h')[a]? =some (iV (up h' a)):=fun a ha=>gK (J BO ha);refine du fun fd Zo=>cg rfl fun WT Vy=>?_;refine A5 (eH.mp Vy) fun tf Vy=>?_;have WU:=u.le_none le Zo;have Vz:=u.le_none le Vy;refine t5 (Qf U ns R pv WT fd h' u4 u5 u6 u7) (.mk [] [] u9 DV Hf _ (u.set_same _ _ _) (aB tf.symm (u.set_same _ _ _)) (u.B9 (u.B9 le WU) Vz) .start) (fun k x p Bw hx j=>?_) fun p Bw j=>?_
  ·refine An (kP hx) fun xv Mt Dw=>J Dw ?_
   have Mt:=(Cs)▸Mt;refine An (El.mp Mt) fun nd ES C9=>Rv C9 ?_;refine A5 (hk k nd ES) fun z1 z2=>?_;have FA:=bK ES
   induction j with
   |mk kn pd u9 DV Hf Kh i7 i8 HV H=>
   refine dS (.AN i8) (df (bX (ak z1 (by decide)) (fT (up h') (AG z1 (by decide)) (fun G' ex j kk e GU=>?_) ?_)))
   ·exact bQ (CV kk (EL (z2 kk (BW GU)) FA)) h9 (aJ (Mc GU))
   refine fS (o:=nd.1) (bF z1 (by decide)) (eR (.AN i8) (H.ks (canon (up h') nd)) (AG H.len (AG (Dt FA) n9)) (fun z hz=>?_) fun hz=>?_)
   ·refine DC (H.get hz) fun mm ym CJ MN MO Zp=>?_;subst CJ
    refine bQ (CV mm MN) h9 (bQ (CV k FA) h9 (eE (fun e=>?_) fun e=>aF (aJ ⟨Al,.mk kn pd _ _ _ _ i7 i8 HV (H.old ES hz ?_)⟩)))
    ·refine aZ (.AN i7) (be (.AN i7) (AG (AA (Bl _)) (AG H.pl (AG (Dt FA) n9))) (aF (aJ ⟨Al,.mk kn (pd++[(mm,k)]) _ _ _ _ (by exact J DT (u.set_same _ _ _)) (aB (xP i7 i8) i8) (u.B9 HV Vz) (H.UX Qg ES hz MN MO Zp (kq e))⟩)))
    ·exact kZ e
   ·refine bQ (CV k FA) h9 (bQ (CV k FA) h9 (ao (bne_self_eq_false _) (aF (aJ ⟨Al,.mk _ pd _ _ _ _ (aB (xP i7 i8).symm i7) (u.set_same _ _ _) (u.B9 HV WU) (H.new ES hz)⟩))))
  ·induction j with
   |mk kn pd u9 DV Hf Kh i7 i8 HV H=>
   rw[dg,Bl]at H;exact aJ ⟨_,Vx,.mk h' pd WT false _ _ _ _ _ _ _ _ _ i7 Vz HV BO Ms Qg (fun p hp=>(H.pe p hp).2) (AG H.pl (AG hN (by decide))) (fun p hp=> .inl (Vw p hp)) (fun Z=>⟨fun p hp=>(H.pe p hp).1,fun e=>H.YI e⟩) nofun rfl⟩
end
end
structure Qh(U:u)(d:Addr)(N:Nat)(L:Nat->List Node):Prop where
 at_:∃l,U d=some (.dict l)/\(∀p∈l,∃j,p.1=.int j)/\∀c,c<N->L c≠[]->∃v,Az l (iV c)=some (.ex (.ref v))/\U v=some (.list ((L c).map nV))
noncomputable def Qi(L:Nat->List Node):Nat->Nat->Nat
 |1=>GS L
 |2=>M0 L
 |_=>PO L
noncomputable def gk(L:Nat->List Node)(s:Nat)(nd:Node):Nat:=match nd.2 with
 |[]=>if s=1 then 1 else 0
 |[k]=>if s<=1 then 0 else Qi L (s-1) k
 |[j,k]=>if s=3 then GS L j*GS L k else 0
 |_=>0
theorem va(L:Nat->List Node)(s c:Nat)(h1:1<=s)(h3:s<=3):Qi L s c=((L c).map (gk L s)).sum:=by
 have hs:s=1\/s=2\/s=3:=by lia
 rcases hs with rfl|rfl|rfl
 ·show GS L c=_
  unfold GS
  congr 1
  refine HH fun nd Z=>?_;unfold gk
  match nd.2 with
  |[]=>rfl
  |[k]=>rfl
  |[j,k]=>rfl
  |_::_::_::_=>rfl
 ·show M0 L c=_
  unfold M0
  congr 1
  refine HH fun nd Z=>?_;unfold gk
  match nd.2 with
  |[]=>rfl
  |[k]=>rfl
  |[j,k]=>rfl
  |_::_::_::_=>rfl
 ·show PO L c=_
  unfold PO
  congr 1
  refine HH fun nd Z=>?_;unfold gk
  match nd.2 with
  |[]=>rfl
  |[k]=>rfl
  |[j,k]=>rfl
  |_::_::_::_=>rfl
theorem sJ{l:List Node}{k:Nat}{nd:Node}(h:l[k]? =some nd)(g:Node->Nat):((l.take (k+1)).map g).sum=((l.take k).map g).sum+g nd:=by refine J LG (J h (J DT (J List.sum_append ?_)));rfl
theorem xk(L:Nat->List Node)(c:Nat):GS L c<=(L c).length:=by exact J (gn _ _) xD
inductive RN(U:u)(d:Addr)(c s:Nat)(L:Nat->List Node)(k:Nat):Pv->u->Prop
 |mk (u4 u5:Option V):RN U d c s L k ⟨[some (.ex (.ref d)),some (iV c),some (iV s),some (iV (((L c).take k).map (gk L s)).sum),u4,u5],[]⟩ U
theorem RN.put{U:u}{d:Addr}{c s k:Nat}{L:Nat->List Node}{v:V}{u4 u5:Option V}{nd:Node}(hn:(L c)[k]? =some nd)(h:v=iV ((((L c).take k).map (gk L s)).sum+gk L s nd)):RN U d c s L (k+1) ⟨[some (.ex (.ref d)),some (iV c),some (iV s),some v,u4,u5],[]⟩ U:=by exact J h (Rv (sJ hn (gk L s)) (.mk _ _))
inductive sS(U:u)(d:Addr)(c s z y:Nat)(x:V)(k:Nat):Pv->u->Prop
 |mk (u5:Option V):sS U d c s z y x k ⟨[some (.ex (.ref d)),some (iV c),some (iV s),some (iV (z+if k=0 then 0 else y)),some x,u5],[]⟩ U
theorem sS.put(h:v=iV (z+y)):sS U d c s z y x (k+1) ⟨[some (.ex (.ref d)),some (iV c),some (iV s),some v,some x,u5],[]⟩ U:=by
 have j:=sS.mk (U:=U) (d:=d) (c:=c) (s:=s) (z:=z) (y:=y) (x:=x) (k:=k+1) u5
 rwa [AK (Nat.succ_ne_zero k),<- h]at j
section
theorem Zq(O:(cz ω).Ok){N:Nat}(H:Qh U d N L)(hl:∀c,c<N->(L c).length<=4)(hk:∀c nd,c<N->nd∈L c->nd.2.length<=2/\∀k∈nd.2,k<N/\L k≠[]):∀s:Nat,1<=s->s<=3->∀{A:Around} {c:Nat} {Q:V->u->Prop},A7 (2+s) A->c<N->L c≠[]->Q (iV (Qi L s c)) U->aR (cz ω) A (.ref 759) [.ex (.ref d),iV c,iV s] Q U:=by
 intro s
 induction s using Kk with
 |ind s ih=>
 intro Jx Mu A c Q hA hc Cc q;refine B4 H.at_ fun l h1 Qj hg=>An (hg c hc Cc) fun v Zr Kb=>(ni _).go O (hA.le (m:=2+s) (n:=1+s+1) (bP (.a (.a qW D) qW) (.a qU D) 1 (c1 _) rfl)) rfl fun hA G hG hR=>aN (.AN h1) (.int _ Qj) Zr (cS (.obj (.AN Kb)) (RN U d c s L) (.mk none none) (fun k x p τ hx j=>?_) fun p τ j=>?_)
 ·rw[Cs]at hx
  refine An (El.mp hx) fun VA DW Dx=>?_;obtain⟨nm,ks⟩:=VA;refine Rv Dx (A5 (hk c _ hc (BW DW)) fun z1 z2=>?_)
  induction j with
  |mk u4 u5=>
  cases ks with
  |nil=>
   refine ba (l:=[.str nm]) (Dr rfl) (bl rfl (a9 rfl (fun q=>qr q) (aF (aJ ⟨.AN Kb,.put DW ?_⟩))));refine AL V.int ?_
   show _+(if((s:Int)==1)=true then 1 else 0)=((_+(if s=1 then 1 else 0):Nat):Int)
   by_cases e:s=1
   ·exact J e rfl
   ·have h1:((s:Int)==1)=false:=gT (b:=1) e
    refine J (AK e) (J h1 ?_);rfl
  |cons i ks=>
  cases ks with
  |nil=>
   refine A5 (z2 i (.head _)) fun VB Mv=>ba (l:=[.str nm,iV i]) (Dr rfl) (ao rfl (ba (l:=[.str nm,iV i]) (Dr rfl) (w_and (fun Z=>aF (eE (fun e=>?_) fun e=>?_)) fun e=>nomatch e)))
   ·have e:=Fc e
    refine dq (i:=1) (l:=[.str nm,iV i]) rfl (Dr rfl) (aD rfl ?_);refine J (dc Jx) (ih (s-1) (by exact aA (.a D qW) Y 1 1 (.a D qW) Y (c2 _ _) (AA (Ds (aA qW D 1 1 qW D (c1 _) Jx rfl))) rfl) (by lia) (by exact aH D qS 1 1 (.a D qW) Y 1 Y qS (c2 _ _) (AA (Ds (aA qW D 1 1 qW D (c1 _) Jx rfl))) Mu rfl) (hA.le (by exact aA (.a qU D) (.a qW Y) 1 1 (.a D qW) Y (c2 _ _) (AA (Ds (aA qW D 1 1 qW D (c1 _) Jx rfl))) rfl)) VB Mv (aF (aF (aJ ⟨.AN Kb,.put DW ?_⟩))));refine AL V.int (J (show gk L s (nm,[i])=Qi L (s-1) i from AK (by lia)) ?_);rfl
   ·have e:=of_decide_eq_false e
    obtain rfl:s=1:=by lia
    exact ba (l:=[.str nm,iV i]) (Dr rfl) (ao rfl (aF (aF (aF (aJ ⟨.AN Kb,.put DW rfl⟩)))))
  |cons j ks=>
  cases ks with
  |cons _ ks=>exact Ba z1 (Nat.not_le_of_gt (EK 3 ks.length))
  |nil=>
   refine A5 (z2 i (.head _)) fun WV VC=>A5 (z2 j (.tail _ (.head _))) fun VB Mv=>ba (l:=[.str nm,iV i,iV j]) (Dr rfl) (ao rfl (ba (l:=[.str nm,iV i,iV j]) (Dr rfl) (w_and (fun e=>nomatch e) fun Z=>ao rfl (ba (l:=[.str nm,iV i,iV j]) (Dr rfl) (bl rfl ?_)))));refine uG (by decide) (by decide) (by lia) (by lia) (sS U d c s (((L c).take k).map (gk L s)).sum (GS L i*GS L j) (nV (nm,[i,j]))) (.mk u5) (fun t x p τ hx j=>?_) fun p τ j=>?_
   ·refine A5 (bz hx) fun ht Ci=>J Ci ?_
    obtain⟨rfl,rfl⟩:s=3/\t=0:=by lia
    induction j with
    |mk u5=>
    refine dq (i:=1) (l:=[.str nm,iV i,iV j]) rfl (Dr rfl) (aD rfl (ih 1 (EK _ _) (by assumption) (by assumption) (hA.le (EK _ _)) WV VC ?_));refine dq (i:=2) (l:=[.str nm,iV i,iV j]) rfl (Dr rfl) (aD rfl (ih 1 (EK _ _) (by assumption) (by assumption) (hA.le (EK _ _)) VB Mv ?_));refine cI (fun q=>sG q (IntMulOk.of_left (ic (AG (xk L i) (hl i WV))))) (aJ ⟨Al,.put ?_⟩);exact AL V.int ((AL (fun z=>(((((L c).take k).map (gk L 3)).sum:Nat):Int)+z) (Int.natCast_mul _ _).symm).trans (Int.natCast_add _ _).symm)
   ·induction j with
    |mk u5=>
    refine J (a7 _ _) (aF (aF (aF (aJ ⟨.AN Kb,.put DW ?_⟩))));refine AL (fun z=>iV (_+z)) ?_
    show(if _ then 0 else _)=if s=3 then _ else 0
    by_cases e:s=3
    ·exact J e rfl
    ·refine J (AK e) (J (AS (by lia)) ?_);rfl
 ·rw[Bl]at j
  generalize hz:(L c).length=z at j
  induction j with
  |mk u4 u5=>
  refine Rv hz (J Kp (Rv (va L s c Jx Mu) ?_));exact aQ (hR _ _ _ q)
end
section
theorem VD{N n1 n2 i:Nat}(h1:n1<N)(h2:n2<N)(hx:[iV n1,iV n2][i]? =some x):∃n:Nat,n<N/\x=iV n:=by
 match i,hx with
 |0,hx=>obtain rfl:=BC hx;exact⟨n1,h1,rfl⟩
 |1,hx=>obtain rfl:=BC hx;exact⟨n2,h2,rfl⟩
theorem xo{b:Nat}(hx:[iV 3,iV 1,iV 2][b]? =some x):∃s:Nat,1<=s/\s<=3/\x=iV s:=by
 match b,hx with
 |0,hx=>obtain rfl:=BC hx;exact⟨3,by decide,by decide,rfl⟩
 |1,hx=>obtain rfl:=BC hx;exact⟨1,by decide,by decide,rfl⟩
 |2,hx=>obtain rfl:=BC hx;exact⟨2,by decide,by decide,rfl⟩
theorem gQ(h:∀c,(L c).Perm (L' c))(ks:List Nat):R1 L ks=R1 L' ks:=by
 match ks with
 |[]=>rfl
 |[c]=>exact eB (h c) _
 |_::_::_=>rfl
theorem qI(h:∀c,(L c).Perm (L' c))(ks:List Nat):R2 L ks=R2 L' ks:=by
 match ks with
 |[]=>rfl
 |[c]=>
  show((L c).map fun nd=>R1 L nd.2).sum=((L' c).map fun nd=>R1 L' nd.2).sum
  refine J (eB (h c) _) (J (HH fun nd Z=>gQ h nd.2) ?_);rfl
 |[c,d]=>show R1 L [c]*R1 L [d]=R1 L' [c]*R1 L' [d];exact J (gQ h _) (J (gQ h _) rfl)
 |_::_::_::_=>rfl
theorem vt(h:∀c,(L c).Perm (L' c))(ks:List Nat):R3 L ks=R3 L' ks:=by
 match ks with
 |[]=>rfl
 |[c]=>
  show((L c).map fun nd=>R2 L nd.2).sum=((L' c).map fun nd=>R2 L' nd.2).sum
  refine J (eB (h c) _) (J (HH fun nd Z=>qI h nd.2) ?_);rfl
 |_::_::_=>rfl
theorem yv(h:∀c,(L c).Perm (L' c))(hk:∀c,∀nd∈L c,nd.2.length<=2)(h1:1<=s)(h3:s<=3):Qi L s c=cw L' s [c]:=by
 have hs:s=1\/s=2\/s=3:=by lia
 rcases hs with rfl|rfl|rfl
 ·exact(gn L c).trans (gQ h _)
 ·exact(tR L c).trans (qI h _)
 ·exact(yN L c (hk c)).trans (vt h _)
structure B3(U τ:u)(d:Addr)(ns:List Node)(F:Nat->Nat)(k:Nat)(l:List (V×V))(Lk:Nat->List Node)(ad:Nat->Addr):Prop where
 dd:τ d=some (.dict l)
 keys:∀p∈l,∃j,p.1=.int j
 len:l.length<=k
 ht:∀c,(∃n,n<k/\F n=c)->Az l (iV c)=some (.ex (.ref (ad c)))/\τ (ad c)=some (.list ((Lk c).map nV))/\U (ad c)=none/\ad c≠d
 no:∀c,¬(∃n,n<k/\F n=c)->Az l (iV c)=none/\Lk c=[]
 inj:∀c e,(∃n,n<k/\F n=c)->(∃n,n<k/\F n=e)->c≠e->ad c≠ad e
 nd:∀c,(Lk c).Nodup
 mem:∀c y,y∈Lk c↔∃n x,n<k/\ns[n]? =some x/\F n=c/\y=canon F x
 small:∀c,(Lk c).length<=k
theorem wX(Ar:U l=some (.list xs))(k:KV 3 x)(kx:∀y∈xs,KV 3 y)(sm:∀y∈xs,Sm y x)(hu:A.units+10<cLine)(q:Q (.ex (.bool (decide (x∈xs)))) U):O2 c A (compareOp .In) x (.ex (.ref l)) Q U:=fun ρ s Aa v R ru rv=>by
 classical
 refine J (aG rv) (An ((R.obj _ _ Ar).1) fun ws hl rr=>SeqAt.in_listAt (fun v=>decide (VR (tk ρ U) s.heap x v)) hl.isList (fun y hy=>?_) ?_)
 ·refine Ax (H5.mp (Nv.mpr hy)) fun i hi=>?_
  have J4:i<xs.length:=by exact Rv rr.length ((CP.mp hi).1)
  refine An (rr.get (Cr J4)) fun y' E3 ry=>?_;have E3:=hi▸E3;obtain rfl:=BC E3;intro prog w E P hp;refine vK 3 _ (kx _ (G4 J4)) k (sm _ (G4 J4)) (by show A.units+1+3<_;exact aA (.a (.a (.a D qW) qS) qW) Y 1 1 (.a (.a D qR) qW) Y (c2 _ _) hu rfl) ry ru ?_;have e:decide (VR (tk ρ U) s.heap x y)=decide (xs[i]=x):=decide_eq_decide.mpr ⟨fun h=>(VR.inj k ⟨_,kx _ (G4 J4)⟩ h ry).symm,fun h=>h▸ry⟩;exact Rv e hp
 ·have:=xO k kx rr
  exact J this (R.Dk aW q)
theorem B3.start{F:Nat->Nat}(h:τ d=some (.dict [])):B3 U τ d ns F 0 [] (fun Z=>[]) (fun Z=>d):=
 ⟨h,(fun Z h=>nomatch h),Bf _,(fun c Dm=>An Dm fun n h Z=>Ba h (Gu _)),(fun c Z=>⟨rfl,rfl⟩),(fun c e Qk=>An Qk fun n h Z=>Ba h (Gu _)),(fun c=>FG),(fun c y=>⟨(fun h=>nomatch h),(fun I8=>Fv I8 fun n x h Z=>Ba h (Gu _))⟩),fun c=>Bf _⟩
theorem B3.move{F:Nat->Nat}{ad:Nat->Addr}(H:B3 U τ d ns F k l Lk ad)(h:∀a o,U a=none->τ a=some o->Bw a=some o)(hd:U d=none):B3 U Bw d ns F k l Lk ad:=
 {H with dd:=h _ _ hd H.dd,ht:=fun c hc=>⟨(H.ht c hc).1,h _ _ (H.ht c hc).2.2.1 (H.ht c hc).2.1,(H.ht c hc).2.2⟩}
section
variable{F:Nat->Nat}{ad:Nat->Addr}
theorem B3.Ql(H:B3 U τ d ns F k l Lk ad)(hx:ns[k]? =some x)(hm:∀y,y∈NL↔y∈Lk (F k)\/y=canon F x):∀c y,y∈(if c=F k then NL else Lk c)↔∃n z,n<k+1/\ns[n]? =some z/\F n=c/\y=canon F z:=fun c y=>by
 by_cases e:c=F k
 ·subst e
  refine J (AS rfl) ?_;rewrite[hm,H.mem];constructor
  ·rintro (⟨n,z,h1,h2,h3,h4⟩|h)
   ·exact⟨n,z,by exact aA (.a D qW) (.a Y qW) 1 1 (.a D qW) Y (c2 _ _) h1 rfl,h2,h3,h4⟩
   ·exact⟨k,x,by exact Bf _,hx,rfl,h⟩
  ·intro FL
   obtain⟨n,z,h1,h2,h3,h4⟩:=FL
   by_cases q:n=k
   ·subst q
    have h2:=hx▸h2;obtain rfl:=BC h2;exact .inr h4
   ·exact .inl ⟨n,z,by exact aA (.a D qW) Y 1 1 (.a D qW) Y (c2 _ _) (DF (aA D Y 1 1 (.a D qW) (.a Y qW) (c2 _ _) h1 rfl) q) rfl,h2,h3,h4⟩
 ·refine J (AK e) ?_;rewrite[H.mem]
  constructor
  ·intro Hi;obtain⟨n,z,h1,h2,h3,h4⟩:=Hi;exact⟨n,z,by exact aA (.a D qW) (.a Y qW) 1 1 (.a D qW) Y (c2 _ _) h1 rfl,h2,h3,h4⟩
  ·intro Ia
   obtain⟨n,z,h1,h2,h3,h4⟩:=Ia
   by_cases q:n=k
   ·subst q;exact Ba h3.symm e
   ·exact⟨n,z,by exact aA (.a D qW) Y 1 1 (.a D qW) Y (c2 _ _) (DF (aA D Y 1 1 (.a D qW) (.a Y qW) (c2 _ _) h1 rfl) q) rfl,h2,h3,h4⟩
theorem B3.hit(H:B3 U τ d ns F k l Lk ad)(hx:ns[k]? =some x)(hc:∃n,n<k/\F n=F k)(hn:NL.Nodup)(hm:∀y,y∈NL↔y∈Lk (F k)\/y=canon F x)(hl:NL.length<=k+1):
  B3 U (τ.set (ad (F k)) (.list (NL.map nV))) d ns F (k+1) l (fun c=>if c=F k then NL else Lk c) ad where
 dd:=by exact J (u.Ad _ _ (fun e=>(H.ht _ hc).2.2.2 e.symm)) H.dd
 keys:=H.keys
 len:=Ft H.len
 ht c HC:=by
  have RO:∃n,n<k/\F n=c:=by
   refine An HC fun n h1 h2=>?_;clear HC
   by_cases q:n=k
   ·subst q;exact Rv h2 hc
   ·exact⟨n,by exact aA (.a D qW) Y 1 1 (.a D qW) Y (c2 _ _) (DF (aA D Y 1 1 (.a D qW) (.a Y qW) (c2 _ _) h1 rfl) q) rfl,h2⟩
  refine MK (H.ht c RO) fun a1 a2 a3 a4=>⟨a1,?_,a3,a4⟩
  by_cases e:c=F k
  ·exact J e (J (AS rfl) (u.set_same _ _ _))
  ·exact J (AK e) (J (u.Ad _ _ (H.inj c (F k) RO hc e)) a2)
 no c HC:=by have RO:¬∃n,n<k/\F n=c:=fun Qm=>An Qm fun n h1 h2=>HC ⟨n,by exact aA (.a D qW) (.a Y qW) 1 1 (.a D qW) Y (c2 _ _) h1 rfl,h2⟩;have e:c≠F k:=fun e=>HC ⟨k,by exact Bf _,e.symm⟩;exact J (AK e) (H.no c RO)
 inj c e h1 h2 Cc:=by
  have red:∀c,(∃n,n<k+1/\F n=c)->∃n,n<k/\F n=c:=fun c Qn=>An Qn fun n a b=>by
   by_cases q:n=k
   ·subst q;exact Rv b hc
   ·exact⟨n,by exact aA (.a D qW) Y 1 1 (.a D qW) Y (c2 _ _) (DF (aA D Y 1 1 (.a D qW) (.a Y qW) (c2 _ _) a rfl) q) rfl,b⟩
  exact H.inj c e (red c h1) (red e h2) Cc
 nd c:=by
  by_cases e:c=F k
  ·simp only[if_pos e];exact hn
  ·simp only[if_neg e];exact H.nd c
 mem:=H.Ql hx hm
 small c:=by
  by_cases e:c=F k
  ·exact J (AS e) hl
  ·exact J (AK e) (Ft (H.small c))
theorem B3.miss(H:B3 U τ d ns F k l Lk ad)(hx:ns[k]? =some x)(hc:¬∃n,n<k/\F n=F k)(ha:τ a=none)(Na:U a=none)(hn:NL.Nodup)(hm:∀y,y∈NL↔y∈Lk (F k)\/y=canon F x)(hl:NL.length<=k+1):
  B3 U ((τ.set d (.dict (dput l (iV (F k)) (.ex (.ref a))))).set a (.list (NL.map nV))) d ns F (k+1) (dput l (iV (F k)) (.ex (.ref a))) (fun c=>if c=F k then NL else Lk c) (fun c=>if c=F k then a else ad c):=by
 have Nb:a≠d:=fun e=>by have ha:=e▸ha;have ha:=H.dd▸ha;injection ha
 have red:∀c,c≠F k->(∃n,n<k+1/\F n=c)->∃n,n<k/\F n=c:=fun c e Qo=>An Qo fun n a b=>by
  by_cases q:n=k
  ·subst q;exact Ba b.symm e
  ·exact⟨n,by exact aA (.a D qW) Y 1 1 (.a D qW) Y (c2 _ _) (DF (aA D Y 1 1 (.a D qW) (.a Y qW) (c2 _ _) a rfl) q) rfl,b⟩
 have VE:∀c,(∃n,n<k/\F n=c)->ad c≠a:=fun c HC e=>by have:=(H.ht c HC).2.1;have this:=e▸this;have this:=ha▸this;injection this
 refine⟨?_,bB (P:=fun x=>∃j,x=V.int j) ⟨_,rfl⟩ H.keys,AG aY (JF H.len),fun c HC=>?_,fun c HC=>?_,fun c e h1 h2 Cc=>?_,fun c=>?_,H.Ql hx hm,fun c=>?_⟩
 ·refine J (u.Ad _ _ (Ne.symm Nb)) (J (u.set_same _ _ _) ?_);rfl
 ·refine J ay ?_
  by_cases e:c=F k
  ·refine J e ?_
   simp only[if_true];exact⟨by trivial,u.set_same _ _ _,Na,Nb⟩
  ·refine MK (H.ht c (red c e HC)) fun a1 a2 a3 a4=>?_
   simp only[if_neg e,if_neg (show ¬iV c=iV (F k)from fun h=>e (av h))];exact⟨a1,by refine J (u.Ad _ _ (VE c (red c e HC))) ?_;refine J (u.Ad _ _ a4) ?_;exact a2,a3,a4⟩
 ·have e:c≠F k:=fun e=>HC ⟨k,by exact Bf _,e.symm⟩
  refine J ay (J (AK (fun h=>e (av h))) ?_);exact J (AK e) (H.no c fun Qp=>An Qp fun n h1 h2=>HC ⟨n,by exact aA (.a D qW) (.a Y qW) 1 1 (.a D qW) Y (c2 _ _) h1 rfl,h2⟩)
 ·by_cases e1:c=F k
  ·have e2:e≠F k:=fun h=>Cc (e1.trans h.symm)
   refine J (AS e1) (J (AK e2) ?_);exact(VE e (red e e2 h2)).symm
  ·by_cases e2:e=F k
   ·exact J (AK e1) (J (AS e2) (VE c (red c e1 h1)))
   ·exact J (AK e1) (J (AK e2) (H.inj c e (red c e1 h1) (red e e2 h2) Cc))
 ·by_cases e:c=F k
  ·simp only[if_pos e];exact hn
  ·simp only[if_neg e];exact H.nd c
 ·by_cases e:c=F k
  ·exact J (AS e) hl
  ·exact J (AK e) (Ft (H.small c))
end
inductive Qq(U:u)(ns:List Node)(h:List Nat)(d:Addr)(k:Nat)(nd:Node)(LL:List Node)(Lk:Nat->List Node):V->u->Prop
 |mk (v:Addr) (l:List (V×V)) (ad:Nat->Addr) (τ:u) (le:U.le τ) (dd:τ d=some (.dict l)) (keys:∀p∈l,∃j,p.1=.int j) (hv:Az l (iV (up h k))=some (.ex (.ref v))) (vv:τ v=some (.list (LL.map nV))) (vz:U v=none)
  (next:∀NL:List Node,NL.Nodup->(∀y,y∈NL↔y∈LL\/y=canon (up h) nd)->NL.length<=k+1->B3 U (τ.set v (.list (NL.map nV))) d ns (up h) (k+1) l (fun c=>if c=up h k then NL else Lk c) ad):Qq U ns h d k nd LL Lk (.ex (.ref v)) τ
inductive VF(U:u)(ns:List Node)(ci d:Addr)(pv ask:V)(h:List Nat)(k:Nat):Pv->u->Prop
 |mk (l:List (V×V)) (Lk:Nat->List Node) (ad:Nat->Addr) (u6 u7 u8 u9:Option V) (τ:u) (le:U.le τ) (H:B3 U τ d ns (up h) k l Lk ad):VF U ns ci d pv ask h k ⟨[some (.ex (.ref ci)),some (.lst (ns.map nV)),some pv,some ask,some (.lst (AW h)),some (.ex (.ref d)),u6,u7,u8,u9],[]⟩ τ
inductive zL(X:XM)(U:u)(S:HS)(qZ:LS)(AI:Di)(ci cd kd:Addr)(kn:List (V×V))(d:Addr)(pv ask:V)(h:List Nat)(u6:Option V)(z:Nat):Pv->u->Prop
 |mk (CE:Addr) (B8:List (V×V)) (mk':V) (u7 u8 u9:Option V) (τ:u) (C:CA X τ S qZ AI ci cd CE mk' B8) (M:Mem S qZ AI mk' B8) (hl:B8.length<=kn.length+z) (a:CE=kd\/U CE=none) (σ:GX cd kd U τ) (fin:0<z->mk'=markV S qZ AI/\dI (Dh S.nodes (AI.f S qZ)) B8):
  zL X U S qZ AI ci cd kd kn d pv ask h u6 z ⟨[some (.ex (.ref ci)),some (.lst (S.nodes.map nV)),some pv,some ask,some (.lst (AW h)),some (.ex (.ref d)),u6,u7,u8,u9],[]⟩ τ
section
variable{c:Cx}{A:Around}{G:Gx c A}{K:List V->Pv->u->Prop}{st:List V}{p p':Pv}{U Ac:u}{k:Code}{x y:V}{d:Addr}{l:List (V×V)}
theorem rU(Aa:Up d (.dict l) (.dict (dput l x y)) p U p Ac)(ks:KS l x)(hl:l.length<=1000)(F:V->u->Prop)(q1:∀z,Az l x=some z->F z U)(q0:Az l x=none->F y Ac)(q:∀z U,F z U->Wr G k K (z::st) p U):WW G (.op (.call 3) k) K (y::x::.ex (.ref d)::.ex (.builtin "dict.setdefault")::st) p U:=
 eR Aa ks hl (fun z h=>q _ _ (q1 z h)) fun h=>q _ _ (q0 h)
theorem yZ(h:Rd p U d (.dict l))(ks:KS l x)(e:Az l x=some v)(q:Wr G k K (v::st) p U):WW G (.op (.call 3) k) K (y::x::.ex (.ref d)::.ex (.builtin "dict.get")::st) p U:=gX (v:=v) h rfl (fun h q=>tj G.ok h ks (DV G) (by exact J e q)) q
theorem xY{a:Addr}{L:List Node}{n:Node}(h:Rd p U a (.list (L.map nV)))(q:Wr G k K (.ex (.bool (decide (n∈L)))::st) p U):WW G (.op (.cmp .In) k) K (.ex (.ref a)::nV n::st) p U:=
 ko (v:=.ex (.bool (decide (n∈L)))) h (fun h q=>wX h (d8 _) (fun y hy=>by refine An (BF.mp hy) fun n Z CL=>?_;subst CL;exact d8 n) (fun y hy=>by refine An (BF.mp hy) fun n Z CJ=>?_;subst CJ;exact cG.sm _ _ ⟨n,rfl⟩ ⟨_,rfl⟩) (DV G) (by rw[decide_eq_decide.mpr iI];exact q)) q
end
section
variable{X:XM}{S:HS}{E F:Nat}{R R₀:List (Nat×Nat)}
theorem M9.next(C:CA X τ S qZ AI ci cd CE mk' B8)(a:CE=kd\/Kh CE=none)(σ:GX cd kd Kh τ)(h:M9 X τ S qZ AI ci cd CE B8 z Nc Ll Bw):(Nc=kd\/Kh Nc=none)/\GX cd kd Kh Bw:=by
 refine Js h fun Z Z Z h4 h5=>?_;clear h;refine⟨?_,fun x o h1 h2 e=>h5 x o h1 (a.elim (fun q=>q▸h2) (aE e)) (σ x o h1 h2 e)⟩
 rcases h4 with rfl|h4
 ·exact a
 ·by_cases e:Nc=kd
  ·exact .inl e
  ·refine .inr ?_
   cases q:Kh Nc with
   |none=>rfl
   |some o=>exact Ba (σ _ _ (fun e=>by have h4:=e▸h4;have h4:=C.d▸h4;injection h4) e q) (by exact J h4 nofun)
theorem hY(O:(cz ω).Ok)(f:HA S qZ AI R E F R₀)(hA:A7 16 A)(DW:S.nodes.Nodup)(C:CA X U S qZ AI ci cd kd mk kn)(M:Mem S qZ AI mk kn)(hz:kn.length+126<=900)(P:Apart X S AI cd kd)
  {pv:V} (Vt:LV pv (R.map pV) U) (hR:∀p∈R,p.1<S.nodes.length/\p.2<S.nodes.length) {n1 n2:Nat} (Ru:n1<S.nodes.length) (Tz:n2<S.nodes.length)
  (q:∀CE B8 Ac,M9 X U S qZ AI ci cd kd kn 126 CE B8 Ac->Q (.ex (.bool true)) Ac):
  aR (cz ω) A (.ref 764) [.ex (.ref ci),.lst (S.nodes.map nV),pv,.tup [iV n1,iV n2]] Q U:=by
 have nz:=f.B.nz;have pn:=f.I.pn;have hk:∀(n:Nat) (x:Node),S.nodes[n]? =some x->x.2.length<=2/\∀k∈x.2,k<n:=fun n x h=>⟨(f.B.nd n x h).1,(f.B.nd n x h).2.1⟩
 refine(dU _).go O hA rfl fun hA G hG Vu=>aD rfl (uP O (hA.lb rfl) nz DW hk hR (AG f.z (by decide)) Vt fun h τ hl hC PS=>?_);have hF:up h=AI.f S qZ:=hC.uniq f.C;have Qr:∀n,up h n<=n:=hC.pt.le;have h9:(AW h).length<=1000:=AG (AA (aS.trans hl)) (AG nz (by decide));have CV:∀a,a<S.nodes.length->(AW h)[a]? =some (iV (up h a)):=fun a ha=>gK (J hl ha);refine du fun d0 Zs=>?_;have RP:U d0=none:=u.le_none PS Zs;refine t5 (VF U S.nodes ci d0 pv _ h) (.mk [] (fun Z=>[]) (fun Z=>d0) none none none none _ (u.B9 PS RP) (.start (u.set_same _ _ _))) (fun k x p Bw hx j=>?_) fun p Bw j=>?_
 ·refine An (kP hx) fun xv Mt C7=>J C7 ?_
  have Mt:=(Cs)▸Mt;refine An (El.mp Mt) fun nd ES DM=>Rv DM ?_;refine A5 (hk k nd ES) fun z1 z2=>?_;have FA:=bK ES
  induction j with
  |mk l Lk ad u6 u7 u8 u9 Bw Ln hK=>
  have Mw:=hK.small (up h k);refine df (bX (ak z1 (by decide)) (fT (up h) (AG z1 (by decide)) (fun G' ex j kk e GU=>?_) ?_))
  ·exact bQ (CV kk (EL (z2 kk (BW GU)) FA)) h9 (aJ (Mc GU))
  refine fS (o:=nd.1) (bF z1 (by decide)) (dS (.AN hK.dd) (bQ (CV k FA) h9 (cg rfl fun a ha=>?_)));have Na:U a=none:=u.le_none Ln ha;have Nb:=aE hK.dd ha;have RQ:∀o,B3 U (Bw.set a o) d0 S.nodes (up h) k l Lk ad:=fun o=>hK.move (fun b o h1 h2=>aB (aE h2 ha) h2) RP;refine rU (.AN (RQ _).dd) (.int _ hK.keys) (AG hK.len (AG (Dt FA) (AG nz (by decide)))) (Qq U S.nodes h d0 k nd (Lk (up h k)) Lk) (fun z hz=>?_) (fun hz=>?_) fun z Lo j=>?_
  ·by_cases hc:∃n,n<k/\up h n=up h k
   ·refine MK ((RQ (.list [])).ht _ hc) fun a1 a2 a3 a4=>?_
    have hz:=a1▸hz;obtain rfl:=BC hz;exact .mk _ l ad _ (u.B9 Ln Na) (RQ _).dd hK.keys a1 a2 a3 fun NL g1 g2 g3=>(RQ _).hit ES hc g1 g2 g3
   ·have hz:=((hK.no _ hc).1)▸hz;injection hz
  ·have hc:¬∃n,n<k/\up h n=up h k:=fun hc=>by have hz:=((hK.ht _ hc).1)▸hz;injection hz
   have Qs:∀o',((Bw.set a (.list [])).set d0 (.dict (dput l (iV (up h k)) (.ex (.ref a))))).set a o'=(Bw.set d0 (.dict (dput l (iV (up h k)) (.ex (.ref a))))).set a o':=fun o'=>by refine J (u.set_comm (a:=d0) (b:=a) Nb) ?_;rewrite[u.set_set];exact J (u.set_comm Nb.symm) rfl
   refine .mk a _ (fun c=>if c=up h k then a else ad c) _ (u.B9 (u.B9 Ln Na) RP) (u.set_same _ _ _) (bB (P:=fun x=>∃j,x=V.int j) ⟨_,rfl⟩ hK.keys) (by exact J ay (J (AS rfl) rfl)) ?_ Na fun NL g1 g2 g3=>?_
   ·exact J ((hK.no _ hc).2) (aB Nb.symm (u.set_same _ _ _))
   ·exact J (Qs _) (hK.miss ES hc ha Na g1 g2 g3)
  ·induction j with
   |mk v l3 Zt Lo Zu WX Qt hv vv vz next=>
   refine er (.AN vv) (xS (.AN WX) (bQ (CV k FA) h9 (dE rfl (yZ (.AN WX) (.int _ Qt) hv (xY (n:=canon (up h) nd) (.AN vv) ?_)))));have fin:∀NL:List Node,NL.Nodup->(∀y,y∈NL↔y∈Lk (up h k)\/y=canon (up h) nd)->NL.length<=k+1->VF U S.nodes ci d0 pv (.tup [iV n1,iV n2]) h (k+1) ⟨[some (.ex (.ref ci)),some (.lst (S.nodes.map nV)),some pv,some (.tup [iV n1,iV n2]),some (.lst (AW h)),some (.ex (.ref d0)),some (iV k),some (nV nd),some (nV (canon (up h) nd)),u9],[]⟩ (Lo.set v (.list (NL.map nV))):=fun NL g1 g2 g3=> .mk l3 _ Zt _ _ _ _ _ (u.B9 Zu vz) (next NL g1 g2 g3);have WY:=hK.nd (up h k);have W2:((Lk (up h k)).map nV).length<=20:=AG (AA (Bl _)) (AG Mw (AG (Dt FA) nz));refine eE (fun e=>dE rfl (aF (s8 (.AN vv) (AG W2 (by decide)) (aJ ⟨Al,?_⟩)))) fun e=>dE rfl (aF (s8 (.AN vv) (AG (HZ W2 1) (by decide)) (aJ ⟨Al,?_⟩)))
   ·have Gn:=Fc e
    exact J (HL _) (fin _ WY (fun y=>⟨.inl,fun h=>h.elim id fun e=>e▸Gn⟩) (Ft Mw))
   ·have Gn:=of_decide_eq_false e
    have j2:=fin (Lk (up h k)++[canon (up h) nd]) (Ko.mpr ⟨WY,CQ.mpr ⟨JN,FG⟩,fun a ha b hb e=>Gn (Eb.mp hb▸e▸ha)⟩) (fun y=>DA.trans (or_congr Iff.rfl Eb)) (by exact J CY (JF Mw))
    rwa [DT]at j2
 ·rw[dg,Bl]at j
  generalize Zv:S.nodes.length=z at j
  induction j with
  |mk l Lk ad u6 u7 u8 u9 Bw Ln hK=>
  subst Zv;have BM:∀c,(Lk c).Perm (Dh S.nodes (AI.f S qZ) c):=fun c=>by refine Rv hF (nO (hK.nd c) fun y=>?_);rw[hK.mem];exact⟨fun Qu=>DC Qu fun n x Z h2 h3 h4=>⟨n,x,h2,h3,h4⟩,fun Qv=>Bc Qv fun n x h2 h3 h4=>⟨n,x,bK h2,h2,h3,h4⟩⟩
  have W3:∀n,n<S.nodes.length->Lk (up h n)≠[]:=fun n hn e=>by have:canon (up h) S.nodes[n]∈Lk (up h n):=(hK.mem _ _).mpr ⟨n,_,hn,Cr hn,rfl,rfl⟩;have this:=e▸this;cases this
  have Qw:∀c,∀nd∈Lk c,nd.2.length<=2/\∀k∈nd.2,k<S.nodes.length/\Lk k≠[]:=fun c nd hm=>by
   refine DC ((hK.mem c nd).mp hm) fun n x h1 h2 h3 Qx=>J Qx ?_;refine A5 (hk n x h2) fun z1 z2=>⟨(Bl _).symm▸z1,fun k Ck=>?_⟩
   refine An (BF.mp Ck) fun i hi DI=>Rv DI ?_;have Gn:=EL (z2 i hi) h1;exact⟨Dj (Qr i) Gn,W3 i Gn⟩
  have Zw:∀c,c<S.nodes.length->(Lk c).length<=4:=fun c Z=>by exact J ((BM c).length_eq) (f.EI c)
  have C2:CA X Bw S qZ AI ci cd kd mk kn:=C.upd (fun a o Z e=>Ln a o e) (Ln _ _ C.k) P.k P.lk;have Qy:∀τ,GX cd kd Bw τ->Qh τ d0 S.nodes.length Lk:=fun τ σ=>by
   have ne:∀b o,Bw b=some o->U b=none->τ b=some o:=fun b o e z=>σ b o (aE C.d z).symm (aE C.k z).symm e;refine⟨l,ne _ _ hK.dd RP,hK.keys,fun c hc Cc=>?_⟩;have hx:∃n,n<S.nodes.length/\up h n=c:=by
    cases hL:Lk c with
    |nil=>exact Ba hL Cc
    |cons y ys=>refine DC ((hK.mem c y).mp (by rw[hL];exact .head _)) fun n x h1 h2 h3 h4=>?_;exact⟨n,h1,h3⟩
   exact MK (hK.ht c hx) fun b1 b2 b3 b4=>⟨ad c,b1,ne _ _ b2 b3⟩
  refine cS .tup (fun i p τ=>∃u6,zL X Bw S qZ AI ci cd kd kn d0 pv (.tup [iV n1,iV n2]) h u6 (63*i) p τ) ⟨u6,.mk kd kn mk u7 u8 u9 _ C2 M (Bf _) (.inl rfl) (fun Z Z Z Z e=>e) (fun h=>Ba h (Gk _))⟩ (fun i x p τ hx j=>?_) fun p τ j=>?_
  ·refine An (VD Ru Tz hx) fun n EZ ex=>J ex ?_
   have Wv:i<2:=bK hx;refine Ax j ?_;clear j;intro u6 j
   induction j with
   |mk CE B8 mk' u7 u8 u9 τ C' M' BO a' U' Jj=>
   refine cS .tup (fun b=>zL X Bw S qZ AI ci cd kd kn d0 pv (.tup [iV n1,iV n2]) h (some (iV n)) (63*i+21*b)) (.mk CE B8 mk' u7 u8 u9 _ C' M' BO a' U' Jj) (fun b x p τ hx j=>?_) fun p τ j=>aJ ⟨Al,_,j⟩;refine B4 (xo hx) fun s Jx Mu ex=>J ex ?_;have hb:b<3:=bK hx;clear C' M' BO a' U' Jj
   induction j with
   |mk CE B8 mk' u7 u8 u9 τ C' M' BO a' U' Jj=>
   refine aI C'.o rfl (aD rfl (wL O f (hA.lb rfl) C' M' (by exact t4 (.a D (.n 21)) qT 1 1 D (.a Y (.a (.m 63 qY) (.m 21 qX))) 1 (.a Y (.n 126)) qT 63 (.a qY qW) qU 21 (.a qX qW) qS (c4 _ _ _ _) BO hz Wv hb rfl) (P.next C2 a') Mu (J pn EZ) fun Nc Ll Lo h3=>?_));refine A5 (M9.next C' a' U' h3) fun a3 U3=>Js h3 fun C3 K3 l3 Z Z=>?_;clear h3;refine bQ (CV n EZ) h9 (aD rfl (Zq O (Qy _ U3) Zw (fun c nd Z hm=>Qw c nd hm) s Jx Mu (hA.le (aA (.a qU D) (.n 15) 1 1 D qS (c1 _) Mu rfl)) (Dj (Qr n) EZ) (W3 n EZ) ?_));refine J (yv BM (fun c nd hm=>(Qw c nd hm).1) Jx Mu) (J hF ?_);exact ao (bne_self_eq_false _) (aF (aJ ⟨Al,.mk Nc Ll _ _ _ _ _ C3 (.inr ⟨_,_,_,rfl,.inr ⟨rfl,rfl,rfl,K3⟩⟩) (by exact aH D (.a Y (.a (.m 63 qY) (.m 21 (.a qX qW)))) 1 1 (.v 4) (.a Y (.a (.m 63 qY) (.m 21 qX))) 1 D (.a (.v 4) (.n 21)) (c5 _ _ _ _ _) BO l3 rfl) a3 U3 fun Z=>⟨rfl,K3⟩⟩))
  ·refine Ax j ?_;clear j;intro u6 j
   induction j with
   |mk CE B8 mk' u7 u8 u9 τ C' M' BO a' U' Jj=>
   refine A5 (Jj (GZ (by decide:0<126) (Bf _))) fun Qz K=>?_;subst Qz;exact aQ (Vu _ _ _ (q CE B8 _ ⟨C',K,BO,a'.imp id (u.le_none Ln),fun x o h1 h2 e=>U' x o h1 h2 (Ln x o e)⟩))
end
end
def Bv(U:u)(hd:Addr):Prop:=∃(cells:List Int) (ET stir:Int),U hd=some (.dict [(.str (Ai "cells"),.lst (cells.map .int)),(.str (Ai "spot"),.int ET),(.str (Ai "stir"),.int stir)])/\cells.length<=64/\0<=ET/\0<=stir/\stir<1021
theorem bE{Aa v x:V}:∀p∈[(V.str (Ai "cells"),Aa),(V.str (Ai "spot"),v),(V.str (Ai "stir"),x)],∃j,p.1=V.str j:=fun p hp=>by
 simp only[List.mem_cons,List.not_mem_nil,or_false]at hp
 rcases hp with rfl|rfl|rfl<;>exact⟨_,rfl⟩
theorem sU:(Ai "cells")≠(Ai "spot"):=by decide+kernel
theorem tG:(Ai "cells")≠(Ai "stir"):=by decide+kernel
theorem uF:(Ai "spot")≠(Ai "stir"):=by decide+kernel
theorem cH(h:V.str a=V.str b):a=b:=by injection h
theorem tm:Az [(V.str (Str.ofString "cells"),Aa),(V.str (Str.ofString "spot"),v),(V.str (Str.ofString "stir"),x)] (V.str (Str.ofString "cells"))=some Aa:=by simp[Az]
theorem pR:Az [(V.str (Ai "cells"),Aa),(V.str (Ai "spot"),v),(V.str (Ai "stir"),x)] (V.str (Ai "spot"))=some v:=by unfold Az;exact J (List.find?_cons_of_neg (by simpa using fun h=>sU h)) (J (List.find?_cons_of_pos (by simp)) rfl)
theorem uC:Az [(V.str (Ai "cells"),Aa),(V.str (Ai "spot"),v),(V.str (Ai "stir"),x)] (V.str (Ai "stir"))=some x:=by unfold Az;exact J (List.find?_cons_of_neg (by simpa using fun h=>tG h)) (J (List.find?_cons_of_neg (by simpa using fun h=>uF h)) (J (List.find?_cons_of_pos (by simp)) rfl))
theorem vC:dput [(V.str (Ai "cells"),Aa),(V.str (Ai "spot"),v),(V.str (Ai "stir"),x)] (V.str (Ai "spot")) y=[(V.str (Ai "cells"),Aa),(V.str (Ai "spot"),y),(V.str (Ai "stir"),x)]:=by unfold dput;refine J (if_neg (fun h=>sU (cH h))) ?_;unfold dput;exact J (if_pos rfl) rfl
theorem vk:dput [(V.str (Ai "cells"),Aa),(V.str (Ai "spot"),v),(V.str (Ai "stir"),x)] (V.str (Ai "stir")) y=[(V.str (Ai "cells"),Aa),(V.str (Ai "spot"),v),(V.str (Ai "stir"),y)]:=by unfold dput;refine J (if_neg (fun h=>tG (cH h))) ?_;unfold dput;refine J (if_neg (fun h=>uF (cH h))) ?_;unfold dput;exact J (if_pos rfl) rfl
theorem tb{a:Int}{m:Nat}(h:0<m):∃k:Nat,k<m/\a.fmod (m:Int)=(k:Nat):=by have h1:=Int.fmod_nonneg_of_pos a (b:=(m:Int)) (FJ.mpr (aA (.a qV qW) D 1 1 (.a qV qW) D (c1 _) h rfl));have h2:=Int.fmod_lt_of_pos a (b:=(m:Int)) (FJ.mpr (aA (.a qV qW) D 1 1 (.a qV qW) D (c1 _) h rfl));exact⟨(a.fmod m).toNat,(Int.toNat_lt h1).mpr h2,(Int.toNat_of_nonneg h1).symm⟩
theorem gZ{a:Int}{m:Nat}(h:0<m):∃k:Nat,k<m/\V.int (a.fmod (m:Int))=iV k:=let⟨k,a,b⟩:=tb h;⟨k,a,AL V.int b⟩
section
theorem bg(O:(cz ω).Ok)(hA:A7 1 A)(H:Bv U hd){many:Nat}(hm:0<many)
  (q:∀k Ac,k<many->Bv Ac hd->Upd hd U Ac->Q (iV k) Ac):aR (cz ω) A (.ref 742) [.ex (.ref hd),iV many] Q U:=by
 refine Kw H fun cells ET stir h1 h2 h3 h4 h5=>?_;clear H;have cl:(cells.map V.int).length<=1000:=AG (AA (Bl _)) (AG h2 (by decide));refine(ny _).go O hA rfl fun hA G hG hR=>aN (.AN h1) (.str _ bE) pR (ah (.AN h1) (.str _ bE) (Dr rfl) ?_);refine J vC ?_;have g1:=u.set_same U hd (.dict [(.str (Ai "cells"),.lst (cells.map .int)),(.str (Ai "spot"),.int (ET+1)),(.str (Ai "stir"),.int stir)]);refine aN (.AN g1) (.str _ bE) pR (aN (.AN g1) (.str _ bE) tm (cA cl (eE (fun e=>?_) fun e=>aF ?_)))
 ·have e:=Fc e
  rw[Bl]at e;refine aN (.AN g1) (.str _ bE) tm (aN (.AN g1) (.str _ bE) pR ?_);have BZ:(ET+1-1).toNat<cells.length:=by lia
  refine jy (x:=.int (cells[(ET+1-1).toNat])) (by lia) (by exact J (Cs) (J (Cr BZ) rfl)) (by lia) (cI (fun q=>l7 (by lia) q) ?_);exact An (gZ (a:=cells[(ET+1-1).toNat]) hm) fun k hk EJ=>J EJ (aQ (hR _ _ _ (q k _ hk ⟨cells,ET+1,stir,g1,h2,by lia,h4,h5⟩ .set)))
 ·refine aN (.AN g1) (.str _ bE) uC (cI (fun q=>sG q (IntMulOk.of_right (by decide))) (cI (fun q=>l7 (by lia) q) ?_))
  refine An (gZ (a:=stir*29+13) (m:=1021) (by decide)) fun s' J8 Vr=>J (show V.int ((stir*29+13).fmod 1021)=iV s' from Vr) (ah (.AN g1) (.str _ bE) (Dr rfl) (J vk ?_));rewrite[u.set_set];have g2:=u.set_same U hd (.dict [(.str (Ai "cells"),.lst (cells.map .int)),(.str (Ai "spot"),.int (ET+1)),(.str (Ai "stir"),iV s')]);refine aN (.AN g2) (.str _ bE) uC (cI (fun q=>pP (by lia) rfl q) (cI (fun q=>l7 (by lia) q) ?_));exact An (gZ (a:=((s':Nat):Int).fdiv 3) hm) fun k hk EJ=>J EJ (aQ (hR _ _ _ (q k _ hk ⟨cells,ET+1,s',g2,h2,by lia,by exact Gv.mpr (bP qV D 1 (c1 _) rfl),by exact FJ.mpr (aA (.a D qW) (.n 1021) 1 1 (.a D qW) (.n 1021) (c1 _) J8 rfl)⟩ .set)))
end
section
theorem Af.upd{X:XM}{S:HS}(H:Af X U S)(ap:∀m,S.has m->X m≠hd)(T:Upd hd U Ac):Af X Ac S:=H.move (fun Z Z=>rfl) fun m o hm e=>T _ _ (ap m hm) e
inductive W4(U:u)(hd:Addr)(N j:Nat):List V->u->Prop
 |mk (ks:List Nat) (τ:u) (hl:ks.length=j) (hk:∀k∈ks,k<N) (hh:Bv τ hd) (σ:Upd hd U τ):W4 U hd N j (AW ks) τ
section
variable{c:Cx}{A:Around}{G:Gx c A}{K:List V->Pv->u->Prop}{st:List V}{p:Pv}{U:u}{k:Code}
theorem vZ{b:Bool}{Aa v x:V}(e:(if b then Aa else v)=x)(q:Wr G k K (x::st) p U):WW G (.br (.op (.val Aa) .done) (.op (.val v) .done) k) K (.ex (.bool b)::st) p U:=by
 subst e
 cases b with
 |true=>exact bl rfl (aF q)
 |false=>exact ao rfl (aF q)
theorem sr{L:List Node}{n:Node}(q:Wr G k K (.ex (.bool (decide (n∈L)))::st) p U):WW G (.op (.cmp .In) k) K (.lst (L.map nV)::nV n::st) p U:=
 iN (v:=.ex (.bool (decide (n∈L)))) (fun q=>uA (d8 _) (fun y hy=>by refine An (BF.mp hy) fun n Z Bg=>?_;subst Bg;exact d8 n) (fun y hy=>by refine An (BF.mp hy) fun n Z BX=>?_;subst BX;exact cG.sm _ _ ⟨n,rfl⟩ ⟨_,rfl⟩) (DV G) (by rw[decide_eq_decide.mpr iI];exact q)) q
end
theorem Bv.keep(h:Bv U hd)(k:∀o,U hd=some o->Ac hd=some o):Bv Ac hd:=let⟨c,s,t,e,r⟩:=h;⟨c,s,t,k _ e,r⟩
section
variable{X:XM}{S:HS}{E F:Nat}{R:List (Nat×Nat)}
theorem eP(O:(cz ω).Ok)(hX:Inj X)(hA:A7 8 A)(H:Af X U S)(I:HI E F R (fun Z=>False) S)(hW:S.waiting=[])(hE:E<=350)(hF:F<=350)(hz:S.nodes.length<10)(Vl:0<S.nodes.length){hd:Addr}(hh:Bv U hd)(ap:∀m,S.has m->X m≠hd)
  (q:∀Jg S' X' Ac,Upd hd U Jg->Bv Jg hd->HI (E+22) (F+1) R (fun Z=>False) S'->S'.waiting=[]->(S'.nodes=S.nodes\/∃nd,S'.nodes=S.nodes++[nd]/\nd∉S.nodes)->Inj X'->Af X' Ac S'->Bv Ac hd->(∀m,S'.has m->X' m≠hd)->Bi X S Jg X' S' Ac->Q (.lst (S'.nodes.map nV)) Ac):
  aR (cz ω) A (.ref 769) [.ex (.ref hd),.ex (.ref (X .hi)),.lst (S.nodes.map nV)] Q U:=by
 refine(gA _).go O hA rfl fun hA G hG hR=>?_;have nl:(S.nodes.map nV).length=S.nodes.length:=Bl _;refine aD rfl (bg O (hA.lb rfl) hh (many:=2) (by decide) fun k1 Jg Ke GY T1=>?_);obtain⟨op,ar,RS,ok,Zx,hx⟩:∃(op:Str) (ar:Nat),ar<=2/\DP op/\(if decide (op=Ai "f")then V.int 1 else V.int 2)=iV ar/\[V.str (Ai "f"),V.str (Ai "g")][k1]? =some (.str op):=by
  rcases CF Ke with rfl|rfl
  ·exact⟨Ai "f",1,by decide,zG,by exact J (DU rfl) rfl,rfl⟩
  ·exact⟨Ai "g",2,by decide,yd,by exact J (Df (by decide+kernel)) rfl,rfl⟩
 refine dq hx (by decide+kernel) (vZ Zx (v7 (Gv.mpr (aA D (.n 1000) 1 1 D qU (c1 _) RS rfl)) (Ra (by decide) (Jq _)) (W4 U hd S.nodes.length) (.mk [] _ rfl nofun GY T1) (fun G' ex j x ys τ e hx j=>?_) fun ys τ j=>?_))
 ·induction j with
  |mk ks τ hl hk hh σ=>
  refine cA (aH D (.n 1000) 1 1 D Y 1 (.a Y qW) qR (c2 _ _) (AA nl) hz rfl) (aD rfl (bg O (hA.lb rfl) hh (many:=(S.nodes.map nV).length) (aH (.a qV qW) D 1 1 Y D 1 (.a qV qW) Y (c2 _ _) (AA nl.symm) Vl rfl) fun k2 Lo EJ Zy T3=>aJ ⟨_,rfl,rfl,Al,?_⟩));refine J (show AW ks++[iV k2]=AW (ks++[k2])from(an ks [k2]).symm) (.mk _ _ ((CY ..).trans (AL (· +1) hl)) (fun k Ck=>?_) Zy (σ.trans T3))
  rcases DA.mp Ck with h|h
  ·exact hk k h
  ·exact J (Eb.mp h) (nl▸EJ)
 rw[a7,JP]at j
 induction j with
 |mk ks τ hl hk HD σ=>
 have H3:=H.upd ap σ;refine fS (o:=op) (aH D qT 1 1 D Y 1 Y qU (c2 _ _) (AA hl) RS rfl) (aI H3.o rfl (bX (ak (hl▸RS) (by decide)) (aD rfl (mr O hX (hA.lb rfl) H3 I hW hE hF (nd:=(op,ks)) ok hk (hl▸RS) hz (fun k hk Nd H4 T4=>?_) fun QA S' X' Nd I4 W5 Zz VG H4 T4=>?_))))
 ·exact sr (n:=(op,ks)) (bl (DU (BW hk)) (aF (aQ (hR _ _ _ (q τ S X Nd σ HD (I.up (Ea _ _) (Ea _ _)) hW (.inl rfl) hX H4 (HD.keep fun o e=>(T4.keep e ap).1) ap T4)))))
 ·refine sr (n:=(op,ks)) (ao (Df QA) (dE rfl (cI (fun q=>fZ (by exact J nl (AG (HZ (Dt hz) 1) (by decide))) q) (aF (aQ (hR _ _ _ ?_))))))
  have:=q τ S' X' Nd σ HD I4 Zz (.inr ⟨(op,ks),W5,QA⟩) VG H4 (HD.keep fun o e=>(T4.keep e ap).1) (let⟨_,_,_,e,_⟩:=HD;(T4.keep e ap).2) T4;rw[W5,DT]at this;exact this
end
end
theorem qe:cj [] [(V.str (Ai "cells"),Aa),(V.str (Ai "spot"),v),(V.str (Ai "stir"),x)]=[(V.str (Ai "cells"),Aa),(V.str (Ai "spot"),v),(V.str (Ai "stir"),x)]:=by
 unfold cj;refine J (show dput [] (V.str (Ai "cells")) Aa=[(V.str (Ai "cells"),Aa)]from rfl) ?_;unfold cj;refine J (show dput [(V.str (Str.ofString "cells"),Aa)] (V.str (Str.ofString "spot")) v=[(V.str (Str.ofString "cells"),Aa),(V.str (Str.ofString "spot"),v)] by unfold dput;refine J (if_neg (fun h=>sU (cH h))) ?_;rfl) ?_;unfold cj;refine J (show dput [(V.str (Ai "cells"),Aa),(V.str (Ai "spot"),v)] (V.str (Ai "stir")) x=[(V.str (Ai "cells"),Aa),(V.str (Ai "spot"),v),(V.str (Ai "stir"),x)] by unfold dput;refine J (if_neg (fun h=>tG (cH h))) ?_;unfold dput;refine J (if_neg (fun h=>uF (cH h))) ?_;rfl) ?_
 rfl
theorem rZ:K4 [] [(V.str (Ai "cells"),Aa),(V.str (Ai "spot"),v),(V.str (Ai "stir"),x)]:=by
 refine⟨.str _ (fun p hp=>nomatch hp),.str _ (fun p hp=>?_),.str _ (fun p hp=>?_),Al⟩
 ·exact bB (P:=fun x=>∃j,x=V.str j) (l:=[]) ⟨_,rfl⟩ (fun p hp=>by exact nomatch hp) p hp
 ·exact bB (P:=fun x=>∃j,x=V.str j) ⟨_,rfl⟩ (bB (P:=fun x=>∃j,x=V.str j) (l:=[]) ⟨_,rfl⟩ (fun p hp=>by exact nomatch hp)) p hp
section
theorem wx(O:(cz ω).Ok)(hA:A7 1 A){Be:List Int}(hs:Be.length<=63)(q:∀hd Ac,U hd=none->U.le Ac->Bv Ac hd->Q (.ex (.ref hd)) Ac):aR (cz ω) A (.ref 747) [.lst (Be.map .int)] Q U:=by
 refine(pT _).go O hA rfl fun hA G hG hR=>yw (AG (AA (Bl _)) (AG hs (by decide))) (Rv Sy ?_);have hl:((Be.take 50).map V.int).length<=50:=AG (AA (Bl _)) (List.length_take_le _ _);refine ia .lst (((Be.take 50).map fun i=>(if i<0 then-i else i).fmod 1000003).map .int) (by exact J (Bl _) (J (Bl _) (J (Bl _) rfl))) (AG hl (by decide)) (fun G' ex j x z e hx hz=>?_) ?_
 ·rw[Cs]at hx
  refine An (El.mp hx) fun i hi Bg=>Rv Bg ?_;have DL:=hz;have DL:=(Cs)▸DL;have DL:=(Cs)▸DL;have DL:=hi▸DL;obtain rfl:=BC DL;exact a9 rfl (fun q=>tq q) (cI (fun q=>l7 (by decide) q) (aJ (km Al hz)))
 have hc:((Be.take 50).map fun i=>(if i<0 then-i else i).fmod 1000003).length<=64:=by rw[Bl]at hl ⊢;exact AG hl (by decide)
 generalize ((Be.take 50).map fun i=>(if i<0 then-i else i).fmod 1000003)=cs at*;refine du fun a ha=>a9 rfl (fun q=>il G.hh q) (cI (fun q=>l7 (by decide) q) ?_);refine An (gZ (a:=5+cs.sum) (m:=1021) (by decide)) fun k hk EJ=>J (show V.int ((5+cs.sum).fmod 1021)=iV k from EJ) (og rfl rZ (.AN (u.set_same _ _ _)) (aQ (hR _ _ _ ?_)));refine J qe ?_;rewrite[u.set_set];exact q a _ ha (u.DY _ ha) ⟨cs,0,k,u.set_same _ _ _,hc,by decide,Jq _,by exact FJ.mpr (aA (.a D qW) (.n 1021) 1 1 (.a D qW) (.n 1021) (c1 _) hk rfl)⟩
end
section
theorem XM.more{X:XM}(hX:Inj X):∀(l:List (Lb×Addr)),(l.map (·.1)).Nodup->(l.map (·.2)).Nodup->∃X':XM,Inj X'/\(∀p∈l,X' p.1=p.2)/\∀m,(∀p∈l,m≠p.1/\X m≠p.2)->X' m=X m
 |[],_,_=>⟨X,hX,(fun Z h=>by cases h),fun Z Z=>rfl⟩
 |p::l,h,k=>by
  have h:=CQ.mp h;have k:=CQ.mp k;refine B4 (XM.more hX l h.2 k.2) fun X1 h1 h2 h3=>⟨X1.to p.1 p.2,XM.D1 h1 _ _,fun q hq=>?_,fun m hm=>?_⟩
  ·rcases BP.mp hq with rfl|hq
   ·exact XM.Bq _ _ _
   ·exact J (XM.Bm X1 (fun e=>h.1 (BF.mpr ⟨q,hq,e⟩)) (fun e=>k.1 (BF.mpr ⟨q,hq,by rw[<- h2 q hq,e]⟩))) (h2 q hq)
  ·have e:=h3 m fun q hq=>hm q (.tail _ hq)
   refine J (XM.Bm X1 (hm p (.head _)).1 (by rw[e];exact(hm p (.head _)).2)) (J e ?_);rfl
noncomputable def Lp(hi b1 b2 b3 b4:Addr)(k:Nat):List (String×V):=[("heap",.ex (.ref hi)),("beneath",.ex (.ref b1)),("told",.ex (.ref b2)),("ways",.ex (.ref b3)),("backs",.ex (.ref b4)),("many",iV k),("turns",.int 0)]
section
variable{c:Cx}{A:Around}{G:Gx c A}{K:List V->Pv->u->Prop}{st r xs:List V}{p:Pv}{U:u}{k:Code}{L:List (Addr×O)}{n:Nat}
theorem gO(h:Nw U L)(i:Nat)(e:BU L i=some (a,.dict l))(ks:KS l x)(hl:l.length<=1000)(q:Nw U (A4 L i (.dict (dput l x y)))->Wr G k K st p (Bx (A4 L i (.dict (dput l x y))) U)):WW G (.op .Bt k) K (x::.ex (.ref a)::y::st) p (Bx L U):=
 ah (.AN (h.at i e)) ks hl (by have:=h.put (.dict (dput l x y)) e;exact J this.2 (q this.1))
theorem Nw.o(h:Nw U L)(i j:Nat)(e1:BU L i=some (a,.inst C d))(e2:BU L j=some (d,.ns m)):Obj (Bx L U) a C m:=⟨d,h.at i e1,h.at j e2⟩
end
section
variable{X:XM}{S:HS}
theorem oE(O:(cz ω).Ok)(hA:A7 3 A)(q:∀d x b1 b2 b3 b4,Nw U [(d,.ns (Lp hi b1 b2 b3 b4 0)),(x,.inst 629 d),(b1,.dict []),(b2,.dict []),(b3,.dict []),(b4,.dict [])]->Q (.ex (.ref x)) (Bx [(d,.ns (Lp hi b1 b2 b3 b4 0)),(x,.inst 629 d),(b1,.dict []),(b2,.dict []),(b3,.dict []),(b4,.dict [])] U)):aR (cz ω) A (.ref 629) [.ex (.ref hi)] Q U:=by refine fK (L:=[]) (fI:=512) O hA rfl rfl rfl ⟨FG,fun Z h=>nomatch h⟩ fun x d A' hA N=>(fv _).go O hA rfl fun hA G hG hr=>?_;dsimp only[A4,List.cons_append,List.nil_append]at N ⊢;refine ae (m':=[("heap",.ex (.ref hi))]) N 1 0 rfl rfl rfl rfl fun N=>cu N fun b1 N=>?_;dsimp only[A4,List.cons_append,List.nil_append]at N ⊢;refine ae (m':=[("heap",.ex (.ref hi)),("beneath",.ex (.ref b1))]) N 1 0 rfl rfl rfl rfl fun N=>cu N fun b2 N=>?_;dsimp only[A4,List.cons_append,List.nil_append]at N ⊢;refine ae (m':=[("heap",.ex (.ref hi)),("beneath",.ex (.ref b1)),("told",.ex (.ref b2))]) N 1 0 rfl rfl rfl rfl fun N=>cu N fun b3 N=>?_;dsimp only[A4,List.cons_append,List.nil_append]at N ⊢;refine ae (m':=[("heap",.ex (.ref hi)),("beneath",.ex (.ref b1)),("told",.ex (.ref b2)),("ways",.ex (.ref b3))]) N 1 0 rfl rfl rfl rfl fun N=>cu N fun b4 N=>?_;dsimp only[A4,List.cons_append,List.nil_append]at N ⊢;refine ae (m':=[("heap",.ex (.ref hi)),("beneath",.ex (.ref b1)),("told",.ex (.ref b2)),("ways",.ex (.ref b3)),("backs",.ex (.ref b4))]) N 1 0 rfl rfl rfl rfl fun N=>?_;dsimp only[A4]at N ⊢;refine ae (m':=[("heap",.ex (.ref hi)),("beneath",.ex (.ref b1)),("told",.ex (.ref b2)),("ways",.ex (.ref b3)),("backs",.ex (.ref b4)),("many",iV 0)]) N 1 0 rfl rfl rfl rfl fun N=>?_;dsimp only[A4]at N ⊢;refine ae (m':=Lp hi b1 b2 b3 b4 0) N 1 0 rfl rfl rfl rfl fun N=>?_;dsimp only[A4]at N ⊢;exact aJ ⟨rfl,q d x b1 b2 b3 b4 N⟩
theorem xb(O:(cz ω).Ok)(hA:A7 1 A){k:Nat}(o:Obj U x 629 m)(hm:GB 629 m "beneath" =some (.ex (.ref b1)))(hb:U b1=some (.dict l))(kl:∀p∈l,∃j,p.1=.int j)(hk:k=0\/(Az l (.int ((k:Int)-1))).isSome=true)(q:Q (.ex .none) U):aR (cz ω) A (.ref 519) [.ex (.ref x),.int ((k:Int)-1)] Q U:=by
 refine(da _).go O hA rfl fun hA G hG hR=>w_and (fun e=>?_) fun Z=>ao rfl (aF (aJ q));refine aC o hm (gP (.AN hb) (.int _ kl) (aF (ao ?_ (aF (aJ q)))))
 rcases hk with rfl|hk
 ·injection e
 ·exact J hk rfl
theorem j9(O:(cz ω).Ok)(hA:A7 2 A)(H:Af X U S){k:Nat}{l1 l2 l3 l4:List (V×V)}{R:List (Addr×Mine.Internal.O)}(N:Nw U ((d,.ns (Lp (X .hi) b1 b2 b3 b4 k))::(x,.inst 629 d)::(b1,.dict l1)::(b2,.dict l2)::(b3,.dict l3)::(b4,.dict l4)::R))
  (k1:∀p∈l1,∃j,p.1=.int j) (k2:∀p∈l2,∃j,p.1=.int j) (k3:∀p∈l3,∃j,p.1=.int j) (k4:∀p∈l4,∃j,p.1=.int j) (z1:l1.length<=1000) (z2:l2.length<=1000) (z3:l3.length<=1000) (z4:l4.length<=1000) (hk:k=0\/(Az l1 (.int ((k:Int)-1))).isSome=true)
  (q:∀t wy,Nw U ((d,.ns (Lp (X .hi) b1 b2 b3 b4 (k+1)))::(x,.inst 629 d)::(b1,.dict (dput l1 (iV k) (.int ((k:Int)-1))))::(b2,.dict (dput l2 (iV k) (.ex (.ref t))))::(b3,.dict (dput l3 (iV k) (.ex (.ref wy))))::(b4,.dict (dput l4 (iV k) (.int 0)))::(R++[(t,.list [])]++[(wy,.dict [])]))->
   Q (iV k) (Bx ((d,.ns (Lp (X .hi) b1 b2 b3 b4 (k+1)))::(x,.inst 629 d)::(b1,.dict (dput l1 (iV k) (.int ((k:Int)-1))))::(b2,.dict (dput l2 (iV k) (.ex (.ref t))))::(b3,.dict (dput l3 (iV k) (.ex (.ref wy))))::(b4,.dict (dput l4 (iV k) (.int 0)))::(R++[(t,.list [])]++[(wy,.dict [])])) U)):
  aR (cz ω) A (.ref 526) [.ex (.ref x),.int ((k:Int)-1)] Q (Bx ((d,.ns (Lp (X .hi) b1 b2 b3 b4 k))::(x,.inst 629 d)::(b1,.dict l1)::(b2,.dict l2)::(b3,.dict l3)::(b4,.dict l4)::R) U):=by
 refine(fz _).go O hA rfl fun hA G hG hR=>aI (N.o 1 0 rfl rfl) rfl (aD rfl (xb O hA (N.o 1 0 rfl rfl) rfl (N.at 2 rfl) k1 hk (aC (N.o 1 0 rfl rfl) rfl ?_)));refine ae (m':=Lp (X .hi) b1 b2 b3 b4 (k+1)) N 1 0 rfl rfl rfl rfl fun N=>?_;dsimp only[A4]at N ⊢;refine aC (N.o 1 0 rfl rfl) rfl (gO N 2 rfl (.int _ k1) z1 fun N=>qC N rfl fun t N=>?_);dsimp only[A4,List.cons_append]at N ⊢;refine aC (N.o 1 0 rfl rfl) rfl (gO N 3 rfl (.int _ k2) z2 fun N=>cu N fun wy N=>?_);dsimp only[A4,List.cons_append]at N ⊢;refine aC (N.o 1 0 rfl rfl) rfl (gO N 4 rfl (.int _ k3) z3 fun N=>?_);dsimp only[A4]at N ⊢;refine aC (N.o 1 0 rfl rfl) rfl (aC (H.le N.le).o rfl (aC (N.o 1 0 rfl rfl) rfl (gO N 5 rfl (.int _ k4) z4 fun N=>?_)));dsimp only[A4]at N ⊢;exact aQ (hR _ _ _ (q t wy N))
end
end
section
theorem Nw.app(h:Nw U L)(g:Nw (Bx L U) M):Nw U (M++L):=by
 have out:∀a∈M.map (·.1),a∉L.map (·.1):=fun a m n=>by refine An (bV (U:=U) n) fun o e Z=>?_;have e:=(g.out a m)▸e;injection e
 refine⟨?_,fun a m=>?_⟩
 ·refine J DT ?_;rewrite[Ko]
  exact⟨g.nd,h.nd,fun a m b n e=>out a m (J e n)⟩
 ·rw[DT]at m
  refine Or.elim (DA.mp m) (fun m=>?_) fun m=>?_
  ·exact(ag (out a m)).symm.trans (g.out a m)
  ·exact h.out a m
section
variable{X:XM}{S:HS}
theorem ma(O:(cz ω).Ok)(hA:A7 3 A)(H:Af X U S)(M:aK X U qZ)(q:∀d v,Nw U [(d,.ns [("layers",.ex (.ref (X .li))),("layer",iV l),("bank",.ex (.ref (X .bi)))]),(v,.inst 731 d)]->Q (.ex (.ref v)) (Bx [(d,.ns [("layers",.ex (.ref (X .li))),("layer",iV l),("bank",.ex (.ref (X .bi)))]),(v,.inst 731 d)] U)):aR (cz ω) A (.ref 731) [.ex (.ref (X .li)),iV l] Q U:=by refine fK (L:=[]) (fI:=647) O hA rfl rfl rfl ⟨FG,fun Z h=>nomatch h⟩ fun x d A' hA N=>(jW _).go O hA rfl fun hA G hG hr=>?_;dsimp only[List.cons_append,List.nil_append]at N ⊢;refine ae (m':=[("layers",.ex (.ref (X .li)))]) N 1 0 rfl rfl rfl rfl fun N=>?_;dsimp only[A4]at N ⊢;refine ae (m':=[("layers",.ex (.ref (X .li))),("layer",iV l)]) N 1 0 rfl rfl rfl rfl fun N=>?_;dsimp only[A4]at N ⊢;refine aC (M.le N.le).o rfl (aC (H.le N.le).o rfl (ae (m':=[("layers",.ex (.ref (X .li))),("layer",iV l),("bank",.ex (.ref (X .bi)))]) N 1 0 rfl rfl rfl rfl fun N=>?_));exact aJ ⟨rfl,q d x N⟩
theorem de(O:(cz ω).Ok)(hA:A7 3 A)(q:∀d x k,Nw U [(d,.ns [("heap",.ex (.ref h)),("mark",.ex .none),("known",.ex (.ref k))]),(x,.inst 275 d),(k,.dict [])]->Q (.ex (.ref x)) (Bx [(d,.ns [("heap",.ex (.ref h)),("mark",.ex .none),("known",.ex (.ref k))]),(x,.inst 275 d),(k,.dict [])] U)):
  aR (cz ω) A (.ref 275) [.ex (.ref h)] Q U:=by
 refine fK (L:=[]) (fI:=204) O hA rfl rfl rfl ⟨FG,fun Z h=>nomatch h⟩ fun x d A' hA N=>(gC _).go O hA rfl fun hA G hG hr=>?_;dsimp only[List.cons_append,List.nil_append]at N ⊢;refine ae (m':=[("heap",.ex (.ref h))]) N 1 0 rfl rfl rfl rfl fun N=>?_;dsimp only[A4]at N ⊢;refine ae (m':=[("heap",.ex (.ref h)),("mark",.ex .none)]) N 1 0 rfl rfl rfl rfl fun N=>cu N fun k N=>?_;dsimp only[A4,List.cons_append,List.nil_append]at N ⊢;exact ae (m':=[("heap",.ex (.ref h)),("mark",.ex .none),("known",.ex (.ref k))]) N 1 0 rfl rfl rfl rfl fun N=>aJ ⟨rfl,q d x k N⟩
end
end
section
set_option genInjectivity false
structure Cn where
 ci:Addr
 cd:Addr
 kd:Addr
 mark:V
 kn:List (V×V)
noncomputable def Cn.L(w:Addr)(c:Cn):List (Addr×O):=[(c.cd,.ns [("heap",.ex (.ref w)),("mark",c.mark),("known",.ex (.ref c.kd))]),(c.ci,.inst 275 c.cd),(c.kd,.dict c.kn)]
structure Kn where
 hd:Addr
 hi:Addr
 li:Addr
 bi:Addr
 td:Addr
 v0:Addr
 d0:Addr
 v1:Addr
 d1:Addr
 R:List (Nat×Nat)
 R0:List (Nat×Nat)
 R1:List (Nat×Nat)
 c0:Cn
 c1:Cn
 c2:Cn
noncomputable def Kn.vw(N:Kn)(l:Nat)(v d:Addr):List (Addr×O):=[(d,.ns [("layers",.ex (.ref N.li)),("layer",iV l),("bank",.ex (.ref N.bi))]),(v,.inst 731 d)]
noncomputable def Kn.ob(N:Kn):List (Addr×O):=(N.td,.list (N.R.map pV))::(N.c1.L N.v1++(N.vw 1 N.v1 N.d1++(N.c0.L N.v0++(N.vw 0 N.v0 N.d0++N.c2.L N.hi))))
structure E8(X:XM)(S:HS)(τ:u)(hd:Addr)(L:List (Addr×O)):Prop where
 hand:Bv τ hd
 nd:(hd::L.map (·.1)).Nodup
 o:∀p∈L,τ p.1=some p.2
 ap:∀m,hh S m->X m≠hd/\∀p∈L,X m≠p.1
section
variable{X X':XM}{S S':HS}
theorem E8.ne(h:E8 X S τ hd L)(m:p∈L):p.1≠hd:=fun e=>(CQ.mp h.nd).1 (e▸BF.mpr ⟨p,m,rfl⟩)
theorem E8.Ja(h:E8 X S τ hd L)(T:BY mv X (hh S) τ X' (hh S') Bw):E8 X' S' Bw hd L where
 hand:=h.hand.keep fun o e=>(T.keep e fun m hm=>(h.ap m hm).1).1
 nd:=h.nd
 o p m:=(T.keep (h.o p m) fun l hl=>(h.ap l hl).2 p m).1
 ap l hl:=⟨(let⟨_,_,_,e,_⟩:=h.hand;(T.keep e fun m hm=>(h.ap m hm).1).2 l hl),fun p m=>(T.keep (h.o p m) fun l hl=>(h.ap l hl).2 p m).2 l hl⟩
theorem E8.pick(h:E8 X S τ hd L)(T:Upd hd τ Bw)(g:Bv Bw hd):E8 X S Bw hd L:=⟨g,h.nd,fun p m=>T _ _ (h.ne m) (h.o p m),h.ap⟩
theorem E8.turn{a a':Addr}{o o':O}(h:E8 X S τ hd (A++(a,o)::B))(n:a'=a\/τ a'=none)(ha:Bw a'=some o')(na:∀m,hh S m->X m≠a')(k:∀b x,b≠a->τ b=some x->Bw b=some x):E8 X S Bw hd (A++(a',o')::B):=by
 have out:∀p∈A++B,p.1≠a:=fun p m e=>by have:=((MF (a:=((a,o):Addr×O)) (l₁:=A) (l₂:=B)).map (·.1)).nodup_iff.mp (CQ.mp h.nd).2;exact(CQ.mp this).1 (e▸BF.mpr ⟨p,m,rfl⟩)
 have mem:∀{x:Addr×O} {p},p∈A++x::B->p=x\/p∈A++B:=fun m=>(DA.mp m).elim (fun m=> .inr (HG _ m)) fun m=>(BP.mp m).imp id fun m=>G3 _ m;have sub:∀{x:Addr×O} {p},p∈A++B->p∈A++x::B:=fun m=>DA.mpr ((DA.mp m).imp id fun m=>DX _ m);have Cc:hd≠a:=(h.ne (G3 _ EU)).symm;obtain⟨d,Vs⟩:∃d,τ hd=some d:=let⟨_,_,_,e,_⟩:=h.hand;⟨_,e⟩
 refine⟨h.hand.keep fun o e=>k _ _ Cc e,?_,fun p m=>?_,fun m hm=>⟨(h.ap m hm).1,fun p hp=>?_⟩⟩
 ·have g:=h.nd
  have pm:=fun(x:Addr×O)=>(Rk hd ((MF (a:=x) (l₁:=A) (l₂:=B)).map (·.1))).trans (SY _ _ _);refine(pm (a',o')).nodup_iff.mpr (CQ.mpr ⟨fun m=>?_,(CQ.mp ((pm (a,o)).nodup_iff.mp g)).2⟩)
  rcases n with rfl|n
  ·exact(CQ.mp ((pm (a',o)).nodup_iff.mp g)).1 m
  ·refine Or.elim (BP.mp m) (fun e=>?_) fun m=>?_
   ·have e:a'=hd:=e
    have n:=e▸n;have n:=Vs▸n;injection n
   ·refine An (BF.mp m) fun p m e=>?_
    have:=h.o p (sub m);have this:=e▸this;have this:=n▸this;injection this
 ·rcases mem m with rfl|m
  ·exact ha
  ·exact k _ _ (out p m) (h.o p (sub m))
 ·rcases mem hp with rfl|hp
  ·exact na m hm
  ·exact(h.ap m hm).2 p (sub hp)
theorem E8.count{c:Cn}{w CE:Addr}{mk':V}{B8:List (V×V)}(h:E8 X S τ hd (A++(c.L w++B)))(g1:Bw CE=some (.dict B8))(g2:Bw c.cd=some (.ns [("heap",.ex (.ref w)),("mark",mk'),("known",.ex (.ref CE))]))(σ:GX c.cd c.kd τ Bw)(a:CE=c.kd\/τ CE=none)(na:∀m,hh S m->X m≠CE):E8 X S Bw hd (A++(Cn.L w ⟨c.ci,c.cd,CE,mk',B8⟩++B)):=by
 have e:=fun r=>HJ A [(c.cd,O.ns [("heap",.ex (.ref w)),("mark",c.mark),("known",.ex (.ref c.kd))]),(c.ci,.inst 275 c.cd)] r;have m0:(c.cd,O.ns [("heap",.ex (.ref w)),("mark",c.mark),("known",.ex (.ref c.kd))])∈A++(c.L w++B):=G3 _ EU;have NJ:=h.o _ m0;have h1:E8 X S (Bw.set c.cd (.ns [("heap",.ex (.ref w)),("mark",c.mark),("known",.ex (.ref c.kd))])) hd ((A++[(c.cd,.ns [("heap",.ex (.ref w)),("mark",c.mark),("known",.ex (.ref c.kd))]),(c.ci,.inst 275 c.cd)])++(CE,.dict B8)::B):=E8.turn (o:=.dict c.kn) (by exact J (e _) h) a (aB (fun e=>by have g1:=e▸g1;have g1:=g2▸g1;cases g1) g1) na fun b x n q=>by
  by_cases e:b=c.cd
  ·subst e;rw[NJ]at q;exact Rv q (u.set_same _ _ _)
  ·exact aB e (σ _ _ e n q)
 rw[e]at h1;exact h1.turn (a':=c.cd) (.inl rfl) g2 (fun m hm=>(h.ap m hm).2 _ m0) fun b x n q=>by rwa [u.Ad _ _ n]at q
end
structure Ps(X:XM)(τ:u)(S:HS)(qZ:LS)(N:Kn):Prop where
 inj:Inj X
 H:Af X τ S
 M:aK X τ qZ
 hi:X .hi=N.hi
 li:X .li=N.li
 bi:X .bi=N.bi
 x:E8 X S τ N.hd N.ob
noncomputable def Kn.cn(N:Kn):Nat->Cn
 |0=>N.c0
 |1=>N.c1
 |_=>N.c2
noncomputable def Kn.wh(N:Kn):Nat->Di
 |0=> .view 0 N.v0 N.d0
 |1=> .view 1 N.v1 N.d1
 |_=> .heap
noncomputable def Kn.at_(N:Kn):Nat->List (Nat×Nat)
 |0=>N.R++N.R0
 |1=>N.R++N.R0++N.R1
 |_=>N.R
noncomputable def Kn.QB(N:Kn)(k:Nat)(c:Cn):Kn:=match k with
 |0=>{N with c0:=c}
 |_=>{N with c1:=c}
noncomputable def Kn.tell(N:Kn)(p:Nat×Nat):Kn:={N with R:=N.R++[p]}
noncomputable def Kn.pair(N:Kn)(l:Nat)(p:Nat×Nat):Kn:=match l with
 |0=>{N with R0:=N.R0++[p]}
 |_=>{N with R1:=N.R1++[p]}
noncomputable def Kn.BG(N:Kn):Nat:=N.R.length+N.R0.length+N.R1.length
section
variable{X X':XM}{S S':HS}{N:Kn}
theorem Ps.at(P:Ps X τ S qZ N)(i:Nat)(h:N.ob[i]? =some p):τ p.1=some p.2:=P.x.o p (BW h)
theorem Ps.ap(P:Ps X τ S qZ N)(i:Nat)(h:N.ob[i]? =some p):∀m,hh S m->X m≠p.1:=fun m hm=>(P.x.ap m hm).2 p (BW h)
theorem Ps.Ja(P:Ps X τ S qZ N)(CX:Inj X')(H':Af X' Bw S')(M':aK X' Bw Y')(T:BY mv X (hh S) τ X' (hh S') Bw):Ps X' Bw S' Y' N:=
 ⟨CX,H',M',(T.lb .hi (fun q=>q.elim (fun q=>q Al) id) (P.H.val .hi Al)).trans P.hi,(T.lb .li (fun q=>q.elim (fun q=>q Al) id) (P.M.val .li Al)).trans P.li,(T.lb .bi (fun q=>q.elim (fun q=>q Al) id) (P.H.val .bi Al)).trans P.bi,P.x.Ja T⟩
theorem Ps.pick(P:Ps X τ S qZ N)(T:Upd N.hd τ Bw)(g:Bv Bw N.hd):Ps X Bw S qZ N:=
 ⟨P.inj,P.H.upd (fun m hm=>(P.x.ap m (.inl hm)).1) T,P.M.move (fun Z Z=>rfl) rfl fun m o hm e=>T _ _ (P.x.ap m (.inr hm)).1 e,P.hi,P.li,P.bi,P.x.pick T g⟩
theorem Ps.tell(P:Ps X τ S qZ N)(p:Nat×Nat):Ps X (τ.set N.td (.list ((N.R++[p]).map pV))) S qZ (N.tell p):=
 ⟨P.inj,P.H.other fun m hm=>P.ap 0 rfl m (.inl hm),P.M.other fun m hm=>P.ap 0 rfl m (.inr hm),P.hi,P.li,P.bi,E8.turn (A:=[]) P.x (.inl rfl) (u.set_same _ _ _) (P.ap 0 rfl) fun b x n e=>aB n e⟩
theorem mE:O.ns (("layers",Aa)::f)≠O.ns (("heap",v)::g):=fun e=>by
 injection e with e
 injection e with e
 injection e with e
 exact Ba e (by decide)
theorem Ps.ca(P:Ps X τ S qZ N)(hk:k<3):CA X τ S qZ (N.wh k) (N.cn k).ci (N.cn k).cd (N.cn k).kd (N.cn k).mark (N.cn k).kn/\Apart X S (N.wh k) (N.cn k).cd (N.cn k).kd:=by
 have ns:∀{a b:Addr} {f g:List (String×V)} {Aa v:V},τ a=some (.ns (("layers",Aa)::f))->τ b=some (.ns (("heap",v)::g))->a≠b:=fun h1 h2 e=>by rw[e,h2]at h1;exact mE (BC h1).symm
 have A:=fun i {p:Addr×O} h=>P.ap i (p:=p) h
 rcases Jt hk with rfl|rfl|rfl
 ·have vw:VW X τ 0 N.v0 N.d0:=⟨P.at 10 rfl,(P.at 9 rfl).trans (by exact J P.li (J P.bi rfl))⟩
  exact⟨⟨P.H,P.M,⟨by decide,vw⟩,P.at 7 rfl,P.at 6 rfl,P.at 8 rfl⟩,fun m hm=>A 8 rfl m (.inl hm),fun m hm=>A 8 rfl m (.inr hm),fun m hm=>A 6 rfl m (.inl hm),fun m hm=>A 6 rfl m (.inr hm),fun l v dv e=>by cases e;exact⟨Cf (P.at 10 rfl) (P.at 6 rfl),ns (P.at 9 rfl) (P.at 6 rfl)⟩⟩
 ·have vw:VW X τ 1 N.v1 N.d1:=⟨P.at 5 rfl,(P.at 4 rfl).trans (by exact J P.li (J P.bi rfl))⟩
  exact⟨⟨P.H,P.M,⟨by decide,vw⟩,P.at 2 rfl,P.at 1 rfl,P.at 3 rfl⟩,fun m hm=>A 3 rfl m (.inl hm),fun m hm=>A 3 rfl m (.inr hm),fun m hm=>A 1 rfl m (.inl hm),fun m hm=>A 1 rfl m (.inr hm),fun l v dv e=>by cases e;exact⟨Cf (P.at 5 rfl) (P.at 1 rfl),ns (P.at 4 rfl) (P.at 1 rfl)⟩⟩
 ·exact⟨⟨P.H,P.M,Al,P.at 12 rfl,(P.at 11 rfl).trans (by exact Rv P.hi rfl),P.at 13 rfl⟩,fun m hm=>A 13 rfl m (.inl hm),fun m hm=>A 13 rfl m (.inr hm),fun m hm=>A 11 rfl m (.inl hm),fun m hm=>A 11 rfl m (.inr hm),fun l v dv e=>nomatch e⟩
theorem Ps.Fq(P:Ps X τ S qZ N)(hk:k<2)(C:CA X Bw S qZ (N.wh k) (N.cn k).ci (N.cn k).cd CE (markV S qZ (N.wh k)) B8)(a:CE=(N.cn k).kd\/τ CE=none)(σ:GX (N.cn k).cd (N.cn k).kd τ Bw):Ps X Bw S qZ (N.QB k ⟨(N.cn k).ci,(N.cn k).cd,CE,markV S qZ (N.wh k),B8⟩):=by
 have q:=(P.ca (EF hk)).2.next (P.ca (EF hk)).1 a;have na:∀m,hh S m->X m≠CE:=fun m hm=>hm.elim (q.k m) (q.lk m);have Cd:=C.d
 rcases CF hk with rfl|rfl
 ·exact⟨P.inj,C.H,C.M,P.hi,P.li,P.bi,E8.count (A:=(N.td,.list (N.R.map pV))::(N.c1.L N.v1++N.vw 1 N.v1 N.d1)) (B:=N.vw 0 N.v0 N.d0++N.c2.L N.hi) P.x C.k Cd σ a na⟩
 ·exact⟨P.inj,C.H,C.M,P.hi,P.li,P.bi,E8.count (A:=[(N.td,.list (N.R.map pV))]) (B:=N.vw 1 N.v1 N.d1++(N.c0.L N.v0++(N.vw 0 N.v0 N.d0++N.c2.L N.hi))) P.x C.k Cd σ a na⟩
end
theorem all2{P:Nat->Prop}(a:P 0)(b:P 1):∀j,j<2->P j:=fun j h=>by
 rcases CF h with rfl|rfl
 ·exact a
 ·exact b
theorem y9{P:Nat->Prop}(a:P 0)(b:P 1)(c:P 2):∀j,j<3->P j:=fun j h=>by
 rcases Jt h with rfl|rfl|rfl
 ·exact a
 ·exact b
 ·exact c
structure Ls(S:HS)(qZ:LS)(E F:Nat)(N:Kn)(z:Nat):Prop where
 I:HI E F N.R (fun Z=>False) S
 W:S.waiting=[]
 nd:S.nodes.Nodup
 tn:∀p∈N.R,p.1<S.nodes.length/\p.2<S.nodes.length
 L:LI N.R N.R0 N.R1 S qZ
 mem:∀k,k<2->Mem S qZ (N.wh k) (N.cn k).mark (N.cn k).kn
 plain:N.c2.mark=.ex .none
 kz:∀k,k<3->(N.cn k).kn.length<=z
section
variable{S S':HS}{E F z:Nat}{N N':Kn}
theorem iD(hk:k<2)(h:Mem S qZ (N.wh k) mk kn)(a:Y'.turns>qZ.turns\/(S'=S/\Y'.turns=qZ.turns/\∀k<2,Y'.F S k=qZ.F S k)):Mem S' Y' (N'.wh k) mk kn:=by
 have e:∀(qZ:LS) (N:Kn),(N.wh k).marks qZ=qZ.turns/\∀S,(N.wh k).f S qZ=qZ.F S k:=fun qZ N=>by rcases CF hk with rfl|rfl<;>exact⟨rfl,fun Z=>rfl⟩
 refine h.imp id fun ID=>LN ID fun n e' t h1 h2=>⟨n,e',t,h1,?_⟩
 rw[(e _ _).1,(e _ _).2]at h2 ⊢
 rcases a with a|⟨rfl,a,b⟩
 ·exact .inl (h2.elim (fun h=>EL h a) fun h=>h.2.2.1▸a)
 ·exact J a (J (b k hk) h2)
theorem Ls.QC(h:Ls S qZ E F N z)(hk:k<3):Mem S qZ (N.wh k) (N.cn k).mark (N.cn k).kn:=by
 rcases Jt hk with rfl|rfl|rfl
 ·exact h.mem 0 (by decide)
 ·exact h.mem 1 (by decide)
 ·exact .inl h.plain
theorem Ls.fit(h:Ls S qZ E F N z)(hE:E<=350)(hF:F<=350)(hk:k<3)(hz:N.BG<=2):HA S qZ (N.wh k) (N.at_ k) E F N.R where
 I:=h.I
 W:=h.W
 hE:=hE
 hF:=hF
 K:=h.L.ok
 C:=by
  rcases Jt hk with rfl|rfl|rfl
  ·exact h.L.c0
  ·exact h.L.c1
  ·exact h.I.MY h.W
 z:=by
  unfold Kn.BG at hz
  rcases Jt hk with rfl|rfl|rfl
  ·show(N.R++N.R0).length<=2;exact J CY (aA (.a D Y) qU 1 1 (.a (.a D Y) qY) qU (c3 _ _ _) hz rfl)
  ·show(N.R++N.R0++N.R1).length<=2;refine J CY (J CY (?_));assumption
  ·show N.R.length<=2;exact aA D qU 1 1 (.a (.a D Y) qY) qU (c3 _ _ _) hz rfl
 z0:=by unfold Kn.BG at hz;exact aA D qU 1 1 (.a (.a D Y) qY) qU (c3 _ _ _) hz rfl
theorem Ls.Lq(G:Ls S qZ E F N z)(hk:k<3):∀p∈N.at_ k,p.1<S.nodes.length/\p.2<S.nodes.length:=fun p hp=>by
 have h0:=G.L.n0 p;have h1:=G.L.n1 p;rw[G.I.pn]at h0 h1
 rcases Jt hk with rfl|rfl|rfl
 ·exact(DA.mp hp).elim (G.tn p) h0
 ·exact(DA.mp hp).elim (fun h=>(DA.mp h).elim (G.tn p) h0) h1
 ·exact G.tn p hp
theorem Ls.Fq(G:Ls S qZ E F N z)(hk:k<2)(K:dI (Dh S.nodes ((N.wh k).f S qZ)) B8)(l:B8.length<=(N.cn k).kn.length+126):Ls S qZ E F (N.QB k ⟨ci,cd,CE,markV S qZ (N.wh k),B8⟩) (z+126):=by
 have l':=AG l (HZ (G.kz k (EF hk)) 126);have m:Mem S qZ (N.wh k) (markV S qZ (N.wh k)) B8:=.inr ⟨_,_,_,rfl,.inr ⟨rfl,rfl,rfl,K⟩⟩;have z':=fun j hj=>AG (G.kz j hj) (Ea z 126)
 rcases CF hk with rfl|rfl
 ·exact⟨G.I,G.W,G.nd,G.tn,G.L,all2 m (G.mem 1 (by decide)),G.plain,y9 l' (z' 1 (by decide)) (z' 2 (by decide))⟩
 ·exact⟨G.I,G.W,G.nd,G.tn,G.L,all2 (G.mem 0 (by decide)) m,G.plain,y9 (z' 0 (by decide)) l' (z' 2 (by decide))⟩
end
end
section
set_option genInjectivity false
noncomputable def Code.skip:Code->Code
 | .op _ k=>k.skip
 |c=>c
noncomputable def Code.Cj:Code->Code
 | .br a _ _=>a
 | .BK _ b _=>b
 |c=>c
noncomputable def Code.alt:Code->Code
 | .br _ b _=>b
 |c=>c
noncomputable def Code.Jk:Code->Code
 | .br _ _ k=>k
 | .BK _ _ k=>k
 |c=>c
noncomputable def VH:Code:=mZ.skip.Jk.skip.Jk.skip.Cj
noncomputable def RT:Code:=VH.skip.Jk
noncomputable def yo:Code:=RT.skip.Cj
noncomputable def ZA:Code:=RT.skip.alt.skip.Cj
noncomputable def zx:Code:=RT.skip.alt.skip.alt.skip.Cj
noncomputable def Gd(N:Kn)(sc nv:V)(pd a0 a1:Addr)(l0 l1:List V)(u5 u6 Gr Ge Gf Gg Gh:Option V):Pv:=
 ⟨[some sc,some (.ex (.ref N.hd)),some (.ex (.ref N.hi)),some nv,some (.ex (.ref N.td)),u5,u6,some (.ex (.ref N.li)),some (iV 0),some (iV 1),some (.ex (.ref pd)),some (.ex (.ref N.c2.ci)),some (.lst [.ex (.ref N.c0.ci),.ex (.ref N.c1.ci)]),Gr,Ge,Gf,Gg,Gh],
  [(pd,.dict [(iV 0,.ex (.ref a0)),(iV 1,.ex (.ref a1))]),(a0,.list l0),(a1,.list l1)]⟩
inductive JM(E F z t n:Nat):Pv->u->Prop
 |mk (X:XM) (S:HS) (qZ:LS) (N:Kn) (sc nv:V) (pd a0 a1:Addr) (l0 l1:List V) (u5 u6 Gr Ge Gf Gg Gh:Option V) (τ:u) (P:Ps X τ S qZ N) (G:Ls S qZ E F N z) (h2:2<=S.nodes.length) (hn:S.nodes.length<=n) (ht:N.BG<=t) (en:nv=.lst (S.nodes.map nV)) (e0:l0=N.R0.map pV) (e1:l1=N.R1.map pV):JM E F z t n (Gd N sc nv pd a0 a1 l0 l1 u5 u6 Gr Ge Gf Gg Gh) τ
theorem JM.up{E F z t n E' F' t' n':Nat}(h:JM E F z t n p τ)(a:E<=E')(b:F<=F')(c:t<=t')(d:n<=n'):JM E' F' z t' n' p τ:=by
 induction h with
 |mk X S qZ N sc nv pd a0 a1 l0 l1 u5 u6 Gr Ge Gf Gg Gh τ P G h2 hn ht en e0 e1=>exact .mk X S qZ N _ _ _ _ _ _ _ _ _ _ _ _ _ _ _ P ⟨G.I.up a b,G.W,G.nd,G.tn,G.L,G.mem,G.plain,G.kz⟩ h2 (AG hn d) (AG ht c) en e0 e1
theorem eS(e:a=b)(h:aR c A f (.ex (.ref a)::xs) Q U):aR c A f (.ex (.ref b)::xs) Q U:=e▸h
theorem j7(e:a=b)(h:aR c A f (x::.ex (.ref a)::xs) Q U):aR c A f (x::.ex (.ref b)::xs) Q U:=e▸h
theorem Ps.lo{X:XM}{S:HS}{N:Kn}(P:Ps X τ S qZ N):Obj τ N.li 629 (Jb X qZ.turns):=P.li▸P.M.o
theorem Ps.ho{X:XM}{S:HS}{N:Kn}(P:Ps X τ S qZ N):Obj τ N.hi 487 (Fy X):=P.hi▸P.H.o
section
variable{c:Cx}{A:Around}{G:Gx c A}{K:List V->Pv->u->Prop}{st:List V}{p:Pv}{U:u}{k:Code}{a:Addr}{l:List V}{x:V}
theorem um(d:Rd p U a (.list l))(hx:l.getLast? =some x)(hl:l.length<=1000)(q:Wr G k K (x::st) p U):WW G (.op .sub k) K (.int (-1)::.ex (.ref a)::st) p U:=oQ d (fun e h q=>jR h hx hl q fun Z Z Z=>e _ _) q
end
theorem qN(R:List (Nat×Nat))(a b:Nat):R.map pV++[.tup [iV a,iV b]]=(R++[(a,b)]).map pV:=(DT (f:=pV) (l₁:=R) (l₂:=[(a,b)])).symm
theorem lE(hl:l<2):Az [(iV 0,Aa),(iV 1,v)] (iV l)=some (if l=0 then Aa else v):=by
 rcases CF hl with rfl|rfl
 ·simp[Az]
 ·simp[Az]
theorem hO{l l':List Node}(h:l.Nodup)(k:l'=l\/∃nd,l'=l++[nd]/\nd∉l):l'.Nodup/\l.length<=l'.length/\l'.length<=l.length+1:=by
 rcases k with rfl|⟨nd,rfl,h2⟩
 ·exact⟨h,Bf _,G2 _⟩
 ·exact J CY (⟨Ko.mpr ⟨h,CQ.mpr ⟨JN,FG⟩,fun a ha b hb e=>h2 (by have e:=(Eb.mp hb)▸e;exact e▸ha)⟩,Ea _ _,Bf _⟩)
theorem oa{R:List (Nat×Nat)}(h:R.length<=n)(k:n<=999):(R.map pV).length<=1000:=AG (AA (Bl _)) (AG h (Ft k))
section
variable{A:Around}{X:XM}{τ:u}{S S0:HS}{qZ:LS}{E F z t n:Nat}{N:Kn}{G:Gx (cz ω) A}{k:Code}{K:List V->Pv->u->Prop}{sc:V}{pd a0 a1:Addr}{u5 u6 Gr Ge Gf Gg Gh:Option V}{l0 l1:List V}
theorem iS(O:(cz ω).Ok)(hA:A7 19 A)(P:Ps X τ S qZ N)(en:nv=.lst (S.nodes.map nV))(e0:l0=N.R0.map pV)(e1:l1=N.R1.map pV)(I:HI E F N.R (fun Z=>False) S)(hE:E<=350)(hF:F<=350)(nd:S.nodes.Nodup)(tn:∀p∈N.R,p.1<S.nodes.length/\p.2<S.nodes.length)(L:LI Rb N.R0 N.R1 S0 qZ)(hle:S0.par.length<=S.nodes.length)
  (mem:∀k,k<2->Mem S0 qZ (N.wh k) (N.cn k).mark (N.cn k).kn) (plain:N.c2.mark=.ex .none) (kz:∀k,k<3->(N.cn k).kn.length<=z) (h2:2<=S.nodes.length) (hn:S.nodes.length<=n) (ht:N.BG<=t) (kk:∀p τ,JM E F z t n p τ->Wr G k K [] p τ):
  Wr G (.op (.ld 7)<|.op (.GN (Mine.Internal.N "settle"))<|.op (.call 1)<|.op .pop<|.done) (W G k K) [] (Gd N sc nv pd a0 a1 l0 l1 u5 u6 Gr Ge Gf Gg Gh) τ:=by
 refine aI P.lo rfl (aD rfl (eS P.li (jd O P.inj (hA.lb rfl) P.H I hE hF P.M L.w0 L.w1 (fun p h=>⟨GZ (L.n0 p h).1 hle,GZ (L.n0 p h).2 hle⟩) (fun p h=>⟨GZ (L.n1 p h).1 hle,GZ (L.n1 p h).2 hle⟩) L.z0 L.z1 L.ok hle fun Y' S' X' Bw I' W' N' CX H' M' T' L' Dg=>?_)));rw[<- N']at en nd tn h2 hn;exact aF (kk _ _ (.mk X' S' Y' N _ _ _ _ _ _ _ _ _ _ _ _ _ _ _ (P.Ja CX H' M' T') ⟨I',W',nd,tn,L',fun k hk=>iD hk (mem k hk) (.inl Dg),plain,kz⟩ h2 hn ht en e0 e1))
theorem qf(O:(cz ω).Ok)(hA:A7 19 A)(P:Ps X τ S qZ N)(L:Ls S qZ E F N z)(hE:E<=300)(hF:F<=300)(h2:2<=S.nodes.length)(hn:S.nodes.length<=n)(h9:n<10)(ht:N.BG<=t)(e0:l0=N.R0.map pV)(e1:l1=N.R1.map pV)(kk:∀p τ,JM (E+22) (F+1) z t (n+1) p τ->Wr G k K [] p τ):
  Wr G ZA (W G k K) [] (Gd N sc (.lst (S.nodes.map nV)) pd a0 a1 l0 l1 u5 u6 Gr Ge Gf Gg Gh) τ:=by
 refine aD rfl (j7 P.hi (eP O P.inj (hA.lb rfl) P.H L.I L.W (aA D (.n 350) 1 1 D (.n 300) (c1 _) hE rfl) (aA D (.n 350) 1 1 D (.n 300) (c1 _) hF rfl) (aH (.a D qW) qR 1 1 D Y 1 (.a Y qW) qR (c2 _ _) hn h9 rfl) (aA (.a qV qW) D 1 1 qU D (c1 _) h2 rfl) P.x.hand (fun m hm=>(P.x.ap m (.inl hm)).1) fun Jg S' X' Ac U1 GY I' M5 VI CX H' Rz ZC T'=>?_));have P1:=P.pick U1 GY;have P2:=P1.Ja CX H' (P1.M.GR P1.inj P1.H T') (T'.both P1.M);exact D4 (hO L.nd VI) fun nd hd2 VJ=>iS O hA P2 rfl e0 e1 I' (aA (.a D (.n 22)) (.n 350) 1 1 D (.n 300) (c1 _) hE rfl) (aA (.a D qW) (.n 350) 1 1 D (.n 300) (c1 _) hF rfl) nd (fun p hp=>⟨GZ (L.tn p hp).1 hd2,GZ (L.tn p hp).2 hd2⟩) L.L (J L.I.pn hd2) L.mem L.plain L.kz (AG h2 hd2) (aH D (.a Y qW) 1 1 qY Y 1 D (.a qY qW) (c3 _ _ _) hn VJ rfl) ht kk
theorem qh(O:(cz ω).Ok)(hA:A7 19 A)(P:Ps X τ S qZ N)(L:Ls S qZ E F N z)(hE:E<=300)(hF:F<=300)(h2:2<=S.nodes.length)(hn:S.nodes.length<=n)(h9:n<10)(ht:N.BG<=t)(Mx:t<=50)(e0:l0=N.R0.map pV)(e1:l1=N.R1.map pV)(kk:∀p τ,JM E (F+1) z (t+1) n p τ->Wr G k K [] p τ):
  Wr G zx (W G k K) [] (Gd N sc (.lst (S.nodes.map nV)) pd a0 a1 l0 l1 u5 u6 Gr Ge Gf Gg Gh) τ:=by
 have nl:(S.nodes.map nV).length=S.nodes.length:=Bl _;have Dg:=ht;unfold Kn.BG at Dg;refine aZ (.AN (P.at 0 rfl)) (cA (az D (.n 1000) 1 1 D Y 1 Y qY 1 (.a qY qW) qR (c3 _ _ _) (AA nl) hn h9 rfl) (aD rfl (bg O (hA.lb rfl) P.x.hand (aH (.a qV qW) D 1 1 Y D 1 qU Y (c2 _ _) (AA nl.symm) h2 rfl) fun a QD ha GY T1=>?_)));have P1:=P.pick T1 GY;refine cA (az D (.n 1000) 1 1 D Y 1 Y qY 1 (.a qY qW) qR (c3 _ _ _) (AA nl) hn h9 rfl) (aD rfl (bg O (hA.lb rfl) P1.x.hand (aA (.a qV qW) D 1 1 (.a Y qW) D (c2 _ _) ha rfl) fun b Kh hb HD T2=>?_));have P2:=P1.pick T2 HD;rw[nl]at ha hb;refine be (.AN (P2.at 0 rfl)) (oa (n:=50) (aH D (.n 50) 1 1 (.a (.a D qY) qX) Y 1 Y (.n 50) (c4 _ _ _ _) Dg Mx rfl) (by decide)) ?_;have P3:=P2.tell (a,b);have Gi:=P3;have Gi:=DT▸Gi;have g:Rd (Gd N sc (.lst (S.nodes.map nV)) pd a0 a1 l0 l1 u5 u6 Gr Ge Gf Gg Gh) (Kh.set N.td (.list (N.R.map pV++[pV (a,b)]))) N.td (.list (N.R.map pV++[pV (a,b)])):=.AN (u.set_same _ _ _);have gl:(N.R.map pV++[pV (a,b)]).getLast? =some (pV (a,b)):=Sr;have zl:(N.R.map pV++[pV (a,b)]).length<=1000:=by exact J CY (J (Bl _) (AG (JF (show N.R.length<=50 by exact aH D (.n 50) 1 1 (.a (.a D qY) qX) Y 1 Y (.n 50) (c4 _ _ _ _) Dg Mx rfl)) (by decide)))
 have ap:a<S.par.length:=L.I.pn.symm▸ha;have bp:b<S.par.length:=L.I.pn.symm▸hb;have tn:∀p∈N.R++[(a,b)],p.1<S.nodes.length/\p.2<S.nodes.length:=fun p hp=>(DA.mp hp).elim (L.tn p) fun h=>by exact J (Eb.mp h) (⟨ha,hb⟩)
 have BG:(N.tell (a,b)).BG<=t+1:=by
  show(N.R++[(a,b)]).length+N.R0.length+N.R1.length<=t+1
  exact J CY (J JK (aA (.a (.a (.a D qW) Y) qY) (.a qX qW) 1 1 (.a (.a D Y) qY) qX (c4 _ _ _ _) Dg rfl))
 refine aI Gi.ho rfl (um g gl zl (df (um g gl zl (dq (i:=1) (l:=[iV a,iV b]) rfl (Dr rfl) (aD rfl (eS Gi.hi (pF O Gi.inj (hA.lb rfl) Gi.H (L.I.hb (aA D (.n 400) 1 1 D (.n 300) (c1 _) hE rfl) (aA D (.n 400) 1 1 D (.n 300) (c1 _) hF rfl)) ap bp (fun e Nd H4 T4=>?_) fun k g h3 h4 h5 h6 h7 X4 Nd VG H4 T4=>?_)))))))
 ·exact iS (N:=N.tell (a,b)) O hA (Gi.Ja Gi.inj H4 (Gi.M.GR Gi.inj Gi.H T4) (T4.both Gi.M)) rfl e0 e1 ((L.I.Hv e).GQ _) (aA D (.n 350) 1 1 D (.n 300) (c1 _) hE rfl) (aA (.a D qW) (.n 350) 1 1 D (.n 300) (c1 _) hF rfl) L.nd tn L.L (AA L.I.pn) L.mem L.plain L.kz h2 hn BG kk
 ·exact iS (N:=N.tell (a,b)) O hA (Gi.Ja VG H4 (Gi.M.GR Gi.inj Gi.H T4) (T4.both Gi.M)) rfl e0 e1 ((L.I.Ga h3 h4 h5 h6 h7).up (Bf _) (G2 _)) (aA D (.n 350) 1 1 D (.n 300) (c1 _) hE rfl) (aA (.a D qW) (.n 350) 1 1 D (.n 300) (c1 _) hF rfl) L.nd tn L.L (AA L.I.pn) L.mem L.plain L.kz h2 hn BG kk
theorem oG(O:(cz ω).Ok)(hA:A7 19 A)(hw:way<2)(P:Ps X τ S qZ N)(L:Ls S qZ E F N z)(hE:E<=300)(hF:F<=300)(h2:2<=S.nodes.length)(hn:S.nodes.length<=n)(h9:n<10)(ht:N.BG<=t)(Mx:t<50)(e0:l0=N.R0.map pV)(e1:l1=N.R1.map pV)(kk:∀p τ,JM E F z (t+1) n p τ->Wr G k K [] p τ):
  Wr G yo (W G k K) [] (Gd N sc (.lst (S.nodes.map nV)) pd a0 a1 l0 l1 u5 u6 (some (iV way)) Ge Gf Gg Gh) τ:=by
 have nl:(S.nodes.map nV).length=S.nodes.length:=Bl _;have Dg:=ht;unfold Kn.BG at Dg;have hx:[iV 0,iV 1][way]? =some (iV way):=by rcases CF hw with rfl|rfl<;>rfl
 refine dq hx (Dr rfl) (cA (az D (.n 1000) 1 1 D Y 1 Y qY 1 (.a qY qW) qR (c3 _ _ _) (AA nl) hn h9 rfl) (aD rfl (bg O (hA.lb rfl) P.x.hand (aH (.a qV qW) D 1 1 Y D 1 qU Y (c2 _ _) (AA nl.symm) h2 rfl) fun a QD ha GY T1=>?_)));have P1:=P.pick T1 GY;refine cA (az D (.n 1000) 1 1 D Y 1 Y qY 1 (.a qY qW) qR (c3 _ _ _) (AA nl) hn h9 rfl) (aD rfl (bg O (hA.lb rfl) P1.x.hand (aA (.a qV qW) D 1 1 (.a Y qW) D (c2 _ _) ha rfl) fun b Kh hb HD T2=>?_));have P2:=P1.pick T2 HD;rw[nl]at ha hb;refine aI P2.lo rfl (aD rfl (eS P2.li (lQ O P2.inj (hA.lb rfl) P2.H (L.I.hb (aA D (.n 400) 1 1 D (.n 300) (c1 _) hE rfl) (aA D (.n 400) 1 1 D (.n 300) (c1 _) hF rfl)) L.I.pn P2.M (L.I.MY L.W) L.L (aH (.a D qW) (.n 50) 1 1 (.a (.a qY D) qX) Y 1 (.a Y qW) (.n 50) (c4 _ _ _ _) Dg Mx rfl) (aH (.a D qW) (.n 50) 1 1 (.a (.a qY qX) D) Y 1 (.a Y qW) (.n 50) (c4 _ _ _ _) Dg Mx rfl) hw (Rv L.I.pn.symm ha) (Rv L.I.pn.symm hb) fun Y' X' Bw v CX H' M' T' L' ht=>?_)));have P3:=P2.Ja CX H' M' (T'.both P2.H);refine aN (.own 0 rfl) (.int _ ax) (lE hw) ?_;subst e0 e1;have z0:(N.R0.map pV).length<=1000:=oa (n:=50) (aH D (.n 50) 1 1 (.a (.a qY D) qX) Y 1 (.a Y qW) (.n 50) (c4 _ _ _ _) Dg Mx rfl) (by decide);have z1:(N.R1.map pV).length<=1000:=oa (n:=50) (aH D (.n 50) 1 1 (.a (.a qY qX) D) Y 1 (.a Y qW) (.n 50) (c4 _ _ _ _) Dg Mx rfl) (by decide);have tt:∀m,(N.pair m (a,b)).BG<=t+1:=fun m=>by
  cases m with
  |zero=>show N.R.length+(N.R0++[(a,b)]).length+N.R1.length<=t+1;exact J CY (J JK (aA (.a (.a D (.a Y qW)) qY) (.a qX qW) 1 1 (.a (.a D Y) qY) qX (c4 _ _ _ _) Dg rfl))
  |succ m=>show N.R.length+N.R0.length+(N.R1++[(a,b)]).length<=t+1;exact J CY (J JK (aA (.a (.a D Y) (.a qY qW)) (.a qX qW) 1 1 (.a (.a D Y) qY) qX (c4 _ _ _ _) Dg rfl))
 rcases CF hw with rfl|rfl
 ·exact aZ (.own 1 rfl) (be (.own 1 rfl) z0 (aF (kk _ _ (.mk X' S Y' (N.pair 0 (a,b)) sc _ pd a0 a1 _ _ _ _ _ _ _ _ _ _ ⟨P3.inj,P3.H,P3.M,P3.hi,P3.li,P3.bi,P3.x⟩ ⟨L.I,L.W,L.nd,L.tn,L',fun k hk=>iD hk (L.mem k hk) (ht.imp id fun h=>⟨rfl,h⟩),L.plain,L.kz⟩ h2 hn (tt 0) rfl (qN _ _ _) rfl))))
 ·exact aZ (.own 2 rfl) (be (.own 2 rfl) z1 (aF (kk _ _ (.mk X' S Y' (N.pair 1 (a,b)) sc _ pd a0 a1 _ _ _ _ _ _ _ _ _ _ ⟨P3.inj,P3.H,P3.M,P3.hi,P3.li,P3.bi,P3.x⟩ ⟨L.I,L.W,L.nd,L.tn,L',fun k hk=>iD hk (L.mem k hk) (ht.imp id fun h=>⟨rfl,h⟩),L.plain,L.kz⟩ h2 hn (tt 1) rfl rfl (qN _ _ _)))))
end
end
section
noncomputable def Lr:Code:=RT.skip.Jk
noncomputable def VK:Code:=mZ.skip.Jk.skip.Jk.skip.Jk
section
variable{c:Cx}{A:Around}{G:Gx c A}{K:List V->Pv->u->Prop}{st:List V}{p:Pv}{U:u}{k:Code}{a b:Addr}{l m:List V}{x:V}
theorem uX(d:Rd p U a (.list l))(d2:Rd p U b (.list m))(hl:l.length+m.length<=1000)(q:Wr G k K (.lst (l++m)::st) p U):WW G (.op (.bin .Add) k) K (.ex (.ref b)::.ex (.ref a)::st) p U:=⟨fun S=>ja (d.at S) (d2.at S) hl (wr q S)⟩
theorem zi{b:Bool}{Aa u':Code}(F:V->u->Prop)(h1:b=true->(∀v τ,F v τ->Wr G k K (v::st) p τ)->Wr G Aa (W G k K) st p U)(h2:b=false->(∀v τ,F v τ->Wr G k K (v::st) p τ)->Wr G u' (W G k K) st p U)(q:∀v τ,F v τ->Wr G k K (v::st) p τ):WW G (.br Aa u' k) K (.ex (.bool b)::st) p U:=eE (fun e=>h1 e q) fun e=>h2 e q
end
theorem QE:Az [(iV 0,Aa),(iV 1,v)] (iV 0)=some Aa:=lE (l:=0) (by decide)
theorem VL:Az [(iV 0,Aa),(iV 1,v)] (iV 1)=some v:=lE (l:=1) (by decide)
section
variable{A:Around}{E F z t n:Nat}{G:Gx (cz ω) A}{k:Code}{K:List V->Pv->u->Prop}{p:Pv}{τ:u}
theorem sD{l:List Node}(h:2<=l.length):V.int (((l.map nV).length:Int)-1)=iV (l.length-1):=AL V.int ((AL (fun n:Nat=>(n:Int)-1) (Bl _)).trans (dc (JE h)))
theorem pk{X:XM}{S:HS}{N:Kn}{st pv:List V}(O:(cz ω).Ok)(hA:A7 19 A)(hi:i<2)(P:Ps X τ S qZ N)(L:Ls S qZ E F N z)(hE:E<=350)(hF:F<=350)(ht:N.BG<=2)(hz:z+126<=900)(e:pv=(N.at_ i).map pV)(h1:n1<S.nodes.length)(h2:n2<S.nodes.length)
  (q:∀N' Bw,Ps X Bw S qZ N'->Ls S qZ E F N' (z+126)->N'.R=N.R/\N'.R0=N.R0/\N'.R1=N.R1->Gd N'=Gd N->Wr G k K st p Bw):
  WW G (.op (.call 4)<|.op .BA<|.op .not<|.br (.op (.val (.ex (.bool false)))<|.ret) .done<|k) K (.tup [iV n1,iV n2]::.lst pv::.lst (S.nodes.map nV)::.ex (.ref (N.cn i).ci)::.ex (.ref 764)::st) p τ:=by
 have c0:=P.ca (EF hi);refine aD rfl (hY O (L.fit hE hF (EF hi) ht) (hA.lb rfl) L.nd c0.1 (L.QC (EF hi)) (AG (HZ (L.kz i (EF hi)) 126) hz) c0.2 (.inl (AL V.lst e)) (L.Lq (EF hi)) h1 h2 fun CE B8 Lo h=>?_);refine Js h fun C3 K3 l3 a3 U3=>?_;clear h;refine ao rfl (aF (q _ Lo (P.Fq hi C3 a3 U3) (L.Fq hi K3 l3) ?_ ?_))
 ·rcases CF hi with rfl|rfl<;>exact⟨rfl,rfl,rfl⟩
 ·rcases CF hi with rfl|rfl<;>rfl
theorem t9(O:(cz ω).Ok)(hA:A7 19 A)(j:JM E F z t n p τ)(hE:E<=350)(hF:F<=350)(VM:t<=2)(h9:n<=900)(hz:z+252<=900)(kk:∀p τ,JM E F (z+252) t n p τ->K [] p τ):Wr G Lr K [] p τ:=by
 induction j with
 |mk X S qZ N sc nv pd a0 a1 l0 l1 u5 u6 Gr Ge Gf Gg Gh τ P L h2 hn ht en e0 e1=>
 subst en e0 e1;have nl:(S.nodes.map nV).length=S.nodes.length:=Bl _;have Dg:=AG ht VM;have QF:=Dg;unfold Kn.BG at QF;refine cA (az D (.n 1000) 1 1 D qY 1 qY Y 1 Y qT (c3 _ _ _) (AA nl) hn h9 rfl) (cA (az D (.n 1000) 1 1 D qY 1 qY Y 1 Y qT (c3 _ _ _) (AA nl) hn h9 rfl) (aD rfl (bg O (hA.lb rfl) P.x.hand (aH (.a qV qW) D 1 1 Y D 1 qU Y (c2 _ _) (AA nl.symm) h2 rfl) fun b QD hb GY T1=>?_)));have hb:=nl▸hb;have P1:=P.pick T1 GY;refine J (sD h2) (bQ (i:=0) rfl (Dr rfl) (aN (.own 0 rfl) (.int _ ax) QE (uX (.AN (P1.at 0 rfl)) (.own 1 rfl) (by exact J (Bl _) (J (Bl _) (aA (.a D Y) (.n 1000) 1 1 (.a (.a D Y) qY) qU (c3 _ _ _) QF rfl))) ?_)));refine pk (i:=0) O hA (by decide) P1 L hE hF Dg (aA (.a D (.n 126)) qT 1 1 (.a D (.n 252)) qT (c1 _) hz rfl) DT.symm (by exact aA (.a D qW) Y 1 1 (.a D qW) Y (c2 _ _) (AA (Ds (aA qW D 1 1 (.a Y qW) D (c2 _ _) hb rfl))) rfl) hb fun N3 Lo P3 L3 e3 hp=>Rv hp ?_;have hs:∀k,k<2->N3.BG<=2:=fun Z Z=>by unfold Kn.BG;exact J e3.1 (J e3.2.1 (J e3.2.2 QF))
 refine bQ (i:=1) rfl (Dr rfl) (aN (.own 0 rfl) (.int _ ax) QE (uX (.AN (P3.at 0 rfl)) (.own 1 rfl) (by exact J (Bl _) (J (Bl _) (J e3.1 (aA (.a D Y) (.n 1000) 1 1 (.a (.a D Y) qY) qU (c3 _ _ _) QF rfl)))) (aN (.own 0 rfl) (.int _ ax) VL (yq (.own 2 rfl) (fun h q=>lD h (by exact J CY (J (Bl _) (J (Bl _) (J (Bl _) (J e3.1 (aA (.a (.a D Y) qY) (.n 1000) 1 1 (.a (.a D Y) qY) qU (c3 _ _ _) QF rfl)))))) q) ?_))));refine pk (i:=1) O hA (by decide) P3 L3 hE hF (hs 0 (by decide)) (by assumption) (by show _=(N3.R++N3.R0++N3.R1).map pV;exact J DT (J DT (J e3.2.1 (J e3.2.2 rfl)))) (by exact aA (.a D qW) Y 1 1 (.a D qW) Y (c2 _ _) (AA (Ds (aA qW D 1 1 (.a Y qW) D (c2 _ _) hb rfl))) rfl) hb fun N4 Nd P4 L4 e4 ZD=>?_;exact Rv ZD (aJ (kk _ _ (.mk X S qZ N4 _ _ _ _ _ _ _ _ _ _ _ _ _ _ _ P4 L4 h2 hn (by unfold Kn.BG;exact J e4.1 (J e4.2.1 (J e4.2.2 (J e3.1 (J e3.2.1 (J e3.2.2 ht)))))) rfl (by exact J e4.2.1 (J e3.2.1 rfl)) (by exact J e4.2.2 (J e3.2.2 rfl)))))
theorem vL(O:(cz ω).Ok)(hA:A7 19 A)(j:JM E F z t n p τ)(hE:E<=350)(hF:F<=350)(VM:t<=2)(h9:n<=900)(hz:z+126<=900)(q:∀p τ,G.R (.ex (.bool true)) p τ):Wr G VK K [] p τ:=by
 induction j with
 |mk X S qZ N sc nv pd a0 a1 l0 l1 u5 u6 Gr Ge Gf Gg Gh τ P L h2 hn ht en e0 e1=>
 subst en e0 e1;have nl:(S.nodes.map nV).length=S.nodes.length:=Bl _;refine cA (az D (.n 1000) 1 1 D qY 1 qY Y 1 Y qT (c3 _ _ _) (AA nl) hn h9 rfl) ?_;have c2:=P.ca (k:=2) (by decide);have e:=sD h2;exact aD (xs:=[.ex (.ref N.c2.ci),.lst (S.nodes.map nV),.ex (.ref N.td),.tup [V.int (((S.nodes.map nV).length:Int)-1),iV 0]]) rfl (J e (hY (R:=N.R) O (L.fit hE hF (k:=2) (by decide) (AG ht VM)) (hA.lb rfl) L.nd c2.1 (L.QC (k:=2) (by decide)) (AG (HZ (L.kz 2 (by decide)) 126) hz) c2.2 (.inr ⟨_,rfl,P.at 0 rfl⟩) (L.Lq (k:=2) (by decide)) (by lia) (aA (.a qV qW) D 1 1 qU D (c1 _) h2 rfl) fun CE B8 Lo h=>aQ (q _ _)))
theorem sH(O:(cz ω).Ok)(hA:A7 19 A)(j:JM 110 5 0 0 5 p τ)(q:∀p τ,G.R (.ex (.bool true)) p τ):Wr G (mZ.skip.Jk.skip.Jk.skip) K [.int 3] p τ:=by
 refine oj (n:=3) (by decide) (by decide) (fun k=>JM (110+22*k) (5+k) (252*k) (k-1) (5+k)) j (fun k x p τ hx j=>?_) fun p τ j=>vL O hA j (by decide) (by decide) (by decide) (by decide) (by decide) q;refine A5 (bz hx) fun hk C6=>J C6 ?_;have hk:k<3:=hk
 induction j with
 |mk X S qZ N sc nv pd a0 a1 l0 l1 u5 u6 Gr Ge Gf Gg Gh τ P L h2 hn ht en e0 e1=>
 refine J en ?_;have rest:∀p τ,JM (110+22*k+22) (5+k+1) (252*k) k (5+k+1) p τ->Wr G Lr (fun Z p U=>True/\JM (110+22*(k+1)) (5+(k+1)) (252*(k+1)) (k+1-1) (5+(k+1)) p U) [] p τ:=fun p τ j=>t9 O hA j (by exact aA (.a (.a (.n 110) (.m 22 D)) (.n 22)) (.n 350) 1 22 (.a D qW) qS (c1 _) hk rfl) (aA (.a (.a (.n 5) D) qW) (.n 350) 1 1 (.a D qW) qS (c1 _) hk rfl) (aA D qU 1 1 (.a D qW) qS (c1 _) hk rfl) (aA (.a (.a (.n 5) D) qW) qT 1 1 (.a D qW) qS (c1 _) hk rfl) (aA (.a (.m 252 D) (.n 252)) qT 1 252 (.a D qW) qS (c1 _) hk rfl) fun p τ j=>⟨Al,j.up (Bf _) (Bf _) (Bf _) (Bf _)⟩
 refine zi (fun v Bw=>∃way:Nat,v=iV way/\Ps X Bw S qZ N/\(k=0->way=4)) (fun e kk=>aD rfl (bg O (hA.lb rfl) P.x.hand (many:=4) (by decide) fun way QD hw hh T=>aF (kk _ _ ⟨way,rfl,P.pick T hh,fun h=>?_⟩))) (fun e kk=>aF (kk _ _ ⟨4,rfl,P,fun Z=>rfl⟩)) fun v QD h=>?_
 ·have:=Fc e
  lia
 refine B4 h fun way CK P hw=>?_;clear h;refine J CK (eE (fun e=>?_) fun e=>eE (fun e2=>?_) fun e2=>eE (fun e3=>?_) fun e3=>aF (aF (aF ?_)))
 ·have e:=Fc e
  exact oG (t:=k-1) O hA (way:=way) (by lia) P L (aA (.a (.n 110) (.m 22 D)) (.n 300) 1 22 (.a D qW) qS (c1 _) hk rfl) (aA (.a (.n 5) D) (.n 300) 1 1 (.a D qW) qS (c1 _) hk rfl) h2 hn (aA (.a (.a (.n 5) D) qW) qR 1 1 (.a D qW) qS (c1 _) hk rfl) ht (aH (.a D qW) (.n 50) 1 1 D Y 1 (.a Y qW) qS (c2 _ _) (Nj _ _) hk rfl) e0 e1 fun p τ j=>rest p τ (j.up (Ea _ _) (Ea _ _) (by lia) (Ea _ _))
 ·have e2:=iW (b:=2) e2
  exact qf (t:=k-1) O hA P L (aA (.a (.n 110) (.m 22 D)) (.n 300) 1 22 (.a D qW) qS (c1 _) hk rfl) (aA (.a (.n 5) D) (.n 300) 1 1 (.a D qW) qS (c1 _) hk rfl) h2 hn (aA (.a (.a (.n 5) D) qW) qR 1 1 (.a D qW) qS (c1 _) hk rfl) ht e0 e1 fun p τ j=>aF (rest p τ (j.up (Bf _) (Bf _) (aA D Y 1 1 D Y (c2 _ _) (Nj _ _) rfl) (Bf _)))
 ·have e3:=iW (b:=3) e3
  exact qh (t:=k-1) O hA P L (aA (.a (.n 110) (.m 22 D)) (.n 300) 1 22 (.a D qW) qS (c1 _) hk rfl) (aA (.a (.n 5) D) (.n 300) 1 1 (.a D qW) qS (c1 _) hk rfl) h2 hn (aA (.a (.a (.n 5) D) qW) qR 1 1 (.a D qW) qS (c1 _) hk rfl) ht (aH D (.n 50) 1 1 D Y 1 (.a Y qW) qS (c2 _ _) (Nj _ _) hk rfl) e0 e1 fun p τ j=>aF (aF (rest p τ (j.up (Ea _ _) (Bf _) (by lia) (Ea _ _))))
 ·exact rest _ _ (JM.up (.mk X S qZ N _ _ _ _ _ _ _ _ _ _ _ _ _ _ _ P L h2 hn ht rfl e0 e1) (Ea _ _) (Ea _ _) (aA D Y 1 1 D Y (c2 _ _) (Nj _ _) rfl) (Ea _ _))
end
end
section
set_option genInjectivity false
noncomputable def QG:Code:=mZ.skip.Jk.skip.Jk
structure HX(X:XM)(τ:u)(S:HS)(hi hd td:Addr)(E F:Nat):Prop where
 inj:Inj X
 H:Af X τ S
 Li:X .hi=hi
 I:HI E F [] (fun Z=>False) S
 W:S.waiting=[]
 nd:S.nodes.Nodup
 hand:Bv τ hd
 Lu:τ td=some (.list [])
 ap:∀m,S.has m->X m≠hd/\X m≠td
 ne:td≠hd
theorem eC:∀p∈dput [] (iV 0) v,∃j,p.1=V.int j:=fun p hp=>by cases Eb.mp hp;exact⟨_,rfl⟩
theorem VN:(Az (dput [] (iV 0) v) (.int (((1:Nat):Int)-1))).isSome=true:=by
 show(Az [(iV 0,v)] (iV 0)).isSome=true
 simp[Az]
theorem uT:dput [(iV 0,Aa)] (iV 1) v=[(iV 0,Aa),(iV 1,v)]:=by simp[dput]
theorem eJ:dput (dput [] (iV 0) Aa) (iV 1) v=[(iV 0,Aa),(iV 1,v)]:=uT
theorem yF{S:HS}(h:S.has m):m.num.1<20:=HS.hc (P:=fun m=>m.num.1<20) (fun a h=>EL h (by decide)) (fun Z Z=>Dr (n:=19) (m:=20) rfl) (fun Z Z=>Dr (n:=20) (m:=20) rfl) m h
theorem LI.start{S:HS}{E F:Nat}(I:HI E F [] (fun Z=>False) S)(W:S.waiting=[]):LI [] [] [] S ⟨List.range S.nodes.length,List.range S.nodes.length,[],[],0⟩:=by
 have low:Dc (List.range S.nodes.length):=fun a=>by exact J (cJ _ _) (Bf _)
 have fr:∀c,find (List.range S.nodes.length) c=c:=fun c=>aT (cJ _ _);have f0:(⟨List.range S.nodes.length,List.range S.nodes.length,[],[],0⟩:LS).F S 0=S.f:=by funext n;exact fr _
 have f1:(⟨List.range S.nodes.length,List.range S.nodes.length,[],[],0⟩:LS).F S 1=S.f:=by funext n;exact(fr _).trans (fr _)
 have len:(List.range S.nodes.length).length=S.par.length:=by exact J Ek (J I.pn rfl)
 refine⟨⟨low,low,len,len⟩,⟨rfl,fun i v h=>nomatch h⟩,⟨rfl,fun i v h=>nomatch h⟩,nofun,nofun,DS _,DS _,?_,?_⟩
 ·exact J f0 (I.MY W)
 ·exact J f1 (I.MY W)
noncomputable def Code.drop:Nat->Code->Code
 |0,c=>c
 |n+1,.op _ k=>k.drop n
 |_,c=>c
noncomputable def Y0(S:HS):LS:=⟨List.range S.nodes.length,List.range S.nodes.length,[],[],0⟩
structure W6(X:XM)(τ:u)(S:HS)(hd td:Addr)(E F:Nat):Prop where
 inj:Inj X
 H:Af X τ S
 M:aK X τ (Y0 S)
 I:HI E F [] (fun Z=>False) S
 W:S.waiting=[]
 nd:S.nodes.Nodup
 hand:Bv τ hd
 Lu:τ td=some (.list [])
 ap:∀m,hh S m->X m≠hd/\X m≠td
 ne:td≠hd
theorem wI:K4 [] [(iV 0,Aa),(iV 1,v)]:=⟨.int _ (fun p hp=>nomatch hp),.int _ eC,Al⟩
theorem Ps.start{X:XM}{S:HS}{E F:Nat}{N:Kn}(B:W6 X τ S hd td E F)(M:Nw τ L)(h1:N.hd=hd)(h2:X .hi=N.hi)(h3:X .li=N.li)(h4:X .bi=N.bi)(e:N.ob=(td,.list [])::L):Ps X (Bx L τ) S (Y0 S) N:=by
 subst h1;obtain⟨dh,VO⟩:∃d,τ N.hd=some d:=let⟨_,_,_,e,_⟩:=B.hand;⟨_,e⟩
 refine⟨B.inj,B.H.le M.le,B.M.le M.le,h2,h3,h4,?_⟩;refine J e (⟨B.hand.keep fun o e=>M.le _ _ e,CQ.mpr ⟨fun m=>?_,CQ.mpr ⟨fun m=>?_,M.nd⟩⟩,fun p m=>?_,fun m hm=>⟨(B.ap m hm).1,fun p hp=>?_⟩⟩)
 ·refine Or.elim (BP.mp m) (fun e=>?_) fun m=>?_
  ·exact B.ne e.symm
  ·have VO:=(M.out _ m)▸VO;injection VO
 ·have:=B.Lu
  have this:=(M.out _ m)▸this;injection this
 ·rcases BP.mp m with rfl|m
  ·exact M.le _ _ B.Lu
  ·exact cZ M.nd m
 ·rcases BP.mp hp with rfl|hp
  ·exact(B.ap m hm).2
  ·exact fun e=>hm.elim (fun h=>B.H.val m h (e▸M.out _ (MD hp))) fun h=>B.M.val m h (e▸M.out _ (MD hp))
section
variable{A:Around}{X:XM}{τ:u}{S:HS}{E F:Nat}{G:Gx (cz ω) A}{K:List V->Pv->u->Prop}{hd td:Addr}{sc:V}{u5 u6 u7 u8 u9 DV Hf W7 Gr Ge Gf Gg Gh:Option V}
theorem uj(O:(cz ω).Ok)(hA:A7 19 A)(B:W6 X τ S hd td E F)(hE:E<=110)(hF:F<=5)(h2:2<=S.nodes.length)(hn:S.nodes.length<=5)(q:∀p τ,G.R (.ex (.bool true)) p τ):
  Wr G (QG.drop 13) K [iV 1] ⟨[some sc,some (.ex (.ref hd)),some (.ex (.ref (X .hi))),some (.lst (S.nodes.map nV)),some (.ex (.ref td)),u5,u6,some (.ex (.ref (X .li))),some (iV 0),u9,DV,Hf,W7,Gr,Ge,Gf,Gg,Gh],[]⟩ τ:=by
 refine oU fun pd Z=>mi rfl fun a0 Z=>mi rfl fun a1 Z=>og rfl wI (.own 0 rfl) ?_;refine J (show cj [] (ig [iV 0,V.ex (.ref a0),iV 1,V.ex (.ref a1)])=[(iV 0,.ex (.ref a0)),(iV 1,.ex (.ref a1))]from eJ) (aD rfl (de O (hA.lb rfl) fun d2 c2 k2 N2=>?_));have H2:=B.H.le N2.le;have M2:=B.M.le N2.le;refine aD rfl (ma (l:=0) O (hA.lb rfl) H2 M2 fun d0 v0 N3=>aD rfl (de O (hA.lb rfl) fun e0 c0 k0 N4=>?_));have N5:=(N2.app N3).app N4;refine aD rfl (ma (l:=1) O (hA.lb rfl) (B.H.le N5.le) (B.M.le N5.le) fun d1 v1 N6=>aD rfl (de O (hA.lb rfl) fun e1 c1 k1 N7=>dE rfl ?_));have N8:=(N5.app N6).app N7;have PP:=Ps.start (N:=⟨hd,X .hi,X .li,X .bi,td,v0,d0,v1,d1,[],[],[],⟨c0,e0,k0,.ex .none,[]⟩,⟨c1,e1,k1,.ex .none,[]⟩,⟨c2,d2,k2,.ex .none,[]⟩⟩) B N8 rfl rfl rfl rfl rfl;exact sH O hA (.mk X S (Y0 S) _ sc _ pd a0 a1 [] [] u5 u6 Gr Ge Gf Gg Gh _ PP ⟨B.I.up hE hF,B.W,B.nd,nofun,.start B.I B.W,all2 (.inl rfl) (.inl rfl),rfl,y9 (Bf _) (Bf _) (Bf _)⟩ h2 hn (Bf _) rfl rfl rfl) q
theorem xB(O:(cz ω).Ok)(hA:A7 19 A)(B:HX X τ S (X .hi) hd td E F)(hE:E<=110)(hF:F<=5)(h2:2<=S.nodes.length)(hn:S.nodes.length<=5)(q:∀p τ,G.R (.ex (.bool true)) p τ):
  Wr G QG K [] ⟨[some sc,some (.ex (.ref hd)),some (.ex (.ref (X .hi))),some (.lst (S.nodes.map nV)),some (.ex (.ref td)),u5,u6,u7,u8,u9,DV,Hf,W7,Gr,Ge,Gf,Gg,Gh],[]⟩ τ:=by
 refine aD rfl (oE O (hA.lb rfl) fun d x b1 b2 b3 b4 N=>aI (N.o 1 0 rfl rfl) rfl (aD rfl (j9 (k:=0) O (hA.lb rfl) B.H N nofun nofun nofun nofun (DS _) (DS _) (DS _) (DS _) (.inl rfl) fun t0 y0 N=>?_)));refine aI (N.o 1 0 rfl rfl) rfl (aD rfl (j9 (k:=1) O (hA.lb rfl) B.H N eC eC eC eC (Ft (Dr rfl)) (Dr rfl) (Dr rfl) (Dr rfl) (.inr VN) fun t1 y1 N=>?_));rw[eJ,eJ,eJ,eJ]at N ⊢;obtain⟨X1,ZE,hp,hm⟩:=XM.more B.inj [(.ld,d),(.li,x),(.beneath,b1),(.told,b2),(.Bz,b3),(.B1,b4),(.A0 0,t0),(.way 0,y0),(.A0 1,t1),(.way 1,y1)] (SV (S:=(·≠ ·)) Lb.num (fun a b h e=>h (AL _ e)) (show(List.map Lb.num [.ld,.li,.beneath,.told,.Bz,.B1,.A0 0,.way 0,.A0 1,.way 1]).Pairwise (·≠ ·) by decide)) N.nd;have hH:∀m,S.has m->X1 m=X m:=fun m hs=>hm m fun p En=>⟨fun e=>H0.mpr (Fc (H8.mp (show(List.all [(Lb.ld,d),(.li,x),(.beneath,b1),(.told,b2),(.Bz,b3),(.B1,b4),(.A0 0,t0),(.way 0,y0),(.A0 1,t1),(.way 1,y1)] fun p=>decide (20<=p.1.num.1))=true from rfl) p En)) (e▸yF hs),fun e=>B.H.val m hs (e▸N.out _ (MD (f:=fun p:Lb×Addr=>p.2) En))⟩
 have e0:X1 (.ld)=d:=hp _ (BW (i:=0) rfl);have e1:X1 (.li)=x:=hp _ (BW (i:=1) rfl);have e2:X1 (.beneath)=b1:=hp _ (BW (i:=2) rfl);have e3:X1 (.told)=b2:=hp _ (BW (i:=3) rfl);have e4:X1 (.Bz)=b3:=hp _ (BW (i:=4) rfl);have e5:X1 (.B1)=b4:=hp _ (BW (i:=5) rfl);have e6:X1 (.A0 0)=t0:=hp _ (BW (i:=6) rfl);have e7:X1 (.way 0)=y0:=hp _ (BW (i:=7) rfl);have e8:X1 (.A0 1)=t1:=hp _ (BW (i:=8) rfl);have e9:X1 (.way 1)=y1:=hp _ (BW (i:=9) rfl);clear hp hm;subst e0 e1 e2 e3 e4 e5 e6 e7 e8 e9;have eh:=hH .hi Al;have eb:=hH .bi Al;refine tY (F:=fun Bw=>τ.le Bw/\aK X1 Bw (Y0 S)) ⟨N.le,N.at 1 rfl,(N.at 0 rfl).trans (by exact Rv eh rfl),N.at 2 rfl,N.at 3 rfl,N.at 4 rfl,N.at 5 rfl,N.at 6 rfl,N.at 8 rfl,⟨[],N.at 7 rfl,WD.fresh _⟩,⟨[],N.at 9 rfl,WD.fresh _⟩⟩ fun Bw h=>?_;refine Rv eh (uj O hA ⟨ZE,B.H.move hH fun m o Z e=>h.1 _ _ e,h.2,B.I,B.W,B.nd,B.hand.keep fun o e=>h.1 _ _ e,h.1 _ _ B.Lu,fun m hm=>?_,B.ne⟩ hE hF h2 hn q)
 rcases hm with hm|hm
 ·exact J (hH m hm) (B.ap m hm)
 ·have z:τ (X1 m)=none:=by have out:=fun i {p:Addr×Mine.Internal.O} h=>N.out p.1 (BF.mpr ⟨p,BW (i:=i) h,rfl⟩);exact LS.hc (P:=fun m=>τ (X1 m)=none) (af (af (af (af (af (af lq (out 1 rfl)) (out 0 rfl)) (out 2 rfl)) (out 3 rfl)) (out 4 rfl)) (out 5 rfl)) (af (af lq (out 6 rfl)) (out 8 rfl)) (af (af lq (out 7 rfl)) (out 9 rfl)) m hm
  exact LN B.hand fun Z Z Z e Z=>⟨(aE e z).symm,(aE B.Lu z).symm⟩
end
noncomputable def ab(k:Nat):List Node:=[(Ai "a",[]),(Ai "b",[])].take k
theorem y5{k:Nat}(h:(ab 2)[k]? =some nd):∃x,nd=(x,[])/\DP x/\(x,[])∉ab k/\ab (k+1)=ab k++[(x,[])]/\k<2:=by
 match k,h with
 |0,h=>obtain rfl:=BC h;exact⟨_,rfl,zO,JN,rfl,by decide⟩
 |1,h=>obtain rfl:=BC h;exact⟨_,rfl,yc,by decide+kernel,rfl,by decide⟩
 |k+2,h=>injection h
theorem ut:∀k,k<=2->(ab k).Nodup:=fun k hk=>by rcases Jt (QT hk)with rfl|rfl|rfl<;>decide+kernel
theorem xz(h:k<=2):(ab k).length=k:=by rcases Jt (QT h)with rfl|rfl|rfl<;>rfl
section
variable{X X':XM}{S S':HS}{E F E' F':Nat}
theorem HX.GR(h:HX X τ S hi hd td E F)(T:Bi X S τ X' S' Bw)(CX:Inj X')(H':Af X' Bw S')(I':HI E' F' [] (fun Z=>False) S')(W':S'.waiting=[])(PB:S'.nodes.Nodup):HX X' Bw S' hi hd td E' F':=by
 obtain⟨d,ZF⟩:∃d,τ hd=some d:=let⟨_,_,_,e,_⟩:=h.hand;⟨_,e⟩
 exact⟨CX,H',(T.lb .hi Al (h.H.val .hi Al)).trans h.Li,I',W',PB,h.hand.keep fun o e=>(T.keep e fun m hm=>(h.ap m hm).1).1,(T.keep h.Lu fun m hm=>(h.ap m hm).2).1,fun m hm=>⟨(T.keep ZF fun m hm=>(h.ap m hm).1).2 m hm,(T.keep h.Lu fun m hm=>(h.ap m hm).2).2 m hm⟩,h.ne⟩
theorem HX.upd(h:HX X τ S hi hd td E F)(T:Upd hd τ Bw)(hh:Bv Bw hd):HX X Bw S hi hd td E F:=
 ⟨h.inj,h.H.upd (fun m hm=>(h.ap m hm).1) T,h.Li,h.I,h.W,h.nd,hh,T _ _ h.ne h.Lu,h.ap,h.ne⟩
theorem HX.ho(h:HX X τ S hi hd td E F):Obj τ hi 487 (Fy X):=h.Li▸h.H.o
end
inductive z6(sc:V)(hi hd td:Addr)(k:Nat):Pv->u->Prop
 |mk (X:XM) (S:HS) (u5:Option V) (τ:u) (B:HX X τ S hi hd td (22*k) k) (hn:S.nodes=ab k):z6 sc hi hd td k ⟨[some sc,some (.ex (.ref hd)),some (.ex (.ref hi)),some (.lst ((ab 2).map nV)),some (.ex (.ref td)),u5,none,none,none,none,none,none,none,none,none,none,none,none],[]⟩ τ
inductive QH(sc:V)(hi hd td:Addr)(k:Nat):Pv->u->Prop
 |mk (X:XM) (S:HS) (u5 u6:Option V) (nv:V) (τ:u) (B:HX X τ S hi hd td (44+22*k) (2+k)) (en:nv=.lst (S.nodes.map nV)) (h2:2<=S.nodes.length) (hn:S.nodes.length<=2+k):QH sc hi hd td k ⟨[some sc,some (.ex (.ref hd)),some (.ex (.ref hi)),some nv,some (.ex (.ref td)),u5,u6,none,none,none,none,none,none,none,none,none,none,none],[]⟩ τ
theorem yz{A:Around}{U:u}{Q:V->u->Prop}(O:(cz ω).Ok)(hA:A7 20 A){Be:List Int}(hs:Be.length<=63)(q:∀Ac,Q (.ex (.bool true)) Ac):aR (cz ω) A (.ref 776) [.lst (Be.map .int)] Q U:=by
 refine(YD _).go O hA rfl fun hA G hG hR=>aD rfl (wx O (hA.lb rfl) hs fun hd Jg ZG Qa GY=>aD rfl (se O (hA.lb rfl) fun X Hz hX H2 HV fr=>dE rfl (cg rfl fun td QI=>?_)));have HD:Bv Hz hd:=GY.keep fun o e=>HV _ _ e;have Z0:HX X (Hz.set td (.list [])) HS.none (X .hi) hd td 0 0:=⟨hX,H2.other (H2.apart QI),rfl,HI.none,rfl,FG,HD.keep fun o e=>aB (aE e QI) e,u.set_same _ _ _,fun m hm=>⟨(let⟨_,_,_,e,_⟩:=GY;(aE e (fr m hm)).symm),H2.apart QI m hm⟩,(let⟨_,_,_,e,_⟩:=HD;(aE e QI).symm)⟩
 clear GY HD H2 fr Qa HV ZG QI hX;generalize X .hi=hi at*;refine cS .lst (z6 (.lst (Be.map .int)) hi hd td) (.mk X _ none _ Z0 rfl) (fun k x p τ hx j=>?_) fun p τ j=>?_
 ·induction j with
  |mk X S u5 τ B hn=>
  refine An (El.mp (Cs.symm.trans hx:Option.map nV (ab 2)[k]? =some x)) fun nd DW BX=>?_;refine Rv BX (W9 (y5 DW) fun x CK ok Cb Lg hk=>J CK ?_);have hl:S.nodes.length=k:=hn▸xz (Dt hk);refine aI B.ho rfl (aD rfl (eS B.Li (sO O B.inj (hA.lb rfl) B.H B.I B.W (aA (.m 22 D) (.n 350) 1 22 (.a D qW) qU (c1 _) hk rfl) (aA D (.n 350) 1 1 (.a D qW) qU (c1 _) hk rfl) ok (aH (.a D qW) qR 1 1 D Y 1 (.a Y qW) qU (c2 _ _) (AA hl) hk rfl) (J hn Cb) fun S' X' Ac I' hN M5 CX H' T'=>aJ ⟨Al,?_⟩)));have EZ:S'.nodes=ab (k+1):=hN.trans (by exact J Lg (J hn rfl));exact .mk X' S' _ _ (B.GR T' CX H' I' M5 (EZ▸ut _ hk)) EZ
 ·induction j with
  |mk X S u5 τ B hn=>
  refine aD rfl (bg O (hA.lb rfl) B.hand (many:=2) (by decide) fun r QD hr hh T=>?_);have B:=B.upd T hh;have hl:S.nodes.length=2:=hn▸rfl;refine oj (by lia) (Jq _) (QH (.lst (Be.map .int)) hi hd td) (.mk X S u5 none _ _ B (AL (fun l=>V.lst (l.map nV)) hn.symm) (AA hl.symm) (AA hl)) (fun k x p τ hx j=>?_) fun p τ j=>?_
  ·refine A5 (bz hx) fun hk Z=>?_
   have hk:k<3:=by lia
   induction j with
   |mk X S u5 u6 nv τ B en h2 hn=>
   subst en;refine aD rfl (j7 B.Li (eP O B.inj (hA.lb rfl) B.H B.I B.W (aA (.a (.n 44) (.m 22 D)) (.n 350) 1 22 (.a D qW) qS (c1 _) hk rfl) (aA (.a qU D) (.n 350) 1 1 (.a D qW) qS (c1 _) hk rfl) (aH (.a D qW) qR 1 1 D (.a qU Y) 1 (.a Y qW) qS (c2 _ _) hn hk rfl) (aA (.a qV qW) D 1 1 qU D (c1 _) h2 rfl) B.hand (fun m hm=>(B.ap m hm).1) fun Jg S' X' Ac U1 GY I' M5 VI CX H' Rz ZC T'=>aJ ⟨Al,?_⟩));obtain⟨nd,hd2,VJ⟩:S'.nodes.Nodup/\S.nodes.length<=S'.nodes.length/\S'.nodes.length<=S.nodes.length+1:=hO B.nd VI;exact .mk X' S' _ _ _ _ ((B.upd U1 GY).GR T' CX H' (I'.up (Bf _) (Bf _)) M5 nd) rfl (AG h2 hd2) (aH D (.a qU (.a Y qW)) 1 1 qY (.a qU Y) 1 D (.a qY qW) (c3 _ _ _) hn VJ rfl)
  ·rw[a7]at j
   induction j with
   |mk X S u5 u6 nv τ B en h2 hn=>
   subst en;obtain rfl:=B.Li;exact xB O hA B (by lia) (by lia) h2 (by lia) fun p τ=>hR _ _ _ (q τ)
end
set_option Elab.async true
namespace main
def tw7702791833037104799:=True
def tw17607595878320876304:=True
def tw2312718437520694500:=True
def tw5905639334507565292:=True
def tw17308142197102823795:=True
def tw12319110548399356725:=True
def tw6180718391147100281:=True
def tw12003571392770598233:=True
def tw7311338556147501684:=True
def tw10023216429234749859:=True
def tw10026324368725887992:=True
def tw10040650592145808960:=True
def tw10043645473394411141:=True
def tw10046393564091023420:=True
def tw10046727809161031378:=True
def tw10053362868999418749:=True
def tw10069043383181002187:=True
def tw10149069435098878876:=True
def tw10180515696109083177:=True
def tw1025130396011242515:=True
def tw10271462561417333343:=True
def tw10278875301165399962:=True
def tw10297972270295956009:=True
def tw10308895420299081216:=True
def tw10309699142624141507:=True
def tw10322969633853836883:=True
def tw10328587823670452498:=True
def tw10347165607039768325:=True
def tw1038547464879363397:=True
def tw10385684711634392909:=True
def tw10390374173888912449:=True
def tw10434708572517896522:=True
def tw10440920105907014920:=True
def tw10443595952217078693:=True
def tw10444647068345236073:=True
def tw10449081240674187200:=True
def tw10480133599824989816:=True
def tw10492438308582190394:=True
def tw10498526579032192438:=True
def tw10517235262075802054:=True
def tw10523394492770496998:=True
def tw10560464971613371954:=True
def tw10583265868896537019:=True
def tw1062289972186488545:=True
def tw10653169788537623322:=True
def tw10687909447789387113:=True
def tw1068812231199707816:=True
def tw10694066461022140834:=True
def tw10695546567524401486:=True
def tw10708572090822529050:=True
def tw1073955365300943949:=True
def tw10758804782543124382:=True
def tw1078662318413408276:=True
def tw1079905461274796363:=True
def tw10799424930603608796:=True
def tw10815909221013692612:=True
def tw10833408379140661266:=True
def tw10839992949745929630:=True
def tw10871283571528544395:=True
def tw10871293036084005087:=True
def tw10916717783038204558:=True
def tw10926241578131026219:=True
def tw10934798296316075956:=True
def tw10938402098977778470:=True
def tw11005193663938795516:=True
def tw11012129470220845136:=True
def tw11032920973336576581:=True
def tw11034916536091838146:=True
def tw11043172894279154955:=True
def tw11055816845053089408:=True
def tw11077452524935443869:=True
def tw11110832240473757052:=True
def tw111125614747484135:=True
def tw11116706314288256233:=True
def tw11118022616448068574:=True
def tw111231791877217785:=True
def tw1112963673480286534:=True
def tw11188727169584135823:=True
def tw11209188420962459506:=True
def tw11287953397327612774:=True
def tw11298728380432393515:=True
def tw11299022181482971071:=True
def tw1130109773739384056:=True
def tw11343196335435003072:=True
def tw11343223855656382485:=True
def tw11391020510418979679:=True
def tw11433839876275594823:=True
def tw11443288096424721517:=True
def tw11448136090814059330:=True
def tw11481020460698763666:=True
def tw11527100260467649386:=True
def tw11537956683338630383:=True
def tw11543472635058493794:=True
def tw11573176164066078722:=True
def tw11575372170564075653:=True
def tw11601682451327219109:=True
def tw11604271529852985930:=True
def tw11605412728090389508:=True
def tw11613439357962438320:=True
def tw1162353465806818218:=True
def tw11638875634453789168:=True
def tw11646022107631321490:=True
def tw11648469112263746088:=True
def tw11651895032536297775:=True
def tw11656252529945786486:=True
def tw11665721926869280828:=True
def tw11680215110899198993:=True
def tw11730083312531907618:=True
def tw11745012251463277581:=True
def tw11751638361083799241:=True
def tw11760354278640644859:=True
def tw117865787843134301:=True
def tw11804117523773053968:=True
def tw11822278912455534105:=True
def tw11830923810597764417:=True
def tw11888923222419618904:=True
def tw11897676272438511658:=True
def tw11910221601743685753:=True
def tw11913848286851280485:=True
def tw11915975209450370505:=True
def tw11923579568519453046:=True
def tw11926908473165273671:=True
def tw11985843751818611632:=True
def tw12022603931562804212:=True
def tw12028935686920467596:=True
def tw12053484555890235767:=True
def tw12055929568288920360:=True
def tw12057684487817480140:=True
def tw12083584854881789436:=True
def tw12097270978576341016:=True
def tw12105363282288363319:=True
def tw12112399904496239578:=True
def tw12127353596698212756:=True
def tw12144329760196138050:=True
def tw12148787975849213767:=True
def tw12184192518910918996:=True
def tw12186387220061091099:=True
def tw12194534445530816912:=True
def tw12195588698423795295:=True
def tw12235109030325827999:=True
def tw12246392102278154071:=True
def tw12253984699551225856:=True
def tw12254554216366044628:=True
def tw12266321265796822618:=True
def tw1227082755455209162:=True
def tw12290903976309136502:=True
def tw12291804085094793745:=True
def tw12294913915507317621:=True
def tw12339486633059267018:=True
def tw12370082323872129008:=True
def tw12382416113807773583:=True
def tw12405428267636687703:=True
def tw12425137391138224907:=True
def tw12435918809077080684:=True
def tw12443200472840579779:=True
def tw12453483116619877857:=True
def tw12456801561626644367:=True
def tw12476972291821639335:=True
def tw12493883692557333044:=True
def tw12494496518044278946:=True
def tw1251932400071406003:=True
def tw12529423308544993278:=True
def tw12566714432673101547:=True
def tw12577089576051996047:=True
def tw12677194279139255481:=True
def tw12681416834507466817:=True
def tw12685957366688819421:=True
def tw1270448612280252068:=True
def tw12719230891847962442:=True
def tw12719672853640835143:=True
def tw12724878309271642292:=True
def tw12756708965680825608:=True
def tw12793961455207843180:=True
def tw12820903949589551787:=True
def tw12830911758012122131:=True
def tw1283526657002427284:=True
def tw1284343163701477698:=True
def tw1284967617690943513:=True
def tw12853229823045751768:=True
def tw12857639022058571948:=True
def tw12866327798292885407:=True
def tw12872673566709696761:=True
def tw12884846405606864888:=True
def tw12917821375779496827:=True
def tw12930125569691871565:=True
def tw12967587422831333594:=True
def tw12968591962578011314:=True
def tw12970252948059191858:=True
def tw12985563455672729498:=True
def tw13012077393380208514:=True
def tw13025341945748906136:=True
def tw13036930404576180707:=True
def tw1303870235021155574:=True
def tw13046646069208072009:=True
def tw13057296419399843006:=True
def tw13082016621023770337:=True
def tw13090235224947412142:=True
def tw13096562468588436678:=True
def tw13105467095038062303:=True
def tw13119030871068887809:=True
def tw13120829950233360018:=True
def tw13121950329725443542:=True
def tw13123296091798268284:=True
def tw13142099442745301093:=True
def tw13150642230695257992:=True
def tw13155686724948042960:=True
def tw13173194763038928779:=True
def tw13175212335891660237:=True
def tw13176017210958811282:=True
def tw13234269625008490304:=True
def tw13261660738576256540:=True
def tw13273283706769089801:=True
def tw1331712731051393203:=True
def tw13320777612471585035:=True
def tw13323652809882095824:=True
def tw13337567399299638939:=True
def tw13342351911977509785:=True
def tw13393594064635449608:=True
def tw1339686672531063493:=True
def tw13404827177951782280:=True
def tw13432973819337260183:=True
def tw13433434403654333388:=True
def tw13435976712825821128:=True
def tw13437355924590775721:=True
def tw13442519625005806600:=True
def tw13517744194886268553:=True
def tw13525269375820829941:=True
def tw13526917470146073910:=True
def tw13535308556146904540:=True
def tw13538414902891089991:=True
def tw13560165558294956042:=True
def tw13562436471200600701:=True
def tw13580096092930110239:=True
def tw13600565011557826895:=True
def tw13612386364232354495:=True
def tw13621330554479564797:=True
def tw13639637540710378271:=True
def tw13670416772910508549:=True
def tw13681261787169959198:=True
def tw13681423632140699375:=True
def tw13685464850760795979:=True
def tw13742246020466748627:=True
def tw13750510376383286988:=True
def tw13761123172137178225:=True
def tw13783381036380690036:=True
def tw13790279956208770657:=True
def tw13791738579797958002:=True
def tw13814721228485765036:=True
def tw1381488885977479087:=True
def tw1382604328053016238:=True
def tw13834035904778713892:=True
def tw13866156564276429082:=True
def tw13871052462740130076:=True
def tw13889870629125409607:=True
def tw13898727854132262300:=True
def tw1390720707977671279:=True
def tw1391527577248789681:=True
def tw13934254615512129870:=True
def tw14006705621855905977:=True
def tw14070985297238078344:=True
def tw14084985943505131202:=True
def tw14116783088108353342:=True
def tw14120260080095136841:=True
def tw14129796398099195522:=True
def tw14131743086799626953:=True
def tw14137382522845584548:=True
def tw1417174764347108541:=True
def tw1419027338852513248:=True
def tw14230426198074974781:=True
def tw1426165739836719336:=True
def tw14263429483411347241:=True
def tw14264086618007833982:=True
def tw14264771151246065232:=True
def tw14279578667054351857:=True
def tw14292037427810857913:=True
def tw14295980150073339262:=True
def tw14319998408292451620:=True
def tw1432834438766924960:=True
def tw14347226246240139161:=True
def tw14414331312064600839:=True
def tw14415632762500767900:=True
def tw14417502097949002917:=True
def tw144493426572079916:=True
def tw144500467268121906:=True
def tw14452046468698080874:=True
def tw14453371020696350650:=True
def tw14458546566710942977:=True
def tw14464972848891808287:=True
def tw14466154142425863955:=True
def tw1446694761647268009:=True
def tw14494904676204802095:=True
def tw14502488901099396501:=True
def tw14522938668971434885:=True
def tw14537450019153051991:=True
def tw14548371465575333668:=True
def tw14578142047689139454:=True
def tw14627560896615758001:=True
def tw14673909670066941863:=True
def tw14720004185528982391:=True
def tw14766382537209830674:=True
def tw14773280460464934747:=True
def tw14775469409186757945:=True
def tw14852706074398868582:=True
def tw14858570723701920263:=True
def tw14875908822023813064:=True
def tw14891094757345406116:=True
def tw14953484359197247582:=True
def tw14955899357275167909:=True
def tw1496641351508231228:=True
def tw15018590129030264998:=True
def tw15036140292866834066:=True
def tw15065305084719027114:=True
def tw15073143240194224712:=True
def tw15091636007760851431:=True
def tw15119470463916845940:=True
def tw15124233344536562547:=True
def tw15146226633581336011:=True
def tw15157218586046271826:=True
def tw15159490273619958664:=True
def tw15163031477218665325:=True
def tw15182042088927537698:=True
def tw15183165575251545298:=True
def tw15187294628808286126:=True
def tw15193263178978695244:=True
def tw15208815566122129715:=True
def tw15218124028859059513:=True
def tw15220798369095227235:=True
def tw15250807170023008163:=True
def tw15252723141234360556:=True
def tw15261414580505006758:=True
def tw15268431099393155739:=True
def tw15268511505221204785:=True
def tw15272384756033816549:=True
def tw15318522569413922966:=True
def tw15340121470348793460:=True
def tw15346822135443404404:=True
def tw15349743947800654751:=True
def tw15389327945418215068:=True
def tw15443453874323421859:=True
def tw15444968558782299529:=True
def tw15449954396954739307:=True
def tw15460443108094267759:=True
def tw15468000139907181785:=True
def tw15469547988786640481:=True
def tw15471704449587110807:=True
def tw15472740278469042264:=True
def tw15474422221286975002:=True
def tw15502279438172492361:=True
def tw15521857191610671232:=True
def tw15525705244753957535:=True
def tw1554912440253531867:=True
def tw15593932114248601048:=True
def tw156074481368604375:=True
def tw15610144658242746549:=True
def tw15641333041124299813:=True
def tw15662467652954760656:=True
def tw15689039764200711428:=True
def tw15690008122714826695:=True
def tw15691038990944971580:=True
def tw15743930626855181957:=True
def tw15744198569236010029:=True
def tw15790386814273940742:=True
def tw15813965126469659277:=True
def tw15823801904750430661:=True
def tw15886878293761681940:=True
def tw15901911785326686457:=True
def tw15939135216810644357:=True
def tw1596678615197881325:=True
def tw15968590688784803213:=True
def tw15980538880093490129:=True
def tw16005078268224939753:=True
def tw16035636102840645184:=True
def tw16046785832879142669:=True
def tw1605168168120692133:=True
def tw16136933308854893207:=True
def tw16148830795289512010:=True
def tw16152042100665958553:=True
def tw16156162450810372841:=True
def tw16191586338647638674:=True
def tw16195250350033146165:=True
def tw16204744479138647222:=True
def tw16210668033245960438:=True
def tw16218993716828157846:=True
def tw16229319474554376097:=True
def tw1623195853881501448:=True
def tw16238369109891383347:=True
def tw16238430190936666235:=True
def tw16239573490109993236:=True
def tw16255761817772565937:=True
def tw16264370154056066:=True
def tw16265700737481640900:=True
def tw16276725121630806347:=True
def tw16288059979852645152:=True
def tw16288908156278691609:=True
def tw16294229565372462788:=True
def tw16300817170888368660:=True
def tw16308858863361778103:=True
def tw16365892746055586307:=True
def tw16381980959767241870:=True
def tw16398902535412932217:=True
def tw16405295038616099146:=True
def tw16438014652984670090:=True
def tw16441979001879675393:=True
def tw16501684553446707135:=True
def tw16502267668958568077:=True
def tw16525614771705244615:=True
def tw16556096624374403914:=True
def tw16614730806028959055:=True
def tw16624888252642348018:=True
def tw16672347593970394415:=True
def tw16747871750915486772:=True
def tw16765954575990112803:=True
def tw16772482149012073998:=True
def tw16775770572179878173:=True
def tw16778000889299214070:=True
def tw16781784789281860958:=True
def tw16822983415644169815:=True
def tw16838189389307913904:=True
def tw16859033189492256807:=True
def tw16891615732304830211:=True
def tw16899061783259940836:=True
def tw16903022900691281159:=True
def tw16985988459906744398:=True
def tw17009848309113948296:=True
def tw17023186693513284007:=True
def tw17045747750064514181:=True
def tw17065865279493038221:=True
def tw17065970260752692450:=True
def tw17142218151182921267:=True
def tw17145312859027392966:=True
def tw17180643386855433878:=True
def tw17189560309898352479:=True
def tw17200071697881280183:=True
def tw17210249984954947657:=True
def tw17222532714639596944:=True
def tw17226008255547202947:=True
def tw17293040134813132398:=True
def tw17294303086990883594:=True
def tw17322535637985271356:=True
def tw17326606277831057050:=True
def tw17342739349943993621:=True
def tw17344839780428942418:=True
def tw17349828507643174764:=True
def tw17367629061461438135:=True
def tw17370264474060839139:=True
def tw17391922875715332485:=True
def tw17393246987506242659:=True
def tw17411139357740151808:=True
def tw1743345963533338969:=True
def tw17439343132499600656:=True
def tw17442377672721089886:=True
def tw1745101480760909229:=True
def tw17469336949988102395:=True
def tw17489628448806820680:=True
def tw17500773473612833888:=True
def tw17524808815578175191:=True
def tw17531500886901724792:=True
def tw17557205499575929874:=True
def tw17638393399531288113:=True
def tw17669468712313380877:=True
def tw17677493551680049499:=True
def tw1769571156964328020:=True
def tw1770443798944706555:=True
def tw17732091104000413229:=True
def tw17748314641421745711:=True
def tw17775395293607656282:=True
def tw17781153961316730533:=True
def tw17797862391227879448:=True
def tw1779850407545558931:=True
def tw17809477105219444030:=True
def tw17853243665478741750:=True
def tw17861241424289171767:=True
def tw1790015737594900885:=True
def tw1792248080742510491:=True
def tw17924518473618601469:=True
def tw18027279399861113557:=True
def tw18044547442324722921:=True
def tw18084886155079811712:=True
def tw18108192847358647101:=True
def tw18142968816848271808:=True
def tw18218633749651144903:=True
def tw18235984252551956240:=True
def tw18238190117704969506:=True
def tw18243912793331470855:=True
def tw1825977663594718130:=True
def tw18267052350312620909:=True
def tw18270773166306141978:=True
def tw18283768689549374540:=True
def tw18288797166873144076:=True
def tw1829363785552158327:=True
def tw18301661331662831443:=True
def tw18302860413485724842:=True
def tw18303307991560051295:=True
def tw18320578867353144272:=True
def tw18324848782513282653:=True
def tw18337712513834754415:=True
def tw18345942743439504426:=True
def tw18350620168412646394:=True
def tw1835169261126040926:=True
def tw18356235372429024265:=True
def tw18362417139445994016:=True
def tw18369451303578182252:=True
def tw18371382607465720849:=True
def tw18382997825090318735:=True
def tw18396120882820736952:=True
def tw18398800829542192811:=True
def tw1845388188213433419:=True
def tw1848521739074249968:=True
def tw1855208217236249986:=True
def tw1860108991126048101:=True
def tw1863683800879511184:=True
def tw1882103967715803896:=True
def tw1897650600844092497:=True
def tw1901868530813872047:=True
def tw1907168138500459487:=True
def tw1912606427515319379:=True
def tw1952652084103039696:=True
def tw1976350527869358923:=True
def tw1982642858812592819:=True
def tw2008451683862899579:=True
def tw202461495639692907:=True
def tw2069051144779121576:=True
def tw2072547788070596129:=True
def tw2072994404298036584:=True
def tw2081042875132773427:=True
def tw2082333889016646126:=True
def tw208914938975835223:=True
def tw210822286310616272:=True
def tw2113245724137632618:=True
def tw2142373446539770622:=True
def tw2178821199819612820:=True
def tw2184172125623563289:=True
def tw2219470461308947445:=True
def tw2221555247795474028:=True
def tw2228332982408152750:=True
def tw2250921402389314877:=True
def tw225424674734612040:=True
def tw2261421588700274638:=True
def tw2310633646459873002:=True
def tw2321195097562855925:=True
def tw2379228892226148013:=True
def tw2379418587039239955:=True
def tw239484914142363780:=True
def tw2434013755359952725:=True
def tw2436066020837621398:=True
def tw2443227327843618036:=True
def tw2451230368645061193:=True
def tw2457120964296137359:=True
def tw2468735287043536190:=True
def tw2506418313538102133:=True
def tw2515330213975016769:=True
def tw2528932580032954879:=True
def tw2540495820296734350:=True
def tw2544298430078641640:=True
def tw2552694252491474378:=True
def tw2553129172841505705:=True
def tw2615157128260120931:=True
def tw2617775937807457874:=True
def tw2619486844233121682:=True
def tw2633433360531680643:=True
def tw2669904441775164994:=True
def tw2674761109334423214:=True
def tw268157518901931542:=True
def tw2689936240190302673:=True
def tw2703845700531461890:=True
def tw2723686050631992617:=True
def tw272789946186954341:=True
def tw2737031353948269604:=True
def tw2737750725896957826:=True
def tw2741657091256887858:=True
def tw280481874740558024:=True
def tw2813829026317290181:=True
def tw2818215913512838189:=True
def tw2868879096931255247:=True
def tw2925776425995894714:=True
def tw2928028564007261197:=True
def tw2939239021250373633:=True
def tw294303095251978911:=True
def tw2992056685137445369:=True
def tw3008071132800128937:=True
def tw3008196657469156795:=True
def tw3038580940099593087:=True
def tw3051166587225777028:=True
def tw3055327740479581089:=True
def tw3059808732461744397:=True
def tw3064736170607065939:=True
def tw3078600306046283409:=True
def tw3087296514247745505:=True
def tw3088077927293614186:=True
def tw3107410153937982541:=True
def tw3121664453712097879:=True
def tw3131981697515881112:=True
def tw3146034541042422592:=True
def tw3146979741847770951:=True
def tw3186847941270157303:=True
def tw3209920909162520122:=True
def tw3256599692197748821:=True
def tw3267506352983639151:=True
def tw3310860890811097582:=True
def tw332726020879770688:=True
def tw3357517921695852611:=True
def tw3379733461541436291:=True
def tw3394368681878965627:=True
def tw3396264588904235675:=True
def tw3403611876695301538:=True
def tw3408827457947758924:=True
def tw3410821142717238429:=True
def tw3412744423601906063:=True
def tw3434899946491226729:=True
def tw3441466919426651201:=True
def tw3460471527071742462:=True
def tw3469070634007033221:=True
def tw3515887516252319269:=True
def tw3519620770301490914:=True
def tw3531981540585742146:=True
def tw3539627628400702853:=True
def tw3550708062875898413:=True
def tw3563127853227517201:=True
def tw3596915852536691534:=True
def tw3630406633451347070:=True
def tw364906518795052587:=True
def tw3678926922749915011:=True
def tw3692609847910103577:=True
def tw3695579603394428622:=True
def tw3701781727558240115:=True
def tw3708749935247036590:=True
def tw3718984994144165473:=True
def tw3748819449962869491:=True
def tw376203692812584351:=True
def tw3783848015190637625:=True
def tw3879943568281281997:=True
def tw3884352726974036912:=True
def tw3898492766431878890:=True
def tw3917075563684514712:=True
def tw3942582513893670358:=True
def tw3958915594437787476:=True
def tw3960082729609334633:=True
def tw3965608284049720903:=True
def tw3970840511108476544:=True
def tw3977090291491947485:=True
def tw3985482593949860782:=True
def tw3992928203939203036:=True
def tw3993828384424069463:=True
def tw4007461514410222964:=True
def tw4009994885309246536:=True
def tw4059333162808307507:=True
def tw4091930637953755879:=True
def tw4094807246124668419:=True
def tw4100163327406334815:=True
def tw4120760224539185370:=True
def tw4125460202920646613:=True
def tw4130779263140762978:=True
def tw4153403021248529786:=True
def tw4156003519774020744:=True
def tw4159460275628221608:=True
def tw4187923210075081884:=True
def tw4206945862699003933:=True
def tw4239280963099970540:=True
def tw4247289365847900405:=True
def tw4300612742597636624:=True
def tw4304834178718691396:=True
def tw4310228878472284329:=True
def tw432037875751373314:=True
def tw4326401904490494673:=True
def tw4331608280046720368:=True
def tw4357975833179775930:=True
def tw4400017226751686058:=True
def tw4479242934683457324:=True
def tw4511402922630066149:=True
def tw4538774211291661145:=True
def tw4588738799956414479:=True
def tw4592004706911863615:=True
def tw4606060024949568140:=True
def tw4617153069496556252:=True
def tw4634538438036118838:=True
def tw4649883316461138903:=True
def tw469107726730205931:=True
def tw4703118583338301787:=True
def tw4703324592164959565:=True
def tw4711006893311753447:=True
def tw4730134336746295413:=True
def tw4798913882091802099:=True
def tw4801019796111996920:=True
def tw4819436793316677810:=True
def tw4840137780045317266:=True
def tw4840266357470665822:=True
def tw4878024195029292589:=True
def tw488895473941219216:=True
def tw4931471645776620852:=True
def tw4960754326464356880:=True
def tw5008847014415012073:=True
def tw5013185972428660573:=True
def tw5021990489002946995:=True
def tw5022756136425776485:=True
def tw5039935704646711612:=True
def tw5053277156089862147:=True
def tw5054592681714628026:=True
def tw5055280753450627128:=True
def tw5102537645505000496:=True
def tw5103255586642191990:=True
def tw510803128440017388:=True
def tw5131000187625521842:=True
def tw5142021981082635793:=True
def tw5145756777116517348:=True
def tw5147269608146345041:=True
def tw5152671152167812776:=True
def tw5159528265767506360:=True
def tw517253545763640812:=True
def tw5172733860109081237:=True
def tw5197162745757122531:=True
def tw5207183763111109455:=True
def tw5230396064904120268:=True
def tw5242006674047390409:=True
def tw5267375287539190161:=True
def tw5328005690235735774:=True
def tw5330137482974297522:=True
def tw5362711270585421761:=True
def tw5424390366927211840:=True
def tw5445273990271448714:=True
def tw5458665417225551837:=True
def tw5460128486308123532:=True
def tw5522973689866154034:=True
def tw5533835671409721110:=True
def tw5561763199174522734:=True
def tw5565504619827430955:=True
def tw5588223478592534593:=True
def tw5600465124246279690:=True
def tw5630227607048996149:=True
def tw564327466094411562:=True
def tw565620940243654172:=True
def tw5667051821671876906:=True
def tw5705391007534257219:=True
def tw5714297817612945589:=True
def tw571647785228454943:=True
def tw5735058541856893287:=True
def tw5739019924288605895:=True
def tw5746062570634479219:=True
def tw5760789257564444811:=True
def tw5765321870980151996:=True
def tw5768708046682631051:=True
def tw5791107954587784898:=True
def tw5800097197477307618:=True
def tw5818237970382791039:=True
def tw5901833263323351908:=True
def tw5902712137599589837:=True
def tw5903828528775644053:=True
def tw5942491169022655432:=True
def tw5963143147677444598:=True
def tw5992685852653226855:=True
def tw6030149552898659695:=True
def tw6093991748022998109:=True
def tw6099689264524860603:=True
def tw6109326565077728654:=True
def tw6178081710517948605:=True
def tw6186417409476823366:=True
def tw6258868486430859879:=True
def tw6271459789768422213:=True
def tw6312091815898468018:=True
def tw631227907748450517:=True
def tw632543874583851743:=True
def tw633595507753179303:=True
def tw6357531908561853707:=True
def tw6363703139885310264:=True
def tw6408195481249254913:=True
def tw6429686504428160259:=True
def tw6435957902497673624:=True
def tw6467666160085547207:=True
def tw6471150222350279623:=True
def tw6498212960163673866:=True
def tw6502167394331606738:=True
def tw6520672519035416240:=True
def tw6521165335183232846:=True
def tw652957937968812882:=True
def tw6542570496510093371:=True
def tw6544255722497290091:=True
def tw6558027226490960009:=True
def tw6595750602137734652:=True
def tw6601557695192066909:=True
def tw6658326349803785021:=True
def tw6663807924280617270:=True
def tw6732683342976120483:=True
def tw6733809563212269156:=True
def tw6744150564754420234:=True
def tw6756261132437940486:=True
def tw6759289808592882343:=True
def tw6761048287992567104:=True
def tw6771591437671112567:=True
def tw6773626534007703490:=True
def tw6795767014284890813:=True
def tw6810670158800780086:=True
def tw6819746189605800328:=True
def tw686864128682677561:=True
def tw6885390927442937195:=True
def tw6889469565048147906:=True
def tw6899241544822910019:=True
def tw6958343538655003287:=True
def tw6968316724324862529:=True
def tw6990565588677296644:=True
def tw7002617117321725329:=True
def tw7009055538952385103:=True
def tw7033201789201947253:=True
def tw7035012547776903383:=True
def tw7064039134278724442:=True
def tw7074714167717794031:=True
def tw7079346319486233637:=True
def tw7098780427933102582:=True
def tw7118179723604996413:=True
def tw7121938363519269900:=True
def tw7133214772809181467:=True
def tw7157635386191443901:=True
def tw720133340251979740:=True
def tw7218384944330780783:=True
def tw7225521102398529633:=True
def tw7249698444530863382:=True
def tw7257662411179477739:=True
def tw7264783172807538105:=True
def tw727201121964547221:=True
def tw7285142449084795479:=True
def tw7291201710529191399:=True
def tw7326126473697019838:=True
def tw733755431233827319:=True
def tw735178950134859665:=True
def tw7366966349755769390:=True
def tw7379146703158643333:=True
def tw7380543148635903028:=True
def tw738249695139976460:=True
def tw7386879829546924875:=True
def tw7387095368875260393:=True
def tw7397454978930948644:=True
def tw7406679989375695003:=True
def tw7429736748573402713:=True
def tw7462917681035090600:=True
def tw7561484092936559524:=True
def tw7572555729440546476:=True
def tw757969810983933903:=True
def tw7603176780129216889:=True
def tw7630305487558755245:=True
def tw7645214217008657559:=True
def tw7646311210486026410:=True
def tw7659335649736619204:=True
def tw7659538399061980777:=True
def tw7670179019842844407:=True
def tw7679138261593991859:=True
def tw7701843906587010205:=True
def tw7711332181109331799:=True
def tw7733012006603144692:=True
def tw7740549551543926822:=True
def tw7748162344757003694:=True
def tw7772104011696148234:=True
def tw7784495168435344669:=True
def tw7794447553816605337:=True
def tw7821556884541040040:=True
def tw7822347148725292140:=True
def tw783142212168057530:=True
def tw7840089511392720015:=True
def tw7848025740061029041:=True
def tw785891212050648866:=True
def tw7896732557465485704:=True
def tw7898563742332601926:=True
def tw7914966534203543394:=True
def tw7924682654823194982:=True
def tw7945186787910683591:=True
def tw798814199508267506:=True
def tw8019843255630367578:=True
def tw8028819869400628128:=True
def tw8055458335546875267:=True
def tw8066810042505994534:=True
def tw8070636952655222270:=True
def tw8074177808019917933:=True
def tw8123531230628939902:=True
def tw8132178498146976934:=True
def tw8239597784800911592:=True
def tw8256147894513522171:=True
def tw8256231346481361174:=True
def tw8270690936462906749:=True
def tw8286811204976691927:=True
def tw8307029076902094731:=True
def tw832957702251805650:=True
def tw8349605561674548153:=True
def tw8354859942247524186:=True
def tw836902708638354373:=True
def tw8372432500344545951:=True
def tw8385910273146961337:=True
def tw8386956399160234941:=True
def tw8440722530245238888:=True
def tw84514281460927790:=True
def tw8456221942631779472:=True
def tw8463454761793374742:=True
def tw8488077240448253072:=True
def tw8511639783363027448:=True
def tw8512846599769640567:=True
def tw8543199408427174664:=True
def tw8547467832328499049:=True
def tw8561292540247648604:=True
def tw8567849941878843836:=True
def tw8594527841530898396:=True
def tw8595304795500500992:=True
def tw8598726330529460532:=True
def tw8624647050476810405:=True
def tw8628463995273589525:=True
def tw8632067484033081962:=True
def tw867116294927962039:=True
def tw8674768394056432931:=True
def tw869616941618530944:=True
def tw8699049650045938238:=True
def tw8729215753904597756:=True
def tw8731464644100033418:=True
def tw8737412656630864066:=True
def tw8757057635001978316:=True
def tw8776703023565459014:=True
def tw878727644738817739:=True
def tw8805413051807045613:=True
def tw8809643391664033257:=True
def tw8810294567309271235:=True
def tw8818000251584153702:=True
def tw8826075148503451808:=True
def tw8836684673375585528:=True
def tw8848428510025427425:=True
def tw8858540271125762992:=True
def tw8864801995293489557:=True
def tw8872105718554685360:=True
def tw8874004035559458439:=True
def tw88892504447777676:=True
def tw8913346476282500835:=True
def tw9002507580857799536:=True
def tw9024921604208487676:=True
def tw9077120990456222290:=True
def tw9133342197399196234:=True
def tw9144134622846900584:=True
def tw9149405669475974018:=True
def tw9149475249158978189:=True
def tw9202362961687656120:=True
def tw9203716534745708512:=True
def tw925267241579179362:=True
def tw9271713227684663596:=True
def tw9272406366132598344:=True
def tw9299876090191300334:=True
def tw9312217155191928949:=True
def tw9329782625190375798:=True
def tw9335689295537598954:=True
def tw9369852123599154598:=True
def tw9386645067147707984:=True
def tw9410493436074027243:=True
def tw9432906754913100419:=True
def tw9439839186583959700:=True
def tw9441134871347383685:=True
def tw9443520617062693981:=True
def tw9444755940702137107:=True
def tw9493952402113393094:=True
def tw9521946210082406153:=True
def tw9537812907215041040:=True
def tw9558001594617236124:=True
def tw9612118164168700870:=True
def tw961370681766752028:=True
def tw9620926646237751989:=True
def tw9639872857315793279:=True
def tw9663910302974732577:=True
def tw9666586416613377686:=True
def tw9687061429480002727:=True
def tw9699293133549217295:=True
def tw9703312082030273292:=True
def tw9719202250092448289:=True
def tw9733549637030922870:=True
def tw9746696674357601180:=True
def tw9767782249887908399:=True
def tw9776540465710201401:=True
def tw9794519201099739783:=True
def tw9881309371292612907:=True
def tw99894942109057259:=True
end main
theorem main : PySem.Challenge.rw_sa0051_01.Holds := by
 w_on;o_law
 o_head (kHook K as (fun _=>by kernel_rfl))
 (case hw=>w_witness2)
 exact LP rfl fun O Be hs=>yz (ω:=⟨_,_,_⟩) O Gy hs fun _=>rfl
end Mine.Internal
theorem PySem.Challenge.cw_sa0051_01_holds : PySem.Challenge.rw_sa0051_01.Holds :=
 Mine.Internal.main
